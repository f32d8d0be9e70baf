import PyProof.Rows.All
import Wide.All
import OpenK.AllK
import Wide.FinOn
import PyProof.EqAt
import PyProof.EqKinds
import PyProof.TupleCall
import KE.KExcInit
import KE.KIsAll
import KE.KTryMore
import HandS.ForMost
import HandS.Exc
import HandS.ExcInit
import HandS.ExcIs
import HandS.ExcField
import HandS.ExcValue
import HandS.IsInst
import HandS.Defaults
import HandS.HotCalls
import PySem.Challenge.RW_bothleast_k73_whole_matching_or_bar
import HandS.Wide
import HandS.Strs
import HandS.SetFor
import HandS.Style
import HandS.Small
import HandS.Deep
import HandS.More
import HandS.SortRule
import HandS.SortInts
import HandS.FStr
import HandS.WordsExc
import HandS.Text
import HandS.Walk
import HandS.ExcOwn
import PyProof.FitsInt
import PyProof.FitsReplace
import PyProof.ReprRoads
import PyProof.CallFns
import HandS.MakeKwOnly
import HandS.OwnEq
import HandS.Zip
import KE.KDictZip
import KE.GoesEnum
import HandS.Dict
import HandS.DictTup
set_option Elab.async false
set_option linter.all false
set_option maxRecDepth 100000
set_option maxHeartbeats 4000000
namespace XV
open PySem PySem.Spec PyProof.Rows L2
/-- just this object stands there -/
def pinO (a : Addr) (o : Obj) : HO := .ext fun h => h.get? a = some o
section
variable {P : Program} {w : World} {H : Hp} {h : Heap} {a : Addr} {o : Obj}
theorem pinO_ok (e : h.get? a = some o) : ObjOk P w H h a (pinO a o) := ⟨e, ⟨_, e⟩, fun _ _ z k => k _ z⟩
theorem pinO_at (ok : HOk P w H h) (e : H a = some (pinO a o)) : h.get? a = some o := by
  have x : ObjOk P w H h a (.ext fun h => h.get? a = some o) := ok a _ e
  exact x.1
end
theorem ext_own {φ : Heap → Prop} {x : Addr} : HO.ext φ ≠ HO.own x := fun z => nomatch z
theorem ext_tup {φ : Heap → Prop} {xs : List V} : HO.ext φ ≠ HO.tup xs := fun z => nomatch z
theorem ext_frz {φ : Heap → Prop} {o : Obj} {u : HO} : HO.ext φ ≠ HO.frz o u := fun z => nomatch z
theorem ext_tbl {φ : Heap → Prop} {ps : Array Value} : HO.ext φ ≠ HO.tbl ps := fun z => nomatch z
/-- what the written part says of an own exception class C; tl: the part of its chain behind the own classes -/
structure ExCls (K : PySem.W.Frag) (C : Addr) (newId : String) (tl : List Value) : Prop where
  ini : PySem.W.excInitIn K C tl newId = true
  ovr : PySem.W.excOver K C tl = true
  dic : PySem.W.hasDictIn K C = true
  sa : PySem.W.findIn K (.ref C) "__setattr__" = some (some (.builtin "object.__setattr__"))
  ga : PySem.W.findIn K (.ref C) "__getattribute__" = some (some (.builtin "BaseException.__getattribute__"))
  gg : PySem.W.findIn K (.ref C) "__getattr__" = some none
  exC : PySem.W.subIn K (.ref C) (.type "BaseException") = some true
  tyC : PySem.W.typeIn K (.ref C) = some (.type "type")
  kC : PySem.W.keepIn K (.ref C) = true
  cl : PySem.W.findIn K (.ref C) "__class__" = some (some (.builtin "object.__class__"))
  mro : PySem.W.mroIn K C (.type "object") = some true
section
variable {X : Cx} {pins : List (Addr × Obj)} {σ : L2.St} {H : Hp} {s : Shared} {a C dx : Addr} {f : Str} {y : V} {u : Value} {fs : List (Str × V)} {Q : Unit → Shared → Prop} {E : Value → Shared → Prop} {A : Around} {newId B : String} {tl : List Value}
/-- one object of ours turns, a new one is laid beside it -/
theorem inv_two {h' : Heap} {t' : Nat} {φ : Heap → Prop} {oa od : HO} (I : Inv X pins σ H s) (ea : H a = some (.ext φ)) (dn : s.heap.objs.size ≤ dx) (k : ∀ b o, b ≠ a → s.heap.get? b = some o → h'.get? b = some o) (ha : ∃ o, h'.get? a = some o)
    (oka : ObjOk X.prog X.w (upd (upd H dx od) a oa) h' a oa) (okd : ObjOk X.prog X.w (upd (upd H dx od) a oa) h' dx od) : Inv X pins σ (upd (upd H dx od) a oa) { s with heap := h', toks := t' } := by
  have hd := I.hok.fresh dn
  have hne : ∀ {b o}, s.heap.get? b = some o → b ≠ dx := fun q z => absurd (Nat.lt_of_lt_of_le (Heap.lt_size q) dn) (by rw [z]; exact Nat.lt_irrefl _)
  have ane : ∀ {b}, H b = none → b ≠ a := fun n z => by rw [z, ea] at n; cases n
  have pass : ∀ {b u}, H b = some u → b ≠ a → (upd (upd H dx od) a oa) b = some u := fun q z => by rw [upd_ne z, upd_ne (ne_of_none q hd)]; exact q
  refine I.un (t' := t') { keep := fun b o q n _ _ => k b o (ane n) q, slot := fun b o q n _ _ => ⟨o.slots, k b o (ane n) q⟩, free := fun b o q n _ => ?_, there := fun b o q _ => ?_, tups := fun b xs q => pass q (at_ne ea q ext_tup), frzs := fun b o v q => pass q (at_ne ea q ext_frz), tbls := fun b ps q => ⟨#[], ?_⟩ } fun b o q => ?_
  · rw [upd_ne (ane n), upd_ne (hne q)]; exact n
  · by_cases e : b = a
    · rw [e]; exact ha
    · exact ⟨o, k b o e q⟩
  · rw [Array.append_empty]; exact pass q (at_ne ea q ext_tbl)
  · by_cases e : b = a
    · subst e; rw [upd_same] at q; cases q; exact oka
    rw [upd_ne e] at q
    by_cases e2 : b = dx
    · subst e2; rw [upd_same] at q; cases q; exact okd
    rw [upd_ne e2] at q
    refine (I.hok b o q).stay (fun c v hc z => k c v ?_ z) (fun c hc => pass hc (at_ne ea hc ext_own)) fun c xs hc => pass hc (at_ne ea hc ext_tup)
    rcases hc with rfl | hc
    · exact e
    · exact at_ne ea hc ext_own
theorem taker_none {K : PySem.W.Frag} (h : PySem.W.findIn K (.ref C) f = some none) : PySem.W.takerIn K C f = some none := by
  unfold PySem.W.takerIn
  rw [h] <;> rfl
theorem stx_new (SF : StoreFacts B tl "object.__setattr__" "object") (T : ExCls X.K C newId tl) (I : Inv X pins σ H s) (e : H a = some (exo a C none)) (hno : PySem.W.findIn X.K (.ref C) f = some none) (ry : RelV y u)
    (h : ∀ dx s', H dx = none → dx ≠ a → Inv X pins σ (upd (upd H dx (exd dx [(f, y)])) a (exo a C (some dx))) s' → Q () s') : wpAny (model X.prog X.w) A (setAttr (.ref a) f u) Q E s := by
  obtain ⟨t1, ho⟩ := exo_at I.hok e
  obtain ⟨cd, hcd, hdi⟩ := PySem.W.any_some T.dic
  obtain ⟨hp, g, d, t, os⟩ := s
  refine PySem.W.set_plain I.kIn (od := none) ⟨ho, rfl, rfl, trivial⟩ T.sa (PySem.W.osa_openX (od := none) SF I.kIn ⟨ho, rfl, rfl, trivial⟩ T.ovr (taker_none hno) fun b => ?_)
  refine wpAny_bind (wpAny_pure (wpAny_bind (PySem.W.instanceDict_exc ho (PySem.W.looks_clsIn I.kIn hcd) hdi ?_)))
  have lta : a < hp.objs.size := Heap.lt_size ho
  have nea : a ≠ hp.objs.size := Nat.ne_of_lt lta
  have keep : ∀ b o, b ≠ a → hp.get? b = some o → ((hp.push (PySem.W.dictOf [] 0)).update a fun o => { o with dict := some hp.objs.size }).get? b = some o := fun b o hb q => by
    rw [Heap.get?_update_other _ _ (Ne.symm hb)]
    exact Heap.get?_push_of_some _ q
  show wpAny _ _ (Builtin.ObjectAttr.storeInDict hp.objs.size (.str f t) f u) _ _ _
  refine PySem.HandSPX.store_in_new ?_ fun h' tk' hn hs => ?_
  · refine ⟨PySem.W.dictOf [] 0, #[], 0, ?_, rfl, fun e he => absurd he (by simp), fun _ => rfl⟩
    rw [Heap.get?_update_other _ _ nea]
    exact Heap.get?_push_at rfl rfl
  have hx : h'.get? a = some ({ cls := .ref C, dict := some hp.objs.size, data := .fields #[.ref t1, .none, .none, .none, .bool false, .none] } : Obj) := by
    rw [hs.2 a nea, Heap.get?_update_self _ (Heap.get?_push_of_some _ ho) rfl]
  have J := inv_two (s := ⟨hp, g, d, t, os⟩) (t' := tk') I e (Nat.le_refl _) (fun b o hb q => (hs.2 b (Nat.ne_of_lt (Heap.lt_size q))).trans (keep b o hb q)) ⟨_, hx⟩ (exo_ok hx) (exd_ok hn (relO_put (fs := []) ry fun g => True.intro))
  exact h hp.objs.size _ (I.hok.fresh (Nat.le_refl _)) (Ne.symm nea) J
theorem stx_old (SF : StoreFacts B tl "object.__setattr__" "object") (T : ExCls X.K C newId tl) (I : Inv X pins σ H s) (e : H a = some (exo a C (some dx))) (ed : H dx = some (exd dx fs)) (hl : fs.length ≤ 900) (hno : PySem.W.findIn X.K (.ref C) f = some none) (ry : RelV y u)
    (h : ∀ s', Inv X pins σ (upd H dx (exd dx ((f, y) :: fs))) s' → Q () s') : wpAny (model X.prog X.w) A (setAttr (.ref a) f u) Q E s := by
  obtain ⟨t1, ho⟩ := exo_at I.hok e
  obtain ⟨mA, hns, rel⟩ := exd_at I.hok ed
  obtain ⟨cd, hcd, hdi⟩ := PySem.W.any_some T.dic
  have hw := within_of rel
  obtain ⟨oD, _, _, hoD, _, _⟩ := hns.count hw
  obtain ⟨hp, g, d, t, os⟩ := s
  refine PySem.W.set_plain I.kIn (od := some oD) ⟨ho, rfl, rfl, hoD⟩ T.sa (PySem.W.osa_openX (od := some oD) SF I.kIn ⟨ho, rfl, rfl, hoD⟩ T.ovr (taker_none hno) fun b => ?_)
  refine wpAny_bind (wpAny_pure (wpAny_bind (wpAny_bind (wpAny_loadPart ho (wpAny_bind ((PySem.W.looks_clsIn (h := hp) I.kIn hcd).at ?_))))))
  rw [hdi]
  refine wpAny_pure (a := some dx) ?_
  refine PySem.OEX.store_in_old hns hw (by rw [List.length_map]; omega) fun h' tk' hn hs => ?_
  have there : ∃ o, h'.get? dx = some o := let ⟨o, _, _, q, _⟩ := hn; ⟨o, q⟩
  exact h _ (I.write (t' := tk') (x := dx) (e := dx) (by rw [ed]; exact True.intro) (.inl rfl) (fun b o hb q => (hs.2 b hb).trans q) there (exd_ok hn (relO_put ry rel)))
end
/-- self.f = e on an exception that is being made -/
def tStx (C : Addr) (f : Str) (to te : TE) : TS := fun D σ H => te σ H fun y H1 => to σ H1 fun x H2 => ∃ a : Addr, x = .ref a ∧
  ((H2 a = some (exo a C none) ∧ ∀ dx, H2 dx = none → dx ≠ a → D.nx σ (upd (upd H2 dx (exd dx [(f, y)])) a (exo a C (some dx)))) ∨
    ∃ (dx : Addr) (fs : List (Str × V)), H2 a = some (exo a C (some dx)) ∧ H2 dx = some (exd dx fs) ∧ fs.length ≤ 900 ∧ D.nx σ (upd H2 dx (exd dx ((f, y) :: fs))))
theorem ps_stx {X : Cx} {o e : Expr} {to te : TE} {f : Str} {p' pos : Pos} {C : Addr} {B newId : String} {tl : List Value} (SF : StoreFacts B tl "object.__setattr__" "object") (T : ExCls X.K C newId tl) (hno : PySem.W.findIn X.K (.ref C) f = some none)
    (ho : PE X o to) (he : PE X e te) (hs : swapsWith e (some (.Attribute o f p')) pos.line X.env = pure false := by rfl) : PS X (.Assign [.Attribute o f p'] e pos) (tStx C f to te) := by
  refine ⟨fun pins s σ H D I h => plainObj_wpAny_Assign_Attribute (thn (he.run pins s σ H _ I h) fun v s1 hv => ?_) hs⟩
  obtain ⟨y, H1, I1, ry, q1⟩ := hv
  refine thn (ho.run pins s1 σ H1 _ I1 q1) fun u s2 hu => ?_
  obtain ⟨x, H2, I2, rx, a, rfl, q⟩ := hu
  cases rx
  rcases q with ⟨ea, q⟩ | ⟨dx, fs, ea, ed, hl, q⟩
  · exact stx_new SF T I2 ea hno ry fun dx s' n ne J => ⟨σ, _, J, q dx n ne⟩
  · exact stx_old SF T I2 ea ed hl hno ry fun s' J => ⟨σ, _, J, q⟩
end XV
namespace XK
open PySem
section
variable {M : Model} {A : Around} {E : Value → Shared → Prop} {h : Heap} {g : Array GenState} {d : Drawn} {t : Nat} {os : OsState}
variable {nm q : Str} {C N : Addr} {bs bm bmB : List Value} {hdct : Bool} {sn : List Str} {sub : List Value} {ab : Bool} {col : Option Bool} {dd : Option Addr} {k0 k1 k2 k3 k5 : Option Value} {B newId initId : String} {rest : List Value} {kw : List (Str × Value)}
theorem kwNewCheck (F : ExcBaseFacts B newId initId bmB) (hT : ∀ z : String, bm.contains (.type z) = bmB.contains (.type z)) {Q : Unit → Shared → Prop}
    (hC : h.get? C = some (excClassObj nm q C N bs bm hdct sn sub ab col dd k0 k1 k2 k3 k5 newId)) (hq : Q () ⟨h, g, d, t, os⟩) : wpAny M A (checkBuiltinCall newId ⟨.ref C :: rest, kw⟩) Q E ⟨h, g, d, t, os⟩ := by
  have c1 : (Value.ref C :: bm).contains (.type B) = true := by rw [List.contains_cons, hT, F.hasB, Bool.or_true]
  have c2 := F.noStar
  simp only [checkBuiltinCall, F.newKind, F.newSplit, F.newRow]
  repeat (first
    | refine wpAny_loadPart_at hC ?_
    | (refine wpAny_isSubtype_exc hC ?_
       rw [c1])
    | refine wpAny_staticBase_exc hC ?_
    | refine wpAny_madeBy_exc hC ?_
    | simp only [bne_self_eq_false, Bool.false_eq_true, if_false]
    | wp_step)
  exact hq
theorem kwTcCheck {Q : Unit → Shared → Prop} (hC : h.get? C = some (excClassObj nm q C N bs bm hdct sn sub ab col dd k0 k1 k2 k3 k5 newId)) (hq : Q () ⟨h, g, d, t, os⟩) : wpAny M A (checkBuiltinCall "type.__call__" ⟨.ref C :: rest, kw⟩) Q E ⟨h, g, d, t, os⟩ := by
  have f3 := tc_sub
  have hT : (⟨h, g, d, t, os⟩ : Shared).TypeIs (.ref C) "type" := ⟨_, hC, rfl⟩
  simp only [checkBuiltinCall, tc_kind, tc_split]
  repeat (any_goals (first
    | assumption
    | with_reducible refine wpAny_loadPart_at hC ?_
    | with_reducible refine wpAny_onRaise ?_
    | with_reducible refine wpAny_map ?_
    | wp_step))
end
section
variable {prog : Program} {w : World} {A : Around} {E : Value → Shared → Prop} {R : Result → Shared → Prop} {h : Heap} {g : Array GenState} {d : Drawn} {t : Nat} {os : OsState}
variable {nm q : Str} {C N : Addr} {bs bm bmB : List Value} {hdct : Bool} {sn : List Str} {sub : List Value} {ab : Bool} {col : Option Bool} {dd : Option Addr} {k0 k1 k2 k3 k5 : Option Value} {B newId initId : String} {rest : List Value} {kw : List (Str × Value)}
theorem kwNew (F : ExcBaseFacts B newId initId bmB) (hT : ∀ z : String, bm.contains (.type z) = bmB.contains (.type z)) (hC : h.get? C = some (excClassObj nm q C N bs bm hdct sn sub ab col dd k0 k1 k2 k3 k5 newId))
    (hq : R (.ok (.ret (.ref (h.objs.size + 1)))) ⟨(h.push (PySem.W.kdv_tup rest)).push (PySem.HandSPX.excO C h.objs.size), g, d, t, os⟩) (hrest : rest.length ≤ sizeLine) :
    codeAny (model prog w) A (.builtin newId ⟨.ref C :: rest, kw⟩) R ⟨h, g, d, t, os⟩ := by
  have c0 := F.ends
  have c1 : (Value.ref C :: bm).contains (.type B) = true := by rw [List.contains_cons, hT, F.hasB, Bool.or_true]
  have c2 : (Value.ref C :: bm).contains (.type "AttributeError") = false := by rw [List.contains_cons, hT, F.noAttr]; rfl
  have c3 : (Value.ref C :: bm).contains (.type "NameError") = false := by rw [List.contains_cons, hT, F.noName]; rfl
  refine codeAny_builtinAt F.entry ?_
  unfold Builtin.«BaseException.__new__»
  refine wpAt_bind ?_
  show wpAt _ _ _ (stack >>= _) _ _ _
  refine wpAt_bind (wpAt_stack fun p below => wpAt_of_wpAny ?_)
  wp_walk
  refine wpAt_of_wpAny ?_
  rw [F.owner]
  repeat (first
    | with_reducible refine wpAny_madeHere_exc F.canon hC ?_
    | with_reducible refine wpAny_loadPart_at hC ?_
    | (with_reducible refine wpAny_isSubtype_exc hC ?_
       first
       | rw [c1]
       | rw [c2]
       | rw [c3])
    | wp_step)
  show R _ _
  rw [Heap.size_push]
  exact hq
theorem kwTypeCall (F : ExcBaseFacts B newId initId bmB) (hT : ∀ z : String, bm.contains (.type z) = bmB.contains (.type z)) {fI : Addr} {Q : Fin → Shared → Prop} (hC : h.get? C = some (excClassObj nm q C N bs bm hdct sn sub ab col dd k0 k1 k2 k3 k5 newId))
    (hi : PySem.W.Looks (model prog w) h (typeLookup (.ref C) "__init__") (some (.ref fI))) (hb : ∀ self, PySem.W.Looks (model prog w) h (bindSpecial (.ref fI) self) (.ref fI, [self])) (hrest : rest.length ≤ sizeLine)
    (hq : codeAny (model prog w) A (.call (.ref fI) ⟨.ref (h.objs.size + 1) :: rest, kw⟩) (fun r s' => match r with | .ok (.ret v) => v = .none ∧ Q (.done (.ret (.ref (h.objs.size + 1)))) s' | .ok _ => False | .error e => E e s')
      ⟨(h.push (PySem.W.kdv_tup rest)).push (PySem.HandSPX.excO C h.objs.size), g, d, t, os⟩) :
    wpAny (model prog w) A (Builtin.«type.__call__» ⟨.ref C :: rest, kw⟩) Q E ⟨h, g, d, t, os⟩ := by
  repeat (first
    | with_reducible refine wpAny_loadPart_at hC ?_
    | with_reducible refine wpAny_madeBy_exc hC ?_
    | wp_step)
  refine codeAny_call_builtin_code (Code.quiet_builtin _ F.quiet) (kwNewCheck F hT hC (kwNew F hT hC ?_ hrest))
  have kp : ∀ b o, h.get? b = some o → ((h.push (PySem.W.kdv_tup rest)).push (PySem.HandSPX.excO C h.objs.size)).get? b = some o := fun b o e => Heap.get?_push_of_some _ (Heap.get?_push_of_some _ e)
  have hC1 := kp _ _ hC
  have hg : ((h.push (PySem.W.kdv_tup rest)).push (PySem.HandSPX.excO C h.objs.size)).get? (h.objs.size + 1) = some (PySem.HandSPX.excO C h.objs.size) := by heap_get
  have c4 : (Value.ref C :: bm).contains (.ref C) = true := by simp
  show wpAny _ _ _ _ _ _
  unfold isInstance
  repeat (first
    | with_reducible refine wpAny_loadPart_at hg ?_
    | (with_reducible refine wpAny_isSubtype_exc hC1 ?_
       rw [c4])
    | wp_step)
  show wpAny _ _ (typeLookup (.ref C) _) _ _ _
  refine (hi.keeps kp).at (wpAny_holding (wpAny_bind (((hb (.ref (h.objs.size + 1))).keeps kp).at (wpAny_bind (wpAny_call (codeAny_mono hq fun r s' z => ?_))))))
  cases r with
  | error e => exact z
  | ok f =>
    cases f with
    | ret v =>
      obtain ⟨rfl, z⟩ := z
      first
      | exact wpAny_pure (wpAny_pure z)
      | (wp_walk
         exact z)
    | next => exact z.elim
    | brk => exact z.elim
    | cont => exact z.elim
theorem kwCall (F : ExcBaseFacts B newId initId bmB) (hT : ∀ z : String, bm.contains (.type z) = bmB.contains (.type z)) {fI : Addr} (hC : h.get? C = some (excClassObj nm q C N bs bm hdct sn sub ab col dd k0 k1 k2 k3 k5 newId))
    (hi : PySem.W.Looks (model prog w) h (typeLookup (.ref C) "__init__") (some (.ref fI))) (hb : ∀ self, PySem.W.Looks (model prog w) h (bindSpecial (.ref fI) self) (.ref fI, [self])) (hrest : rest.length ≤ sizeLine)
    (hq : codeAny (model prog w) (A.under (.builtin "type.__call__" ⟨.ref C :: rest, kw⟩)) (.call (.ref fI) ⟨.ref (h.objs.size + 1) :: rest, kw⟩) (PySem.W.InitBack (h.objs.size + 1) R) ⟨(h.push (PySem.W.kdv_tup rest)).push (PySem.HandSPX.excO C h.objs.size), g, d, t, os⟩) :
    codeAny (model prog w) A (.call (.ref C) ⟨rest, kw⟩) R ⟨h, g, d, t, os⟩ := by
  have f1 := tc_lookup
  have f2 := tc_bind (.ref C)
  have hTy : (⟨h, g, d, t, os⟩ : Shared).TypeIs (.ref C) "type" := ⟨_, hC, rfl⟩
  refine codeAny_of_tree ?_
  show wpAny _ _ (callAny (.ref C) _) _ _ _
  repeat (any_goals (first
    | assumption
    | with_reducible refine wpAny_loadPart_at hC ?_
    | wp_step))
  refine ⟨rfl, codeAny_call_builtin_at (Code.quiet_builtin _ (by decide +kernel)) entry_typeCall (kwTcCheck hC (kwTypeCall F hT hC hi hb hrest (codeAny_mono hq fun r s' z => ?_)))⟩
  cases r with
  | error e => exact z
  | ok f => cases f <;> exact z
end
end XK
namespace XV
open PySem PySem.Spec PyProof.Rows L2
/-- a new own exception with its dict -/
abbrev newX (C d t0 : Addr) : Obj := { cls := .ref C, dict := some d, data := .fields #[.ref t0, .none, .none, .none, .bool false, .none] }
/-- an own exception of the class at C stands at a, with these attributes -/
structure ExAt (H : Hp) (a C : Addr) (fs : List (Str × V)) : Prop where
  ex : ∃ (oe : Obj) (d : Addr) (vs : Array Value), H a = some (pinO a oe) ∧ oe.cls = .ref C ∧ oe.dict = some d ∧ oe.data = .fields vs ∧ d ≠ a ∧ H d = some (.xd fs)
theorem ExAt.mono {H H' : Hp} {a C : Addr} {fs : List (Str × V)} (x : ExAt H a C fs) (s : ∀ b o, H b = some o → H' b = some o) : ExAt H' a C fs := by
  obtain ⟨oe, d, vs, h1, h2, h3, h4, h5, h6⟩ := x.ex
  exact ⟨oe, d, vs, s _ _ h1, h2, h3, h4, h5, s _ _ h6⟩
/-- the arguments of C(..) in the order of the parameters vs, then __init__, which keeps sp -/
def tMkx (C : Addr) (sp : Sp) (t : TA) : TE := fun σ H Q => t σ H fun vs H1 => vs.length ≤ 1000 ∧ ∀ a, H1 a = none → sp (.ref a :: vs) (upd H1 a (exo a C none))
  (fun v H2 => v = .non ∧ ∃ (d : Addr) (fs : List (Str × V)), H2 a = some (exo a C (some d)) ∧ H2 d = some (exd d fs) ∧ d ≠ a ∧ ∀ t0, Q (.ref a) (upd (upd H2 a (pinO a (newX C d t0))) d (.xd fs))) (fun _ _ _ => False)
section
variable {X : Cx} {pins : List (Addr × Obj)} {σ : L2.St} {H : Hp} {s : Shared} {C fI : Addr} {k : Nat} {fd : FuncData} {ps : List Str} {sp : Sp} {B newId initId : String} {tl : List Value} {CX : CXT}
/-- what was an exception in the making is read as one that is made -/
theorem inv_made {a d : Addr} {fs : List (Str × V)} (I : Inv X pins σ H s) (ea : H a = some (exo a C (some d))) (ed : H d = some (exd d fs)) (hda : d ≠ a) : ∃ t0, Inv X pins σ (upd (upd H a (pinO a (newX C d t0))) d (.xd fs)) s := by
  obtain ⟨t0, ho⟩ := exo_at I.hok ea
  obtain ⟨mA, hn, rel⟩ := exd_at I.hok ed
  have J := I.write (t' := s.toks) (h' := s.heap) (x := a) (e := a) (o := pinO a (newX C d t0)) (by rw [ea]; exact True.intro) (.inl rfl) (fun _ _ _ q => q) ⟨_, ho⟩ (pinO_ok ho)
  have there : ∃ u, s.heap.get? d = some u := let ⟨o, _, _, q, _⟩ := hn; ⟨o, q⟩
  have J2 := J.write (t' := s.toks) (h' := s.heap) (x := d) (e := d) (o := .xd fs) (by rw [upd_ne hda, ed]; exact True.intro) (.inl rfl) (fun _ _ _ q => q) there ⟨mA, hn, rel⟩
  exact ⟨t0, J2⟩
theorem run_mkx {kw : List (Str × Value)} {us ws : List Value} {vs : List V} {Q : VK} (FB : ExcBaseFacts B newId initId tl) (T : ExCls X.K C newId tl) (iC : PySem.W.findIn X.K (.ref C) "__init__" = some (some (.ref fI))) (tI : PySem.W.typeIn X.K (.ref fI) = some (.type "function"))
    (F : FnOk X.prog X.w X.K X.mg X.base CX k fI fd ps sp) (hr : Room (k + 1) X.A) (hb : ∀ (s : Shared) (x : Value), X.K.In s.heap → BindsTo s fd ⟨x :: us, kw⟩ (ps.zip (x :: ws))) (hx : Passes CX X (fun _ _ _ => False)) (I : Inv X pins σ H s) (r : Vals vs ws) (hus : us.length ≤ sizeLine)
    (h : ∀ a, H a = none → sp (.ref a :: vs) (upd H a (exo a C none)) (fun v H2 => v = .non ∧ ∃ (d : Addr) (fs : List (Str × V)), H2 a = some (exo a C (some d)) ∧ H2 d = some (exd d fs) ∧ d ≠ a ∧ ∀ t0, Q (.ref a) (upd (upd H2 a (pinO a (newX C d t0))) d (.xd fs))) (fun _ _ _ => False)) :
    wpAny (model X.prog X.w) X.A (call (.ref C) us kw) (EP X pins σ Q) X.xe s := by
  obtain ⟨nm, N, qn, bs, bm, hdct, sn, sub, ab, col, dd, k0, k1, k2, k3, k5, hC, hT⟩ := PySem.W.excInit_of I.kIn T.ini
  obtain ⟨hp, g, dr, tk, os⟩ := s
  have hsz : hp.objs.size ≤ hp.objs.size + 1 := Nat.le_succ _
  have hn := I.hok.fresh hsz
  have hq := h _ hn
  have kp : ∀ b o, hp.get? b = some o → ((hp.push (PySem.W.kdv_tup us)).push (PySem.HandSPX.excO C hp.objs.size)).get? b = some o := fun b o e => Heap.get?_push_of_some _ (Heap.get?_push_of_some _ e)
  have hg : ((hp.push (PySem.W.kdv_tup us)).push (PySem.HandSPX.excO C hp.objs.size)).get? (hp.objs.size + 1) = some (PySem.HandSPX.excO C hp.objs.size) := by heap_get
  have I2 : Inv X pins σ (upd H (hp.objs.size + 1) (exo (hp.objs.size + 1) C none)) ⟨(hp.push (PySem.W.kdv_tup us)).push (PySem.HandSPX.excO C hp.objs.size), g, dr, tk, os⟩ := I.laid (t' := tk) kp hsz (exo_ok hg)
  refine wpAny_call (XK.kwCall FB hT hC (PySem.W.looks_findIn I.kIn iC) (fun self => PySem.W.bind_fn I.kIn self tI) hus
    (codeAny_mono (F.run _ X.stack _ _ ⟨.ref (hp.objs.size + 1) :: us, kw⟩ (.ref (hp.objs.size + 1) :: ws) (.ref (hp.objs.size + 1) :: vs) _ (fun _ _ _ => False) (hr.make C us kw) (I2.env0.make C us kw) (hb _ _ I2.kIn) (.cons rfl r) hq) fun r s' hq' => ?_))
  cases r with
  | error er => exact hx pins σ _ _ er s' I2 hq'
  | ok fl =>
    cases fl with
    | ret u =>
      obtain ⟨v, H2, I3, rv, ev, d, fs, ea, ed, hda, q2⟩ := I2.after hq'
      subst ev
      obtain ⟨t0, J⟩ := inv_made I3 ea ed hda
      exact ⟨rv, ⟨.ref (hp.objs.size + 1), _, J, rfl, q2 t0⟩⟩
    | next => exact False.elim hq'
    | brk => exact False.elim hq'
    | cont => exact False.elim hq'
end
section
variable {X : Cx} {C fI : Addr} {k : Nat} {fd : FuncData} {ps : List Str} {sp : Sp} {B newId initId : String} {tl : List Value} {CX : CXT} {x : Str} {p pos : Pos} {e : Expr} {es : List Expr} {kws : List Keyword} {t : TA}
/-- C(e, ..) by position -/
theorem pe_mkx (FB : ExcBaseFacts B newId initId tl) (T : ExCls X.K C newId tl) (iC : PySem.W.findIn X.K (.ref C) "__init__" = some (some (.ref fI))) (tI : PySem.W.typeIn X.K (.ref fI) = some (.type "function"))
    (F : FnOk X.prog X.w X.K X.mg X.base CX k fI fd ps sp) (hr : Room (k + 1) X.A) (hb : Binds X.K fd ps []) (hx : Passes CX X (fun _ _ _ => False)) (hg : Gl X x) (hm : X.mg x = some (.ref C)) (ha : PA X (e :: es) t)
    (hdb : (x == ("__debug__" : Str)) = false := by decide) (he : starEach (e :: es) X.env = (false, eval e X.env) :: starEach es X.env := by rfl) (hpl : (backTo pos (starEach es X.env)).any (·.1) = false := by rfl) :
    PE X (.Call (.Name x p) (e :: es) [] pos) (tMkx C sp t) := by
  refine ⟨fun pins s σ H Q I h => wpAny_Call_Name_kw (ld_glob I hg hm ?_ hdb)⟩
  refine PySem.W.callWith_K (h₀ := X.base) I.ok.mod.kin T.kC (thn (ha.run pos pins s σ H _ I h) fun us s1 hv => ?_) he hpl
  obtain ⟨vs, H1, I1, r1, hz, q1⟩ := hv
  refine ⟨I1.kIn, ?_⟩
  have hn := I1.hok.fresh (Nat.le_refl s1.heap.objs.size)
  have hl : us.length + 1 = ps.length := by
    have e1 := F.len _ _ _ _ (q1 _ hn)
    rw [← r1.length]
    exact e1
  show wpAny _ _ (call (.ref C) us) _ _ _
  refine run_mkx FB T iC tI F hr (fun s' y X' => ?_) hx I1 r1 (by rw [← r1.length, sizeLine_eq]; omega) q1
  have b := hb s' (y :: us) X' (by rw [List.append_nil]; exact hl)
  rw [List.append_nil] at b
  exact b
/-- how a call by names alone binds behind self: g arranges the values -/
structure KwB (K : PySem.W.Frag) (fd : FuncData) (ps ks : List Str) (gU : List Value → List Value) (gV : List V → List V) : Prop where
  to : ∀ (s : Shared) (y : Value) (zs : List Value), K.In s.heap → zs.length = ks.length → BindsTo s fd ⟨[y], ks.zip zs⟩ (ps.zip (y :: gU zs))
  rel : ∀ {vs : List V} {zs : List Value}, Vals vs zs → vs.length = ks.length → Vals (gV vs) (gU zs)
def tKw (n : Nat) (gV : List V → List V) (t : TA) : TA := fun σ H Q => t σ H fun vs H1 => vs.length = n ∧ Q (gV vs) H1
theorem pe_mkxK {ks : List Str} {gU : List Value → List Value} {gV : List V → List V} (FB : ExcBaseFacts B newId initId tl) (T : ExCls X.K C newId tl) (iC : PySem.W.findIn X.K (.ref C) "__init__" = some (some (.ref fI))) (tI : PySem.W.typeIn X.K (.ref fI) = some (.type "function"))
    (F : FnOk X.prog X.w X.K X.mg X.base CX k fI fd ps sp) (hr : Room (k + 1) X.A) (hb : KwB X.K fd ps ks gU gV) (hx : Passes CX X (fun _ _ _ => False)) (hg : Gl X x) (hm : X.mg x = some (.ref C)) (ha : PK X kws t)
    (hall : (backToKw pos (keywordEach kws X.env)).all (·.1.isSome) = true := by rfl) (hks : (backToKw pos (keywordEach kws X.env)).filterMap (·.1) = ks := by rfl) (hdb : (x == ("__debug__" : Str)) = false := by decide)
    (hpl : ((backTo pos (starEach [] X.env)).any (·.1) || (backToKw pos (keywordEach kws X.env)).any (·.1.isNone)) = false := by rfl) :
    PE X (.Call (.Name x p) [] kws pos) (tMkx C sp (tKw ks.length gV t)) := by
  refine ⟨fun pins s σ H Q I h => wpAny_Call_Name_kw (ld_glob I hg hm ?_ hdb)⟩
  refine PySem.W.callWith_KW0 (h₀ := X.base) I.ok.mod.kin T.kC hall (thn (ha.run pos pins s σ H _ I h) fun zs s1 hv => ?_) hpl
  obtain ⟨vs, H1, I1, r1, hl, hz, q1⟩ := hv
  refine ⟨I1.kIn, ?_⟩
  rw [hks]
  exact run_mkx (us := []) FB T iC tI F hr (fun s' y X' => hb.to s' y zs X' (by rw [← r1.length]; exact hl)) hx I1 (hb.rel r1 hl) (Nat.zero_le _) q1
end
end XV
namespace XV
open PySem PySem.Spec PyProof.Rows L2
/-- the facts of K that isinstance asks of every own class -/
structure IsK (K : PySem.W.Frag) : Prop where
  sp : PySem.W.specialIn K (.builtin "object.__class__") "__get__" = some (some (.builtin "getset_descriptor.__get__"))
  tk : PySem.W.takesIn K (.builtin "object.__class__") = some true
section
variable {prog : Program} {w : World} {A : Around} {E : Value → Shared → Prop} {s : Shared} {K : PySem.W.Frag} {x C : Addr} {ox od : Obj} {newId : String} {tl : List Value}
theorem clsOb (h : PySem.W.hasDictIn K C = true) : ∃ oc dc cd sl, K.lookup C = some ⟨oc, dc, .cls cd, sl⟩ := by
  obtain ⟨cd, e, _⟩ := PySem.W.any_some h
  unfold PySem.W.clsIn at e
  split at e
  · exact ⟨_, _, _, _, by assumption⟩
  · cases e
theorem clsAsk {Q : Option Value → Shared → Prop} (T : ExCls K C newId tl) (F : IsK K) (X : K.In s.heap) (I : PySem.W.InstAt s.heap x ox C (some od)) (h : Q (some (.ref C)) { s with toks := s.toks + 1 }) : wpAny (model prog w) A (getAttr? (.ref x) "__class__") Q E s := by
  have fo : PySem.W.findObj K C (some od) "__class__" = some (.bind (.builtin "getset_descriptor.__get__") (.builtin "object.__class__")) := by
    obtain ⟨cd, e, _⟩ := PySem.W.any_some T.dic
    unfold PySem.W.findObj
    rw [e, Option.bind_some, T.cl, Option.bind_some]
    simp [F.sp, F.tk]
  obtain ⟨hp, g, d, t, os⟩ := s
  have a0 := I.type (M := model prog w)
  have a1 := PySem.W.looks_findIn (M := model prog w) X T.ga
  have a2 := PySem.W.looks_findIn (M := model prog w) X T.gg
  have a3 := PySem.W.looks_find (M := model prog w) X I fo
  have isB : PySem.W.Looks (model prog w) hp (isInstance (.ref x) (.type "BaseException")) true := a0.andThen (PySem.W.looks_subIn X T.exC)
  have ne0 : (Value.builtin "BaseException.__getattribute__" == Value.builtin "object.__getattribute__") = false := by decide +kernel
  have ne1 : (onTheHeap (Value.ref C) && Value.builtin "BaseException.__getattribute__" == Value.builtin "object.__getattribute__") = false := by
    rw [ne0]
    rfl
  unfold getAttr? getAttrBy? getAttrBy
  refine wpAny_bind (wpAny_mkText (wpAny_bind (wpAny_attempt (wpAny_holding (wpAny_bind (a0.at (wpAny_bind (a1.at ?_))))))))
  show wpAny _ _ (if (onTheHeap (Value.ref C) && Value.builtin "BaseException.__getattribute__" == Value.builtin "object.__getattribute__") = true then _ else _) _ _ _
  rw [ne1, if_neg Bool.false_ne_true]
  unfold getAttrByItsOwn hookBefore
  refine wpAny_bind ?_
  rw [if_pos (show onTheHeap (Value.ref C) = true from rfl)]
  refine a2.at (wpAny_bind (wpAny_attempt (wpAny_holding ?_)))
  unfold callGetattribute
  rw [if_neg (show ¬ ((false && onTheHeap (Value.builtin "BaseException.__getattribute__")) = true) from Bool.false_ne_true)]
  unfold boundAndCalled
  rw [PySem.F.excAttr_ValueError.ga.bind (.ref x)]
  refine wpAny_bind (wpAny_pure ?_)
  show wpAny _ _ (call (.builtin "BaseException.__getattribute__") [.ref x, .str "__class__" t]) _ _ _
  refine wpAny_call (codeAny_call_builtin PySem.F.excAttr_ValueError.ga.plain PySem.F.entry_bexc_ga ?_)
  refine @PySem.W.check_slot (model prog w) _ _ ⟨hp, g, d, t + 1, os⟩ "BaseException.__getattribute__" "BaseException" "__getattribute__" (.ref x) [.str "__class__" t] [] _ (by decide +kernel) (by decide +kernel) isB (PySem.F.args_bexc_ga (.ref x) (.str "__class__" t)) ?_
  unfold Builtin.«object.__getattribute__»
  refine wpAny_bind (wpAny_of_eq (a := ((Value.ref x : Value), [Value.str "__class__" t])) (by first | rfl | (simp only [slotArgs]; rfl)) ?_)
  refine wpAny_bind (wpAny_pure (wpAny_bind (a0.at (wpAny_bind (a3.at ?_)))))
  show wpAny _ _ (holding [Value.builtin "object.__class__"] (call (.builtin "getset_descriptor.__get__") [.builtin "object.__class__", .ref x, .ref C]) >>= ret) _ _ _
  refine wpAny_bind (wpAny_holding (wpAny_call (PySem.W.class_get (s := ⟨hp, g, d, t + 1, os⟩) X I T.mro (wpAny_pure ?_))))
  show wpAny _ _ (handedOut (.ref C)) _ _ _
  rw [PySem.W.handedOut_of (v := .ref C) rfl]
  first
  | exact wpAny_pure (wpAny_pure h)
  | exact wpAny_pure h
  | exact wpAny_pure (wpAny_bind (wpAny_pure (wpAny_pure h)))
theorem kitx_x (T : ExCls K C newId tl) (F : IsK K) : PySem.W.KitX K (.ref x) (.ref C) (fun h => PySem.W.InstAt h x ox C (some od)) where
  ty := fun _ _ _ I => I.type
  it := fun _ _ X _ => by
    obtain ⟨_, _, _, _, ho⟩ := clsOb T.dic
    intro A' Q' E' s' k q
    exact wpAny_bind (wpAny_loadPart (k _ _ (X _ _ ho)) (wpAny_pure q))
  ne := fun h tp dd its n sl X htp => by
    obtain ⟨_, _, _, _, ho⟩ := clsOb T.dic
    refine Bool.eq_false_iff.mpr fun q => ?_
    have e : C = tp := Value.ref.inj (beq_iff_eq.mp q)
    rw [← e, X _ _ ho] at htp
    cases htp
  ca := fun X I k => clsAsk T F X I k
end
/-- isinstance(e, c), e an own exception that stands at a -/
def rIsX (K : PySem.W.Frag) : List V → Hp → VK → Prop := fun xs H Q => ∃ (a C : Addr) (fs : List (Str × V)) (newId : String) (tl : List Value) (c : V) (cv : Value) (b : Bool), xs = [.ref a, c] ∧ ClsV c cv ∧ ExAt H a C fs ∧ ExCls K C newId tl ∧ IsK K ∧ PySem.W.kitOne K (.ref C) cv = some b ∧ Q (.bl b) H
/-- e.f of such a one -/
def tXa (K : PySem.W.Frag) (f : Str) (te : TE) : TE := fun σ H Q => te σ H fun x H1 => ∃ (a C : Addr) (fs : List (Str × V)) (newId : String) (tl : List Value) (v : V), x = .ref a ∧ ExCls K C newId tl ∧ PySem.W.findIn K (.ref C) f = some none ∧ ExAt H1 a C fs ∧ fs.lookup f = some v ∧ Q v H1
section
variable {X : Cx}
theorem exAt_in {pins : List (Addr × Obj)} {σ : L2.St} {H : Hp} {s : Shared} {a C : Addr} {fs : List (Str × V)} (I : Inv X pins σ H s) (x : ExAt H a C fs) : ∃ (oe od : Obj) (mA : Str → Option Value), PySem.W.InstAt s.heap a oe C (some od) ∧ (∀ name, PySem.W.lookIn name od = some (mA name)) ∧ ∀ f, RelO (fs.lookup f) (mA f) := by
  obtain ⟨oe, d, vs, h1, h2, h3, h4, _, h5⟩ := x.ex
  have g1 := pinO_at I.hok h1
  obtain ⟨mA, hn, hr⟩ : ∃ mA, s.heap.Ns1 d mA ∧ ∀ f, RelO (fs.lookup f) (mA f) := I.hok d _ h5
  obtain ⟨od, ho, hl⟩ := lookIn_ns hn
  refine ⟨oe, od, mA, ⟨g1, h2, ?_, ?_⟩, hl, hr⟩
  · unfold PySem.W.notCls
    rw [h4]
  · rw [h3]
    exact ho
theorem call_isX : CallR X (.builtin "isinstance") (rIsX X.K) := by
  intro pins s σ H xs us Q I r h
  obtain ⟨a, C, fs, newId, tl, c, cv, b, rfl, k, x, T, F, e, q⟩ := h
  obtain ⟨u1, u2, rfl, r1, r2⟩ := vals2 r
  cases r1
  have e2 := k.eq r2
  subst e2
  obtain ⟨oe, od, mA, J, _, _⟩ := exAt_in I x
  exact PySem.W.kia_one (kitx_x T F) I.kIn J e (fun z => nomatch z) fun tk => ⟨.bl b, H, I.tok tk, rfl, q⟩
theorem pe_xa {e : Expr} {te : TE} {f : Str} {pos : Pos} (he : PE X e te) (hb : attributeBase e f X.env (eval e X.env) = eval e X.env := by rfl) : PE X (.Attribute e f pos) (tXa X.K f te) := by
  refine ⟨fun pins s σ H Q I h => attr_of hb (thn (he.run pins s σ H _ I h) fun u s1 hh => ?_)⟩
  obtain ⟨x, H1, I1, rx, a, C, fs, newId, tl, v, rfl, T, hno, ex, l, q⟩ := hh
  cases rx
  obtain ⟨oe, od, mA, J, hl, hr⟩ := exAt_in I1 ex
  obtain ⟨u, hu, ru⟩ := RelO.some_of (v := v) (o := mA f) (by rw [← l]; exact hr f)
  exact HandSPX.exc_get I1.kIn J T.ga T.gg T.exC (PySem.W.findObj_own T.dic hno rfl (by rw [hl, hu])) (handed_of ru) ⟨v, H1, I1.tok _, ru, q⟩
end
end XV
namespace XV
open PySem PySem.Spec PyProof.Rows L2
/-! a made exception, raised -/
def tRaiseV (K : PySem.W.Frag) (H0 : Hp) (te : TE) : L2.St → Hp → XK → Prop := fun σ H Q => te σ H fun x H1 => ∃ (a C d t0 : Addr), x = .ref a ∧ H1 a = some (pinO a (newX C d t0)) ∧ Fr0 H0 a ∧ PySem.W.subIn K (.ref C) (.type "BaseException") = some true ∧ PySem.W.typeIn K (.ref C) = some (.type "type") ∧ Q (.ref C) (some d) (delH H1 a)
theorem pmk_val {X : Cx} {e : Expr} {te : TE} {K : PySem.W.Frag} {H0 : Hp} (eK : X.K = K) (eH : X.H_0 = H0) (hx : X.ex = []) (he : PE X e te) : PMk X e (tRaiseV K H0 te) := by
  subst eK eH
  intro pins s σ H Q I h
  refine wpAny_mono (he.run pins s σ H _ I h) (fun u s1 hu => ?_) fun _ _ x => x
  obtain ⟨v, H1, I1, r1, a, C, d, t0, rfl, ha, h0, hr1, hr2, q⟩ := hu
  cases r1
  have ho := pinO_at I1.hok ha
  obtain ⟨G, gs, ga, J⟩ := I1.untrack ha h0 hx
  exact ⟨a, _, _, { s1 with heap := G }, delH H1 a, .ref C, some d, rfl, J, gs, ga, ho, ⟨rfl, rfl⟩, rfl, rfl, delH_same, rfl, I1.bare, raises_own hr1 hr2, q⟩
/-! defs that may be called while an exception is handled -/
structure FnW (P : Program) (w : World) (K : PySem.W.Frag) (mg : Str → Option Value) (base : Heap) (k : Nat) (f : Addr) (fd : FuncData) (ps : List Str) (sp : Sp) : Prop where
  len : ∀ vs H Q E, sp vs H Q E → vs.length = ps.length
  run : ∀ (A : Around) (outer : List Env) (s : Shared) (H : Hp) (args : Args) (us : List Value) (vs : List V) (Q : VK), L2H.RoomH k A → Env0 P w K mg base A outer s H → BindsTo s fd args (ps.zip us) → Vals vs us → sp vs H Q E0 →
    codeAny (model P w) A (.call (.ref f) args) (CR CX0 outer P w H s Q E0) s
theorem FnW.ok {P : Program} {w : World} {K : PySem.W.Frag} {mg : Str → Option Value} {base : Heap} {k : Nat} {f : Addr} {fd : FuncData} {ps : List Str} {sp : Sp} (F : FnW P w K mg base k f fd ps sp) (hE : ∀ vs H Q E, sp vs H Q E → sp vs H Q E0) : FnOk P w K mg base CX0 k f fd ps sp :=
  ⟨F.len, fun A outer s H args us vs Q E hr e0 hb r h => codeAny_mono (F.run A outer s H args us vs Q (L2H.roomH_of hr) e0 hb r (hE _ _ _ _ h)) fun _ _ z => z⟩
theorem okW {P : Program} {w : World} {K : PySem.W.Frag} {mg : Str → Option Value} {base : Heap} {x qual : Str} {st : Stmt} {f : Addr} {fd : FuncData} {N ps : List Str} {k : Nat} {sp : Sp} (F : Fun K x qual st f fd) (S : FnScope N ps (defScope st)) (len : ∀ vs H Q E, sp vs H Q E → vs.length = ps.length)
    (hbody : ∀ (cdv : Value) (A : Around) (outer : List Env) (s : Shared) (H : Hp) (vs : List V) (Q : VK) (p : Addr × Obj), L2H.RoomH k (A.deeper (envOfC qual (defScope st) s.heap.objs.size f cdv)) → sp vs H Q E0 →
      ∃ t, PSs (L2H.cxH CX0 P w K mg base N qual (defScope st) f cdv A outer s H E0 p) (defBody st) t ∧ t { nx := fun _ H' => Q .non H', rt := Q } (start N vs) H) : FnW P w K mg base (k + 1) f fd ps sp := by
  obtain ⟨oc, od, kV, doc, pm, an, cdv, ct, osl, rfl, lk, hcd⟩ := F.ex
  refine ⟨len, fun A outer s H args us vs Q hr e0 hb r hsp => ?_⟩
  have hf := e0.bs f _ (e0.mod.kin _ _ lk)
  have KX : K.In s.heap := e0.mod.kin.keeps fun b o e => (e0.bs b o e).1
  have lim : s.heap.NoLimit := e0.mod.nolimit.keeps fun b o e => (e0.bs b o e).1
  have hk : ∀ y ∈ ps.zip us, (defScope st).names.lookup y.1 = some .local ∨ ((defScope st).names.lookup y.1 = some .cell ∧ ((cellsFrom (s.heap.objs.size + 1) (defScope st).names []).lookup y.1).isSome = true) := fun ⟨n, v⟩ hy => by
    rcases S.par n (List.of_mem_zip hy).1 with q | q
    · exact .inl q
    · exact .inr ⟨q, PySem.W.cellsFrom_some _ _ _ (.inl q)⟩
  refine codeAny_call_function hr.depth (KX _ _ lk) rfl S.co S.gen rfl (PySem.W.codeRec_of KX hcd) (hb _ _ _ _ (wpAny_newFunctionEnv_cells S.kind hk fun env he s1 x => ?_))
  subst he
  refine ⟨lim.keeps x.toInCall.keep, codeAny_func ?_⟩
  obtain ⟨t, ht, hq⟩ := hbody cdv A outer s H vs Q (f, _) (hr.deeper _) hsp
  have I := L2H.inv_startH (CX := CX0) (E := E0) (cd := cdv) S (p := (f, _)) ⟨hf.1, hf.2, fun z => (by have y := (e0.funs.mem z).1; rw [e0.mod.kin _ _ lk] at y; cases y), fun v z => nomatch z⟩ e0 (len _ _ _ _ hsp) r x
  refine wpAny_mono (ht.run [] s1 _ H _ I hq) (fun fl s' hs => ?_) fun e s' hs => hs
  cases fl with
  | ret u =>
    obtain ⟨v, σ', H', J, rv, q⟩ := hs
    exact ⟨v, H', J.os, J.bare, J.base, J.hok, rv, q⟩
  | next =>
    obtain ⟨σ', H', J, q⟩ := hs
    exact ⟨.non, H', J.os, J.bare, J.base, J.hok, rfl, q⟩
  | brk =>
    obtain ⟨_, _, _, q⟩ := hs
    exact False.elim q
  | cont =>
    obtain ⟨_, _, _, q⟩ := hs
    exact False.elim q
/-! the exception of an except suite, told to a def -/
/-- f(..) in the suite of the exception at a; its own dict at d -/
def tWx (a : Addr) (oe : Obj) (sp : Sp) (t : TA) : TE := fun σ H Q => t σ H fun vs H1 => sp vs (upd H1 a (pinO a oe)) (fun v H2 => H2 a = some (pinO a oe) ∧ Q v (del H2 a)) E0
theorem hok_pin {P : Program} {w : World} {H : Hp} {h : Heap} {a : Addr} {oe : Obj} (ok : HOk P w H h) (na : H a = none) (e : h.get? a = some oe) : HOk P w (upd H a (pinO a oe)) h := fun b o q => by
  by_cases hb : b = a
  · subst hb
    rw [upd_same] at q
    cases q
    exact pinO_ok e
  · rw [upd_ne hb] at q
    exact (ok b o q).stay (fun _ _ _ z => z) (fun c z => by rw [upd_ne (ne_of_none z na)]; exact z) fun c xs z => by rw [upd_ne (ne_of_none z na)]; exact z
theorem hok_unpin {P : Program} {w : World} {H : Hp} {h : Heap} {a : Addr} {oe : Obj} (ok : HOk P w H h) (ea : H a = some (pinO a oe)) : HOk P w (del H a) h := fun b o q => by
  have hb : b ≠ a := fun z => by
    rw [z, del_same] at q
    cases q
  rw [del_ne hb] at q
  exact (ok b o q).stay (fun _ _ _ z => z) (fun c z => by rw [del_ne (at_ne ea z ext_own)]; exact z) fun c xs z => by rw [del_ne (at_ne ea z ext_tup)]; exact z
theorem pe_wx {X : Cx} {a f : Addr} {oe : Obj} {pn : List (Addr × Obj)} {k : Nat} {fd : FuncData} {ps : List Str} {sp : Sp} {x : Str} {q pos : Pos} {e : Expr} {es : List Expr} {t : TA} (hba : X.base.get? a = none) (F : FnW X.prog X.w X.K X.mg X.base k f fd ps sp) (hr : L2H.RoomH k (X.A.mark (some (.ref a))))
    (hg : Gl (X.suite a ((a, oe) :: pn)) x) (hm : X.mg x = some (.ref f)) (hk : PySem.W.keepIn X.K (.ref f) = true) (hb : Binds X.K fd ps []) (ha : PA (X.suite a ((a, oe) :: pn)) (e :: es) t) (hdb : (x == ("__debug__" : Str)) = false := by decide)
    (he : starEach (e :: es) X.env = (false, eval e X.env) :: starEach es X.env := by rfl) (hpl : (backTo pos (starEach es X.env)).any (·.1) = false := by rfl) :
    PE (X.suite a ((a, oe) :: pn)) (.Call (.Name x q) (e :: es) [] pos) (tWx a oe sp t) := by
  refine ⟨fun pins s σ H Q I h => wpAny_Call_Name_kw (ld_glob I hg hm ?_ hdb)⟩
  refine PySem.W.callWith_K (h₀ := X.base) I.ok.mod.kin hk (thn (ha.run pos pins s σ H _ I h) fun us s1 hv => ?_) he hpl
  obtain ⟨vs, H1, I1, r, q1⟩ := hv
  refine ⟨I1.kIn, ?_⟩
  show wpAny _ _ (call (.ref f) us) _ _ _
  obtain ⟨pa, na, nL, nF, nc⟩ := I1.pin (a, oe) (List.mem_append_left _ List.mem_cons_self)
  have neb : ∀ {b o}, X.base.get? b = some o → b ≠ a := fun z y => by rw [y, hba] at z; cases z
  have nfr : ∀ b ∈ frs X.stack, b ≠ a := fun b hb z => (List.mem_cons.mp (I1.stkSub b hb)).elim (fun y => nL (z ▸ y)) (fun y => nF (z ▸ y))
  have e0 := I1.env0
  have e1 : Env0 X.prog X.w X.K X.mg X.base (X.A.mark (some (.ref a))) X.stack s1 (upd H1 a (pinO a oe)) :=
    ⟨e0.frames, e0.mod, fun b o z => ⟨(e0.bs b o z).1, by rw [upd_ne (neb z)]; exact (e0.bs b o z).2⟩, e0.bsz, e0.funs, fun b hb => by rw [upd_ne (nfr b hb)]; exact e0.frf b hb, hok_pin e0.hok na pa, e0.bare⟩
  have hl : us.length = ps.length := by
    rw [← r.length]
    exact F.len _ _ _ _ q1
  have b := hb s1 us I1.kIn (by rw [List.append_nil]; exact hl)
  rw [List.append_nil] at b
  refine wpAny_call (codeAny_mono (F.run _ X.stack s1 _ ⟨us, []⟩ us vs _ hr e1 b r q1) fun r s' hq => ?_)
  cases r with
  | error er => exact hq.elim
  | ok fl =>
    cases fl with
    | ret u =>
      obtain ⟨v, H2, os, bare, un, hok, rv, ea, q2⟩ := hq
      have keepA := pinO_at hok ea
      have un2 : Un (frs X.stack) [] H1 (del H2 a) s1.heap s'.heap := {
        keep := fun b o z n hf hx => by
          by_cases y : b = a
          · subst y
            rw [pa] at z
            cases z
            exact keepA
          · exact un.keep b o z (by rw [upd_ne y]; exact n) hf hx
        slot := fun b o z n hf hx => un.slot b o z (by rw [upd_ne (nfr b hf)]; exact n) hf hx
        free := fun b o z n hx => by
          by_cases y : b = a
          · rw [y, del_same]
          · rw [del_ne y]
            exact un.free b o z (by rw [upd_ne y]; exact n) hx
        there := un.there
        tups := fun b xs z => by
          have y := un.tups b xs (by rw [upd_ne (ne_of_none z na)]; exact z)
          rw [del_ne (ne_of_none z na)]
          exact y
        frzs := fun b o v z => by
          have y := un.frzs b o v (by rw [upd_ne (ne_of_none z na)]; exact z)
          rw [del_ne (ne_of_none z na)]
          exact y
        tbls := fun b ps z => by
          have y := un.tbls b ps (by rw [upd_ne (ne_of_none z na)]; exact z)
          rw [del_ne (ne_of_none z na)]
          exact y }
      exact ⟨v, del H2 a, I1.call' (ch := []) os un2 (hok_unpin hok ea) bare (fun b z => absurd z (by simp)), rv, q2⟩
    | next => exact hq.elim
    | brk => exact hq.elim
    | cont => exact hq.elim
end XV
namespace XV
open PySem PySem.Spec PyProof.Rows L2
abbrev Sui := Addr → Obj → Value → Option Addr → TS
/-- the ends of a suite whose name at slot i goes with it -/
abbrev goneE (D : Ends) (i : Nat) : Ends := { nx := fun σ H => D.nx (σ.set i none) H, rt := D.rt, bk := fun σ H => D.bk (σ.set i none) H, ct := fun σ H => D.ct (σ.set i none) H }
/-- what clauses «except c as n» (n in slot i) wish of an exception of the body -/
def wAll (K : PySem.W.Frag) (Wo : WX) (D : Ends) : List (Value × Nat × Sui) → WX
  | [] => Wo
  | (c, i, ts) :: r => fun cls d σ H => ∃ b, PySem.W.exmOne K cls c = some b ∧
      (b = true → ∀ (a : Addr) (oe : Obj), H a = none → Zc cls d oe → (∃ vs, oe.data = .fields vs) → ts a oe cls d (goneE D i) (σ.set i (some (.ref a))) H) ∧ (b = false → wAll K Wo D r cls d σ H)
inductive Clauses (X : Cx) : List ExceptHandler → List (Value × Nat × Sui) → Prop
  | nil : Clauses X [] []
  | cons {x n : Str} {c : Value} {i : Nat} {ts : Sui} {b₀ : Stmt} {suite : List Stmt} {np pos' : Pos} {hds : List ExceptHandler} {l : List (Value × Nat × Sui)} (hc : Names X x c) (hi : X.N[i]? = some n) (hn : X.env.kindOf n = some .local)
      (su : ∀ (a : Addr) (oe : Obj) (cls : Value) (d : Option Addr) (pn : List (Addr × Obj)), Zc cls d oe → (∃ vs, oe.data = .fields vs) → X.base.get? a = none → PSs (X.suite a ((a, oe) :: pn)) (b₀ :: suite) (ts a oe cls d)) (r : Clauses X hds l) :
      Clauses X (.ExceptHandler (some (.Name x np)) (some n) (b₀ :: suite) pos' :: hds) ((c, i, ts) :: l)
section
variable {X : Cx} {body : List Stmt} {h₀ : ExceptHandler} {hds : List ExceptHandler} {l : List (Value × Nat × Sui)} {pos : Pos} {tb : WX → TS} {Wo : WX}
theorem ps_try_all (hs : X.stack = X.env :: X.outer) (hf : X.env.frame = some X.env.locals) (hN : X.N.Nodup) (tk : Takes X Wo)
    (hb : ∀ (W : WX) (pn : List (Addr × Obj)) (xe : Value → Shared → Prop), Takes (X.tr pn xe) W → PassesOwn (model X.prog X.w) X.A X.env xe → PSs (X.tr pn xe) body (tb W))
    (hh : Clauses X (h₀ :: hds) l) : PS X (.Try body (h₀ :: hds) [] [] pos) (fun D σ H => tb (wAll X.K Wo D l) D σ H) := by
  refine ⟨fun pins s σ H D I h => wpAny_Try_except (wpAny_mono ((hb (wAll X.K Wo D l) (X.pn ++ pins) _ (fun u s' xx => ?_) PassesOwn.looking).run [] s σ H D (I.toTry _) h) (fun f s1 q => ?_) (fun e s1 he => he))⟩
  · have ok := I.ok
    have frs' : X.A.frames = some (X.env :: X.outer) := by rw [ok.frames, hs]
    obtain ⟨a, B, sI, pins', σ', H', cls, d, rfl, J', nb, up, sky, na, os, ag, w⟩ := xx
    have J : Inv X pins σ' H' sI := J'.ofTry ok
    have sky2 : Sky B (X.env :: X.outer) a (Zc cls d) X.env.locals s'.heap := by rw [← hs]; exact sky
    show wpAny (model X.prog X.w) X.A (noteFrame (.ref a) X.env) _ _ _
    refine Sky.land Zc.steady frs' hf sky2 fun h3 fl3 up3 => ?_
    have J3 : Inv X pins σ' H' { s' with heap := h3 } := J.landed nb fl3.1 (up.trans up3) os ag
    obtain ⟨oe3, vs3, he3, hz3, hd3⟩ := fl3.there
    have nfr : a ∉ frs (X.env :: X.outer) := fun hm => by
      obtain ⟨_, o', e', hnf⟩ := fl3.2.2.1.mem hm
      rw [he3] at e'
      cases e'
      exact hnf _ hd3
    have nL : a ≠ X.env.locals := fun z => nfr (List.mem_filterMap.mpr ⟨X.env, List.mem_cons_self, by rw [hf, z]⟩)
    have nF : a ∉ X.fs := fun hm => by
      obtain ⟨e, he, q⟩ := List.mem_filterMap.mp hm
      exact nfr (List.mem_filterMap.mpr ⟨e, List.mem_cons_of_mem _ he, q⟩)
    have nba : X.base.get? a = none := by
      cases z : X.base.get? a with
      | none => rfl
      | some o =>
        have y := nb a o (J.bk a o z) (by rw [hs]; exact nfr)
        rw [fl3.2.1] at y
        cases y
    have S3 := J3.suite he3 hd3 na nL nF
    have go : ∀ {hds' : List ExceptHandler} {l' : List (Value × Nat × Sui)}, Clauses X hds' l' → wAll X.K Wo D l' cls d σ' H' → wpAny (model X.prog X.w) X.A (handleBy (.ref a) X.env hds') (SP X pins D) X.xe { s' with heap := h3 } := by
      intro hds' l' hk
      induction hk with
      | nil =>
        intro w
        obtain ⟨_, _, _, oe, vs, T, oT, ts', he, hz, hd, h1, hr⟩ := id fl3
        refine wpAny_handleBy_nil ?_
        unfold PySem.passOn
        refine wpAny_bind (wpAny_field he hd h1 ?_)
        rw [if_neg (show ¬ ((Value.ref T == Value.none) = true) from by simp)]
        have fin : wpAny (model X.prog X.w) X.A (setFlight (.ref a) X.env.frame) (fun _ s4 => wpAny (model X.prog X.w) X.A (throw (.ref a) : Sem Flow) (SP X pins D) X.xe s4) X.xe { s' with heap := h3 } := by
          rw [hf]
          exact HandSPX.setFlight_upZ fl3 fun h4 hh4 up4 => wpAny_throw (tk _ _ ⟨a, B, sI, pins, σ', H', cls, d, rfl, J, nb, (up.trans up3).trans up4, .inr (.inr (by rw [hs]; exact hh4)), na, os, ag, w⟩)
        first
        | exact wpAny_bind (wpAny_pure (wpAny_bind fin))
        | exact wpAny_bind fin
      | @cons x n c i ts b₀ suite np pos' hds2 l2 hc hi hn su r ih =>
        intro w
        obtain ⟨b, hb1, yes, no⟩ := w
        have loc : Loc X.env.scope n := .inl hn
        refine wpAny_handleBy_cons (codeAny_handlers_test ?_) (by intro q; cases q)
        have LT : PySem.W.Looks (model X.prog X.w) h3 (typeOf (.ref a)) cls := fun A Q E s k q => wpAny_typeOf_ref (k _ _ he3) (by rw [hz3.1]; exact q)
        have LM := PySem.W.exm_one (M := model X.prog X.w) J3.kIn LT hb1
        have ask : ∀ {Q : Value → Shared → Prop} {E : Value → Shared → Prop}, Q c { s' with heap := h3 } → wpAny (model X.prog X.w) (X.A.mark (some (.ref a))) (eval (.Name x np) X.env) Q E { s' with heap := h3 } := fun {Q E} q => by
          obtain ⟨hg, hdb, hm | ⟨hm, hv, hnn⟩⟩ := hc
          · exact ld_glob (X := X.suite a ((a, oe3) :: (X.pn ++ pins))) S3 hg hm q hdb
          · exact ld_blt (X := X.suite a ((a, oe3) :: (X.pn ++ pins))) S3 hg hm hv q hnn hdb
        refine ask (LM.here ?_)
        cases b with
        | false =>
          show wpAny _ X.A (handleBy (.ref a) X.env hds2) _ _ _
          exact ih (no rfl)
        | true =>
          refine codeAny_handlers_suite_as (HandSPX.lands_againZ fl3 fun h4 fl4 up4 => ?_)
          have J4 : Inv X pins σ' H' { s' with heap := h4 } := J.landed nb fl4.1 ((up.trans up3).trans up4) os ag
          obtain ⟨oe4, vs4, he4, hz4, hd4⟩ := fl4.there
          refine store_ok (X := X.suite a ((a, oe4) :: (X.pn ++ pins))) (v := .ref a) (J4.suite he4 hd4 na nL nF) hN hi loc rfl (fun s5 S5 => ?_) (.inr hn)
          refine wpAny_mono ((su a oe4 cls d (X.pn ++ pins) hz4 ⟨_, hd4⟩ nba).run [] s5 _ H' _ S5 (yes rfl a oe4 na hz4 ⟨_, hd4⟩)) (fun f s6 q => ?_) (fun _ _ z => False.elim z)
          have over : ∀ {σ6 : L2.St} {H6 : Hp} {Q : Shared → Prop}, Inv (X.suite a ((a, oe4) :: (X.pn ++ pins))) [] σ6 H6 s6 → (∀ s7, Inv X pins (σ6.set i none) H6 s7 → Q s7) → wpAny (model X.prog X.w) X.A (do bindName X.env n .none; unbindBehindTheSuite X.env n pos') (fun _ s7 => Q s7) X.xe s6 :=
            fun S6 hq => gone_ok (S6.unsuite ok) hN hi hn hq
          cases f with
          | ret u =>
            obtain ⟨v6, σ6, H6, S6, r6, q6⟩ := q
            exact over S6 fun s7 J7 => ⟨_, _, _, J7, r6, q6⟩
          | next =>
            obtain ⟨σ6, H6, S6, q6⟩ := q
            exact over S6 fun s7 J7 => ⟨_, _, J7, q6⟩
          | brk =>
            obtain ⟨σ6, H6, S6, q6⟩ := q
            exact over S6 fun s7 J7 => ⟨_, _, J7, q6⟩
          | cont =>
            obtain ⟨σ6, H6, S6, q6⟩ := q
            exact over S6 fun s7 J7 => ⟨_, _, J7, q6⟩
    exact go hh w
  · cases f with
    | ret u =>
      obtain ⟨v, σ', H', J', r, q⟩ := q
      exact ⟨v, σ', H', J'.ofTry I.ok, r, q⟩
    | next =>
      obtain ⟨σ', H', J', q⟩ := q
      exact wpAny_execs_nil ⟨σ', H', J'.ofTry I.ok, q⟩
    | brk =>
      obtain ⟨σ', H', J', q⟩ := q
      exact ⟨σ', H', J'.ofTry I.ok, q⟩
    | cont =>
      obtain ⟨σ', H', J', q⟩ := q
      exact ⟨σ', H', J'.ofTry I.ok, q⟩
end
end XV
namespace Lw
open PySem PySem.Spec PyProof.Rows L2 XV
def top (i : Nat) : Stmt := PySem.Challenge.pw_bothleast_k73_whole_matching_or_bar.main.body.getD i (.Pass ⟨0, 0, 0, 0⟩)
def topOf (n : Str) : Stmt := (PySem.Challenge.pw_bothleast_k73_whole_matching_or_bar.main.body.find? fun s => match s with | .FunctionDef m .. => m == n | .ClassDef (name := m) .. => m == n | _ => false).getD (.Pass ⟨0, 0, 0, 0⟩)
/-- the built-in names that stand free -/
structure Bt (mg : Str → Option Value) : Prop where
  int : mg "int" = none
  len : mg "len" = none
  list : mg "list" = none
  tuple : mg "tuple" = none
  isinstance : mg "isinstance" = none
  all : mg "all" = none
  any : mg "any" = none
  range : mg "range" = none
  str : mg "str" = none
  repr : mg "repr" = none
  sorted : mg "sorted" = none
  enumerate : mg "enumerate" = none
  zip : mg "zip" = none
  min : mg "min" = none
  max : mg "max" = none
  abs : mg "abs" = none
  set : mg "set" = none
  dict : mg "dict" = none
  bool : mg "bool" = none
/-- a def of the text where it stands -/
structure Df (K : PySem.W.Frag) (mg : Str → Option Value) (nm : Str) (st : Stmt) (ps : List Str) (f : Addr) (fd : FuncData) : Prop where
  fn : Fun K nm nm st f fd
  bd : Binds K fd ps []
  g : mg nm = some (.ref f)
section
variable {X : Cx}
theorem cal {nm : Str} {st : Stmt} {ps : List Str} {f : Addr} {fd : FuncData} {k : Nat} {sp : Sp} {p pos : Pos} {e : Expr} {es : List Expr} {t : TA} (D : Df X.K X.mg nm st ps f fd) (G : FnOk X.prog X.w X.K X.mg X.base CX0 k f fd ps sp) (hr : Room k X.A) (ha : PA X (e :: es) t) (hg : Gl X nm := by rfl)
    (hdb : (nm == ("__debug__" : Str)) = false := by decide) (he : starEach (e :: es) X.env = (false, eval e X.env) :: starEach es X.env := by rfl) (hpl : (backTo pos (starEach es X.env)).any (·.1) = false := by rfl) : PE X (.Call (.Name nm p) (e :: es) [] pos) (tCall sp [] E0 t) :=
  pe_call G hr hg D.g D.fn.kp D.bd .nil pass0 ha hdb he hpl
theorem call_intI : CallR X (.type "int") (fun xs H Q => ∃ i, xs = [.int i] ∧ Q (.int i) H) := fun pins s σ H xs us Q I r ⟨i, e, q⟩ => call_int1 pins s σ H xs us Q I r (.inl ⟨i, e, q⟩)
theorem call_lenL : CallR X (.builtin "len") (fun xs H Q => ∃ p ys, xs = [.ref p] ∧ SqL X.K H p ys ∧ Q (.int ys.length) H) := fun pins s σ H xs us Q I r ⟨p, ys, e, h, q⟩ => call_len_seq pins s σ H xs us Q I r ⟨p, ys, e, .inl h, q⟩
theorem call_listL : CallR X (.type "list") (fun xs H Q => ∃ p ys, xs = [.ref p] ∧ SqL X.K H p ys ∧ ∀ l, H l = none → Q (.ref l) (upd H l (.lst ys))) := fun pins s σ H xs us Q I r ⟨p, ys, e, h, q⟩ => call_list_of pins s σ H xs us Q I r ⟨p, ys, e, .inl h, q⟩
end
/-- a statement, a word behind it, then the rest from this word alone -/
def tMid (t u : TS) : TS := fun D σ H => ∃ M : L2.St → Hp → Prop, t { D with nx := M } σ H ∧ ∀ σ' H', M σ' H' → u D σ' H'
theorem pss_mid {X : Cx} {st : Stmt} {rest : List Stmt} {t u : TS} (h1 : PS X st t) (h2 : PSs X rest u) : PSs X (st :: rest) (tMid t u) := by
  refine ⟨fun pins s σ H D I h => ?_⟩
  obtain ⟨M, a, b⟩ := h
  refine wpAny_execs_cons (thn (h1.run pins s σ H _ I a) fun f s1 q => ?_)
  cases f with
  | next =>
    obtain ⟨σ', H', I', q⟩ := q
    exact h2.run pins s1 σ' H' D I' (b σ' H' q)
  | ret v => exact q
  | brk => exact q
  | cont => exact q
section
variable {X : Cx}
/-- a call of a def that may raise -/
theorem calS {nm : Str} {st : Stmt} {ps : List Str} {f : Addr} {fd : FuncData} {k : Nat} {sp : Sp} {p pos : Pos} {e : Expr} {es : List Expr} {t : TA} {CX : CXT} {E : L2.St → XK} (D : Df X.K X.mg nm st ps f fd) (G : FnOk X.prog X.w X.K X.mg X.base CX k f fd ps sp) (hr : Room k X.A) (hx : ∀ σ, PassesAt CX X σ (E σ)) (ha : PA X (e :: es) t) (hg : Gl X nm := by rfl)
    (hdb : (nm == ("__debug__" : Str)) = false := by decide) (he : starEach (e :: es) X.env = (false, eval e X.env) :: starEach es X.env := by rfl) (hpl : (backTo pos (starEach es X.env)).any (·.1) = false := by rfl) : PE X (.Call (.Name nm p) (e :: es) [] pos) (tCallS sp E t) :=
  pe_callS G hr hg D.g D.fn.kp D.bd hx ha hdb he hpl
end
theorem same_new {H : Hp} {p : Addr} {o : HO} (hp : H p = none) : Same H (L2.upd H p o) := fun a u h => by rw [upd_ne (ne_of_none h hp)]; exact h
/-- the attributes of a made exception, the last one first -/
def flds (ns : List Str) (code : Str) (xs : List V) : List (Str × V) := ("code", .str code) :: (ns.zip xs).reverse
/-- what the __init__ of the class at C leaves -/
def spIni (C : Addr) (ns : List Str) (code : Str) : Sp := fun vs H Q _ => ∃ (a : Addr) (xs : List V), vs = .ref a :: xs ∧ xs.length = ns.length ∧ H a = some (exo a C none) ∧
  ∀ (dx : Addr) (H' : Hp), H dx = none → dx ≠ a → H' a = some (exo a C (some dx)) → H' dx = some (exd dx (flds ns code xs)) → (∀ b o, b ≠ a → H b = some o → H' b = some o) → Q .non H'
/-- an own exception class where it stands -/
structure XC (K : PySem.W.Frag) (mg : Str → Option Value) (nm qn : Str) (newId : String) (tl : List Value) (st : Stmt) (ns : List Str) (C f : Addr) (fd : FuncData) : Prop where
  T : ExCls K C newId tl
  iC : PySem.W.findIn K (.ref C) "__init__" = some (some (.ref f))
  tI : PySem.W.typeIn K (.ref f) = some (.type "function")
  F : Fun K "__init__" qn st f fd
  bd : Binds K fd ("self" :: ns) []
  g : mg nm = some (.ref C)
  nf : ∀ x ∈ ("code" : Str) :: ns, PySem.W.findIn K (.ref C) x = some none
theorem XC.no {K : PySem.W.Frag} {mg : Str → Option Value} {nm qn : Str} {newId : String} {tl : List Value} {st : Stmt} {ns : List Str} {C f : Addr} {fd : FuncData} (D : XC K mg nm qn newId tl st ns C f fd) {x : Str} (h : x ∈ ("code" : Str) :: ns := by simp) : PySem.W.findIn K (.ref C) x = some none := D.nf x h
theorem exat {H2 : Hp} {a C d t0 : Addr} {fs : List (Str × V)} (hda : d ≠ a) (e1 : H2 a = some (pinO a (newX C d t0))) (e2 : H2 d = some (.xd fs)) : ExAt H2 a C fs := ⟨_, _, _, e1, rfl, rfl, rfl, hda, e2⟩
theorem sN {H H1 : Hp} (s : Same H H1) {a : Addr} (h : H1 a = Option.none) : H a = Option.none := by
  cases e : H a with
  | none => rfl
  | some o => rw [s a o e] at h; cases h
/-- the facts behind a creation -/
structure MadeF (C : Addr) (fs : List (Str × V)) (H1 H3 : Hp) (a d t0 : Addr) : Prop where
  na : H1 a = none
  nd : H1 d = none
  da : d ≠ a
  pa : H3 a = some (pinO a (newX C d t0))
  pd : H3 d = some (.xd fs)
  sm : Same H1 H3
theorem mk_ini {C : Addr} {ns : List Str} {code : Str} {vs : List V} {H1 : Hp} {a : Addr} {Qi : VK} {E : XK} (hl : vs.length = ns.length) (ha : H1 a = none)
    (k : ∀ (d : Addr) (H2 : Hp), H2 a = some (exo a C (some d)) → H2 d = some (exd d (flds ns code vs)) → d ≠ a → (∀ t0, MadeF C (flds ns code vs) H1 (upd (upd H2 a (pinO a (newX C d t0))) d (.xd (flds ns code vs))) a d t0) → Qi .non H2) :
    spIni C ns code (.ref a :: vs) (upd H1 a (exo a C none)) Qi E := by
  refine ⟨a, vs, rfl, hl, upd_same, fun d H2 hd hda e1 e2 sm => k d H2 e1 e2 hda fun t0 => ?_⟩
  have hd0 : H1 d = none := by
    rw [upd_ne hda] at hd
    exact hd
  refine ⟨ha, hd0, hda, by rw [upd_ne hda.symm, upd_same], upd_same, fun b o h => ?_⟩
  have nb : b ≠ a := ne_of_none h ha
  rw [upd_ne (ne_of_none h hd0), upd_ne nb]
  exact sm b o nb (by rw [upd_ne nb]; exact h)
theorem lk_hit {f : Str} {v : V} {r : List (Str × V)} : List.lookup f ((f, v) :: r) = some v := by
  rw [List.lookup_cons]
  simp
theorem lk_miss {f g : Str} {v : V} {r : List (Str × V)} (h : (f == g) = false) : List.lookup f ((g, v) :: r) = List.lookup f r := by
  rw [List.lookup_cons, h]
/-- what H1 has beyond H0 -/
def dif (H0 H1 : Hp) : Hp := fun a => if H0 a = none then H1 a else none
theorem dif_of {H0 H1 : Hp} {a : Addr} {o : HO} (h : H0 a = none) (e : H1 a = some o) : dif H0 H1 a = some o := by rw [dif, if_pos h, e]
theorem of_dif {H0 H1 : Hp} {a : Addr} {o : HO} (h : dif H0 H1 a = some o) : H0 a = none ∧ H1 a = some o := by
  by_cases e : H0 a = none
  · rw [dif, if_pos e] at h
    exact ⟨e, h⟩
  · rw [dif, if_neg e] at h
    cases h
theorem dif_in {Kz H : Hp} : Same (dif Kz H) H := fun a u h => (of_dif h).2
/-- what was there is there still -/
def Up (H0 H1 : Hp) : Prop := ∀ a, H1 a = none → H0 a = none
theorem Up.refl (H : Hp) : Up H H := fun _ h => h
theorem Up.trans {H0 H1 H2 : Hp} (x : Up H0 H1) (y : Up H1 H2) : Up H0 H2 := fun a h => x a (y a h)
theorem Up.upd {K0 H : Hp} {p : Addr} {o : HO} (x : Up K0 H) : Up K0 (L2.upd H p o) := fun a h => by
  by_cases e : a = p
  · subst e
    rw [upd_same] at h
    cases h
  · rw [upd_ne e] at h
    exact x a h
end Lw
namespace XM
open PySem PySem.Spec PyProof.Rows L2 XV
section
variable {X : Cx} {CX : CXT} {k : Nat} {f C p0 : Addr} {fd : FuncData} {ps ks : List Str} {sp : Sp} {x m : Str} {p pos apos : Pos} {e o : Expr} {es : List Expr} {kws : List Keyword} {to : TE} {t tk : TA} {E : L2.St → XK}
/-- C(..), whose __init__ may raise -/
theorem run_mkS {pins : List (Addr × Obj)} {σ : L2.St} {H : Hp} {s : Shared} {Q : VK} {us : List Value} {vs : List V} {E : XK} (M : Mk X.K C f) (F : FnOk X.prog X.w X.K X.mg X.base CX k f fd ps sp) (hr : Room (k + 1) X.A) (hb : Binds X.K fd ps [])
    (hx : PassesAt CX X σ E) (I : Inv X pins σ H s) (r : Vals vs us)
    (h : ∀ x dx, H x = none → H dx = none → dx ≠ x → sp (.ref x :: vs) (upd (upd H dx (.own x)) x (.ins C dx [])) (fun v H2 => v = .non ∧ Q (.ref x) H2) E) : wpAny (model X.prog X.w) X.A (call (.ref C) us) (EP X pins σ Q) X.xe s := by
  have hq := h (s.heap.objs.size + 1) s.heap.objs.size (I.hok.fresh (Nat.le_succ _)) (I.hok.fresh (Nat.le_refl _)) (Nat.ne_of_lt (Nat.lt_succ_self _))
  have I2 := Inv.made (C := C) I
  have r2 : Vals (V.ref (s.heap.objs.size + 1) :: vs) (Value.ref (s.heap.objs.size + 1) :: us) := .cons rfl r
  have hl : (Value.ref (s.heap.objs.size + 1) :: us).length = ps.length := by
    rw [← r2.length]
    exact F.len _ _ _ _ hq
  have b := hb _ (Value.ref (s.heap.objs.size + 1) :: us) I2.kIn (by rw [List.append_nil]; exact hl)
  rw [List.append_nil] at b
  refine wpAny_call (make_map (f := f) I.kIn M.makes M.init (beq_iff_eq.mp M.fn) (codeAny_mono (F.run _ X.stack _ _ ⟨Value.ref (s.heap.objs.size + 1) :: us, []⟩ (Value.ref (s.heap.objs.size + 1) :: us) _ _ E (hr.make C us []) (I2.env0.make C us []) b r2 hq) fun r s' hq' => ?_))
  cases r with
  | error er => exact hx pins _ _ er s' I2 hq'
  | ok fl =>
    cases fl with
    | ret u =>
      obtain ⟨v, H', I3, rv, ev, q3⟩ := I2.after hq'
      subst ev
      exact ⟨rv, ⟨V.ref (s.heap.objs.size + 1), H', I3, rfl, q3⟩⟩
    | next => exact hq'.elim
    | brk => exact hq'.elim
    | cont => exact hq'.elim
def tMkS (C : Addr) (sp : Sp) (E : L2.St → XK) (t : TA) : TE := fun σ H Q => t σ H fun vs H1 => ∀ x dx, H1 x = none → H1 dx = none → dx ≠ x → sp (.ref x :: vs) (upd (upd H1 dx (.own x)) x (.ins C dx [])) (fun v H2 => v = .non ∧ Q (.ref x) H2) (E σ)
theorem pe_mkS (M : Mk X.K C f) (F : FnOk X.prog X.w X.K X.mg X.base CX k f fd ps sp) (hr : Room (k + 1) X.A) (hb : Binds X.K fd ps []) (hx : ∀ σ, PassesAt CX X σ (E σ)) (hm : X.mg x = some (.ref C)) (ha : PA X (e :: es) t) (hg : Gl X x := by rfl)
    (hdb : (x == ("__debug__" : Str)) = false := by decide) (he : starEach (e :: es) X.env = (false, eval e X.env) :: starEach es X.env := by rfl) (hpl : (backTo pos (starEach es X.env)).any (·.1) = false := by rfl) :
    PE X (.Call (.Name x p) (e :: es) [] pos) (tMkS C sp E t) := by
  refine ⟨fun pins s σ H Q I h => wpAny_Call_Name_kw (ld_glob I hg hm ?_ hdb)⟩
  refine PySem.W.callWith_K (h₀ := X.base) I.ok.mod.kin M.kp (thn (ha.run pos pins s σ H _ I h) fun us s1 hv => ?_) he hpl
  obtain ⟨vs, H1, I1, r, q⟩ := hv
  exact ⟨I1.kIn, run_mkS M F hr hb (hx σ) I1 r q⟩
/-- a static method of C -/
structure Stat (K : PySem.W.Frag) (C : Addr) (m : Str) (f : Addr) : Prop where
  ga : PySem.W.specialIn K (.ref C) "__getattribute__" = some (some (.builtin "type.__getattribute__"))
  rd : PySem.W.readsIn K C (.type "type") = true
  ex : ∃ (q : Addr) (rest : List Value), PySem.W.findCls K (.ref C) (.type "type") m = some (.get (.builtin "staticmethod.__get__") (.ref q) .none (.ref C)) ∧ PySem.W.recIn K q "staticmethod" = some (.ref f :: rest)
  kp : PySem.W.keepIn K (.ref f) = true
theorem getstat {A : Around} {E : Value → Shared → Prop} {s : Shared} {K : PySem.W.Frag} {prog : Program} {w : World} {pl : Sem Bool} {Q : Value × List Value → Shared → Prop} (S : Stat K C m f) (X : K.In s.heap) (h : Q (.ref f, []) { s with toks := s.toks + 1 }) : wpAny (model prog w) A (getMethod (.ref C) m pl) Q E s := by
  obtain ⟨q, rest, e, hp⟩ := S.ex
  refine PySem.W.method_cls X S.ga ?_
  exact PySem.W.cls_bind X S.rd e (wpAny_call (PySem.W.sm_get (s := { s with toks := s.toks + 1 }) X hp (PySem.W.handed_on rfl h)))
def tStat (C : Addr) (sp : Sp) (E : L2.St → XK) (to : TE) (t : TA) : TE := fun σ H Q => to σ H fun x H1 => x = .ref C ∧ t σ H1 fun vs H2 => sp vs H2 Q (E σ)
theorem pe_stat {pl : Sem Bool} (S : Stat X.K C m f) (F : FnOk X.prog X.w X.K X.mg X.base CX k f fd ps sp) (hr : Room k X.A) (hb : Binds X.K fd ps []) (hx : ∀ σ, PassesAt CX X σ (E σ)) (ho : PE X o to) (ha : PA X (e :: es) t)
    (he : starEach (e :: es) X.env = (false, eval e X.env) :: starEach es X.env := by rfl) (hpl : (backTo pos (starEach es X.env)).any (·.1) = false := by rfl)
    (ht : eval (.Call (.Attribute o m apos) (e :: es) [] pos) X.env = (do
      let ov ← eval o X.env
      standAt apos.atName
      let (f, first) ← holding [ov] (getMethod ov m pl)
      callWith pos f first (backTo pos (starEach (e :: es) X.env)) (backToKw pos (keywordEach [] X.env))) := by rfl) :
    PE X (.Call (.Attribute o m apos) (e :: es) [] pos) (tStat C sp E to t) := by
  refine ⟨fun pins s σ H Q I h => PySem.W.methodCall_KW (pl := pl) (thn (ho.run pins s σ H _ I h) fun u s1 hv => ?_) ht⟩
  obtain ⟨y, H1, I1, r1, rfl, q⟩ := hv
  cases r1
  refine getstat S I1.kIn ?_
  have I2 := I1.tok (s1.toks + 1)
  refine PySem.W.callWith_K (first := []) (h₀ := X.base) I2.ok.mod.kin S.kp (thn (ha.run pos pins _ σ H1 _ I2 q) fun us s3 hv => ?_) he hpl
  obtain ⟨vs, H2, I3, r, q3⟩ := hv
  exact ⟨I3.kIn, run_fnS F hr hb (hx σ) I3 r q3⟩
end
end XM
namespace Lw
open PySem PySem.Spec PyProof.Rows L2 XV TL XM
theorem ite_b {c : Bool} {A B : Prop} (h1 : c = true → A) (h2 : c = false → B) : if c = true then A else B := by
  cases c with
  | true => exact h1 rfl
  | false =>
    rw [if_neg Bool.false_ne_true]
    exact h2 rfl
theorem eqS (z s : Str) : decide (V.str z = V.str s) = decide (tl z = tl s) := by
  rw [Bool.eq_iff_iff, decide_eq_true_eq, decide_eq_true_eq]
  constructor
  · intro h
    injection h with h
    rw [h]
  · intro h
    rw [ext_tl h]
mutual
theorem Dp.mono {K : PySem.W.Frag} {M M' : Hp} (s : Same M M') : ∀ {d : PyData} {v : V}, Dp K M v d → Dp K M' v d
  | _, _, .non => .non
  | _, _, .bl b => .bl b
  | _, _, .int i => .int i
  | _, _, .str x => .str x
  | _, _, .lst h hs => .lst (s.seq h) (DpAll.mono s hs)
  | _, _, .tup (a := a) (xs := xs) h hs => .tup (by
      rcases h with h | h
      · rcases h with h | ⟨o, h⟩
        · exact .inl (.inl (s _ _ h))
        · exact .inl (.inr ⟨o, s _ _ h⟩)
      · exact .inr h) (DpAll.mono s hs)
theorem DpAll.mono {K : PySem.W.Frag} {M M' : Hp} (s : Same M M') : ∀ {ds : List PyData} {vs : List V}, DpAll K M vs ds → DpAll K M' vs ds
  | _, _, .nil => .nil
  | _, _, .cons h hs => .cons (Dp.mono s h) (DpAll.mono s hs)
end
theorem DpAll.snoc {K : PySem.W.Frag} {M : Hp} {v : V} {d : PyData} : ∀ {vs : List V} {ds : List PyData}, DpAll K M vs ds → Dp K M v d → DpAll K M (vs ++ [v]) (ds ++ [d])
  | _, _, .nil, h => .cons h .nil
  | _, _, .cons a as, h => .cons a (DpAll.snoc as h)
theorem DpAll.len {K : PySem.W.Frag} {M : Hp} : ∀ {vs : List V} {ds : List PyData}, DpAll K M vs ds → vs.length = ds.length
  | _, _, .nil => rfl
  | _, _, .cons _ as => by rw [List.length_cons, List.length_cons, DpAll.len as]
theorem dif_sub {H0 H1 H2 : Hp} (s : Same H1 H2) : Same (dif H0 H1) (dif H0 H2) := fun a o h => by
  obtain ⟨h1, h2⟩ := of_dif h
  exact dif_of h1 (s _ _ h2)
theorem dif_up {H0 H1 H2 : Hp} (u : Up H0 H1) : Same (dif H1 H2) (dif H0 H2) := fun a o h => by
  obtain ⟨h1, h2⟩ := of_dif h
  exact dif_of (u a h1) h2
theorem same_up {H H1 : Hp} (s : Same H H1) : Up H H1 := fun a h => sN s h
theorem cutV1 (xs : List V) : cutV xs (some 1) none = xs.drop 1 := by
  have e : HT.sIx xs.length 0 (some ((1 : Nat) : Int)) = min 1 xs.length := HT.sIx_nat _ _ 1
  show (xs.drop (HT.sIx xs.length 0 (some ((1 : Nat) : Int)))).take (xs.length - HT.sIx xs.length 0 (some ((1 : Nat) : Int))) = _
  rw [e]
  have h2 : xs.drop (min 1 xs.length) = xs.drop 1 := by
    cases xs with
    | nil => rfl
    | cons a r => rw [show min 1 (a :: r).length = 1 from by rw [List.length_cons]; omega]
  rw [h2, List.take_of_length_le (by rw [List.length_drop]; omega)]
theorem un65 {k : Nat} {A : Around} (hr : Room k A) : A.units + 65 < cLine := by
  have := hr.un
  omega
/-- beside the list at D that grows -/
theorem grow {H2 H3 H4 : Hp} {D : Addr} {o : HO} (s4 : Same H3 H4) : Same (dif H2 (delH H3 D)) (dif H2 (delH (upd H4 D o) D)) := fun a u h => by
  obtain ⟨h1, h2⟩ := of_dif h
  by_cases e : a = D
  · rw [e, delH_same] at h2
    cases h2
  · rw [delH_ne e] at h2
    exact dif_of h1 (by rw [delH_ne e, upd_ne e]; exact s4 _ _ h2)
theorem grow_new {H2 H3 H4 : Hp} {D : Addr} {o x : HO} (u : Up H2 H3) (e3 : H3 D = some x) : Same (dif H3 H4) (dif H2 (delH (upd H4 D o) D)) := fun a v h => by
  obtain ⟨h1, h2⟩ := of_dif h
  have e : a ≠ D := fun z => by rw [z, e3] at h1; cases h1
  exact dif_of (u a h1) (by rw [delH_ne e, upd_ne e]; exact h2)
theorem str_at {ys : List Str} {i : Nat} {y : V} (h : (ys.map V.str)[i]? = some y) : ∃ q, y = .str q ∧ ys[i]? = some q := by
  rw [List.getElem?_map] at h
  cases e : ys[i]? with
  | none => rw [e] at h; cases h
  | some q => rw [e] at h; exact ⟨q, (Option.some.inj h).symm, rfl⟩
theorem tyL {K : PySem.W.Frag} {H : Hp} {p : Addr} {xs : List V} (h : H p = some (.lst xs)) : tyV K "list" (.ref p) H := .inl ⟨rfl, _, SqL.of h⟩
theorem cutVm (xs : List V) : cutV xs none (some (-1)) = xs.dropLast := by
  show ((xs.drop 0).take (HT.sIx xs.length xs.length (some (-1)) - 0)) = _
  rw [List.drop_zero, Nat.sub_zero]
  have : HT.sIx xs.length xs.length (some (-1)) = xs.length - 1 := by
    show (if (-1 : Int) < 0 then ((-1 : Int) + (xs.length : Int)).toNat else min (-1 : Int).toNat xs.length) = _
    rw [if_pos (by decide)]
    omega
  rw [this, List.dropLast_eq_take]
theorem same_del {H H4 : Hp} {D : Addr} (s : Same H (delH H4 D)) : Same H H4 := fun a o h => by
  have := s a o h
  by_cases e : a = D
  · rw [e, delH_same] at this
    cases this
  · rw [delH_ne e] at this
    exact this
theorem sorted_one {α : Type} {le : α → α → Prop} (anti : ∀ a b, le a b → le b a → a = b) : ∀ {l m : List α}, l.Perm m → l.Pairwise le → m.Pairwise le → l = m
  | [], m, p, _, _ => (List.perm_nil.mp p.symm).symm
  | a :: l, [], p, _, _ => by
    have := p.length_eq
    cases this
  | a :: l, b :: m, p, h1, h2 => by
    have hab : a = b := by
      rcases List.mem_cons.mp (p.subset (List.mem_cons_self ..)) with h | h
      · exact h
      · rcases List.mem_cons.mp (p.symm.subset (List.mem_cons_self ..)) with h' | h'
        · exact h'.symm
        · exact anti a b (List.rel_of_pairwise_cons h1 h') (List.rel_of_pairwise_cons h2 h)
    subst hab
    rw [sorted_one anti (List.Perm.cons_inv p) h1.of_cons h2.of_cons]
abbrev Pr := Int × Int
def leP (a b : Pr) : Prop := ¬ (b.1 < a.1 ∨ (b.1 = a.1 ∧ b.2 < a.2))
theorem leP_anti (a b : Pr) (h1 : leP a b) (h2 : leP b a) : a = b := by
  obtain ⟨a1, a2⟩ := a
  obtain ⟨b1, b2⟩ := b
  simp only [leP] at h1 h2
  have e1 : a1 = b1 := by omega
  have e2 : a2 = b2 := by omega
  rw [e1, e2]
structure SortP (l m : List Pr) : Prop where
  perm : m.Perm l
  sorted : m.Pairwise leP
structure SortI (l m : List Int) : Prop where
  perm : m.Perm l
  sorted : m.Pairwise (· ≤ ·)
theorem SortP.one {l l' m m' : List Pr} (h : SortP l m) (h' : SortP l' m') (p : l.Perm l') : m = m' := sorted_one leP_anti ((h.perm.trans p).trans h'.perm.symm) h.sorted h'.sorted
theorem SortI.one {l l' m m' : List Int} (h : SortI l m) (h' : SortI l' m') (p : l.Perm l') : m = m' := sorted_one (fun a b h1 h2 => Int.le_antisymm h1 h2) ((h.perm.trans p).trans h'.perm.symm) h.sorted h'.sorted
/-- pairs, told as tuples -/
def PairVs (K : PySem.W.Frag) (M : Hp) (xs : List V) (ps : List Pr) : Prop := xs.length = ps.length ∧ ∀ (i : Nat) (x : V), xs[i]? = some x → ∃ (t : Addr) (p : Pr), ps[i]? = some p ∧ x = .ref t ∧ SqT K M t [.int p.1, .int p.2]
theorem sqT_mono {K : PySem.W.Frag} {M M' : Hp} (s : Same M M') {a : Addr} {xs : List V} (h : SqT K M a xs) : SqT K M' a xs := by
  rcases h with (h | ⟨o, h⟩) | h
  · exact .inl (.inl (s _ _ h))
  · exact .inl (.inr ⟨o, s _ _ h⟩)
  · exact .inr h
theorem PairVs.mono {K : PySem.W.Frag} {M M' : Hp} (s : Same M M') {xs : List V} {ps : List Pr} (h : PairVs K M xs ps) : PairVs K M' xs ps := ⟨h.1, fun i x hx => by
  obtain ⟨t, p, a, b, c⟩ := h.2 i x hx
  exact ⟨t, p, a, b, sqT_mono s c⟩⟩
/-- a list or a tuple of pairs -/
def PairsAt (K : PySem.W.Frag) (M : Hp) (a : Addr) (ps : List Pr) : Prop := ∃ xs, (SqL K M a xs ∨ SqT K M a xs) ∧ PairVs K M xs ps
theorem PairsAt.mono {K : PySem.W.Frag} {M M' : Hp} (s : Same M M') {a : Addr} {ps : List Pr} (h : PairsAt K M a ps) : PairsAt K M' a ps := by
  obtain ⟨xs, h1, h2⟩ := h
  exact ⟨xs, h1.elim (fun h => .inl (s.seq h)) (fun h => .inr (sqT_mono s h)), h2.mono s⟩
end Lw
namespace Lw
open PySem PySem.Spec PyProof.Rows L2 XV TL XM
section
variable {X : Cx}
/-- over a list or over a tuple -/
def iEither (K : PySem.W.Frag) (te : TE) : TI := fun σ H R => iList K te σ H R ∨ iTup K te σ H R
theorem pi_either {tg l : Expr} {te : TE} (h : PE X l te) : PI X tg l (iEither X.K te) := ⟨fun pins s σ H R I q => q.elim ((pi_list h).run pins s σ H R I) ((pi_tup h).run pins s σ H R I)⟩
end
end Lw
namespace Lw
open PySem PySem.Spec PyProof.Rows L2 XV TL XM
def wrongP (p : Pr) : Bool := decide (p.2 ≤ p.1)
def keyIn (M : Hp) : V → Pr
  | .ref t => match M t with
    | some (.tup [.int i, .int j]) => (i, j)
    | _ => (0, 0)
  | _ => (0, 0)
theorem keyIn_of {M : Hp} {t : Addr} {i j : Int} (h : M t = some (.tup [.int i, .int j])) : keyIn M (.ref t) = (i, j) := by
  show (match M t with
    | some (.tup [.int i, .int j]) => (i, j)
    | _ => ((0, 0) : Pr)) = _
  rw [h]
theorem sort_keys {M : Hp} {xs ys : List V} {ps : List Pr} (hp : xs.map (keyIn M) = ps) (h1 : SrtO.Srtd (ltP (keyIn M)) ys) (h2 : SrtO.Stb (ltP (keyIn M)) ys xs) : SortP ps (ys.map (keyIn M)) := by
  refine ⟨by rw [← hp]; exact h2.perm.map _, ?_⟩
  refine List.pairwise_map.mpr (List.Pairwise.imp (fun {a b} h => ?_) h1)
  exact SrtO.lexB_no.mp h
/-- pairs that are tuples just laid -/
def RawVs (M : Hp) (xs : List V) (ps : List Pr) : Prop := xs.length = ps.length ∧ ∀ (i : Nat) (x : V), xs[i]? = some x → ∃ (t : Addr) (p : Pr), ps[i]? = some p ∧ x = .ref t ∧ M t = some (.tup [.int p.1, .int p.2])
theorem RawVs.keys {M : Hp} {xs : List V} {ps : List Pr} (h : RawVs M xs ps) : xs.map (keyIn M) = ps := by
  refine List.ext_getElem? fun i => ?_
  rw [List.getElem?_map]
  cases e : xs[i]? with
  | none =>
    have : xs.length ≤ i := List.getElem?_eq_none_iff.mp e
    rw [h.1] at this
    rw [List.getElem?_eq_none_iff.mpr this]
    rfl
  | some x =>
    obtain ⟨t, p, a, rfl, c⟩ := h.2 i x e
    rw [a]
    show some (keyIn M (.ref t)) = _
    rw [keyIn_of c]
theorem RawVs.mem {M : Hp} {xs : List V} {ps : List Pr} (h : RawVs M xs ps) {x : V} (hx : x ∈ xs) : ∃ t, x = .ref t ∧ M t = some (.tup [.int (keyIn M x).1, .int (keyIn M x).2]) := by
  obtain ⟨i, hi⟩ := List.mem_iff_getElem?.mp hx
  obtain ⟨t, p, _, rfl, c⟩ := h.2 i x hi
  refine ⟨t, rfl, ?_⟩
  rw [keyIn_of c]
  exact c
theorem RawVs.sorted {K : PySem.W.Frag} {M : Hp} {xs ys : List V} {ps : List Pr} (h : RawVs M xs ps) (p : ys.Perm xs) : PairVs K M ys (ys.map (keyIn M)) := by
  refine ⟨by rw [List.length_map], fun i x hx => ?_⟩
  obtain ⟨t, rfl, c⟩ := h.mem (p.subset (List.mem_of_getElem? hx))
  exact ⟨t, keyIn M (.ref t), by rw [List.getElem?_map, hx]; rfl, rfl, .inl (.inl c)⟩
def sI (i : Int) : Str := Str.ofString (toString i)
def Sml (i : Int) : Prop := i.natAbs < 10 ^ 10
theorem sI_len {i : Int} (h : Sml i) : (sI i).length ≤ 11 := by
  have h1 : (toString i).length ≤ 10 + 1 := int_text_length_le10 (by decide) h
  rw [sI, len_tl, tl_ofString, List.length_map]
  first
  | exact h1
  | (rw [String.length_toList]; exact h1)
  | (rw [← String.length] ; exact h1)
theorem sml_log {i : Int} (h : Sml i) : i.natAbs.log2 < 1920 := by
  have : i.natAbs < 2 ^ 40 := Nat.lt_of_lt_of_le h (by decide)
  have h2 : i.natAbs.log2 < 40 ∨ i.natAbs = 0 := by
    by_cases h0 : i.natAbs = 0
    · exact .inr h0
    · exact .inl ((Nat.log2_lt h0).mpr this)
  rcases h2 with h2 | h2
  · omega
  · rw [h2]
    decide
theorem len_add (i j : Str) : (i ++ j).length = i.length + j.length := Array.size_append
theorem nil_add (i : Str) : Str.empty ++ i = i := ext_tl (by rw [tl_append]; rfl)
theorem join_len (y : Str) (ys : List Str) : (Txt.join y ys).length ≤ (ys.map (·.length)).sum + ys.length * y.length := by
  have e : (Txt.join y ys).length = _ := PySem.size_glued y ys
  rw [e]
  exact Nat.add_le_add_left (Nat.mul_le_mul_right _ (Nat.sub_le _ _)) _
theorem sum_le {n : Nat} : ∀ {ys : List Str}, (∀ y ∈ ys, y.length ≤ n) → (ys.map (·.length)).sum ≤ ys.length * n
  | [], _ => Nat.zero_le _
  | y :: ys, h => by
    have h1 := h y (List.mem_cons_self ..)
    have h2 := sum_le (n := n) fun z hz => h z (List.mem_cons_of_mem _ hz)
    rw [List.map_cons, List.sum_cons, List.length_cons, Nat.succ_mul]
    omega
def SmlP (p : Pr) : Prop := Sml p.1 ∧ Sml p.2
/-- where the box stands, where its cells -/
structure Bx where
  b : Addr
  l : Addr
/-- all but the box and its cells is as it was -/
def But (B : Bx) (H H' : Hp) : Prop := ∀ a o, a ≠ B.b → a ≠ B.l → H a = some o → H' a = some o
theorem But.refl (B : Bx) (H : Hp) : But B H H := fun _ _ _ _ h => h
theorem But.trans {B : Bx} {H H1 H2 : Hp} (x : But B H H1) (y : But B H1 H2) : But B H H2 := fun a o n m h => y a o n m (x a o n m h)
theorem But.updB {B : Bx} {H H1 : Hp} {o : HO} (x : But B H H1) : But B H (upd H1 B.b o) := fun a u n m h => by rw [upd_ne n]; exact x a u n m h
theorem But.updL {B : Bx} {H H1 : Hp} {o : HO} (x : But B H H1) : But B H (upd H1 B.l o) := fun a u n m h => by rw [upd_ne m]; exact x a u n m h
theorem But.new {B : Bx} {p : Addr} {H H1 : Hp} {o : HO} (x : But B H H1) (hp : H1 p = none) : But B H (L2.upd H1 p o) := fun a u n m h => by
  have y := x a u n m h
  rw [upd_ne (ne_of_none y hp)]
  exact y
def boxO (l : Addr) (i m c : Int) : HO := .lst [.ref l, .int i, .int m, .int c]
structure BoxAt (B : Bx) (H : Hp) : Prop where
  ex : ∃ (i m c : Int), H B.b = some (boxO B.l i m c) ∧ 0 ≤ i
  ls : ∃ ns : List Int, H B.l = some (.lst (ns.map V.int)) ∧ ns.length ≤ 63
  ne : B.l ≠ B.b
/-- what may have come to pass: the box has been drawn from, new things were made -/
structure Go (B : Bx) (H H' : Hp) : Prop where
  but : But B H H'
  bag : BoxAt B H'
end Lw
namespace Lw
open PySem PySem.Spec PyProof.Rows L2 XV TL XM
section
variable {B : Bx} {H H1 H2 : Hp} {p : Addr} {o : HO}
theorem BoxAt.away (x : BoxAt B H) (hp : H p = none) : p ≠ B.b ∧ p ≠ B.l := by
  obtain ⟨i, m, c, h, _⟩ := x.ex
  obtain ⟨ns, h2, _⟩ := x.ls
  exact ⟨fun z => (by rw [z, h] at hp; cases hp), fun z => (by rw [z, h2] at hp; cases hp)⟩
theorem BoxAt.put (x : BoxAt B H) (n1 : p ≠ B.b) (n2 : p ≠ B.l) : BoxAt B (upd H p o) := by
  obtain ⟨i, m, c, h, r⟩ := x.ex
  obtain ⟨ns, h2, r2⟩ := x.ls
  exact ⟨⟨i, m, c, by rw [upd_ne n1.symm]; exact h, r⟩, ⟨ns, by rw [upd_ne n2.symm]; exact h2, r2⟩, x.ne⟩
theorem BoxAt.same (x : BoxAt B H) (s : Same H H1) : BoxAt B H1 := by
  obtain ⟨i, m, c, h, r⟩ := x.ex
  obtain ⟨ns, h2, r2⟩ := x.ls
  exact ⟨⟨i, m, c, s _ _ h, r⟩, ⟨ns, s _ _ h2, r2⟩, x.ne⟩
theorem Go.refl (x : BoxAt B H) : Go B H H := ⟨But.refl _ _, x⟩
theorem Go.trans (x : Go B H H1) (y : Go B H1 H2) : Go B H H2 := ⟨x.but.trans y.but, y.bag⟩
theorem Go.new (x : Go B H H1) (hp : H1 p = none) : Go B H (upd H1 p o) := ⟨x.but.new hp, x.bag.put (x.bag.away hp).1 (x.bag.away hp).2⟩
theorem Go.same (x : Go B H H1) (s : Same H1 H2) : Go B H H2 := ⟨fun a o n m h => s _ _ (x.but a o n m h), x.bag.same s⟩
/-- a thing that was not there at first -/
theorem Go.free (x : Go B H H1) (hp : H1 p = none) : H p = none := by
  cases e : H p with
  | none => rfl
  | some o =>
    have w := x.bag.away hp
    rw [x.but p o w.1 w.2 e] at hp
    cases hp
theorem Go.turn (x : Go B H H1) (hB : BoxAt B H) (hp : H p = none) : Go B H (upd H1 p o) :=
  ⟨fun a u n m h => by rw [upd_ne (ne_of_none h hp)]; exact x.but a u n m h, x.bag.put (hB.away hp).1 (hB.away hp).2⟩
theorem Go.keep (x : Go B H H1) (n : p ≠ B.b) (m : p ≠ B.l) (h : H p = some o) : H1 p = some o := x.but p o n m h
end
end Lw
namespace Lw
open PySem PySem.Spec PyProof.Rows L2 XV TL XM
theorem ix_pos {n : Nat} {i : Int} (h0 : 0 ≤ i) (h1 : i < n) : ixN n i = some i.toNat := by
  unfold ixN
  rw [if_pos h0, if_pos h1]
theorem cut_ints (ns : List Int) (lo hi : Option Int) : ∃ ms : List Int, cutV (ns.map V.int) lo hi = ms.map V.int ∧ ms.length ≤ ns.length := by
  refine ⟨(ns.drop (HT.sIx ns.length 0 lo)).take (HT.sIx ns.length ns.length hi - HT.sIx ns.length 0 lo), ?_, ?_⟩
  · unfold cutV
    rw [List.length_map, List.map_take, List.map_drop]
  · rw [List.length_take, List.length_drop]
    omega
theorem at_pos {α : Type} {xs : List α} {i : Int} (h0 : 0 ≤ i) (h1 : i < xs.length) : ∃ v, atI xs i = some v ∧ xs[i.toNat]? = some v ∧ v ∈ xs := by
  have hi : i.toNat < xs.length := by omega
  refine ⟨xs[i.toNat], ?_, List.getElem?_eq_getElem hi, List.getElem_mem hi⟩
  unfold atI
  rw [ix_pos h0 h1]
  exact List.getElem?_eq_getElem hi
theorem er_perm {α : Type} : ∀ (ls : List α) (k : Nat) (v : α), ls[k]? = some v → (v :: ls.eraseIdx k).Perm ls
  | [], _, _, h => by simp at h
  | x :: xs, 0, v, h => by
    cases h
    exact List.Perm.refl _
  | x :: xs, k + 1, v, h => (List.Perm.swap x v _).trans (List.Perm.cons x (er_perm xs k v h))
theorem cut_to (xs : List V) (k : Nat) (h : k ≤ xs.length) : cutV xs none (some (k : Int)) = xs.take k := by
  show ((xs.drop 0).take (HT.sIx xs.length xs.length (some ((k : Nat) : Int)) - 0)) = _
  rw [HT.sIx_nat, Nat.min_eq_left h]
  rfl
theorem cut_from (xs : List V) (k : Nat) (h : k ≤ xs.length) : cutV xs (some (k : Int)) none = xs.drop k := by
  show ((xs.drop (HT.sIx xs.length 0 (some ((k : Nat) : Int)))).take (xs.length - HT.sIx xs.length 0 (some ((k : Nat) : Int)))) = _
  rw [HT.sIx_nat, Nat.min_eq_left h, List.take_of_length_le]
  rw [List.length_drop]
  omega
def pD (p : Pr) : PyData := .tuple [.int p.1, .int p.2]
theorem dp_pair {K : PySem.W.Frag} {M : Hp} {t : Addr} {p : Pr} (h : SqT K M t [.int p.1, .int p.2]) : Dp K M (.ref t) (pD p) := .tup h (.cons (.int _) (.cons (.int _) .nil))
theorem dp_pairs {K : PySem.W.Frag} {M : Hp} : ∀ {xs : List V} {ps : List Pr}, PairVs K M xs ps → DpAll K M xs (ps.map pD)
  | [], [], _ => .nil
  | [], _ :: _, h => absurd h.1 (by simp)
  | _ :: _, [], h => absurd h.1 (by simp)
  | x :: xs, p :: ps, h => by
    obtain ⟨t, q, e, rfl, ht⟩ := h.2 0 x rfl
    cases e
    exact .cons (dp_pair ht) (dp_pairs ⟨by have := h.1; simp only [List.length_cons] at this; omega, fun i y hy => h.2 (i + 1) y hy⟩)
theorem dp_ints {K : PySem.W.Frag} {M : Hp} : ∀ (ns : List Int), DpAll K M (ns.map V.int) (ns.map PyData.int)
  | [] => .nil
  | n :: ns => .cons (.int n) (dp_ints ns)
theorem can_pairs : ∀ ps : List Pr, PyData.canLayAll0 (ps.map pD) = true
  | [] => rfl
  | p :: ps => by
    show (PyData.canLay0 (pD p) && PyData.canLayAll0 (ps.map pD)) = true
    rw [can_pairs ps]
    rfl
theorem dep_pairs : ∀ ps : List Pr, PyData.depthAll (ps.map pD) ≤ 1
  | [] => by simp [PyData.depthAll]
  | p :: ps => by
    have h := dep_pairs ps
    show max (PyData.depth (pD p)) (PyData.depthAll (ps.map pD)) ≤ 1
    have e : PyData.depth (pD p) = 1 := by simp [pD, PyData.depth, PyData.depthAll]
    omega
theorem can_ints : ∀ ns : List Int, PyData.canLayAll0 (ns.map PyData.int) = true
  | [] => rfl
  | n :: ns => by
    show (PyData.canLay0 (.int n) && PyData.canLayAll0 (ns.map PyData.int)) = true
    rw [can_ints ns]
    rfl
theorem dep_ints : ∀ ns : List Int, PyData.depthAll (ns.map PyData.int) = 0
  | [] => by simp [PyData.depthAll]
  | n :: ns => by
    have h := dep_ints ns
    show max (PyData.depth (.int n)) (PyData.depthAll (ns.map PyData.int)) = 0
    have e : PyData.depth (.int n) = 0 := by simp [PyData.depth]
    omega
theorem shaped_pairs (ps : List Pr) : SeqAt.shaped (.list (ps.map pD)) = true := by
  unfold SeqAt.shaped
  rw [Bool.and_eq_true]
  refine ⟨can_pairs ps, decide_eq_true ?_⟩
  have h := dep_pairs ps
  show PyData.depthAll (ps.map pD) + 1 ≤ 64
  omega
theorem eqv_ints : ∀ ns ms : List Int, PyData.eqvAll (ns.map PyData.int) (ms.map PyData.int) = decide (ns = ms)
  | [], [] => rfl
  | [], _ :: _ => rfl
  | _ :: _, [] => rfl
  | n :: ns, m :: ms => by
    show ((n == m) && PyData.eqvAll (ns.map PyData.int) (ms.map PyData.int)) = _
    rw [eqv_ints ns ms, Bool.eq_iff_iff]
    simp only [Bool.and_eq_true, beq_iff_eq, decide_eq_true_eq, List.cons.injEq]
theorem eqv_pair (p q : Pr) : PyData.eqv (pD p) (pD q) = decide (p = q) := by
  obtain ⟨a, b⟩ := p
  obtain ⟨c, d⟩ := q
  show PyData.eqvAll ([a, b].map PyData.int) ([c, d].map PyData.int) = _
  rw [eqv_ints, Bool.eq_iff_iff]
  simp only [decide_eq_true_eq, List.cons.injEq, and_true, Prod.mk.injEq]
theorem eqv_pairs : ∀ ns ms : List Pr, PyData.eqvAll (ns.map pD) (ms.map pD) = decide (ns = ms)
  | [], [] => rfl
  | [], _ :: _ => rfl
  | _ :: _, [] => rfl
  | n :: ns, m :: ms => by
    show ((PyData.eqv (pD n) (pD m)) && PyData.eqvAll (ns.map pD) (ms.map pD)) = _
    rw [eqv_pairs ns ms, eqv_pair, Bool.eq_iff_iff]
    simp only [Bool.and_eq_true, decide_eq_true_eq, List.cons.injEq]
theorem un64 {k : Nat} {A : Around} (hr : Room k A) : A.units + 64 < cLine := by
  have := un65 hr
  omega
theorem Go.tup {B : Bx} {H H1 : Hp} {t : Addr} {ys : List V} (g : Go B H H1) (hB : BoxAt B H) (h : H t = some (.tup ys)) : H1 t = some (.tup ys) := by
  obtain ⟨i, m, c, h1, _⟩ := hB.ex
  obtain ⟨ns, h2, _⟩ := hB.ls
  exact g.keep (fun z => by rw [z, h1] at h; cases h) (fun z => by rw [z, h2] at h; cases h) h
theorem RawVs.turn {M M' : Hp} {xs : List V} {ps : List Pr} (h : RawVs M xs ps) (s : ∀ t ys, M t = some (.tup ys) → M' t = some (.tup ys)) : RawVs M' xs ps := ⟨h.1, fun i x hx => by
  obtain ⟨t, p, a, b, c⟩ := h.2 i x hx
  exact ⟨t, p, a, b, s _ _ c⟩⟩
theorem RawVs.snoc {M : Hp} {xs : List V} {ps : List Pr} {t : Addr} {p : Pr} (h : RawVs M xs ps) (e : M t = some (.tup [.int p.1, .int p.2])) : RawVs M (xs ++ [.ref t]) (ps ++ [p]) := by
  refine ⟨by rw [List.length_append, List.length_append, h.1]; rfl, fun i x hx => ?_⟩
  by_cases hi : i < xs.length
  · rw [List.getElem?_append_left hi] at hx
    obtain ⟨u, q, a, b, c⟩ := h.2 i x hx
    exact ⟨u, q, by rw [List.getElem?_append_left (by rw [← h.1]; exact hi)]; exact a, b, c⟩
  · rw [List.getElem?_append_right (by omega)] at hx
    obtain ⟨j, hj⟩ : ∃ j, i - xs.length = j := ⟨_, rfl⟩
    rw [hj] at hx
    cases j with
    | zero =>
      cases hx
      exact ⟨t, p, by rw [List.getElem?_append_right (by rw [← h.1]; omega), ← h.1, hj]; rfl, rfl, e⟩
    | succ j => cases hx
theorem RawVs.pairs {K : PySem.W.Frag} {M : Hp} {xs : List V} {ps : List Pr} (h : RawVs M xs ps) : PairVs K M xs ps := ⟨h.1, fun i x hx => by
  obtain ⟨t, p, a, b, c⟩ := h.2 i x hx
  exact ⟨t, p, a, b, SqT.of c⟩⟩
theorem show_int {i : Int} (h : Sml i) : PyData.showable (.int i) = true := by
  show decide (i.natAbs.log2 < 1920) = true
  exact decide_eq_true (sml_log h)
theorem show_pair {p : Pr} (h : SmlP p) : PyData.showable (pD p) = true := by
  show (PyData.showable (.int p.1) && (PyData.showable (.int p.2) && true)) = true
  rw [show_int h.1, show_int h.2]
  rfl
theorem show_pairs : ∀ {ps : List Pr}, (∀ p ∈ ps, SmlP p) → PyData.showableAll (ps.map pD) = true
  | [], _ => rfl
  | p :: ps, h => by
    show (PyData.showable (pD p) && PyData.showableAll (ps.map pD)) = true
    rw [show_pair (h p (by simp)), show_pairs fun q hq => h q (by simp [hq])]
    rfl
theorem show_ints : ∀ {ns : List Int}, (∀ n ∈ ns, Sml n) → PyData.showableAll (ns.map PyData.int) = true
  | [], _ => rfl
  | n :: ns, h => by
    show (PyData.showable (.int n) && PyData.showableAll (ns.map PyData.int)) = true
    rw [show_int (h n (by simp)), show_ints fun q hq => h q (by simp [hq])]
    rfl
theorem shl_int {i : Int} (h : Sml i) : (PyData.shown (.int i)).length ≤ 11 := sI_len h
theorem shl_pair {p : Pr} (h : SmlP p) : (PyData.shown (pD p)).length ≤ 29 := by
  have h1 := shl_int h.1
  have h2 := shl_int h.2
  have h3 := tupleText_len_le [PyData.shown (.int p.1), PyData.shown (.int p.2)]
  have e : (([PyData.shown (.int p.1), PyData.shown (.int p.2)] : List Str).map (·.length)).sum = (PyData.shown (.int p.1)).length + ((PyData.shown (.int p.2)).length + 0) := rfl
  have e2 : ([PyData.shown (.int p.1), PyData.shown (.int p.2)] : List Str).length = 2 := rfl
  show (tupleText [PyData.shown (.int p.1), PyData.shown (.int p.2)]).length ≤ 29
  omega
theorem shownAll_map {α : Type} (g : α → PyData) : ∀ xs : List α, PyData.shownAll (xs.map g) = xs.map fun x => PyData.shown (g x)
  | [] => rfl
  | x :: xs => by
    show PyData.shown (g x) :: PyData.shownAll (xs.map g) = _
    rw [shownAll_map g xs]
    rfl
theorem shl_row {α : Type} {n : Nat} (g : α → PyData) {xs : List α} (h : ∀ x ∈ xs, (PyData.shown (g x)).length ≤ n) : (PyData.shown (.tuple (xs.map g))).length ≤ xs.length * n + 2 * xs.length + 3 := by
  have h1 := tupleText_len_le (PyData.shownAll (xs.map g))
  rw [shownAll_map] at h1
  have h2 := sum_le (n := n) (ys := xs.map fun x => PyData.shown (g x)) fun y hy => by
    obtain ⟨x, hx, rfl⟩ := List.mem_map.mp hy
    exact h x hx
  rw [List.length_map] at h1 h2
  show (tupleText (PyData.shownAll (xs.map g))).length ≤ _
  rw [shownAll_map]
  omega
/-- a short plain word -/
structure Wd (z : Str) : Prop where
  ok : PyData.canLay0 (.str z) = true
  sh : (PyData.shown (.str z)).length ≤ 40
  eq : PyData.eqv (.str z) (.str z) = true
theorem wd_hollows : Wd "hollows" := ⟨by decide +kernel, by decide +kernel, by decide +kernel⟩
theorem wd_summits : Wd "summits" := ⟨by decide +kernel, by decide +kernel, by decide +kernel⟩
theorem wd_BadValue : Wd "BadValue" := ⟨by decide +kernel, by decide +kernel, by decide +kernel⟩
theorem del_of {H : Hp} {D q : Addr} {o u : HO} (h : H D = some u) (hq : H q = none) : delH (upd H q o) D q = some o := by
  rw [delH_ne (fun e => by rw [e, h] at hq; cases hq), upd_same]
theorem del_same {H : Hp} {D : Addr} : Same (delH H D) H := fun a u h => by
  by_cases e : a = D
  · rw [e, delH_same] at h
    cases h
  · rw [delH_ne e] at h
    exact h
/-- a comprehension over a list, thing by thing -/
theorem lc_made {K : PySem.W.Frag} {a : Addr} {xs : List V} {g : TG} {tt : TT} {te : TE} {vs : List Nat} {σ : L2.St} {H1 : Hp} {D : Addr} {Qd : Hp → Prop} (R : Nat → V → Hp → Prop) (mono : ∀ i y M M', Same M M' → R i y M → R i y M') (hD : H1 D = none) (ha : SqL K H1 a xs) (hn : xs.length < sizeLine)
    (hs : ∀ i x H, xs[i]? = some x → Same H1 H → (∃ acc, H D = some (.lst acc)) → ∀ (Qn : V → Hp → Prop) (Z : Hp → Prop), (∀ y H4, Same H H4 → R i y (delH H4 D) → Qn y H4) → g x (wipe σ vs) H fun σ2 H2 => wipe σ2 vs = wipe σ vs ∧ tt σ2 H2 fun b H3 => if b = true then te σ2 H3 Qn else Z H3)
    (hd : ∀ H ys, Same H1 H → H D = some (.lst ys) → ys.length = xs.length → (∀ j y, ys[j]? = some y → R j y H) → Qd H) :
    ∃ W : Nat → Nat → Hp → Prop, (∃ m, W 0 m (upd H1 D (.lst []))) ∧ ∀ i m H, W i m H →
      ((Itl K a).stop i H ∧ Qd H) ∨ ((Itl K a).go i H ∧ ∃ Nx : Hp → Prop, (∀ H', Nx H' → ∃ m', m' < m ∧ W (i + 1) m' H') ∧ ∀ x H', (Itl K a).yld i H x H' → g x (wipe σ vs) H' fun σ2 H2 => wipe σ2 vs = wipe σ vs ∧ tt σ2 H2 fun b H3 =>
        if b = true then te σ2 H3 fun y H4 => ∃ acc, H4 D = some (.lst acc) ∧ acc.length < sizeLine ∧ Nx (upd H4 D (.lst (acc ++ [y]))) else Nx H3) := by
  refine lc_list (K := K) (a := a) (xs := xs) (fun i H => Same H1 H ∧ ∃ ys, H D = some (.lst ys) ∧ ys.length = i ∧ ∀ j y, ys[j]? = some y → R j y (delH H D)) ⟨same_new hD, [], upd_same, rfl, fun j y h => by cases h⟩ (fun i H _ h => h.1.seq ha) (fun i x H hx h => ?_) fun H h => ?_
  · obtain ⟨s1, ys, e1, l1, o1⟩ := h
    refine hs i x H hx s1 ⟨ys, e1⟩ _ _ fun y H4 s4 r4 => ?_
    have hi := (List.getElem?_eq_some_iff.mp hx).1
    have e4 := s4 _ _ e1
    have dd : Same (delH H D) (delH (upd H4 D (.lst (ys ++ [y]))) D) := fun b o h => by
      by_cases e : b = D
      · rw [e, delH_same] at h
        cases h
      · rw [delH_ne e] at h ⊢
        rw [upd_ne e]
        exact s4 _ _ h
    have d4 : Same (delH H4 D) (delH (upd H4 D (.lst (ys ++ [y]))) D) := fun b o h => by
      by_cases e : b = D
      · rw [e, delH_same] at h
        cases h
      · rw [delH_ne e] at h ⊢
        rw [upd_ne e]
        exact h
    refine ⟨ys, e4, by omega, fun b o h => ?_, ys ++ [y], upd_same, by rw [List.length_append, l1]; rfl, fun j w hj => ?_⟩
    · rw [upd_ne (ne_of_none h hD)]
      exact s4 _ _ (s1 _ _ h)
    · by_cases c : j < ys.length
      · rw [List.getElem?_append_left c] at hj
        exact mono _ _ _ _ dd (o1 j w hj)
      · rw [List.getElem?_append_right (by omega)] at hj
        have hj0 : j - ys.length = 0 := by
          have := (List.getElem?_eq_some_iff.mp hj).1
          simp at this
          omega
        rw [hj0] at hj
        cases hj
        have : j = i := by omega
        subst this
        exact mono _ _ _ _ d4 r4
  · obtain ⟨s1, ys, e1, l1, o1⟩ := h
    exact hd H ys s1 e1 l1 fun j y hj => mono _ _ _ _ del_same (o1 j y hj)
end Lw
namespace DO
open PySem PySem.Spec PyProof.Rows L2
theorem execs_app (env : Env) : ∀ (a b : List Stmt), execs (a ++ b) env = (execs a env >>= fun f => match f with | .next => execs b env | f => pure f)
  | [], b => by
    rw [List.nil_append, execs_nil, pure_bind]
  | st :: r, b => by
    rw [List.cons_append, execs_cons, execs_cons, bind_assoc]
    congr 1
    funext f
    cases f with
    | next => exact execs_app env r b
    | ret v => rw [pure_bind]
    | brk => rw [pure_bind]
    | cont => rw [pure_bind]
structure Does (X : Cx) (ss : List Stmt) (Pre Post : L2.St → Hp → Prop) (Rt : VK) : Prop where
  run : ∀ (pins : List (Addr × Obj)) (s : Shared) (σ : L2.St) (H : Hp) (D : Ends), Inv X pins σ H s → Pre σ H → (∀ σ' H', Post σ' H' → D.nx σ' H') → (∀ v H', Rt v H' → D.rt v H') → wpAny (model X.prog X.w) X.A (execs ss X.env) (SP X pins D) X.xe s
end DO
namespace DO
open PySem PySem.Spec PyProof.Rows L2
section
variable {X : Cx} {Pre Mid Post : L2.St → Hp → Prop} {Rt : VK} {a b ss : List Stmt} {t : TS}
theorem Does.of (h : PSs X ss t) (hq : ∀ σ H, Pre σ H → ∀ D : Ends, (∀ σ' H', Post σ' H' → D.nx σ' H') → (∀ v H', Rt v H' → D.rt v H') → t D σ H) : Does X ss Pre Post Rt :=
  ⟨fun pins s σ H D I p n r => h.run pins s σ H D I (hq σ H p D n r)⟩
theorem Does.app (h1 : Does X a Pre Mid Rt) (h2 : Does X b Mid Post Rt) : Does X (a ++ b) Pre Post Rt := by
  refine ⟨fun pins s σ H D I p n r => ?_⟩
  rw [execs_app]
  refine wpAny_bind (thn (h1.run pins s σ H { D with nx := Mid } I p (fun _ _ h => h) r) fun f s1 q => ?_)
  cases f with
  | next =>
    obtain ⟨σ', H', I', q⟩ := q
    exact h2.run pins s1 σ' H' D I' q n r
  | ret v => exact wpAny_pure q
  | brk => exact wpAny_pure q
  | cont => exact wpAny_pure q
theorem Does.cut (n : Nat) (h1 : Does X (ss.take n) Pre Mid Rt) (h2 : Does X (ss.drop n) Mid Post Rt) : Does X ss Pre Post Rt := by
  have h := h1.app h2
  rw [List.take_append_drop] at h
  exact h
theorem Does.pss (h : Does X ss Pre Post Rt) : PSs X ss (fun D σ H => Pre σ H ∧ (∀ σ' H', Post σ' H' → D.nx σ' H') ∧ ∀ v H', Rt v H' → D.rt v H') :=
  ⟨fun pins s σ H D I q => h.run pins s σ H D I q.1 q.2.1 q.2.2⟩
end
end DO
namespace Lw
open PySem PySem.Spec PyProof.Rows L2 XV TL XM
theorem BoxAt.del {B : Bx} {H : Hp} {D : Addr} (h : BoxAt B H) (n1 : D ≠ B.b) (n2 : D ≠ B.l) : BoxAt B (delH H D) := by
  obtain ⟨i, m, c, e, r⟩ := h.ex
  obtain ⟨ns, e2, r2⟩ := h.ls
  exact ⟨⟨i, m, c, by rw [delH_ne n1.symm]; exact e, r⟩, ⟨ns, by rw [delH_ne n2.symm]; exact e2, r2⟩, h.ne⟩
/-- a comprehension over a list that draws, thing by thing -/
theorem lc_madeG {K : PySem.W.Frag} {B : Bx} {a : Addr} {xs : List V} {g : TG} {tt : TT} {te : TE} {vs : List Nat} {σ : L2.St} {H1 : Hp} {D : Addr} {Qd : Hp → Prop} (R : Nat → V → Hp → Prop) (mono : ∀ i y M M', BoxAt B M → Go B M M' → R i y M → R i y M') (hB : BoxAt B H1) (hD : H1 D = none) (ha : H1 a = some (.lst xs)) (na : a ≠ B.b ∧ a ≠ B.l) (hn : xs.length < sizeLine)
    (hs : ∀ i x H, xs[i]? = some x → Go B H1 H → (∃ acc, H D = some (.lst acc)) → ∀ (Qn : V → Hp → Prop) (Z : Hp → Prop), (∀ y H4, Go B H H4 → R i y (delH H4 D) → Qn y H4) → g x (wipe σ vs) H fun σ2 H2 => wipe σ2 vs = wipe σ vs ∧ tt σ2 H2 fun b H3 => if b = true then te σ2 H3 Qn else Z H3)
    (hd : ∀ H ys, Go B H1 H → H D = some (.lst ys) → ys.length = xs.length → (∀ j y, ys[j]? = some y → R j y H) → Qd H) :
    ∃ W : Nat → Nat → Hp → Prop, (∃ m, W 0 m (upd H1 D (.lst []))) ∧ ∀ i m H, W i m H →
      ((Itl K a).stop i H ∧ Qd H) ∨ ((Itl K a).go i H ∧ ∃ Nx : Hp → Prop, (∀ H', Nx H' → ∃ m', m' < m ∧ W (i + 1) m' H') ∧ ∀ x H', (Itl K a).yld i H x H' → g x (wipe σ vs) H' fun σ2 H2 => wipe σ2 vs = wipe σ vs ∧ tt σ2 H2 fun b H3 =>
        if b = true then te σ2 H3 fun y H4 => ∃ acc, H4 D = some (.lst acc) ∧ acc.length < sizeLine ∧ Nx (upd H4 D (.lst (acc ++ [y]))) else Nx H3) := by
  have nD := hB.away hD
  refine lc_list (K := K) (a := a) (xs := xs) (fun i H => Go B H1 H ∧ ∃ ys, H D = some (.lst ys) ∧ ys.length = i ∧ ∀ j y, ys[j]? = some y → R j y (delH H D)) ⟨(Go.refl hB).new hD, [], upd_same, rfl, fun j y h => by cases h⟩ (fun i H _ h => SqL.of (h.1.keep na.1 na.2 ha)) (fun i x H hx h => ?_) fun H h => ?_
  · obtain ⟨s1, ys, e1, l1, o1⟩ := h
    refine hs i x H hx s1 ⟨ys, e1⟩ _ _ fun y H4 s4 r4 => ?_
    have hi := (List.getElem?_eq_some_iff.mp hx).1
    have e4 := s4.keep nD.1 nD.2 e1
    have dd : Go B (delH H D) (delH (upd H4 D (.lst (ys ++ [y]))) D) := by
      refine ⟨fun b o n m h => ?_, (s4.bag.put nD.1 nD.2).del nD.1 nD.2⟩
      by_cases e : b = D
      · rw [e, delH_same] at h
        cases h
      · rw [delH_ne e] at h ⊢
        rw [upd_ne e]
        exact s4.but _ _ n m h
    have d4 : Go B (delH H4 D) (delH (upd H4 D (.lst (ys ++ [y]))) D) := by
      refine ⟨fun b o n m h => ?_, (s4.bag.put nD.1 nD.2).del nD.1 nD.2⟩
      by_cases e : b = D
      · rw [e, delH_same] at h
        cases h
      · rw [delH_ne e] at h ⊢
        rw [upd_ne e]
        exact h
    refine ⟨ys, e4, by omega, (s1.trans s4).turn hB hD, ys ++ [y], upd_same, by rw [List.length_append, l1]; rfl, fun j w hj => ?_⟩
    by_cases c : j < ys.length
    · rw [List.getElem?_append_left c] at hj
      exact mono _ _ _ _ (s1.bag.del nD.1 nD.2) dd (o1 j w hj)
    · rw [List.getElem?_append_right (by omega)] at hj
      have hj0 : j - ys.length = 0 := by
        have := (List.getElem?_eq_some_iff.mp hj).1
        simp at this
        omega
      rw [hj0] at hj
      cases hj
      have : j = i := by omega
      subst this
      exact mono _ _ _ _ (s4.bag.del nD.1 nD.2) d4 r4
  · obtain ⟨s1, ys, e1, l1, o1⟩ := h
    have gd : Go B (delH H D) H := ⟨fun b o _ _ h => del_same _ _ h, s1.bag⟩
    exact hd H ys s1 e1 l1 fun j y hj => mono _ _ _ _ (s1.bag.del nD.1 nD.2) gd (o1 j y hj)
def unI : V → Int
  | .int i => i
  | _ => 0
theorem ints_perm {ms : List V} {ns : List Int} (h : ms.Perm (ns.map V.int)) : ∃ ns' : List Int, ns'.Perm ns ∧ ms = ns'.map V.int := by
  refine ⟨ms.map unI, ?_, ?_⟩
  · have e := h.map unI
    rw [List.map_map] at e
    have : ns.map (unI ∘ V.int) = ns := by
      have e2 : ns.map (unI ∘ V.int) = ns.map id := List.map_congr_left fun _ _ => rfl
      rw [e2, List.map_id]
    rw [this] at e
    exact e
  · rw [List.map_map]
    have e2 : ms.map (V.int ∘ unI) = ms.map id := List.map_congr_left fun x hx => by
      obtain ⟨n, _, rfl⟩ := List.mem_map.mp (h.subset hx)
      rfl
    rw [e2, List.map_id]
theorem RawVs.ofMem {M : Hp} {xs : List V} (h : ∀ x ∈ xs, ∃ t, x = .ref t ∧ M t = some (.tup [.int (keyIn M x).1, .int (keyIn M x).2])) : RawVs M xs (xs.map (keyIn M)) := by
  refine ⟨by rw [List.length_map], fun i x hx => ?_⟩
  obtain ⟨t, rfl, c⟩ := h x (List.mem_of_getElem? hx)
  exact ⟨t, keyIn M (.ref t), by rw [List.getElem?_map, hx]; rfl, rfl, c⟩
/-- a def's promise where no repr is under way -/
structure FnOkG (P : Program) (w : World) (K : PySem.W.Frag) (mg : Str → Option Value) (base : Heap) (CX : CXT) (k : Nat) (f : Addr) (fd : FuncData) (ps : List Str) (sp : Sp) : Prop where
  len : ∀ vs H Q E, sp vs H Q E → vs.length = ps.length
  run : ∀ (A : Around) (outer : List Env) (s : Shared) (H : Hp) (args : Args) (us : List Value) (vs : List V) (Q : VK) (E : XK), A.guards = some [] → Room k A → Env0 P w K mg base A outer s H → BindsTo s fd args (ps.zip us) → Vals vs us → sp vs H Q E →
    codeAny (model P w) A (.call (.ref f) args) (CR CX outer P w H s Q E) s
end Lw
namespace Lw
open PySem PySem.Spec PyProof.Rows L2 XV TL XM
section
variable {P : Program} {w : World} {K : PySem.W.Frag} {mg : Str → Option Value} {base : Heap}
/-- as L2.Fun.ok, the body walked where no repr is under way -/
theorem okG {x qual : Str} {st : Stmt} {f : Addr} {fd : FuncData} {N ps : List Str} {k : Nat} {sp : Sp} (F : L2.Fun K x qual st f fd) (S : FnScope N ps (defScope st)) (len : ∀ vs H Q E, sp vs H Q E → vs.length = ps.length)
    (hbody : ∀ (cdv : Value) (A : Around) (outer : List Env) (s : Shared) (H : Hp) (vs : List V) (Q : VK) (E : XK), A.guards = some [] → Room k (A.deeper (envOfC qual (defScope st) s.heap.objs.size f cdv)) → sp vs H Q E →
      ∃ t, PSs (cxOf CX0 P w K mg base N qual (defScope st) f cdv A outer s H E).nox (defBody st) t ∧ t { nx := fun _ H' => Q .non H', rt := Q } (start N vs) H) : FnOkG P w K mg base CX0 (k + 1) f fd ps sp := by
  obtain ⟨oc, od, kV, doc, pm, an, cdv, ct, osl, rfl, lk, hcd⟩ := F.ex
  refine ⟨len, fun A outer s H args us vs Q E hg hr e0 hb r hsp => ?_⟩
  have hl := len _ _ _ _ hsp
  have KX : K.In s.heap := e0.mod.kin.keeps fun b o e => (e0.bs b o e).1
  have lim : s.heap.NoLimit := e0.mod.nolimit.keeps fun b o e => (e0.bs b o e).1
  have hkind : ∀ y ∈ ps.zip us, (defScope st).names.lookup y.1 = some .local ∨ ((defScope st).names.lookup y.1 = some .cell ∧ ((cellsFrom (s.heap.objs.size + 1) (defScope st).names []).lookup y.1).isSome = true) := fun ⟨n, v⟩ hy => by
    rcases S.par n (List.of_mem_zip hy).1 with q | q
    · exact .inl q
    · exact .inr ⟨q, PySem.W.cellsFrom_some _ _ _ (.inl q)⟩
  refine codeAny_call_function hr.depth (KX _ _ lk) rfl S.co S.gen rfl (PySem.W.codeRec_of KX hcd) (hb _ _ _ _ ?_)
  refine wpAny_newFunctionEnv_cells S.kind hkind fun env he s1 x => ?_
  subst he
  refine ⟨lim.keeps x.toInCall.keep, codeAny_func ?_⟩
  obtain ⟨t, ht, hq⟩ := hbody cdv A outer s H vs Q E hg (hr.deeper _) hsp
  have I : Inv (cxOf CX0 P w K mg base N qual (defScope st) f cdv A outer s H E) [] (start N vs) H s1 := inv_start S hr.hd e0 hl r x
  refine wpAny_mono (ht.nox.run [] s1 (start N vs) H _ I hq) (fun fl s' hs => ?_) fun e s' hs => hs
  have fin : ∀ {σ' : L2.St} {H' : Hp} {v : V} {u : Value}, Inv (cxOf CX0 P w K mg base N qual (defScope st) f cdv A outer s H E) [] σ' H' s' → RelV v u → Q v H' → CE outer P w H s Q u s' :=
    fun {σ' H' v u} J rv q => ⟨v, H', J.os, J.bare, J.base, J.hok, rv, q⟩
  cases fl with
  | ret u =>
    obtain ⟨v, σ', H', J, rv, q⟩ := hs
    exact fin J rv q
  | next =>
    obtain ⟨σ', H', J, q⟩ := hs
    exact fin (v := V.non) (u := Value.none) J rfl q
  | brk =>
    obtain ⟨_, _, _, q⟩ := hs
    exact False.elim q
  | cont =>
    obtain ⟨_, _, _, q⟩ := hs
    exact False.elim q
end
end Lw
namespace Lw
open PySem PySem.Spec PyProof.Rows L2 XV TL XM
section
variable {X : Cx} {CX : CXT} {k : Nat} {f : Addr} {fd : FuncData} {ps : List Str} {sp : Sp} {E : XK} {x : Str} {p pos : Pos} {e : Expr} {es : List Expr} {t : TA}
theorem run_fnG {pins : List (Addr × Obj)} {σ : L2.St} {H : Hp} {s : Shared} {Q : VK} {us : List Value} {vs : List V} (F : FnOkG X.prog X.w X.K X.mg X.base CX k f fd ps sp) (hg : X.A.guards = some []) (hr : Room k X.A) (hb : Binds X.K fd ps []) (hx : Passes CX X E)
    (I : Inv X pins σ H s) (r : Vals vs us) (h : sp vs H Q E) : wpAny (model X.prog X.w) X.A (call (.ref f) us) (EP X pins σ Q) X.xe s := by
  have hl : us.length = ps.length := by rw [← r.length]; exact F.len _ _ _ _ h
  refine wpAny_call (codeAny_mono (F.run X.A X.stack s H ⟨us, []⟩ us vs Q E hg hr I.env0 (by
    have := hb s us I.kIn (by simpa using hl)
    simpa using this) r h) fun r s' hq => ?_)
  cases r with
  | error e => exact hx pins σ H s e s' I hq
  | ok fl =>
    cases fl with
    | ret u => exact I.after hq
    | next => exact False.elim hq
    | brk => exact False.elim hq
    | cont => exact False.elim hq
/-- f(e, ..), f such a def -/
theorem pe_callG {nm : Str} {st : Stmt} (D : Df X.K X.mg nm st ps f fd) (F : FnOkG X.prog X.w X.K X.mg X.base CX0 k f fd ps sp) (hgd : X.A.guards = some []) (hr : Room k X.A) (ha : PA X (e :: es) t) (hg : Gl X nm := by rfl)
    (hdb : (nm == ("__debug__" : Str)) = false := by decide) (he : starEach (e :: es) X.env = (false, eval e X.env) :: starEach es X.env := by rfl) (hpl : (backTo pos (starEach es X.env)).any (·.1) = false := by rfl) :
    PE X (.Call (.Name nm p) (e :: es) [] pos) (tCall sp [] E0 t) := by
  refine ⟨fun pins s σ H Q I h => ?_⟩
  refine wpAny_Call_Name_kw (ld_glob I hg D.g ?_ hdb)
  refine PySem.W.callWith_K (h₀ := X.base) I.ok.mod.kin D.fn.kp (thn (ha.run pos pins s σ H _ I h) fun us s1 ⟨vs, H1, I1, r, q⟩ => ⟨I1.kIn, ?_⟩) he hpl
  exact run_fnG F hgd hr D.bd pass0 I1 r (by have q2 : sp (vs ++ []) H1 Q E0 := q; rw [List.append_nil] at q2; exact q2)
end
end Lw
namespace Lw
open PySem PySem.Spec PyProof.Rows L2 XV TL XM
section
variable {X : Cx}
/-- repr of a list or a tuple of plain data, no repr under way -/
theorem call_reprD (hg : X.A.guards = some []) (hu : X.A.units + 66 < cLine) : CallR X (.builtin "repr") (fun xs H Q => ∃ a d, xs = [.ref a] ∧ Dp X.K H (.ref a) d ∧ d.showable = true ∧ SeqAt.shaped d = true ∧ d.shown.length ≤ sizeLine ∧ Q (.str d.shown) H) := by
  intro pins s σ H xs us Q I r h
  obtain ⟨a, d, rfl, hd, hs, hsh, hsz, q⟩ := h
  obtain ⟨u, rfl, ru⟩ : ∃ u, us = [u] ∧ RelV (.ref a) u := by
    cases r with
    | cons a b => cases b; exact ⟨_, rfl, a⟩
  obtain ⟨as, rd⟩ := Dp.reads I d _ _ hd ru
  cases ru
  have hdep := SeqAt.depth_of_shaped hsh
  exact PySem.repr_of_reads' rd hs (PyData.noDict_hsm (PyData.hasDict_of_canLay d (SeqAt.canLay_of_shaped hsh))) hg (by omega) (fun _ _ h => h) (fun h' t tk hk => ⟨.str d.shown, H, I.kept hk, ⟨_, rfl⟩, q⟩) hsz
end
end Lw
namespace Lw
open PySem PySem.Spec PyProof.Rows L2 XV TL XM
theorem RawVs.perm {M : Hp} {xs ys : List V} {ps : List Pr} (h : RawVs M xs ps) (p : ys.Perm xs) : RawVs M ys (ys.map (keyIn M)) := by
  refine ⟨by rw [List.length_map], fun i x hx => ?_⟩
  obtain ⟨t, rfl, c⟩ := h.mem (p.subset (List.mem_of_getElem? hx))
  exact ⟨t, keyIn M (.ref t), by rw [List.getElem?_map, hx]; rfl, rfl, c⟩
theorem del_tup {M : Hp} {D t : Addr} {xs acc : List V} (hD : M D = some (.lst acc)) (h : M t = some (.tup xs)) : delH M D t = some (.tup xs) := by
  rw [delH_ne (fun e => by rw [e, hD] at h; cases h)]
  exact h
end Lw
namespace Lw
open PySem PySem.Spec PyProof.Rows L2 XV TL XM
section
variable {X : Cx}
/-- sorted of pairs or of numbers -/
theorem call_sortE : CallR X (.builtin "sorted") (fun xs H Q => rSortedPO X.K xs H Q ∨ rSortedI X.K xs H Q) := fun pins s σ H xs us Q I r h => h.elim (cr_sortedPO pins s σ H xs us Q I r) (cr_sortedI pins s σ H xs us Q I r)
end
end Lw
namespace Lw
open PySem PySem.Spec PyProof.Rows L2 XV TL XM
abbrev rTupOf (K : PySem.W.Frag) : List V → Hp → VK → Prop := fun xs H Q => ∃ p ys, xs = [V.ref p] ∧ ((SqL K H p ys ∧ ∀ l, H l = none → Q (.ref l) (upd H l (.tup ys))) ∨ (SqT K H p ys ∧ Q (.ref p) H))
abbrev rSortE (K : PySem.W.Frag) : List V → Hp → VK → Prop := fun xs H Q => rSortedPO K xs H Q ∨ rSortedI K xs H Q
/-- a def, its promise -/
structure Cl (P : Program) (w : World) (K : PySem.W.Frag) (mg : Str → Option Value) (base : Heap) (k : Nat) (nm : Str) (st : Stmt) (ps : List Str) (sp : Sp) : Prop where
  ex : ∃ f fd, Df K mg nm st ps f fd ∧ FnOk P w K mg base CX0 k f fd ps sp
theorem calC {X : Cx} {nm : Str} {st : Stmt} {ps : List Str} {k : Nat} {sp : Sp} {p pos : Pos} {e : Expr} {es : List Expr} {t : TA} (D : Cl X.prog X.w X.K X.mg X.base k nm st ps sp) (hr : Room k X.A) (ha : PA X (e :: es) t) (hg : Gl X nm := by rfl)
    (hdb : (nm == ("__debug__" : Str)) = false := by decide) (he : starEach (e :: es) X.env = (false, eval e X.env) :: starEach es X.env := by rfl) (hpl : (backTo pos (starEach es X.env)).any (·.1) = false := by rfl) : PE X (.Call (.Name nm p) (e :: es) [] pos) (tCall sp [] E0 t) := by
  obtain ⟨f, fd, d, g⟩ := D.ex
  exact cal d g hr ha hg hdb he hpl
/-- a def, its promise where no repr is under way -/
structure ClG (P : Program) (w : World) (K : PySem.W.Frag) (mg : Str → Option Value) (base : Heap) (k : Nat) (nm : Str) (st : Stmt) (ps : List Str) (sp : Sp) : Prop where
  ex : ∃ f fd, Df K mg nm st ps f fd ∧ FnOkG P w K mg base CX0 k f fd ps sp
theorem calG {X : Cx} {nm : Str} {st : Stmt} {ps : List Str} {k : Nat} {sp : Sp} {p pos : Pos} {e : Expr} {es : List Expr} {t : TA} (D : ClG X.prog X.w X.K X.mg X.base k nm st ps sp) (hgd : X.A.guards = some []) (hr : Room k X.A) (ha : PA X (e :: es) t) (hg : Gl X nm := by rfl)
    (hdb : (nm == ("__debug__" : Str)) = false := by decide) (he : starEach (e :: es) X.env = (false, eval e X.env) :: starEach es X.env := by rfl) (hpl : (backTo pos (starEach es X.env)).any (·.1) = false := by rfl) : PE X (.Call (.Name nm p) (e :: es) [] pos) (tCall sp [] E0 t) := by
  obtain ⟨f, fd, d, g⟩ := D.ex
  exact pe_callG d g hgd hr ha hg hdb he hpl
end Lw
namespace Lw
open PySem PySem.Spec PyProof.Rows L2 XV TL XM DO
abbrev sBadValue : Stmt := inClass (topOf "BadValue") 0
theorem scBadValue : FnScope ["self", "what"] ["self", "what"] (defScope sBadValue) := ⟨rfl, rfl, rfl, by decide +kernel, rfl, by decide +kernel, by decide +kernel⟩
theorem iniBadValue {P : Program} {w : World} {K : PySem.W.Frag} {mg : Str → Option Value} {base : Heap} {B newId : String} {tl : List Value} {C f : Addr} {fd : FuncData} (SF : StoreFacts B tl "object.__setattr__" "object") (D : XC K mg "BadValue" "BadValue.__init__" newId tl sBadValue ["what"] C f fd) : FnOk P w K mg base CX0 1 f fd ["self", "what"] (spIni C ["what"] "BadValue") := by
  refine D.F.ok scBadValue (fun vs H Q E h => ?_) (fun cdv A outer s H vs Q E hr h => ?_)
  · obtain ⟨a, xs, rfl, hl, _⟩ := h
    show xs.length + 1 = _
    rw [hl]
    rfl
  · obtain ⟨a, xs, rfl, hl, ha, k⟩ := h
    obtain ⟨x, rfl⟩ : ∃ x, xs = [x] := by
      match xs, hl with
      | [x], _ => exact ⟨x, rfl⟩
    refine ⟨_, pss_cons (ps_stx (C := C) SF D.T D.no (pv 0) (pv 1)) (pss_one (ps_stx (C := C) SF D.T D.no (pv 0) pe_str)), ?_⟩
    refine ⟨_, rfl, _, rfl, a, rfl, .inl ⟨ha, fun dx h1 h2 => ?_⟩⟩
    refine ⟨_, rfl, a, rfl, .inr ⟨dx, _, upd_same, by rw [upd_ne h2]; exact upd_same, by simp, ?_⟩⟩
    refine k dx _ h1 h2 (by rw [upd_ne h2.symm]; exact upd_same) upd_same fun b o nb h => ?_
    have nd : b ≠ dx := ne_of_none h h1
    rw [upd_ne nd, upd_ne nb, upd_ne nd]
    exact h
abbrev sUnlike : Stmt := inClass (topOf "Unlike") 0
theorem scUnlike : FnScope ["self", "what"] ["self", "what"] (defScope sUnlike) := ⟨rfl, rfl, rfl, by decide +kernel, rfl, by decide +kernel, by decide +kernel⟩
theorem iniUnlike {P : Program} {w : World} {K : PySem.W.Frag} {mg : Str → Option Value} {base : Heap} {B newId : String} {tl : List Value} {C f : Addr} {fd : FuncData} (SF : StoreFacts B tl "object.__setattr__" "object") (D : XC K mg "Unlike" "Unlike.__init__" newId tl sUnlike ["what"] C f fd) : FnOk P w K mg base CX0 1 f fd ["self", "what"] (spIni C ["what"] "Unlike") := by
  refine D.F.ok scUnlike (fun vs H Q E h => ?_) (fun cdv A outer s H vs Q E hr h => ?_)
  · obtain ⟨a, xs, rfl, hl, _⟩ := h
    show xs.length + 1 = _
    rw [hl]
    rfl
  · obtain ⟨a, xs, rfl, hl, ha, k⟩ := h
    obtain ⟨x, rfl⟩ : ∃ x, xs = [x] := by
      match xs, hl with
      | [x], _ => exact ⟨x, rfl⟩
    refine ⟨_, pss_cons (ps_stx (C := C) SF D.T D.no (pv 0) (pv 1)) (pss_one (ps_stx (C := C) SF D.T D.no (pv 0) pe_str)), ?_⟩
    refine ⟨_, rfl, _, rfl, a, rfl, .inl ⟨ha, fun dx h1 h2 => ?_⟩⟩
    refine ⟨_, rfl, a, rfl, .inr ⟨dx, _, upd_same, by rw [upd_ne h2]; exact upd_same, by simp, ?_⟩⟩
    refine k dx _ h1 h2 (by rw [upd_ne h2.symm]; exact upd_same) upd_same fun b o nb h => ?_
    have nd : b ≠ dx := ne_of_none h h1
    rw [upd_ne nd, upd_ne nb, upd_ne nd]
    exact h
abbrev tlV : List Value := [.type "ValueError", .type "Exception", .type "BaseException", .type "object"]
/-- where the own exception classes stand -/
structure CA where
  V : Addr
  U : Addr
  fV : Addr
  fU : Addr
  dV : FuncData
  dU : FuncData
structure Xs (K : PySem.W.Frag) (mg : Str → Option Value) (c : CA) : Prop where
  v : XC K mg "BadValue" "BadValue.__init__" "ValueError.__new__" tlV sBadValue ["what"] c.V c.fV c.dV
  u : XC K mg "Unlike" "Unlike.__init__" "ValueError.__new__" tlV sUnlike ["what"] c.U c.fU c.dU
/-- a BadValue comes out -/
def BadVE (c : CA) (H : Hp) (E : XK) (y : Str) : Prop := ∀ (d : Addr) (H' : Hp), H d = none → Same H H' → H' d = some (.xd (flds ["what"] "BadValue" [.str y])) → E (.ref c.V) (some d) H'
theorem badV_do {c : CA} {H H1 H2 : Hp} {E : XK} {y : Str} {a d t0 : Addr} (k : BadVE c H E y) (s : Same H H1) (m : MadeF c.V (flds ["what"] "BadValue" [.str y]) H1 H2 a d t0) : E (.ref c.V) (some d) (delH H2 a) := by
  refine k d _ (sN s m.nd) (fun b o h => ?_) (by rw [delH_ne m.da]; exact m.pd)
  have h1 := s _ _ h
  rw [delH_ne (ne_of_none h1 m.na)]
  exact m.sm _ _ h1
/-- a Unlike comes out -/
def UnlE (c : CA) (H : Hp) (E : XK) (y : Str) : Prop := ∀ (d : Addr) (H' : Hp), H d = none → Same H H' → H' d = some (.xd (flds ["what"] "Unlike" [.str y])) → E (.ref c.U) (some d) H'
theorem unl_do {c : CA} {H H1 H2 : Hp} {E : XK} {y : Str} {a d t0 : Addr} (k : UnlE c H E y) (s : Same H H1) (m : MadeF c.U (flds ["what"] "Unlike" [.str y]) H1 H2 a d t0) : E (.ref c.U) (some d) (delH H2 a) := by
  refine k d _ (sN s m.nd) (fun b o h => ?_) (by rw [delH_ne m.da]; exact m.pd)
  have h1 := s _ _ h
  rw [delH_ne (ne_of_none h1 m.na)]
  exact m.sm _ _ h1
section
variable {P : Program} {w : World} {K : PySem.W.Frag} {mg : Str → Option Value} {base : Heap}
theorem ps_badV {X : Cx} {c : CA} {W : WX} {e : Expr} {es : List Expr} {t : TA} {p pos pos' : Pos} (hc : X.calm = true) (hx : X.ex = []) (D : Xs X.K X.mg c) (hr : Room 2 X.A) (tk : Takes X W) (ha : PA X (e :: es) t) (hg : Gl X "BadValue" := by rfl)
    (he : starEach (e :: es) X.env = (false, eval e X.env) :: starEach es X.env := by rfl) (hpl : (backTo pos (starEach es X.env)).any (·.1) = false := by rfl) :
    PS X (.Raise (some (.Call (.Name "BadValue" p) (e :: es) [] pos)) none pos') (fun _ σ H => tRaiseV X.K X.H_0 (tMkx c.V (spIni c.V ["what"] "BadValue") t) σ H fun cls d H' => W cls d σ H') :=
  ps_raise hc tk (pmk_val rfl rfl hx (pe_mkx PySem.F.excBase_ValueError D.v.T D.v.iC D.v.tI (iniBadValue (base := X.base) PySem.F.store_ValueError D.v) hr D.v.bd pass0 hg D.v.g ha (by decide) he hpl))
theorem ps_unl {X : Cx} {c : CA} {W : WX} {e : Expr} {es : List Expr} {t : TA} {p pos pos' : Pos} (hc : X.calm = true) (hx : X.ex = []) (D : Xs X.K X.mg c) (hr : Room 2 X.A) (tk : Takes X W) (ha : PA X (e :: es) t) (hg : Gl X "Unlike" := by rfl)
    (he : starEach (e :: es) X.env = (false, eval e X.env) :: starEach es X.env := by rfl) (hpl : (backTo pos (starEach es X.env)).any (·.1) = false := by rfl) :
    PS X (.Raise (some (.Call (.Name "Unlike" p) (e :: es) [] pos)) none pos') (fun _ σ H => tRaiseV X.K X.H_0 (tMkx c.U (spIni c.U ["what"] "Unlike") t) σ H fun cls d H' => W cls d σ H') :=
  ps_raise hc tk (pmk_val rfl rfl hx (pe_mkx PySem.F.excBase_ValueError D.u.T D.u.iC D.u.tI (iniUnlike (base := X.base) PySem.F.store_ValueError D.u) hr D.u.bd pass0 hg D.u.g ha (by decide) he hpl))
end
end Lw
namespace Lw
open PySem PySem.Spec PyProof.Rows L2 XV TL XM
abbrev sCheck : Stmt := topOf "check_pairs"
abbrev Ncheck : List Str := ["what", "pairs", "low", "high"]
theorem scCheck : FnScope Ncheck ["what", "pairs"] (defScope sCheck) := ⟨rfl, rfl, rfl, by decide +kernel, rfl, by decide +kernel, by decide +kernel⟩
def spCheck (K : PySem.W.Frag) (c : CA) : Sp := fun vs H Q E => ∃ (y : Str) (a : Addr) (ps : List Pr), vs = [.str y, .ref a] ∧ PairsAt K H a ps ∧ (ps.any wrongP = true → BadVE c H E y) ∧ (ps.any wrongP = false → ∀ H', Same H H' → Q .non H')
end Lw
namespace Lw
open PySem PySem.Spec PyProof.Rows L2 XV TL XM
section
variable {P : Program} {w : World} {K : PySem.W.Frag} {mg : Str → Option Value} {base : Heap}
theorem ok_check {f : Addr} {fd : FuncData} {c : CA} (F : Fun K "check_pairs" "check_pairs" sCheck f fd) (T : Bt mg) (D : Xs K mg c) : FnOk P w K mg base (L2.CX P w) 3 f fd ["what", "pairs"] (spCheck K c) := by
  refine F.okX scCheck (fun vs H Q E h => ?_) (fun cdv A outer s H vs Q E hr h => ?_)
  · obtain ⟨y, a, ps, rfl, _⟩ := h
    rfl
  · obtain ⟨y, a, ps, rfl, ⟨xs, ha, hx⟩, kB, kN⟩ := h
    refine ⟨_, pss_one (ps_for (passes_of rfl) rfl (pi_either (pv 1)) (pg_tup rfl (pgs_cons (pg_name (i := 2) scCheck.nd rfl (Or.inl rfl)) (pgs_cons (pg_name (i := 3) scCheck.nd rfl (Or.inl rfl)) (pgs_nil))))
 (pss_one (ps_if (pt_cmpR op_ge (pv 2) (pv 3) (nomark _))
 (pss_one (ps_badV rfl rfl D (hr.mono (by decide)) (takes_of rfl rfl rfl rfl) (by exact (pa_cons (pv 0) pa_nil))))
 (pss_nil)))), ?_⟩
    rcases ha with ha | ha
    · refine .inl ⟨_, rfl, a, rfl, ⟨_, ha⟩, for_list (K := K) (a := a) (xs := xs) (fun i σ H2 => ∃ x2 x3 : Option V, σ = [some (.str y), some (.ref a), x2, x3] ∧ Same H H2 ∧ ∀ (j : Nat) (p : Pr), j < i → ps[j]? = some p → wrongP p = false) ⟨none, none, rfl, Same.refl _, fun j l h => absurd h (Nat.not_lt_zero _)⟩ (fun i σ H2 _ h => ?_) ?_ ?_⟩
      · obtain ⟨_, _, _, s, _⟩ := h
        exact s.seq ha
      · rintro i x σ H2 hi ⟨x2, x3, rfl, s2, o2⟩
        obtain ⟨t, p, hp, rfl, ht⟩ := hx.2 i x hi
        refine ⟨t, _, rfl, sqT_mono s2 ht, rfl, _, _, rfl, _, _, rfl, rfl, ?_⟩
        refine ⟨_, rfl, _, rfl, _, _, rfl, rfl, _, rfl, ite_b (fun c1 => ?_) (fun c1 => ?_)⟩
        · have hw : wrongP p = true := c1
          have hb := kB (List.any_eq_true.mpr ⟨p, List.mem_of_getElem? hp, hw⟩)
          refine ⟨_, rfl, (by show 1 ≤ 1000; decide), fun a1 ha1 => mk_ini (C := c.V) (ns := ["what"]) (code := "BadValue") (vs := [.str y]) rfl ha1 fun d1 h1 e1 g1 hda1 mf1 => ⟨rfl, d1, _, e1, g1, hda1, fun u1 => ?_⟩⟩
          exact ⟨a1, c.V, d1, u1, rfl, (mf1 u1).pa, fr0_none (sN s2 ha1), D.v.T.exC, D.v.T.tyC, badV_do hb s2 (mf1 u1)⟩
        · refine ⟨_, _, rfl, s2, fun j q hj hq => ?_⟩
          by_cases c : j < i
          · exact o2 j q c hq
          · have : j = i := by omega
            subst this
            cases hp.symm.trans hq
            exact c1
      · rintro σ H2 ⟨x2, x3, rfl, s2, o2⟩
        refine kN ?_ H2 s2
        rw [List.any_eq_false]
        intro p hp
        obtain ⟨j, hj⟩ := List.mem_iff_getElem?.mp hp
        have := o2 j p (by rw [hx.1]; exact (List.getElem?_eq_some_iff.mp hj).1) hj
        rw [this]
        exact Bool.false_ne_true
    · refine .inr ⟨_, rfl, a, rfl, ⟨_, ha⟩, for_tup (K := K) (a := a) (xs := xs) (fun i σ H2 => ∃ x2 x3 : Option V, σ = [some (.str y), some (.ref a), x2, x3] ∧ Same H H2 ∧ ∀ (j : Nat) (p : Pr), j < i → ps[j]? = some p → wrongP p = false) ⟨none, none, rfl, Same.refl _, fun j l h => absurd h (Nat.not_lt_zero _)⟩ (fun i σ H2 _ h => ?_) ?_ ?_⟩
      · obtain ⟨_, _, _, s, _⟩ := h
        exact sqT_mono s ha
      · rintro i x σ H2 hi ⟨x2, x3, rfl, s2, o2⟩
        obtain ⟨t, p, hp, rfl, ht⟩ := hx.2 i x hi
        refine ⟨t, _, rfl, sqT_mono s2 ht, rfl, _, _, rfl, _, _, rfl, rfl, ?_⟩
        refine ⟨_, rfl, _, rfl, _, _, rfl, rfl, _, rfl, ite_b (fun c1 => ?_) (fun c1 => ?_)⟩
        · have hw : wrongP p = true := c1
          have hb := kB (List.any_eq_true.mpr ⟨p, List.mem_of_getElem? hp, hw⟩)
          refine ⟨_, rfl, (by show 1 ≤ 1000; decide), fun a1 ha1 => mk_ini (C := c.V) (ns := ["what"]) (code := "BadValue") (vs := [.str y]) rfl ha1 fun d1 h1 e1 g1 hda1 mf1 => ⟨rfl, d1, _, e1, g1, hda1, fun u1 => ?_⟩⟩
          exact ⟨a1, c.V, d1, u1, rfl, (mf1 u1).pa, fr0_none (sN s2 ha1), D.v.T.exC, D.v.T.tyC, badV_do hb s2 (mf1 u1)⟩
        · refine ⟨_, _, rfl, s2, fun j q hj hq => ?_⟩
          by_cases c : j < i
          · exact o2 j q c hq
          · have : j = i := by omega
            subst this
            cases hp.symm.trans hq
            exact c1
      · rintro σ H2 ⟨x2, x3, rfl, s2, o2⟩
        refine kN ?_ H2 s2
        rw [List.any_eq_false]
        intro p hp
        obtain ⟨j, hj⟩ := List.mem_iff_getElem?.mp hp
        have := o2 j p (by rw [hx.1]; exact (List.getElem?_eq_some_iff.mp hj).1) hj
        rw [this]
        exact Bool.false_ne_true
end
end Lw
namespace Lw
open PySem PySem.Spec PyProof.Rows L2 XV TL XM
/-- the attributes of a Lives -/
def lf (h s l : Addr) (lo hi n : Int) : List (Str × V) := putF "handles" (.int n) (putF "highest" (.int hi) (putF "lowest" (.int lo) (putF "loose" (.ref l) (putF "summits" (.ref s) (putF "hollows" (.ref h) [])))))
theorem nS {a b : String} (h : (Str.ofString a == Str.ofString b) = false) : ¬ (Str.ofString a = Str.ofString b) := fun e => by
  rw [e] at h
  simp at h
theorem lf_hollows {h s l : Addr} {lo hi n : Int} : (lf h s l lo hi n).lookup ("hollows" : Str) = some (.ref h) := by
  unfold lf
  rw [lookup_putF, if_neg (by decide +kernel), lookup_putF, if_neg (by decide +kernel), lookup_putF, if_neg (by decide +kernel), lookup_putF, if_neg (by decide +kernel), lookup_putF, if_neg (by decide +kernel), lookup_putF, if_pos rfl]
theorem lf_summits {h s l : Addr} {lo hi n : Int} : (lf h s l lo hi n).lookup ("summits" : Str) = some (.ref s) := by
  unfold lf
  rw [lookup_putF, if_neg (by decide +kernel), lookup_putF, if_neg (by decide +kernel), lookup_putF, if_neg (by decide +kernel), lookup_putF, if_neg (by decide +kernel), lookup_putF, if_pos rfl]
theorem lf_loose {h s l : Addr} {lo hi n : Int} : (lf h s l lo hi n).lookup ("loose" : Str) = some (.ref l) := by
  unfold lf
  rw [lookup_putF, if_neg (by decide +kernel), lookup_putF, if_neg (by decide +kernel), lookup_putF, if_neg (by decide +kernel), lookup_putF, if_pos rfl]
theorem lf_lowest {h s l : Addr} {lo hi n : Int} : (lf h s l lo hi n).lookup ("lowest" : Str) = some (.int lo) := by
  unfold lf
  rw [lookup_putF, if_neg (by decide +kernel), lookup_putF, if_neg (by decide +kernel), lookup_putF, if_pos rfl]
theorem lf_highest {h s l : Addr} {lo hi n : Int} : (lf h s l lo hi n).lookup ("highest" : Str) = some (.int hi) := by
  unfold lf
  rw [lookup_putF, if_neg (by decide +kernel), lookup_putF, if_pos rfl]
theorem lf_handles {h s l : Addr} {lo hi n : Int} : (lf h s l lo hi n).lookup ("handles" : Str) = some (.int n) := by
  unfold lf
  rw [lookup_putF, if_pos rfl]
structure LivesAt (K : PySem.W.Frag) (C : Addr) (M : Hp) (p : Addr) (hs ss : List Pr) (ls : List Int) (lo hi : Int) : Prop where
  ex : ∃ (dx h s l : Addr) (xs ys : List V), M p = some (.ins C dx (lf h s l lo hi ls.length)) ∧ M h = some (.tup xs) ∧ M s = some (.tup ys) ∧ M l = some (.tup (ls.map V.int)) ∧ PairVs K M xs hs ∧ PairVs K M ys ss
def tPairs (K : PySem.W.Frag) (i : Nat) : TE := tCB (fun xs H Q => ∃ p ys, xs = [V.ref p] ∧ ((SqL K H p ys ∧ ∀ l, H l = none → Q (.ref l) (upd H l (.tup ys))) ∨ (SqT K H p ys ∧ Q (.ref p) H))) (tCons (tCB (rSortedPO K) (tCons (tLc (iEither K (tVar i)) (gTup K 2 (gCons (gName 6) (gCons (gName 7) gNil))) tYes (tTup (tCons (tVar 6) (tCons (tVar 7) tNil))) [6, 7]) tNil)) tNil)
theorem pairs_do {K : PySem.W.Frag} {H : Hp} {Q : VK} {σ : L2.St} {u0 u1 u2 u3 u4 u5 : Option V} {i : Nat} {a : Addr} {ps : List Pr} (hσ : σ = [u0, u1, u2, u3, u4, u5, none, none]) (hi : σ[i]? = some (some (.ref a))) (h : PairsAt K H a ps) (hl : ps.length ≤ 100000)
    (k : ∀ (t : Addr) (ys : List V) (hs : List Pr) (H' : Hp), Same H H' → H t = none → SortP ps hs → H' t = some (.tup ys) → PairVs K H' ys hs → Q (.ref t) H') : tPairs K i σ H Q := by
  subst hσ
  obtain ⟨xs, ha, hx⟩ := h
  rcases ha with ha | ha
  · refine .inl ⟨_, hi, a, rfl, ⟨_, ha⟩, fun D hD => lc_list (K := K) (a := a) (xs := xs) (fun i H2 => Same H H2 ∧ ∃ zs : List V, H2 D = some (.lst zs) ∧ zs.length = i ∧ ∀ (j : Nat) (z : V), zs[j]? = some z → ∃ (t : Addr) (p : Pr), ps[j]? = some p ∧ z = .ref t ∧ t ≠ D ∧ H2 t = some (.tup [.int p.1, .int p.2])) ⟨same_new hD, [], upd_same, rfl, fun j z h => by cases h⟩ (fun i H2 _ h => h.1.seq ha) ?_ ?_⟩
    · rintro i x H2 hxi ⟨s2, zs, e2, l2, o2⟩
      obtain ⟨t, p, hp, rfl, ht⟩ := hx.2 i x hxi
      have hil := (List.getElem?_eq_some_iff.mp hp).1
      refine ⟨t, _, rfl, sqT_mono s2 ht, rfl, _, _, rfl, _, _, rfl, rfl, rfl, _, rfl, _, rfl, (by show 2 ≤ sizeLine; decide), fun q hq => ?_⟩
      have s3 := same_new (o := .tup [.int p.1, .int p.2]) hq
      refine ⟨zs, s3 _ _ e2, by rw [sizeLine_eq]; omega, fun b o h => ?_, zs ++ [.ref q], upd_same, by rw [List.length_append, l2]; rfl, fun j z hz => ?_⟩
      · rw [upd_ne (ne_of_none h hD)]
        exact s3 _ _ (s2 _ _ h)
      · by_cases c : j < zs.length
        · rw [List.getElem?_append_left c] at hz
          obtain ⟨t', p', a1, a2, a3, a4⟩ := o2 j z hz
          exact ⟨t', p', a1, a2, a3, by rw [upd_ne a3]; exact s3 _ _ a4⟩
        · rw [List.getElem?_append_right (by omega)] at hz
          have hj0 : j - zs.length = 0 := by
            have := (List.getElem?_eq_some_iff.mp hz).1
            simp at this
            omega
          rw [hj0] at hz
          cases hz
          have : j = i := by omega
          subst this
          have nq : q ≠ D := fun e => by rw [e, e2] at hq; cases hq
          exact ⟨q, p, hp, rfl, nq, by rw [upd_ne nq]; exact upd_same⟩
    · rintro H2 ⟨s2, zs, e2, l2, o2⟩
      have raw : RawVs H2 zs ps := ⟨by rw [l2, hx.1], fun j z hz => by
        obtain ⟨t, p, a1, a2, _, a4⟩ := o2 j z hz
        exact ⟨t, p, a1, a2, a4⟩⟩
      refine ⟨D, zs, keyIn H2, rfl, SqL.of e2, fun z hz => raw.mem hz, fun ys p h1 h2 hp => ⟨p, ys, rfl, .inl ⟨SqL.of upd_same, fun t ht => ?_⟩⟩⟩
      have s3 := same_new (o := .lst ys) hp
      have s4 := Same.trans s3 (same_new (o := .tup ys) ht)
      exact k t ys (ys.map (keyIn H2)) _ (Same.trans s2 s4) (sN s2 (sN s3 ht)) (sort_keys raw.keys h1 h2) upd_same ((raw.sorted h2.perm).mono s4)
  · refine .inr ⟨_, hi, a, rfl, ⟨_, ha⟩, fun D hD => lc_tup (K := K) (a := a) (xs := xs) (fun i H2 => Same H H2 ∧ ∃ zs : List V, H2 D = some (.lst zs) ∧ zs.length = i ∧ ∀ (j : Nat) (z : V), zs[j]? = some z → ∃ (t : Addr) (p : Pr), ps[j]? = some p ∧ z = .ref t ∧ t ≠ D ∧ H2 t = some (.tup [.int p.1, .int p.2])) ⟨same_new hD, [], upd_same, rfl, fun j z h => by cases h⟩ (fun i H2 _ h => sqT_mono h.1 ha) ?_ ?_⟩
    · rintro i x H2 hxi ⟨s2, zs, e2, l2, o2⟩
      obtain ⟨t, p, hp, rfl, ht⟩ := hx.2 i x hxi
      have hil := (List.getElem?_eq_some_iff.mp hp).1
      refine ⟨t, _, rfl, sqT_mono s2 ht, rfl, _, _, rfl, _, _, rfl, rfl, rfl, _, rfl, _, rfl, (by show 2 ≤ sizeLine; decide), fun q hq => ?_⟩
      have s3 := same_new (o := .tup [.int p.1, .int p.2]) hq
      refine ⟨zs, s3 _ _ e2, by rw [sizeLine_eq]; omega, fun b o h => ?_, zs ++ [.ref q], upd_same, by rw [List.length_append, l2]; rfl, fun j z hz => ?_⟩
      · rw [upd_ne (ne_of_none h hD)]
        exact s3 _ _ (s2 _ _ h)
      · by_cases c : j < zs.length
        · rw [List.getElem?_append_left c] at hz
          obtain ⟨t', p', a1, a2, a3, a4⟩ := o2 j z hz
          exact ⟨t', p', a1, a2, a3, by rw [upd_ne a3]; exact s3 _ _ a4⟩
        · rw [List.getElem?_append_right (by omega)] at hz
          have hj0 : j - zs.length = 0 := by
            have := (List.getElem?_eq_some_iff.mp hz).1
            simp at this
            omega
          rw [hj0] at hz
          cases hz
          have : j = i := by omega
          subst this
          have nq : q ≠ D := fun e => by rw [e, e2] at hq; cases hq
          exact ⟨q, p, hp, rfl, nq, by rw [upd_ne nq]; exact upd_same⟩
    · rintro H2 ⟨s2, zs, e2, l2, o2⟩
      have raw : RawVs H2 zs ps := ⟨by rw [l2, hx.1], fun j z hz => by
        obtain ⟨t, p, a1, a2, _, a4⟩ := o2 j z hz
        exact ⟨t, p, a1, a2, a4⟩⟩
      refine ⟨D, zs, keyIn H2, rfl, SqL.of e2, fun z hz => raw.mem hz, fun ys p h1 h2 hp => ⟨p, ys, rfl, .inl ⟨SqL.of upd_same, fun t ht => ?_⟩⟩⟩
      have s3 := same_new (o := .lst ys) hp
      have s4 := Same.trans s3 (same_new (o := .tup ys) ht)
      exact k t ys (ys.map (keyIn H2)) _ (Same.trans s2 s4) (sN s2 (sN s3 ht)) (sort_keys raw.keys h1 h2) upd_same ((raw.sorted h2.perm).mono s4)
structure LCls (K : PySem.W.Frag) (C : Addr) : Prop where
  cl : Cls K C
  nH : NoAttr K C "hollows"
  nS : NoAttr K C "summits"
  nL : NoAttr K C "loose"
  nlo : NoAttr K C "lowest"
  nhi : NoAttr K C "highest"
  nha : NoAttr K C "handles"
/-- lists and tuples stay -/
structure Keeps (H H' : Hp) : Prop where
  l : ∀ a xs, H a = some (.lst xs) → H' a = some (.lst xs)
  t : ∀ a xs, H a = some (.tup xs) → H' a = some (.tup xs)
  f : ∀ a o u, H a = some (.frz o u) → H' a = some (.frz o u)
theorem Keeps.of {H H' : Hp} (s : Same H H') : Keeps H H' := ⟨fun _ _ h => s _ _ h, fun _ _ h => s _ _ h, fun _ _ _ h => s _ _ h⟩
theorem Keeps.trans {H H' H'' : Hp} (s : Keeps H H') (r : Keeps H' H'') : Keeps H H'' := ⟨fun _ _ h => r.l _ _ (s.l _ _ h), fun _ _ h => r.t _ _ (s.t _ _ h), fun _ _ _ h => r.f _ _ _ (s.f _ _ _ h)⟩
theorem Keeps.ins {H : Hp} {p C dx : Addr} {fs : List (Str × V)} {o : HO} (h : H p = some (.ins C dx fs)) : Keeps H (upd H p o) :=
  ⟨fun a xs e => by rw [upd_ne (ne_of e h (by intro z; cases z))]; exact e, fun a xs e => by rw [upd_ne (ne_of e h (by intro z; cases z))]; exact e, fun a u v e => by rw [upd_ne (ne_of e h (by intro z; cases z))]; exact e⟩
theorem Keeps.sqL {K : PySem.W.Frag} {H H' : Hp} (s : Keeps H H') {a : Addr} {xs : List V} (h : SqL K H a xs) : SqL K H' a xs := by
  rcases h with (h | ⟨o, h⟩) | h
  · exact .inl (.inl (s.l _ _ h))
  · exact .inl (.inr ⟨o, s.f _ _ _ h⟩)
  · exact .inr h
theorem Keeps.sqT {K : PySem.W.Frag} {H H' : Hp} (s : Keeps H H') {a : Addr} {xs : List V} (h : SqT K H a xs) : SqT K H' a xs := by
  rcases h with (h | ⟨o, h⟩) | h
  · exact .inl (.inl (s.t _ _ h))
  · exact .inl (.inr ⟨o, s.f _ _ _ h⟩)
  · exact .inr h
theorem Keeps.pv {K : PySem.W.Frag} {H H' : Hp} (s : Keeps H H') {xs : List V} {ps : List Pr} (h : PairVs K H xs ps) : PairVs K H' xs ps := ⟨h.1, fun i x hx => by
  obtain ⟨t, p, a, b, c⟩ := h.2 i x hx
  exact ⟨t, p, a, b, s.sqT c⟩⟩
theorem Keeps.pa {K : PySem.W.Frag} {H H' : Hp} (s : Keeps H H') {a : Addr} {ps : List Pr} (h : PairsAt K H a ps) : PairsAt K H' a ps := by
  obtain ⟨xs, h1, h2⟩ := h
  exact ⟨xs, h1.elim (fun h => .inl (s.sqL h)) (fun h => .inr (s.sqT h)), s.pv h2⟩
theorem fld_go {K : PySem.W.Frag} {ta tv : TE} {f : Str} {u : TS} {D : Ends} {σ : L2.St} {H : Hp} (h : tv σ H fun y H1 => ta σ H1 fun x H2 => ∃ a C dx fs, x = .ref a ∧ H2 a = some (.ins C dx fs) ∧ Cls K C ∧ NoAttr K C f ∧ fs.length < 1000 ∧ u D σ (upd H2 a (.ins C dx (putF f y fs)))) : tSeq (sFld K ta tv f) u D σ H := h
theorem pl {f : Str} {v : V} {fs : List (Str × V)} {n : Nat} (h : fs.length ≤ n) : (putF f v fs).length ≤ n + 1 := Nat.le_trans (length_putF f v fs) (Nat.succ_le_succ h)
abbrev sInitL : Stmt := inClass (topOf "Lives") 0
abbrev NinitL : List Str := ["self", "hollows", "summits", "loose", "lowest", "highest", "low", "high"]
theorem scInitL : FnScope NinitL ["self", "hollows", "summits", "loose", "lowest", "highest"] (defScope sInitL) := ⟨rfl, rfl, rfl, by decide +kernel, rfl, by decide +kernel, by decide +kernel⟩
def spInitL (K : PySem.W.Frag) (c : CA) (C : Addr) : Sp := fun vs H Q E => ∃ (p dx a b l : Addr) (ps qs : List Pr) (ls : List Int) (lo hi : Int), vs = [.ref p, .ref a, .ref b, .ref l, .int lo, .int hi] ∧ H p = some (.ins C dx []) ∧ PairsAt K H a ps ∧ PairsAt K H b qs ∧ SqL K H l (ls.map V.int) ∧ ps.length ≤ 100000 ∧ qs.length ≤ 100000 ∧
  (ps.any wrongP = true → BadVE c H E "hollows") ∧ (ps.any wrongP = false → qs.any wrongP = true → BadVE c H E "summits") ∧
  (ps.any wrongP = false → qs.any wrongP = false → ∀ (H' : Hp) (hs ss : List Pr) (li : List Int), SortP ps hs → SortP qs ss → SortI ls li → LivesAt K C H' p hs ss li lo hi → (∀ b o, b ≠ p → H b = some o → H' b = some o) → Q .non H')
end Lw
namespace Lw
open PySem PySem.Spec PyProof.Rows L2 XV TL XM
section
variable {P : Program} {w : World} {K : PySem.W.Frag} {mg : Str → Option Value} {base : Heap}
theorem ok_initL {f fC C : Addr} {fd fdC : FuncData} {c : CA} (F : Fun K "__init__" "Lives.__init__" sInitL f fd) (T : Bt mg) (D : Xs K mg c) (L : LCls K C) (D_check : Df K mg "check_pairs" sCheck ["what", "pairs"] fC fdC) : FnOk P w K mg base (L2.CX P w) 4 f fd ["self", "hollows", "summits", "loose", "lowest", "highest"] (spInitL K c C) := by
  have G_check : FnOk P w K mg base (L2.CX P w) 3 fC fdC ["what", "pairs"] (spCheck K c) := ok_check D_check.fn T D
  refine F.okX scInitL (fun vs H Q E h => ?_) (fun cdv A outer s H vs Q E hr h => ?_)
  · obtain ⟨p, dx, a, b, l, ps, qs, ls, lo, hi, rfl, _⟩ := h
    rfl
  · obtain ⟨p, dx, a, b, l, ps, qs, ls, lo, hi, rfl, hp, hA, hB, hL, lA, lB, k1, k2, k3⟩ := h
    refine ⟨_, pss_cons (ps_expr (by exact (calS D_check G_check (hr.mono (by decide)) (fun σ => passAt (takes_of rfl rfl rfl rfl) σ) (by exact (pa_cons (pe_str) (pa_cons (pv 1) pa_nil))))))
 (pss_cons (ps_expr (by exact (calS D_check G_check (hr.mono (by decide)) (fun σ => passAt (takes_of rfl rfl rfl rfl) σ) (by exact (pa_cons (pe_str) (pa_cons (pv 2) pa_nil))))))
 (pss_cons (ps_fld (tv := tPairs K 1) (pv 0) (pe_callTy call_tuple_of (by rfl) T.tuple (by decide +kernel) (pa_cons (pe_callB cr_sortedPO (by rfl) T.sorted (by decide +kernel) (pa_cons (pe_lc (own := [("low", 6), ("high", 7)]) (g := gTup K 2 (gCons (gName 6) (gCons (gName 7) gNil))) (tt := tYes) rfl scInitL.nd (pi_either (pv 1)) (blkOk_by (N := NinitL) (sc := defScope sInitL) (by decide +kernel)) (fun _ _ _ _ _ => pg_tup rfl (pgs_cons (pg_name (i := 6) scInitL.nd rfl (Or.inl rfl)) (pgs_cons (pg_name (i := 7) scInitL.nd rfl (Or.inl rfl)) (pgs_nil)))) (fun _ _ _ _ _ => pts_nil) (fun _ _ _ _ _ => pe_tup (pa_cons (pv 6) (pa_cons (pv 7) pa_nil)))) pa_nil)) pa_nil)) rfl)
 (pss_cons (ps_fld (tv := tPairs K 2) (pv 0) (pe_callTy call_tuple_of (by rfl) T.tuple (by decide +kernel) (pa_cons (pe_callB cr_sortedPO (by rfl) T.sorted (by decide +kernel) (pa_cons (pe_lc (own := [("low", 6), ("high", 7)]) (g := gTup K 2 (gCons (gName 6) (gCons (gName 7) gNil))) (tt := tYes) rfl scInitL.nd (pi_either (pv 2)) (blkOk_by (N := NinitL) (sc := defScope sInitL) (by decide +kernel)) (fun _ _ _ _ _ => pg_tup rfl (pgs_cons (pg_name (i := 6) scInitL.nd rfl (Or.inl rfl)) (pgs_cons (pg_name (i := 7) scInitL.nd rfl (Or.inl rfl)) (pgs_nil)))) (fun _ _ _ _ _ => pts_nil) (fun _ _ _ _ _ => pe_tup (pa_cons (pv 6) (pa_cons (pv 7) pa_nil)))) pa_nil)) pa_nil)) rfl)
 (pss_cons (ps_fld (pv 0) (pe_callTy call_tuple_of (by rfl) T.tuple (by decide +kernel) (pa_cons (pe_callB cr_sortedI (by rfl) T.sorted (by decide +kernel) (pa_cons (pe_callTy call_listL (by rfl) T.list (by decide +kernel) (pa_cons (pv 3) pa_nil)) pa_nil)) pa_nil)) rfl)
 (pss_cons (ps_fld (pv 0) (pv 4) rfl)
 (pss_cons (ps_fld (pv 0) (pv 5) rfl)
 (pss_one (ps_fld (pv 0) (pe_callB call_len (by rfl) T.len (by decide +kernel) (pa_cons (pe_fld (pv 0) rfl) pa_nil)) rfl)))))))), ?_⟩
    refine ⟨_, rfl, "hollows", a, ps, rfl, hA, fun w => k1 w, fun n1 H1 s1 => ?_⟩
    refine ⟨_, rfl, "summits", b, qs, rfl, hB.mono s1, fun w d H' h1 h2 h3 => k2 n1 w d H' (sN s1 h1) (Same.trans s1 h2) h3, fun n2 H2 s2 => ?_⟩
    have s12 := Same.trans s1 s2
    -- hollows
    show tSeq (sFld K (tVar 0) (tPairs K 1) "hollows") _ _ [some (.ref p), some (.ref a), some (.ref b), some (.ref l), some (.int lo), some (.int hi), none, none] H2
    refine fld_go ?_
    refine pairs_do (u0 := some (.ref p)) (u1 := some (.ref a)) (u2 := some (.ref b)) (u3 := some (.ref l)) (u4 := some (.int lo)) (u5 := some (.int hi)) (i := 1) (a := a) rfl rfl (hA.mono s12) lA fun h xs hs H3 s3 ht3 so3 e3 v3 => ?_
    have s03 := Same.trans s12 s3
    have p3 := s03 _ _ hp
    refine ⟨_, rfl, p, C, dx, [], rfl, p3, L.cl, L.nH, (by decide), ?_⟩
    have q4 : upd H3 p (.ins C dx (putF "hollows" (.ref h) [])) p = some (.ins C dx (putF "hollows" (.ref h) [])) := upd_same
    have kp4 : Keeps H3 (upd H3 p (.ins C dx (putF "hollows" (.ref h) []))) := Keeps.ins p3
    have o4 : ∀ b o, b ≠ p → H b = some o → upd H3 p (.ins C dx (putF "hollows" (.ref h) [])) b = some o := fun b o nb e => by rw [upd_ne nb]; exact s03 _ _ e
    generalize upd H3 p (.ins C dx (putF "hollows" (.ref h) [])) = H4 at q4 kp4 o4 ⊢
    have kk4 := (Keeps.of s03).trans kp4
    -- summits
    show tSeq (sFld K (tVar 0) (tPairs K 2) "summits") _ _ [some (.ref p), some (.ref a), some (.ref b), some (.ref l), some (.int lo), some (.int hi), none, none] H4
    refine fld_go ?_
    refine pairs_do (u0 := some (.ref p)) (u1 := some (.ref a)) (u2 := some (.ref b)) (u3 := some (.ref l)) (u4 := some (.int lo)) (u5 := some (.int hi)) (i := 2) (a := b) rfl rfl (kk4.pa hB) lB fun s0 ys ss H5 s5 ht5 so5 e5 v5 => ?_
    have p5 := s5 _ _ q4
    refine ⟨_, rfl, p, C, dx, _, rfl, p5, L.cl, L.nS, Nat.lt_of_le_of_lt (pl (Nat.zero_le _ : ([] : List (Str × V)).length ≤ 0)) (by decide), ?_⟩
    have q6 : upd H5 p (.ins C dx (putF "summits" (.ref s0) (putF "hollows" (.ref h) []))) p = some (.ins C dx (putF "summits" (.ref s0) (putF "hollows" (.ref h) []))) := upd_same
    have kp6 : Keeps H5 (upd H5 p (.ins C dx (putF "summits" (.ref s0) (putF "hollows" (.ref h) [])))) := Keeps.ins p5
    have o6 : ∀ b o, b ≠ p → H b = some o → upd H5 p (.ins C dx (putF "summits" (.ref s0) (putF "hollows" (.ref h) []))) b = some o := fun b o nb e => by rw [upd_ne nb]; exact s5 _ _ (o4 b o nb e)
    generalize upd H5 p (.ins C dx (putF "summits" (.ref s0) (putF "hollows" (.ref h) []))) = H6 at q6 kp6 o6 ⊢
    have kk46 := (Keeps.of s5).trans kp6
    have kk6 := kk4.trans kk46
    -- loose
    refine ⟨_, rfl, l, _, rfl, kk6.sqL hL, fun l1 hl1 => ⟨l1, ls, rfl, SqL.of upd_same, fun li l2 pe2 so2 hl2 => ⟨l2, _, rfl, .inl ⟨SqL.of upd_same, fun l3 hl3 => ?_⟩⟩⟩⟩
    have s7 := Same.trans (same_new (o := .lst (ls.map V.int)) hl1) (Same.trans (same_new (o := .lst (li.map V.int)) hl2) (same_new (o := .tup (li.map V.int)) hl3))
    have e7 : upd (upd (upd H6 l1 (.lst (ls.map V.int))) l2 (.lst (li.map V.int))) l3 (.tup (li.map V.int)) l3 = some (.tup (li.map V.int)) := upd_same
    generalize upd (upd (upd H6 l1 (.lst (ls.map V.int))) l2 (.lst (li.map V.int))) l3 (.tup (li.map V.int)) = H7 at s7 e7 ⊢
    have p7 := s7 _ _ q6
    refine ⟨_, rfl, p, C, dx, _, rfl, p7, L.cl, L.nL, Nat.lt_of_le_of_lt (pl (pl (Nat.zero_le _ : ([] : List (Str × V)).length ≤ 0))) (by decide), ?_⟩
    have kp8 : ∀ o, Keeps H7 (upd H7 p o) := fun o => Keeps.ins p7
    -- lowest, highest, handles
    refine ⟨_, rfl, _, rfl, p, C, dx, _, rfl, upd_same, L.cl, L.nlo, Nat.lt_of_le_of_lt (pl (pl (pl (Nat.zero_le _ : ([] : List (Str × V)).length ≤ 0)))) (by decide), ?_⟩
    refine ⟨_, rfl, _, rfl, p, C, dx, _, rfl, upd_same, L.cl, L.nhi, Nat.lt_of_le_of_lt (pl (pl (pl (pl (Nat.zero_le _ : ([] : List (Str × V)).length ≤ 0))))) (by decide), ?_⟩
    have kl := Keeps.ins (o := .ins C dx (putF "loose" (.ref l3) (putF "summits" (.ref s0) (putF "hollows" (.ref h) [])))) p7
    have kl2 := kl.trans (Keeps.ins (o := .ins C dx (putF "lowest" (.int lo) (putF "loose" (.ref l3) (putF "summits" (.ref s0) (putF "hollows" (.ref h) []))))) upd_same)
    have kl3 := kl2.trans (Keeps.ins (o := .ins C dx (putF "highest" (.int hi) (putF "lowest" (.int lo) (putF "loose" (.ref l3) (putF "summits" (.ref s0) (putF "hollows" (.ref h) [])))))) upd_same)
    have el := kl3.t _ _ e7
    refine ⟨_, rfl, p, C, dx, _, .ref l3, rfl, upd_same, L.cl, L.nL, (by rw [lookup_putF, if_neg (by decide +kernel), lookup_putF, if_neg (by decide +kernel), lookup_putF, if_pos rfl]), _, (li.map V.int).length, rfl, .inr ⟨_, SqT.of el, rfl⟩, _, rfl, p, C, dx, _, rfl, upd_same, L.cl, L.nha, Nat.lt_of_le_of_lt (pl (pl (pl (pl (pl (Nat.zero_le _ : ([] : List (Str × V)).length ≤ 0)))))) (by decide), ?_⟩
    have kl4 := kl3.trans (Keeps.ins (o := .ins C dx (lf h s0 l3 lo hi li.length)) upd_same)
    have f7 := (Keeps.of s7).trans kl4
    have f6 := kk46.trans f7
    rw [List.length_map]
    refine k3 n1 n2 _ hs ss li so3 so5 ⟨pe2, so2⟩ ⟨dx, h, s0, l3, xs, ys, upd_same, (kp4.trans f6).t _ _ e3, (kp6.trans f7).t _ _ e5, kl4.t _ _ e7, (kp4.trans f6).pv v3, (kp6.trans f7).pv v5⟩ fun b o nb e => ?_
    rw [upd_ne nb, upd_ne nb, upd_ne nb, upd_ne nb]
    exact s7 _ _ (o6 b o nb e)
end
end Lw
namespace Lw
open PySem PySem.Spec PyProof.Rows L2 XV TL XM
/-- what a draw leaves -/
def spTake : Sp := fun vs H Q _ => ∃ (B : Bx) (n : Int), vs = [.ref B.b, .int n] ∧ BoxAt B H ∧ 0 < n ∧ n < 1000000000000 ∧ ∀ (d : Int) (H' : Hp), 0 ≤ d → d < n → Go B H H' → Q (.int d) H'
abbrev sTake : Stmt := topOf "_law_take"
abbrev Ntake : List Str := ["box", "limit", "cells", "here", "got", "small"]
theorem scTake : FnScope Ntake ["box", "limit"] (defScope sTake) := ⟨rfl, rfl, rfl, by decide +kernel, rfl, by decide +kernel, by decide +kernel⟩
end Lw
namespace Lw
open PySem PySem.Spec PyProof.Rows L2 XV TL XM
section
variable {P : Program} {w : World} {K : PySem.W.Frag} {mg : Str → Option Value} {base : Heap}
theorem ok_take {f : Addr} {fd : FuncData} (F : Fun K "_law_take" "_law_take" sTake f fd) (T : Bt mg) : FnOk P w K mg base CX0 1 f fd ["box", "limit"] spTake := by
  refine F.ok scTake (fun vs H Q E h => ?_) (fun cdv A outer s H vs Q E hr h => ?_)
  · obtain ⟨B, n, rfl, _⟩ := h
    rfl
  · obtain ⟨⟨b, l⟩, n, rfl, hB, n0, n1, k⟩ := h
    obtain ⟨i, m, c, h1, hi⟩ := hB.ex
    obtain ⟨ns, h2, hl⟩ := hB.ls
    have hne := hB.ne
    dsimp only at h1 h2 hne hl
    refine ⟨_, pss_cons (ps_par (i := 2) (j := 3) rfl scTake.nd rfl rfl (by decide) rfl rfl (pa_cons (pe_ix ix_list (pv 0) (pe_int) (fun _ _ => rfl)) (pa_cons (pe_ix ix_list (pv 0) (pe_int) (fun _ _ => rfl)) pa_nil)) (by rfl))
 (pss_mid (ps_if (PW.pt (pw_and (pt_cmpR op_lt (pv 3) (pe_callB call_lenL (by rfl) T.len (by decide +kernel) (pa_cons (pv 2) pa_nil)) (nomark _)) (pw_and1 (pt_cmpR op_ge (pe_ix ix_list (pv 2) (pv 3) (fun _ _ => rfl)) (pe_op op_pow (pe_int) (pe_int)) (nomark _)))))
 (pss_cons (ps_set (i := 4) scTake.nd rfl (Or.inl rfl) (pe_op op_mod (pe_callTy call_intI (by rfl) T.int (by decide +kernel) (pa_cons (pe_ix ix_list (pv 2) (pv 3) (fun _ _ => rfl)) pa_nil)) (pv 1)))
 (pss_cons (ps_asg (pe_op op_fdivW (pe_ix ix_list (pv 2) (pv 3) (fun _ _ => rfl)) (pv 1)) (pg_sub (pv 2) (pv 3) set_list))
 (pss_one (ps_ret (pv 4)))))
 (pss_nil))
 (pss_cons (ps_set (i := 5) scTake.nd rfl (Or.inl rfl) (pe_int))
 (pss_mid (ps_if (pt_cmpR op_lt (pv 3) (pe_callB call_lenL (by rfl) T.len (by decide +kernel) (pa_cons (pv 2) pa_nil)) (nomark _))
 (pss_one (ps_set (i := 5) scTake.nd rfl (Or.inl rfl) (pe_op op_mod (pe_callTy call_intI (by rfl) T.int (by decide +kernel) (pa_cons (pe_ix ix_list (pv 2) (pv 3) (fun _ _ => rfl)) pa_nil)) (pe_int))))
 (pss_nil))
 (pss_cons (ps_asg (pe_op op_add (pe_ix ix_list (pv 0) (pe_int) (fun _ _ => rfl)) (pe_int)) (pg_sub (pv 0) (pe_int) set_list))
 (pss_cons (ps_asg (pe_op op_mod (pe_callTy call_intI (by rfl) T.int (by decide +kernel) (pa_cons (pe_op op_add (pe_op op_add (pe_op op_add (pe_op op_mul (pe_ix ix_list (pv 0) (pe_int) (fun _ _ => rfl)) (pe_int)) (pe_op op_mul (pv 5) (pe_int))) (pe_op op_mul (pe_ix ix_list (pv 0) (pe_int) (fun _ _ => rfl)) (pe_int))) (pe_int)) pa_nil)) (pe_int)) (pg_sub (pv 0) (pe_int) set_list))
 (pss_mid (ps_if (pt_cmpR op_eq (pe_op op_mod (pe_callTy call_intI (by rfl) T.int (by decide +kernel) (pa_cons (pe_ix ix_list (pv 0) (pe_int) (fun _ _ => rfl)) pa_nil)) (pe_int)) (pe_int) (nomark _))
 (pss_one (ps_asg (pe_op op_add (pv 3) (pe_int)) (pg_sub (pv 0) (pe_int) set_list)))
 (pss_nil))
 (pss_one (ps_ret (pe_op op_mod (pe_callTy call_intI (by rfl) T.int (by decide +kernel) (pa_cons (pe_op op_fdiv (pe_op op_mod (pe_callTy call_intI (by rfl) T.int (by decide +kernel) (pa_cons (pe_op op_mul (pe_ix ix_list (pv 0) (pe_int) (fun _ _ => rfl)) (pe_int)) pa_nil)) (pe_int)) (pe_int)) pa_nil)) (pv 1)))))))))), ?_⟩
    refine ⟨_, rfl, b, _, 0, _, rfl, rfl, SqL.of h1, rfl, _, rfl, b, _, 1, _, rfl, rfl, SqL.of h1, rfl, _, _, rfl, ?_⟩
    have g1 := h1
    have g2 := h2
    have g3 : But ⟨b, l⟩ H H := But.refl _ _
    show tMid _ _ _ _ H
    generalize hH : H = H1 at g1 g2
    rw [hH] at k
    have g3 : But ⟨b, l⟩ H1 H1 := But.refl _ _
    have hz : i < ns.length → ∃ z, atI (ns.map V.int) i = some (V.int z) := fun hlt => by
      obtain ⟨z, hz⟩ : ∃ z, ns[i.toNat]? = some z := ⟨_, List.getElem?_eq_getElem (by omega)⟩
      refine ⟨z, ?_⟩
      have e : i = ((i.toNat : Nat) : Int) := by omega
      rw [e]
      exact atI_nat (by rw [List.getElem?_map, hz]; rfl)
    refine ⟨fun σ' H' => H' = H1 ∧ σ' = [some (.ref b), some (.int n), some (.ref l), some (.int i), none, none], ?_, ?_⟩
    · refine ⟨_, rfl, _, rfl, l, _, rfl, SqL.of g2, _, _, rfl, rfl, _, rfl, ite2 (fun c2 => ?_) (fun c2 => ?_)⟩
      · have c2' := of_decide_eq_true c2
        rw [List.length_map] at c2'
        obtain ⟨z, hz'⟩ := hz c2'
        refine ⟨_, rfl, _, rfl, l, _, i, _, rfl, rfl, SqL.of g2, hz', _, _, rfl, rfl, ⟨by decide, by decide, by decide⟩, _, _, rfl, rfl, _, rfl, ite2 (fun c3 => ?_) (fun c3 => ?_)⟩
        · have dv : CDivW z n := wide_div (b := 40) n0 (by have : (2 : Nat) ^ 40 = 1099511627776 := (by decide); omega) (by decide) (by decide)
          refine ⟨_, rfl, _, rfl, l, _, i, _, rfl, rfl, SqL.of g2, hz', _, rfl, _, rfl, _, _, rfl, rfl, n0, ?_⟩
          refine ⟨_, rfl, _, rfl, l, _, i, _, rfl, rfl, SqL.of g2, hz', _, rfl, _, _, rfl, rfl, dv, _, rfl, _, rfl, l, _, i, i.toNat, rfl, rfl, g2, ix_pos hi (by rw [List.length_map]; exact c2'), ?_⟩
          refine ⟨_, rfl, ?_⟩
          exact k _ _ (Int.emod_nonneg _ (by omega)) (Int.emod_lt_of_pos _ n0) ⟨But.updL (B := ⟨b, l⟩) g3, ⟨⟨i, m, c, by rw [upd_ne hne.symm]; exact g1, hi⟩, ⟨ns.set i.toNat _, by rw [upd_same, List.map_set], by rw [List.length_set]; exact hl⟩, hne⟩⟩
        · exact ⟨rfl, rfl⟩
      · exact iteF ⟨rfl, rfl⟩
    · rintro σ' H' ⟨rfl, rfl⟩
      refine ⟨fun σ2 H2 => H2 = H' ∧ ∃ sm : Int, σ2 = [some (.ref b), some (.int n), some (.ref l), some (.int i), none, some (.int sm)], ?_, ?_⟩
      · refine ⟨_, rfl, _, rfl, l, _, rfl, SqL.of g2, _, _, rfl, rfl, _, rfl, ite2 (fun c2 => ?_) (fun c2 => ?_)⟩
        · have c2' := of_decide_eq_true c2
          rw [List.length_map] at c2'
          obtain ⟨z, hz'⟩ := hz c2'
          exact ⟨_, rfl, _, rfl, l, _, i, _, rfl, rfl, SqL.of g2, hz', _, rfl, _, _, rfl, rfl, (by show (0 : Int) < 1000003; decide), rfl, _, rfl⟩
        · exact ⟨rfl, 0, rfl⟩
      · rintro σ2 H2 ⟨rfl, sm, rfl⟩
        refine ⟨_, rfl, b, _, 3, _, rfl, rfl, SqL.of g1, rfl, _, _, rfl, rfl, _, rfl, b, _, 3, 3, rfl, rfl, g1, rfl, ?_⟩
        have k1 : upd H2 b (boxO l i m (c + 1)) b = some (boxO l i m (c + 1)) := upd_same
        have k2 : upd H2 b (boxO l i m (c + 1)) l = some (.lst (ns.map V.int)) := by rw [upd_ne hne]; exact g2
        have k3 : But ⟨b, l⟩ _ (upd H2 b (boxO l i m (c + 1))) := But.updB (B := ⟨b, l⟩) g3
        show tSeq _ _ _ _ (upd H2 b (boxO l i m (c + 1)))
        generalize upd H2 b (boxO l i m (c + 1)) = H3 at k1 k2 k3 ⊢
        refine ⟨_, rfl, b, _, 2, _, rfl, rfl, SqL.of k1, rfl, _, _, rfl, rfl, .inr ⟨by decide, by decide⟩, _, rfl, _, _, rfl, rfl, .inr ⟨by decide, by decide⟩, _, _, rfl, rfl, _, rfl, b, _, 3, _, rfl, rfl, SqL.of k1, rfl, _, _, rfl, rfl, .inr ⟨by decide, by decide⟩, _, _, rfl, rfl, _, _, rfl, rfl, _, rfl, _, _, rfl, rfl, (by show (0 : Int) < 2147483647; decide), _, rfl, b, _, 2, 2, rfl, rfl, k1, rfl, ?_⟩
        have j1 : upd H3 b (boxO l i ((m * 48271 + sm * 69621 + (c + 1) * 7919 + 1) % 2147483647) (c + 1)) b = some (boxO l i ((m * 48271 + sm * 69621 + (c + 1) * 7919 + 1) % 2147483647) (c + 1)) := upd_same
        have j2 : upd H3 b (boxO l i ((m * 48271 + sm * 69621 + (c + 1) * 7919 + 1) % 2147483647) (c + 1)) l = some (.lst (ns.map V.int)) := by rw [upd_ne hne]; exact k2
        have j3 : But ⟨b, l⟩ _ (upd H3 b (boxO l i ((m * 48271 + sm * 69621 + (c + 1) * 7919 + 1) % 2147483647) (c + 1))) := But.updB (B := ⟨b, l⟩) k3
        show tMid _ _ _ _ (upd H3 b (boxO l i ((m * 48271 + sm * 69621 + (c + 1) * 7919 + 1) % 2147483647) (c + 1)))
        generalize upd H3 b (boxO l i ((m * 48271 + sm * 69621 + (c + 1) * 7919 + 1) % 2147483647) (c + 1)) = H4 at j1 j2 j3 ⊢
        generalize ((m * 48271 + sm * 69621 + (c + 1) * 7919 + 1) % 2147483647) = m' at j1
        refine ⟨fun σ5 H5 => ∃ i' : Int, σ5 = [some (.ref b), some (.int n), some (.ref l), some (.int i), none, some (.int sm)] ∧ H5 b = some (boxO l i' m' (c + 1)) ∧ 0 ≤ i' ∧ H5 l = some (.lst (ns.map V.int)) ∧ But ⟨b, l⟩ H2 H5, ?_, ?_⟩
        · refine ⟨_, rfl, b, _, 3, _, rfl, rfl, SqL.of j1, rfl, _, rfl, _, _, rfl, rfl, (by show (0 : Int) < 3; decide), rfl, _, rfl, ite2 (fun c2 => ?_) (fun c2 => ?_)⟩
          · refine ⟨_, rfl, _, _, rfl, rfl, _, rfl, b, _, 1, 1, rfl, rfl, j1, rfl, i + 1, rfl, upd_same, by omega, by rw [upd_ne hne]; exact j2, But.updB (B := ⟨b, l⟩) j3⟩
          · exact ⟨i, rfl, j1, hi, j2, j3⟩
        · rintro σ5 H5 ⟨i', rfl, e1, hi', e2, e3⟩
          refine ⟨_, rfl, b, _, 2, _, rfl, rfl, SqL.of e1, rfl, _, _, rfl, rfl, .inr ⟨by decide, by decide⟩, _, rfl, _, _, rfl, rfl, (by show (0 : Int) < 2147483629; decide), _, _, rfl, rfl, ⟨by decide, by decide⟩, _, rfl, _, rfl, _, _, rfl, rfl, n0, ?_⟩
          exact k _ _ (Int.emod_nonneg _ (by omega)) (Int.emod_lt_of_pos _ n0) ⟨e3, ⟨⟨i', m', c + 1, e1, hi'⟩, ⟨ns, e2, hl⟩, hne⟩⟩
end
end Lw
namespace Lw
open PySem PySem.Spec PyProof.Rows L2 XV TL XM
abbrev sBox : Stmt := topOf "_law_box"
abbrev Nbox : List Str := ["script", "mixed", "cell"]
theorem scBox : FnScope Nbox ["script"] (defScope sBox) := ⟨rfl, rfl, rfl, by decide +kernel, rfl, by decide +kernel, by decide +kernel⟩
def spBox (K : PySem.W.Frag) : Sp := fun vs H Q _ => ∃ (a : Addr) (ns : List Int), vs = [.ref a] ∧ SqL K H a (ns.map V.int) ∧ ns.length ≤ 63 ∧ ∀ (B : Bx) (H' : Hp), Same H H' → BoxAt B H' → H B.b = none → H B.l = none → Q (.ref B.b) H'
end Lw
namespace Lw
open PySem PySem.Spec PyProof.Rows L2 XV TL XM
section
variable {P : Program} {w : World} {K : PySem.W.Frag} {mg : Str → Option Value} {base : Heap}
theorem ok_box {f : Addr} {fd : FuncData} (F : Fun K "_law_box" "_law_box" sBox f fd) (T : Bt mg) : FnOk P w K mg base CX0 1 f fd ["script"] (spBox K) := by
  refine F.ok scBox (fun vs H Q E h => ?_) (fun cdv A outer s H vs Q E hr h => ?_)
  · obtain ⟨a, ns, rfl, _⟩ := h
    rfl
  · obtain ⟨a, ns, rfl, hS, hl, k⟩ := h
    refine ⟨_, pss_cons (ps_set (i := 1) scBox.nd rfl (Or.inl rfl) (pe_int))
 (pss_cons (ps_for PassesOwn.never rfl (pi_list (pe_slice sl_list (pv 0) (po_none) (po_some (pe_int)))) (pg_name (i := 2) scBox.nd rfl (Or.inl rfl))
 (pss_one (ps_set (i := 1) scBox.nd rfl (Or.inl rfl) (pe_op op_mod (pe_callTy call_intI (by rfl) T.int (by decide +kernel) (pa_cons (pe_op op_add (pe_op op_add (pe_op op_mul (pv 1) (pe_int)) (pe_op op_mul (pe_op op_mod (pe_callTy call_intI (by rfl) T.int (by decide +kernel) (pa_cons (pv 2) pa_nil)) (pe_int)) (pe_int))) (pe_int)) pa_nil)) (pe_int)))))
 (pss_one (ps_ret (pe_lst (pa_cons (pe_lc (own := [("cell", 2)]) (g := gName 2) (tt := tYes) rfl scBox.nd (pi_list (pe_slice sl_list (pv 0) (po_none) (po_some (pe_int)))) (blkOk_by (N := Nbox) (sc := defScope sBox) (by decide +kernel)) (fun _ _ _ _ _ => pg_name (i := 2) scBox.nd rfl (Or.inl rfl)) (fun _ _ _ _ _ => pts_nil) (fun _ _ _ _ _ => pe_callTy call_intI (by rfl) T.int (by decide +kernel) (pa_cons (pv 2) pa_nil))) (pa_cons (pe_int) (pa_cons (pv 1) (pa_cons (pe_int) pa_nil)))))))), ?_⟩
    obtain ⟨ms, em, hm⟩ := cut_ints ns none (some 63)
    refine ⟨_, rfl, _, rfl, a, _, rfl, hS, fun p hp => ?_⟩
    rw [em]
    refine ⟨p, rfl, ⟨_, SqL.of upd_same⟩, for_list (K := K) (a := p) (xs := ms.map V.int) (fun i σ H2 => ∃ (m : Int) (x : Option V), σ = [some (.ref a), some (.int m), x] ∧ Same H H2 ∧ H2 p = some (.lst (ms.map V.int)))
      ⟨16199, none, rfl, same_new hp, upd_same⟩ (fun i σ H2 _ ⟨_, _, _, _, e⟩ => SqL.of e) ?_ ?_⟩
    · rintro i y σ H2 hi ⟨m, x, rfl, s2, e2⟩
      obtain ⟨z, hz, rfl⟩ : ∃ z, ms[i]? = some z ∧ V.int z = y := by
        rw [List.getElem?_map] at hi
        exact Option.map_eq_some_iff.mp hi
      refine ⟨_, rfl, _, _, rfl, rfl, .inr ⟨by decide, by decide⟩, _, rfl, _, rfl, _, _, rfl, rfl, (by show (0 : Int) < 1000003; decide), _, _, rfl, rfl, .inr ⟨by decide, by decide⟩, _, _, rfl, rfl, _, _, rfl, rfl, _, rfl, _, _, rfl, rfl, (by show (0 : Int) < 2147483629; decide), ?_⟩
      exact ⟨_, _, rfl, s2, e2⟩
    · rintro σ H2 ⟨m, x, rfl, s2, e2⟩
      refine ⟨_, rfl, _, rfl, a, _, rfl, s2.seq hS, fun q hq => ?_⟩
      rw [em]
      have s3 := Same.trans s2 (same_new (o := .lst (ms.map V.int)) hq)
      have e3 : upd H2 q (.lst (ms.map V.int)) q = some (.lst (ms.map V.int)) := upd_same
      generalize upd H2 q (.lst (ms.map V.int)) = H3 at s3 e3 ⊢
      refine ⟨q, rfl, ⟨_, SqL.of e3⟩, fun D hD => lc_list (K := K) (a := q) (xs := ms.map V.int) (g := gName 2) (tt := tYes) (fun i H4 => Same H3 H4 ∧ H4 D = some (.lst ((ms.take i).map V.int))) ⟨same_new hD, upd_same⟩ (fun i H4 _ h => SqL.of (h.1 _ _ e3)) ?_ ?_⟩
      · rintro i y H4 hi ⟨s4, e4⟩
        obtain ⟨z, hz, rfl⟩ : ∃ z, ms[i]? = some z ∧ V.int z = y := by
          rw [List.getElem?_map] at hi
          exact Option.map_eq_some_iff.mp hi
        refine ⟨rfl, _, rfl, z, rfl, _, e4, by rw [List.length_map, sizeLine_eq]; have := List.length_take_le' i ms; omega, fun b o h => ?_, ?_⟩
        · rw [upd_ne (ne_of_none h hD)]
          exact s4 _ _ h
        · rw [upd_same, List.take_add_one, hz, List.map_append]
          rfl
      · rintro H4 ⟨s4, e4⟩
        rw [List.length_map, List.take_length] at e4
        refine ⟨_, rfl, (by show 4 ≤ sizeLine; decide), fun t ht => ?_⟩
        have nDt : D ≠ t := ne_of_none e4 ht
        have s5 := Same.trans s3 s4
        exact k ⟨t, D⟩ _ (Same.trans s5 (same_new ht)) ⟨⟨0, m, 0, upd_same, by decide⟩, ⟨ms, by show upd H4 t _ D = _; rw [upd_ne nDt]; exact e4, Nat.le_trans hm hl⟩, nDt⟩ (sN s5 ht) (sN s3 hD)
end
end Lw
namespace Lw
open PySem PySem.Spec PyProof.Rows L2 XV TL XM
abbrev sMixed : Stmt := topOf "_law_mixed"
abbrev Nmixed : List Str := ["box", "things", "left", "found", "k"]
theorem scMixed : FnScope Nmixed ["box", "things"] (defScope sMixed) := ⟨rfl, rfl, rfl, by decide +kernel, rfl, by decide +kernel, by decide +kernel⟩
def spMixed : Sp := fun vs H Q _ => ∃ (B : Bx) (p : Addr) (xs : List V), vs = [.ref B.b, .ref p] ∧ BoxAt B H ∧ H p = some (.lst xs) ∧ p ≠ B.b ∧ p ≠ B.l ∧ xs.length ≤ 100 ∧
  ∀ (q : Addr) (ms : List V) (H' : Hp), ms.Perm xs → Go B H H' → H q = none → H' q = some (.lst ms) → Q (.ref q) H'
end Lw
namespace Lw
open PySem PySem.Spec PyProof.Rows L2 XV TL XM
section
variable {P : Program} {w : World} {K : PySem.W.Frag} {mg : Str → Option Value} {base : Heap}
theorem ok_mixed {f fD : Addr} {fd fdD : FuncData} (F : Fun K "_law_mixed" "_law_mixed" sMixed f fd) (T : Bt mg) (D_take : Df K mg "_law_take" sTake ["box", "limit"] fD fdD) : FnOk P w K mg base CX0 2 f fd ["box", "things"] spMixed := by
  have G_take : FnOk P w K mg base CX0 1 fD fdD ["box", "limit"] spTake := ok_take D_take.fn T
  refine F.ok scMixed (fun vs H Q E h => ?_) (fun cdv A outer s H vs Q E hr h => ?_)
  · obtain ⟨B, p, ns, rfl, _⟩ := h
    rfl
  · obtain ⟨B, p, xs, rfl, hB, hp, np, npl', hl, k⟩ := h
    refine ⟨_, pss_cons (ps_par (i := 2) (j := 3) rfl scMixed.nd rfl rfl (by decide) rfl rfl (pa_cons (pe_callTy call_listL (by rfl) T.list (by decide +kernel) (pa_cons (pv 1) pa_nil)) (pa_cons (pe_lst (pa_nil)) pa_nil)) (by rfl))
 (pss_cons (ps_for PassesOwn.never rfl (pi_range1 rfl T.range (pa_cons (pe_callB call_lenL (by rfl) T.len (by decide +kernel) (pa_cons (pv 1) pa_nil)) pa_nil)) (pg_name (i := 4) scMixed.nd rfl (Or.inl rfl))
 (pss_one (ps_expr (pe_bm PySem.F.plainAttrs_list PySem.F.slot_list_append PySem.F.type_list_append mt_append (pv 3) (pa_cons (pe_bm PySem.F.plainAttrs_list PySem.F.slot_list_pop PySem.F.type_list_pop mt_popAt (pv 2) (pa_cons (cal D_take G_take (hr.mono (by decide)) (pa_cons (pv 0) (pa_cons (pe_callB call_lenL (by rfl) T.len (by decide +kernel) (pa_cons (pv 2) pa_nil)) pa_nil))) pa_nil)) pa_nil)))))
 (pss_one (ps_ret (pv 3)))), ?_⟩
    refine ⟨_, rfl, p, _, rfl, SqL.of hp, fun l hl0 => ⟨Nat.zero_le _, fun r hr0 => ⟨_, _, rfl, ?_⟩⟩⟩
    have nlr : l ≠ r := ne_of_none upd_same hr0
    have r0 : H r = none := by rw [upd_ne nlr.symm] at hr0; exact hr0
    have g0 : Go B H (upd (upd H l (.lst xs)) r (.lst [])) := ((Go.refl hB).new hl0).new hr0
    refine ⟨_, rfl, p, _, rfl, SqL.of (g0.keep np npl' hp), _, rfl, by omega, by omega, for_range (n := xs.length) (fun i σ H2 => ∃ (ls rs : List V) (x : Option V), σ = [some (.ref B.b), some (.ref p), some (.ref l), some (.ref r), x] ∧ Go B H H2 ∧ H2 l = some (.lst ls) ∧ H2 r = some (.lst rs) ∧ (rs ++ ls).Perm xs ∧ rs.length = i ∧ ls.length + i = xs.length)
      ⟨xs, [], none, rfl, g0, by rw [upd_ne nlr]; exact upd_same, upd_same, List.Perm.refl _, rfl, rfl⟩ ?_ ?_⟩
    · rintro i σ H2 hi ⟨ls, rs, x, rfl, g2, e1, e2, s1, l1, l2⟩
      refine ⟨_, rfl, tyL e2, _, rfl, tyL e1, _, rfl, _, rfl, l, _, rfl, SqL.of e1, B, _, rfl, g2.bag, by omega, by omega, fun d H3 d0 d1 g3 => ?_⟩
      have nl := hB.away hl0
      have nr := hB.away r0
      have f1 := g3.keep nl.1 nl.2 e1
      have f2 := g3.keep nr.1 nr.2 e2
      obtain ⟨v, v1, v2, v3⟩ := at_pos d0 d1
      refine ⟨l, _, d, d.toNat, v, rfl, rfl, f1, by omega, by omega, (ixN_seq (ix_pos d0 d1)).1, v2, r, _, _, rfl, rfl, by rw [upd_ne nlr.symm]; exact f2, by rw [sizeLine_eq]; omega, ?_⟩
      refine ⟨ls.eraseIdx d.toNat, rs ++ [v], _, rfl, ((g2.trans g3).turn hB hl0).turn hB r0, ?_, upd_same, ?_, by rw [List.length_append, l1]; rfl, ?_⟩
      · rw [upd_ne nlr, upd_same]
      · have hd : d.toNat < ls.length := by omega
        have pm := er_perm ls d.toNat v v2
        rw [List.append_assoc]
        exact (List.Perm.append_left rs pm).trans s1
      · rw [List.length_eraseIdx, if_pos (by omega)]
        omega
    · rintro σ H2 ⟨ls, rs, x, rfl, g2, e1, e2, s1, l1, l2⟩
      have l0 : ls = [] := List.eq_nil_of_length_eq_zero (by omega)
      rw [l0, List.append_nil] at s1
      exact ⟨_, rfl, k r rs H2 s1 g2 r0 e2⟩
end
end Lw
namespace Lw
open PySem PySem.Spec PyProof.Rows L2 XV TL XM DO
/-- plain data that may be shown, equal to itself -/
structure Shw (d : PyData) : Prop where
  s : d.showable = true
  f : SeqAt.shaped d = true
  l : d.shown.length ≤ sizeLine
  e : PyData.eqv d d = true
abbrev rReprV (K : PySem.W.Frag) : List V → Hp → VK → Prop := fun xs H Q => ∃ v d, xs = [v] ∧ Dp K H v d ∧ Shw d ∧ Q (.str d.shown) H
section
variable {X : Cx}
theorem call_reprV (hg : X.A.guards = some []) (hu : X.A.units + 66 < cLine) : CallR X (.builtin "repr") (rReprV X.K) := by
  intro pins s σ H xs us Q I r h
  obtain ⟨a, d, rfl, hd, hs, q⟩ := h
  obtain ⟨u, rfl, ru⟩ : ∃ u, us = [u] ∧ RelV a u := by
    cases r with
    | cons a b => cases b; exact ⟨_, rfl, a⟩
  have rd := Dp.reads I d _ _ hd ru
  have hdep := SeqAt.depth_of_shaped hs.f
  cases a with
  | ref a =>
    obtain ⟨as, rd⟩ := rd
    cases ru
    exact PySem.repr_of_reads' rd hs.s (PyData.noDict_hsm (PyData.hasDict_of_canLay d (SeqAt.canLay_of_shaped hs.f))) hg (by omega) (fun _ _ h => h) (fun h' t tk hk => ⟨.str d.shown, H, I.kept hk, ⟨_, rfl⟩, q⟩) hs.l
  | non =>
    cases hd
    cases ru
    exact PySem.P.repr_of_none ⟨.str _, H, I.tok _, ⟨_, rfl⟩, q⟩
  | bl b =>
    cases hd
    cases ru
    refine PySem.P.repr_of_bool ⟨.str _, H, I.tok _, ⟨_, rfl⟩, ?_⟩
    cases b <;> exact q
  | int i =>
    cases hd
    obtain ⟨t, rfl⟩ := ru
    exact PySem.P.repr_of_int (of_decide_eq_true hs.s) ⟨.str _, H, I.tok _, ⟨_, rfl⟩, q⟩
  | str x =>
    cases hd
    obtain ⟨t, rfl⟩ := ru
    exact PySem.P.repr_of_str ⟨.str _, H, I.tok _, ⟨_, rfl⟩, q⟩ hs.l
  | byt _ => cases hd
  | flt _ => cases hd
  | ty _ => cases hd
end
abbrev sJust : Stmt := topOf "_law_just"
theorem scJust : FnScope ["told", "due"] ["told", "due"] (defScope sJust) := ⟨rfl, rfl, rfl, by decide +kernel, rfl, by decide +kernel, by decide +kernel⟩
/-- what is told is just so: one datum read from both -/
def spJust (K : PySem.W.Frag) : Sp := fun vs H Q _ => ∃ a b d, vs = [a, b] ∧ Dp K H a d ∧ Dp K H b d ∧ Shw d ∧ Q (.bl true) H
section
variable {P : Program} {w : World} {K : PySem.W.Frag} {mg : Str → Option Value} {base : Heap}
theorem ok_just {f : Addr} {fd : FuncData} (F : L2.Fun K "_law_just" "_law_just" sJust f fd) (T : Bt mg) : FnOkG P w K mg base CX0 1 f fd ["told", "due"] (spJust K) := by
  refine okG F scJust (fun vs H Q E h => ?_) (fun cdv A outer s H vs Q E hg hr h => ?_)
  · obtain ⟨a, b, d, rfl, _⟩ := h
    rfl
  · have hu : (A.deeper (envOfC "_law_just" (defScope sJust) s.heap.objs.size f cdv)).units + 66 < cLine := by
      have := hr.un
      omega
    refine ⟨_, pss_one (ps_ret (pe_and (pe_cmpR op_eq (pe_callB (call_reprV (by exact hg) (by exact hu)) (by rfl) T.repr (by decide +kernel) (pa_cons (pv 0) pa_nil)) (pe_callB (call_reprV (by exact hg) (by exact hu)) (by rfl) T.repr (by decide +kernel) (pa_cons (pv 1) pa_nil)) (nomark _)) (pe_one (pe_cmpR (op_eqD (by exact un64 hr)) (pv 0) (pv 1) (nomark _))))), ?_⟩
    obtain ⟨a, b, d, rfl, hd, hd', hs, k⟩ := h
    refine ⟨_, rfl, a, d, rfl, hd, hs, _, rfl, b, d, rfl, hd', hs, rfl, _, rfl, ?_⟩
    rw [if_pos (decide_eq_true rfl)]
    exact ⟨_, rfl, _, rfl, d, d, hd, hd', hs.f, hs.f, by rw [hs.e]; exact k⟩
end
theorem shw_non : Shw .none := ⟨rfl, by decide +kernel, by decide +kernel, rfl⟩
theorem shw_bl (b : Bool) : Shw (.bool b) := by
  cases b
  · exact ⟨rfl, by decide +kernel, by decide +kernel, by decide +kernel⟩
  · exact ⟨rfl, by decide +kernel, by decide +kernel, by decide +kernel⟩
end Lw
namespace Lw
open PySem PySem.Spec PyProof.Rows L2 XV TL XM DO
/-! what a matching's fault is, in plain words -/
def ab (i : Int) : Int := if i < 0 then -i else i
def gapP (p q : Pr) : Int := 2 * (if ab (p.2 - q.2) > ab (p.1 - q.1) then ab (p.2 - q.2) else ab (p.1 - q.1))
def near1 (a b h : Int) : Bool := decide (2 * ab (a - b) ≤ h)
def nearP (p q : Pr) (h : Int) : Bool := near1 p.1 q.1 h && near1 p.2 q.2 h
theorem gap_near (p q : Pr) (n : Int) : decide (gapP p q ≤ n) = nearP p q n := by
  have h1 : nearP p q n = true ↔ 2 * ab (p.1 - q.1) ≤ n ∧ 2 * ab (p.2 - q.2) ≤ n := by
    unfold nearP near1
    rw [Bool.and_eq_true, decide_eq_true_eq, decide_eq_true_eq]
  have h2 : decide (gapP p q ≤ n) = true ↔ gapP p q ≤ n := by rw [decide_eq_true_eq]
  have h3 : gapP p q ≤ n ↔ 2 * ab (p.1 - q.1) ≤ n ∧ 2 * ab (p.2 - q.2) ≤ n := by
    unfold gapP
    by_cases h : ab (p.2 - q.2) > ab (p.1 - q.1)
    · rw [if_pos h]
      exact ⟨fun e => ⟨by omega, e⟩, fun e => e.2⟩
    · rw [if_neg h]
      exact ⟨fun e => ⟨e, by omega⟩, fun e => e.1⟩
  exact Bool.eq_iff_iff.mpr (h2.trans (h3.trans h1.symm))
theorem gap_far (p q : Pr) (n : Int) : decide (gapP p q > n) = !nearP p q n := by
  rw [← gap_near]
  by_cases h : gapP p q ≤ n
  · rw [decide_eq_true h, decide_eq_false (by omega)]
    rfl
  · rw [decide_eq_false h, decide_eq_true (by omega)]
    rfl
def getP (ps : List Pr) (i : Int) : Pr := (ps[i.toNat]?).getD (0, 0)
def orIs (S : Int → Bool) (i : Int) : Int → Bool := fun x => S x || decide (x = i)
/-- the first row that cannot stand -/
def wrongF (ps qs : List Pr) (n : Int) : Nat → (Int → Bool) → (Int → Bool) → List Pr → Option Nat
  | _, _, _, [] => none
  | k, S, T, r :: rs => if (S r.1 || (T r.2 || !nearP (getP ps r.1) (getP qs r.2) n)) = true then some k else wrongF ps qs n (k + 1) (orIs S r.1) (orIs T r.2) rs
/-- the first long pair that is not told -/
def leftF (n : Int) (U : Int → Bool) : Nat → List Pr → Option Nat
  | _, [] => none
  | k, p :: ps => if (decide (p.2 - p.1 > n) && !U (k : Int)) = true then some k else leftF n U (k + 1) ps
/-- lives, in order -/
structure Fv where
  hs : List Pr
  ss : List Pr
  li : List Int
  lo : Int
  hi : Int
def Fv.kind (A : Fv) (k : Bool) : List Pr := if k then A.ss else A.hs
def kindW (k : Bool) : Str := if k then "summits" else "hollows"
/-- the loose heights that are too far -/
def looseF (n : Int) : Nat → List Int → List Int → List Nat
  | k, x :: xs, y :: ys => (if near1 x y n = true then [] else [k]) ++ looseF n (k + 1) xs ys
  | _, _, _ => []
inductive Ft where
  | m1 (k : Bool) (i : Nat)
  | m2 (k w : Bool) (i : Nat)
  | m3 (i : Nat)
  | lo
  | hi
def b2n (w : Bool) : Int := if w then 1 else 0
def ftV : Ft → List V
  | .m1 k i => [.str "M1", .str (kindW k), .int i]
  | .m2 k w i => [.str "M2", .str (kindW k), .int (b2n w), .int i]
  | .m3 i => [.str "M3", .str "loose", .int i]
  | .lo => [.str "M3", .str "lowest", .non]
  | .hi => [.str "M3", .str "highest", .non]
def usedF (w : Bool) (rs : List Pr) : Int → Bool := fun x => decide (x ∈ rs.map fun r => if w then r.2 else r.1)
def wrongAt (A B : Fv) (n : Int) (k : Bool) (rs : List Pr) : Option Ft := (wrongF (A.kind k) (B.kind k) n 0 (fun _ => false) (fun _ => false) rs).map (.m1 k)
def leftAt (A B : Fv) (n : Int) (k w : Bool) (rs : List Pr) : Option Ft := (leftF n (usedF w rs) 0 ((if w then B else A).kind k)).map (.m2 k w)
def farAt (A B : Fv) (n : Int) : Option Ft :=
  match looseF n 0 A.li B.li with
  | i :: _ => some (.m3 i)
  | [] => if near1 A.lo B.lo n = true then (if near1 A.hi B.hi n = true then none else some .hi) else some .lo
/-- the first of some -/
def fst? : Option Ft → Option Ft → Option Ft
  | some t, _ => some t
  | none, o => o
def faultF (A B : Fv) (n : Int) (r1 r2 : List Pr) : Option Ft :=
  fst? (wrongAt A B n false r1) (fst? (wrongAt A B n true r2) (fst? (leftAt A B n false false r1) (fst? (leftAt A B n false true r1) (fst? (leftAt A B n true false r2) (fst? (leftAt A B n true true r2) (farAt A B n))))))
def FtAt (H : Hp) (v : V) : Option Ft → Prop
  | none => v = .non
  | some t => ∃ a, v = .ref a ∧ H a = some (.tup (ftV t))
theorem FtAt.mono {H H' : Hp} (s : Same H H') {v : V} {o : Option Ft} (h : FtAt H v o) : FtAt H' v o := by
  cases o with
  | none => exact h
  | some t =>
    obtain ⟨a, rfl, e⟩ := h
    exact ⟨a, rfl, s _ _ e⟩
/-- the bars, in order -/
def farsV (A B : Fv) (n : Int) : List (List V) := (looseF n 0 A.li B.li).map (fun k => [.str "loose", .int (k : Nat)]) ++ ((if near1 A.lo B.lo n = true then [] else [[.str "lowest"]]) ++ (if near1 A.hi B.hi n = true then [] else [[.str "highest"]]))
/-- tuples in a list -/
def TupsAt (H : Hp) (xs : List V) (cs : List (List V)) : Prop := xs.length = cs.length ∧ ∀ (i : Nat) (x : V), xs[i]? = some x → ∃ (t : Addr) (c : List V), x = .ref t ∧ cs[i]? = some c ∧ H t = some (.tup c)
theorem TupsAt.turn {M M' : Hp} {xs : List V} {cs : List (List V)} (h : TupsAt M xs cs) (s : ∀ t ys, M t = some (.tup ys) → M' t = some (.tup ys)) : TupsAt M' xs cs := ⟨h.1, fun i x hx => by
  obtain ⟨t, p, a, b, c⟩ := h.2 i x hx
  exact ⟨t, p, a, b, s _ _ c⟩⟩
theorem TupsAt.snoc {M : Hp} {xs : List V} {cs : List (List V)} {t : Addr} {c : List V} (h : TupsAt M xs cs) (e : M t = some (.tup c)) : TupsAt M (xs ++ [.ref t]) (cs ++ [c]) := by
  refine ⟨by rw [List.length_append, List.length_append, h.1]; rfl, fun i x hx => ?_⟩
  by_cases hi : i < xs.length
  · rw [List.getElem?_append_left hi] at hx
    obtain ⟨u, q, a, b, d⟩ := h.2 i x hx
    exact ⟨u, q, a, by rw [List.getElem?_append_left (by rw [← h.1]; exact hi)]; exact b, d⟩
  · rw [List.getElem?_append_right (by omega)] at hx
    obtain ⟨j, hj⟩ : ∃ j, i - xs.length = j := ⟨_, rfl⟩
    rw [hj] at hx
    cases j with
    | zero =>
      cases hx
      exact ⟨t, c, rfl, by rw [List.getElem?_append_right (by rw [← h.1]; omega), ← h.1, hj]; rfl, e⟩
    | succ j => cases hx
/-- lives at p -/
def LvAt (K : PySem.W.Frag) (C : Addr) (M : Hp) (p : Addr) (A : Fv) : Prop := LivesAt K C M p A.hs A.ss A.li A.lo A.hi
theorem LivesAt.mono {K : PySem.W.Frag} {C : Addr} {M M' : Hp} {p : Addr} {hs ss : List Pr} {ls : List Int} {lo hi : Int} (h : LivesAt K C M p hs ss ls lo hi) (s : Same M M') : LivesAt K C M' p hs ss ls lo hi := by
  obtain ⟨dx, a, b, l, xs, ys, h1, h2, h3, h4, h5, h6⟩ := h.ex
  exact ⟨dx, a, b, l, xs, ys, s _ _ h1, s _ _ h2, s _ _ h3, s _ _ h4, h5.mono s, h6.mono s⟩
end Lw
/-! enumerate(zip(t, u)), t and u tuples -/
namespace ZE
open PySem
open PySem.Sem (wp)
abbrev ZipV (h : Heap) (z TI TO : Addr) (v : Value) (f : Bool) : Prop := h.get? z = some { cls := .type "zip", dict := none, data := .fields #[v, .bool f, .bool false, .ref TI, .ref TO], slots := #[] }
structure ZS (h : Heap) (z TI TO i1 i2 a b : Addr) (k : Nat) : Prop where
  zz : ∃ v f, ZipV h z TI TO v f ∧ (v = .none ∨ ∃ T : Addr, v = rawInt T)
  ti : IsPair h TI (.ref i1) (.ref i2)
  out : ∃ x y, IsPair h TO x y
  p1 : h.IsTupleIter i1 a k
  p2 : h.IsTupleIter i2 b k
section
variable {prog : Program} {w : World} {A : Around} {E : Value → Shared → Prop} {s : Shared} {z TI TO i1 i2 a b : Addr} {v : Value} {f : Bool} {k : Nat} {xs ys : Array Value} {x y : Value}
theorem alive_any {T : Addr} {Q : Option Obj → Shared → Prop} (h : Q (s.heap.get? T) s) : wpAny (model prog w) A (loadIfAlive T) Q E s := fun _ _ _ => h
theorem isFree {Q : Bool → Shared → Prop} (hz : ZipV s.heap z TI TO v f) (hv : v = .none ∨ ∃ T : Addr, v = rawInt T) (h1 : Q true s) (h2 : ∀ h' f', ZipV h' z TI TO v f' → Heap.SameBut z s.heap h' → Q false { s with heap := h' }) :
    wpAny (model prog w) A (Builtin.SmallTypes.ownedTupleIsFree (.ref z)) Q E s := by
  unfold Builtin.SmallTypes.ownedTupleIsFree
  refine wpAny_bind (wpAny_field hz rfl (x := v) rfl ?_)
  rcases hv with rfl | ⟨T, rfl⟩
  · exact wpAny_pure h1
  · show wpAny _ _ (loadIfAlive ((T : Int).toNat) >>= _) _ _ _
    rw [Int.toNat_natCast]
    refine wpAny_bind (alive_any ?_)
    cases hT : s.heap.get? T with
    | none => exact wpAny_pure h1
    | some o =>
      simp only [Option.isNone_some, Bool.false_eq_true, if_false]
      refine wpAny_bind (wpAny_field hz rfl (x := .bool f) rfl ?_)
      cases f with
      | true => exact wpAny_pure (h2 _ true hz (Heap.SameBut.refl _ _))
      | false => exact wpAny_bind (wpAny_setField_rec hz (by simp) fun g gz gs => wpAny_pure (h2 g true gz gs))
/-- the zip's next pair -/
theorem item {Q : Value → Shared → Prop} (D : ZipApart z TI TO i1 i2 a b) (S : ZS s.heap z TI TO i1 i2 a b k) (ta : s.heap.IsTuple a xs) (tb : s.heap.IsTuple b ys) (hx : xs[k]? = some x) (hy : ys[k]? = some y)
    (hQ : ∀ h', ZS h' z TI TO i1 i2 a b (k + 1) → IsPair h' s.heap.objs.size x y → h'.objs.size = s.heap.objs.size + 1 → (∀ c o, c ≠ z → c ≠ TO → c ≠ i1 → c ≠ i2 → s.heap.get? c = some o → h'.get? c = some o) → Q (.ref s.heap.objs.size) { s with heap := h' }) :
    wpAny (model prog w) A (Builtin.«zip.__next__» ⟨[.ref z], []⟩) (fun fin s' => ∃ v, fin = .done (.ret v) ∧ Q v s') E s := by
  obtain ⟨⟨v, f, hz, hv⟩, ti, ⟨u1, u2, to⟩, q1, q2⟩ := S
  show wpAny _ _ (field (.ref z) 2 >>= _) _ _ _
  refine wpAny_bind (wpAny_field hz rfl (x := .bool false) rfl ?_)
  show wpAny _ _ (field (.ref z) 3 >>= _) _ _ _
  refine wpAny_bind (wpAny_field hz rfl (x := .ref TI) rfl ?_)
  refine wpAny_bind (wpAny_seqItems ti rfl ?_)
  show wpAny _ _ (Builtin.SmallTypes.ownedTupleIsFree (.ref z) >>= _) _ _ _
  refine wpAny_bind (isFree hz hv ?_ fun g f' gz gs => ?_)
  · simp only [if_true]
    refine wpAny_bind (wpAny_rule ?_)
    refine wpAny_bind (wpAny_field hz rfl (x := .ref TO) rfl ?_)
    refine wpAny_bind (wpAny_setField_rec hz (by simp) fun g1 z1 k1 => ?_)
    replace z1 : ZipV g1 z TI TO .ellipsis f := z1
    refine wpAny_bind ?_
    simp only [List.zipIdx_cons, List.zipIdx_nil, List.forIn_cons, List.forIn_nil]
    refine wpAny_bind (wpAny_bind (wpAny_onRaise ?_))
    show wpAny _ _ (Builtin.SmallTypes.nextOf (.ref i1) >>= _) _ _ _
    refine wpAny_bind (RZ.nextOf_tuple_item (q1.extBut k1.extBut D.i1z) (ta.extBut k1.extBut D.l1z) hx fun g2 it2 k2 => wpAny_pure ?_)
    have to2 : IsPair g2 TO u1 u2 := k2.extBut _ _ D.TOi1 (k1.extBut _ _ D.TOz to)
    refine wpAny_bind (wpAny_seqItems to2 rfl ?_)
    refine wpAny_bind (wpAny_updateSeq_pair to2 fun g3 to3 k3 => ?_)
    replace to3 : IsPair g3 TO x u2 := to3
    refine wpAny_bind (wpAny_letGo (wpAny_pure ?_))
    refine wpAny_bind (wpAny_bind (wpAny_onRaise ?_))
    show wpAny _ _ (Builtin.SmallTypes.nextOf (.ref i2) >>= _) _ _ _
    have e23 : ∀ {c : Addr} {o : Obj}, c ≠ z → c ≠ i1 → c ≠ TO → s.heap.get? c = some o → g3.get? c = some o := fun c1 c2 c3 e => k3.extBut _ _ c3 (k2.extBut _ _ c2 (k1.extBut _ _ c1 e))
    refine wpAny_bind (RZ.nextOf_tuple_item (q2.at fun o e => e23 D.i2z D.i12.symm D.TOi2.symm e) (tb.at fun o e => e23 D.l2z D.l2i1 D.l2TO e) hy fun g4 it4 k4 => wpAny_pure ?_)
    have to4 : IsPair g4 TO x u2 := k4.extBut _ _ D.TOi2 to3
    refine wpAny_bind (wpAny_seqItems to4 rfl ?_)
    refine wpAny_bind (wpAny_updateSeq_pair to4 fun g5 to5 k5 => ?_)
    replace to5 : IsPair g5 TO x y := to5
    refine wpAny_bind (wpAny_letGo (wpAny_pure (wpAny_pure ?_)))
    refine wpAny_bind (wpAny_seqItems to5 rfl ?_)
    refine wpAny_bind (wpAny_newTuple ?_)
    have n5 : g5.objs.size = s.heap.objs.size := by rw [k5.1, k4.1, k3.1, k2.1, k1.1]
    have e35 : ∀ {c : Addr} {o : Obj}, c ≠ i2 → c ≠ TO → g3.get? c = some o → g5.get? c = some o := fun c1 c2 e => k5.extBut _ _ c2 (k4.extBut _ _ c1 e)
    have z5 : ZipV g5 z TI TO .ellipsis f := e35 D.i2z.symm D.TOz.symm (k3.extBut _ _ D.TOz.symm (k2.extBut _ _ D.i1z.symm z1))
    have all5 : ∀ c o, c ≠ z → c ≠ TO → c ≠ i1 → c ≠ i2 → s.heap.get? c = some o → g5.get? c = some o := fun c o c1 c2 c3 c4 e => e35 c4 c2 (e23 c1 c3 c2 e)
    have it5 : g5.IsTupleIter i1 a (k + 1) := it2.at fun o e => e35 D.i12 D.TOi1.symm (k3.extBut _ _ D.TOi1.symm e)
    have jt5 : g5.IsTupleIter i2 b (k + 1) := it4.at fun o e => k5.extBut _ _ D.TOi2.symm e
    have lz : z < g5.objs.size := Heap.lt_size z5
    show wpAny _ _ (Builtin.SmallTypes.ownedTupleHandOut (.ref z) (.ref g5.objs.size) >>= _) _ _ _
    refine wpAny_bind ?_
    unfold Builtin.SmallTypes.ownedTupleHandOut
    have z6 : ZipV (g5.push { cls := .type "tuple", data := .seq #[x, y] }) z TI TO .ellipsis f := Heap.get?_push_of_some _ z5
    refine wpAny_bind (wpAny_setField_rec z6 (by simp) fun g7 z7 k7 => ?_)
    replace z7 : ZipV g7 z TI TO (rawInt g5.objs.size) f := z7
    refine wpAny_setField_rec z7 (by simp) fun g8 z8 k8 => ?_
    replace z8 : ZipV g8 z TI TO (rawInt g5.objs.size) false := z8
    have e58 : ∀ c o, c ≠ z → (g5.push { cls := .type "tuple", data := .seq #[x, y] }).get? c = some o → g8.get? c = some o := fun c o c1 e => k8.extBut _ _ c1 (k7.extBut _ _ c1 e)
    have new8 : IsPair g8 g5.objs.size x y := e58 _ _ (Nat.ne_of_gt lz) (Heap.get?_push_size _ rfl)
    have n8 : g8.objs.size = g5.objs.size + 1 := by rw [k8.1, k7.1, Heap.size_push]
    have old8 : ∀ c o, c ≠ z → g5.get? c = some o → g8.get? c = some o := fun c o c1 e => e58 c o c1 (Heap.get?_push_of_some _ e)
    refine wpAny_pure ⟨_, rfl, ?_⟩
    show Q (.ref g5.objs.size) _
    rw [n5] at new8 n8 z8 ⊢
    refine hQ g8 ⟨⟨_, _, z8, .inr ⟨_, rfl⟩⟩, old8 _ _ D.TIz (all5 _ _ D.TIz D.TITO D.TIi1 D.TIi2 ti), ⟨x, y, old8 _ _ D.TOz to5⟩, it5.at fun o e => old8 _ o D.i1z e, jt5.at fun o e => old8 _ o D.i2z e⟩ new8 n8 fun c o c1 c2 c3 c4 e => old8 c o c1 (all5 c o c1 c2 c3 c4 e)
  · simp only [Bool.false_eq_true, if_false]
    refine wpAny_bind ?_
    rw [← Array.forIn_toList]
    simp only [List.forIn_cons, List.forIn_nil]
    have e01 : ∀ {c : Addr} {o : Obj}, c ≠ z → s.heap.get? c = some o → g.get? c = some o := fun c1 e => gs.extBut _ _ c1 e
    refine wpAny_bind (wpAny_bind (wpAny_holding ?_))
    show wpAny _ _ (Builtin.SmallTypes.nextOf (.ref i1) >>= _) _ _ _
    refine wpAny_bind (RZ.nextOf_tuple_item (q1.at fun o e => e01 D.i1z e) (ta.at fun o e => e01 D.l1z e) hx fun g2 it2 k2 => wpAny_pure (wpAny_pure ?_))
    refine wpAny_bind (wpAny_bind (wpAny_holding ?_))
    show wpAny _ _ (Builtin.SmallTypes.nextOf (.ref i2) >>= _) _ _ _
    have e02 : ∀ {c : Addr} {o : Obj}, c ≠ z → c ≠ i1 → s.heap.get? c = some o → g2.get? c = some o := fun c1 c2 e => k2.extBut _ _ c2 (e01 c1 e)
    refine wpAny_bind (RZ.nextOf_tuple_item (q2.at fun o e => e02 D.i2z D.i12.symm e) (tb.at fun o e => e02 D.l2z D.l2i1 e) hy fun g4 it4 k4 => wpAny_pure (wpAny_pure (wpAny_pure ?_)))
    refine wpAny_bind (wpAny_newTuple (hsz := by show 2 ≤ sizeLine; decide) ?_)
    have e04 : ∀ {c : Addr} {o : Obj}, c ≠ z → c ≠ i1 → c ≠ i2 → s.heap.get? c = some o → g4.get? c = some o := fun c1 c2 c3 e => k4.extBut _ _ c3 (e02 c1 c2 e)
    have n4 : g4.objs.size = s.heap.objs.size := by rw [k4.1, k2.1, gs.1]
    have z4 : ZipV g4 z TI TO v f' := k4.extBut _ _ D.i2z.symm (k2.extBut _ _ D.i1z.symm gz)
    refine wpAny_pure ⟨_, rfl, ?_⟩
    show Q (.ref g4.objs.size) _
    have pu : ∀ {c : Addr} {o : Obj}, g4.get? c = some o → (g4.push { cls := .type "tuple", data := .seq #[x, y] }).get? c = some o := fun e => Heap.get?_push_of_some _ e
    have nw : IsPair (g4.push { cls := .type "tuple", data := .seq #[x, y] }) g4.objs.size x y := Heap.get?_push_size _ rfl
    have ns : (g4.push { cls := .type "tuple", data := .seq #[x, y] }).objs.size = g4.objs.size + 1 := Heap.size_push ..
    rw [n4] at nw ns ⊢
    refine hQ _ ⟨⟨v, f', pu z4, hv⟩, pu (e04 D.TIz D.TIi1 D.TIi2 ti), ⟨u1, u2, pu (e04 D.TOz D.TOi1 D.TOi2 to)⟩, (it2.at fun o e => k4.extBut _ _ D.i12 e).at fun o e => pu e, it4.at fun o e => pu e⟩ nw ns fun c o c1 c2 c3 c4 e => pu (e04 c1 c3 c4 e)
/-- the zip is at its end -/
theorem item_end {Q : Value → Shared → Prop} (hh : A.handled = none) (D : ZipApart z TI TO i1 i2 a b) (S : ZS s.heap z TI TO i1 i2 a b k) (ta : s.heap.IsTuple a xs) (hx : xs[k]? = none)
    (hE : ∀ h' e, (∀ c o, c ≠ z → c ≠ TO → c ≠ i1 → c ≠ i2 → s.heap.get? c = some o → h'.get? c = some o) → (∃ o, h'.get? e = some o ∧ o.cls = .type "StopIteration") → E (.ref e) { s with heap := h' }) :
    wpAny (model prog w) A (Builtin.«zip.__next__» ⟨[.ref z], []⟩) (fun fin s' => ∃ v, fin = .done (.ret v) ∧ Q v s') E s := by
  obtain ⟨⟨v, f, hz, hv⟩, ti, ⟨u1, u2, to⟩, q1, q2⟩ := S
  show wpAny _ _ (field (.ref z) 2 >>= _) _ _ _
  refine wpAny_bind (wpAny_field hz rfl (x := .bool false) rfl ?_)
  show wpAny _ _ (field (.ref z) 3 >>= _) _ _ _
  refine wpAny_bind (wpAny_field hz rfl (x := .ref TI) rfl ?_)
  refine wpAny_bind (wpAny_seqItems ti rfl ?_)
  show wpAny _ _ (Builtin.SmallTypes.ownedTupleIsFree (.ref z) >>= _) _ _ _
  refine wpAny_bind (isFree hz hv ?_ fun g f' gz gs => ?_)
  · simp only [if_true]
    refine wpAny_bind (wpAny_rule ?_)
    refine wpAny_bind (wpAny_field hz rfl (x := .ref TO) rfl ?_)
    refine wpAny_bind (wpAny_setField_rec hz (by simp) fun g1 z1 k1 => ?_)
    replace z1 : ZipV g1 z TI TO .ellipsis f := z1
    refine wpAny_bind ?_
    simp only [List.zipIdx_cons, List.zipIdx_nil, List.forIn_cons, List.forIn_nil]
    refine wpAny_bind (wpAny_bind (wpAny_onRaise ?_))
    show wpAny _ _ (Builtin.SmallTypes.nextOf (.ref i1) >>= _) _ _ _
    refine wpAny_bind (RZ.nextOf_tuple_end hh (q1.extBut k1.extBut D.i1z) (ta.extBut k1.extBut D.l1z) hx fun g2 e k2 he => ?_)
    obtain ⟨oe, hoe, hce⟩ := he
    have z2 : ZipV g2 z TI TO .ellipsis f := k2 _ _ D.i1z.symm z1
    have hez : e ≠ z := fun c => by subst c; rw [z2] at hoe; cases hoe; simp at hce
    refine wpAny_setField_rec z2 (by simp) fun g3 _ k3 => hE g3 e (fun c o c1 _ c3 _ x => k3.extBut _ _ c1 (k2 _ _ c3 (k1.extBut _ _ c1 x))) ⟨oe, k3.extBut _ _ hez hoe, hce⟩
  · simp only [Bool.false_eq_true, if_false]
    refine wpAny_bind ?_
    rw [← Array.forIn_toList]
    simp only [List.forIn_cons, List.forIn_nil]
    have e01 : ∀ {c : Addr} {o : Obj}, c ≠ z → s.heap.get? c = some o → g.get? c = some o := fun c1 e => gs.extBut _ _ c1 e
    refine wpAny_bind (wpAny_bind (wpAny_holding ?_))
    show wpAny _ _ (Builtin.SmallTypes.nextOf (.ref i1) >>= _) _ _ _
    exact wpAny_bind (RZ.nextOf_tuple_end hh (q1.at fun o e => e01 D.i1z e) (ta.at fun o e => e01 D.l1z e) hx fun g2 e k2 he => hE g2 e (fun c o c1 _ c3 _ x => k2 _ _ c3 (e01 c1 x)) he)
end
end ZE
namespace ZE
open PySem
open PySem.Sem (wp)
section
variable {prog : Program} {w : World} {A : Around} {E : Value → Shared → Prop} {s : Shared}
/-! enumerate(x) of a value whose iterator begins as told -/
theorem meets_new1 {v : Value} {o : Obj} {H : Heap → Prop} (B : Begins v o H) :
    Meets (Builtin.«enumerate.__new__» ⟨[.type "enumerate", v], []⟩) (fun _ R s => H s.heap ∧
      R (.ok (.ret (.ref (s.heap.push o).objs.size))) { s with heap := (s.heap.push o).push { cls := .type "enumerate", data := .fields #[.none, .bool false, .ref s.heap.objs.size, rawInt 0, .none, .none] } }) :=
  .of_wp fun prog w A R s h => by
    obtain ⟨hp, g, d, tk, os⟩ := s; obtain ⟨h1, h⟩ := h
    have hsub := sub_enumerate
    have q1 : ∀ {A' : Around} {E : Value → Shared → Prop} {Q : Value → Shared → Prop}, Q (.ref hp.objs.size) ⟨hp.push o, g, d, tk, os⟩ → wpAny (model prog w) A' (pyIter v) Q E ⟨hp, g, d, tk, os⟩ :=
      fun q => B.iter prog w _ _ ⟨hp, g, d, tk, os⟩ _ h1 q
    wp_walk using q1
    refine wpAny_stack_any fun st => wpAny_pure ?_
    split
    · rename_i c _ _ _ _ _
      cases (c == Value.type "enumerate")
      · wp_walk using q1
        exact ⟨_, rfl, h⟩
      · wp_walk using q1
        exact ⟨_, rfl, h⟩
    · wp_walk using q1
      exact ⟨_, rfl, h⟩
theorem call_enum1 {v : Value} {o : Obj} {H : Heap → Prop} {Q : Value → Shared → Prop} (B : Begins v o H) (h1 : H s.heap)
    (h : ∀ h', IsEnum h' (s.heap.objs.size + 1) s.heap.objs.size 0 .none → h'.get? s.heap.objs.size = some o → h'.objs.size = s.heap.objs.size + 2 →
      (∀ b o, s.heap.get? b = some o → h'.get? b = some o) → Q (.ref (s.heap.objs.size + 1)) { s with heap := h' }) :
    wpAny (model prog w) A (call (.type "enumerate") [v]) Q E s := by
  refine callType_new F.called_enumerate (by decide) (F.typeCall_enumerate_1 _) (F.newCall_enumerate_1 _) (fun obj => F.args_object_init_2 obj _) F.entry_enumerate_new
    (meets_new1 B) ⟨h1, ?_⟩
  have hz : (s.heap.push o).objs.size = s.heap.objs.size + 1 := Heap.size_push ..
  show _ ∧ _
  rw [hz]
  have he : IsEnum ((s.heap.push o).push { cls := .type "enumerate", data := .fields #[.none, .bool false, .ref s.heap.objs.size, rawInt 0, .none, .none] }) (s.heap.objs.size + 1) s.heap.objs.size 0 .none := by
    have := Heap.get?_push_size (s.heap.push o) (o := { cls := .type "enumerate", data := .fields #[.none, .bool false, .ref s.heap.objs.size, rawInt 0, .none, .none] }) rfl
    rw [hz] at this; exact this
  refine ⟨⟨_, he, rfl⟩, h _ he (Heap.get?_push_of_some _ (Heap.get?_push_size _ B.free)) (by rw [Heap.size_push, hz]) fun b o x => Heap.get?_push_of_some _ (Heap.get?_push_of_some _ x)⟩
/-! enumerate(z) of a zip -/
theorem meets_newZ (z TI TO : Addr) :
    Meets (Builtin.«enumerate.__new__» ⟨[.type "enumerate", .ref z], []⟩) (fun _ R s => IsZip s.heap z TI TO .none ∧
      R (.ok (.ret (.ref s.heap.objs.size))) { s with heap := s.heap.push { cls := .type "enumerate", data := .fields #[.none, .bool false, .ref z, rawInt 0, .none, .none] } }) :=
  .of_wp fun prog w A R s h => by
    obtain ⟨hp, g, d, tk, os⟩ := s; obtain ⟨h1, h⟩ := h
    have hsub := sub_enumerate
    have q1 : ∀ {A' : Around} {E : Value → Shared → Prop} {Q : Value → Shared → Prop}, Q (.ref z) ⟨hp, g, d, tk, os⟩ → wpAny (model prog w) A' (pyIter (.ref z)) Q E ⟨hp, g, d, tk, os⟩ :=
      fun q => wpAny_pyIter_zip (s := ⟨hp, g, d, tk, os⟩) h1 q
    wp_walk using q1
    refine wpAny_stack_any fun st => wpAny_pure ?_
    split
    · rename_i c _ _ _ _ _
      cases (c == Value.type "enumerate")
      · wp_walk using q1
        exact ⟨_, rfl, h⟩
      · wp_walk using q1
        exact ⟨_, rfl, h⟩
    · wp_walk using q1
      exact ⟨_, rfl, h⟩
theorem call_enumZ {z TI TO : Addr} {Q : Value → Shared → Prop} (hz : IsZip s.heap z TI TO .none)
    (h : ∀ h', IsEnum h' s.heap.objs.size z 0 .none → h'.objs.size = s.heap.objs.size + 1 →
      (∀ b o, s.heap.get? b = some o → h'.get? b = some o) → Q (.ref s.heap.objs.size) { s with heap := h' }) :
    wpAny (model prog w) A (call (.type "enumerate") [.ref z]) Q E s := by
  refine callType_new F.called_enumerate (by decide) (F.typeCall_enumerate_1 _) (F.newCall_enumerate_1 _) (fun obj => F.args_object_init_2 obj _) F.entry_enumerate_new
    (meets_newZ z TI TO) ⟨hz, ?_⟩
  show _ ∧ _
  have he : IsEnum (s.heap.push { cls := .type "enumerate", data := .fields #[.none, .bool false, .ref z, rawInt 0, .none, .none] }) s.heap.objs.size z 0 .none := Heap.get?_push_size _ rfl
  exact ⟨⟨_, he, rfl⟩, h _ he (Heap.size_push ..) fun b o x => Heap.get?_push_of_some _ x⟩
/-! the enumerate's next, over the zip -/
theorem nextOf_zip_item {z TI TO i1 i2 a b : Addr} {k : Nat} {xs ys : Array Value} {x y : Value} {Q : Value → Shared → Prop} (D : ZipApart z TI TO i1 i2 a b) (S : ZS s.heap z TI TO i1 i2 a b k) (ta : s.heap.IsTuple a xs) (tb : s.heap.IsTuple b ys) (hx : xs[k]? = some x) (hy : ys[k]? = some y)
    (hQ : ∀ h', ZS h' z TI TO i1 i2 a b (k + 1) → IsPair h' s.heap.objs.size x y → h'.objs.size = s.heap.objs.size + 1 → (∀ c o, c ≠ z → c ≠ TO → c ≠ i1 → c ≠ i2 → s.heap.get? c = some o → h'.get? c = some o) → Q (.ref s.heap.objs.size) { s with heap := h' }) :
    wpAny (model prog w) A (Builtin.SmallTypes.nextOf (.ref z)) Q E s := by
  have hT : s.TypeIs (.ref z) "zip" := let ⟨_, _, hz, _⟩ := S.zz; ⟨_, hz, rfl⟩
  unfold Builtin.SmallTypes.nextOf
  refine wpAny_bind (wpAny_callSpecial?_slot (name := Str.ofString "__next__") hT F.slot_zip_next
    (wpAny_call_entry F.slot_zip_next hT F.entry_zip_next (item D S ta tb hx hy fun h' a b c d => wpAny_pure (hQ h' a b c d)) (F.args_zip_next_1 _)))
theorem nextOf_zip_end {z TI TO i1 i2 a b : Addr} {k : Nat} {xs : Array Value} {Q : Value → Shared → Prop} (hh : A.handled = none) (D : ZipApart z TI TO i1 i2 a b) (S : ZS s.heap z TI TO i1 i2 a b k) (ta : s.heap.IsTuple a xs) (hx : xs[k]? = none)
    (hE : ∀ h' e, (∀ c o, c ≠ z → c ≠ TO → c ≠ i1 → c ≠ i2 → s.heap.get? c = some o → h'.get? c = some o) → (∃ o, h'.get? e = some o ∧ o.cls = .type "StopIteration") → E (.ref e) { s with heap := h' }) :
    wpAny (model prog w) A (Builtin.SmallTypes.nextOf (.ref z)) Q E s := by
  have hT : s.TypeIs (.ref z) "zip" := let ⟨_, _, hz, _⟩ := S.zz; ⟨_, hz, rfl⟩
  unfold Builtin.SmallTypes.nextOf
  refine wpAny_bind (wpAny_callSpecial?_slot (name := Str.ofString "__next__") hT F.slot_zip_next
    (wpAny_call_entry F.slot_zip_next hT F.entry_zip_next ?_ (F.args_zip_next_1 _)))
  exact item_end (A := A.in1) hh D S ta hx hE
theorem ZS.at {h h' : Heap} {z TI TO i1 i2 a b : Addr} {k : Nat} (S : ZS h z TI TO i1 i2 a b k) (m : ∀ c o, c ∈ [z, TI, TO, i1, i2] → h.get? c = some o → h'.get? c = some o) : ZS h' z TI TO i1 i2 a b k := by
  obtain ⟨⟨v, f, hz, hv⟩, ti, ⟨u1, u2, to⟩, q1, q2⟩ := S
  exact ⟨⟨v, f, m _ _ (by simp) hz, hv⟩, m _ _ (by simp) ti, ⟨u1, u2, m _ _ (by simp) to⟩, q1.at fun o e => m _ _ (by simp) e, q2.at fun o e => m _ _ (by simp) e⟩
theorem ez_item {e z TI TO i1 i2 a b : Addr} {i : Nat} {xs ys : Array Value} {x y old : Value} {Q : Value → Shared → Prop} (D : ZipApart z TI TO i1 i2 a b) (he : IsEnum s.heap e z i old) (hn : e ∉ [z, TI, TO, i1, i2]) (S : ZS s.heap z TI TO i1 i2 a b i) (ta : s.heap.IsTuple a xs) (tb : s.heap.IsTuple b ys) (hx : xs[i]? = some x) (hy : ys[i]? = some y)
    (hQ : ∀ h', IsEnumOut h' e z ((i : Int) + 1) (.ref s.heap.objs.size) (s.heap.objs.size + 1) → ZS h' z TI TO i1 i2 a b (i + 1) → IsPair h' s.heap.objs.size x y →
      h'.get? (s.heap.objs.size + 1) = some { cls := .type "tuple", data := .seq #[.int i s.toks, .ref s.heap.objs.size] } →
      (∀ c o, c ∉ [e, z, TI, TO, i1, i2] → s.heap.get? c = some o → h'.get? c = some o) → Q (.ref (s.heap.objs.size + 1)) { s with heap := h', toks := s.toks + 1 }) :
    wpAny (model prog w) A (Builtin.«enumerate.__next__» ⟨[.ref e], []⟩) (fun fin s' => ∃ v, fin = .done (.ret v) ∧ Q v s') E s := by
  obtain ⟨hp, g, d, tk, os⟩ := s
  have hez : e ≠ z := fun q => hn (by simp [q])
  have heI : e ≠ TI := fun q => hn (by simp [q])
  have heO : e ≠ TO := fun q => hn (by simp [q])
  have he1 : e ≠ i1 := fun q => hn (by simp [q])
  have he2 : e ≠ i2 := fun q => hn (by simp [q])
  show wpAny _ _ (field (.ref e) 2 >>= _) _ _ _
  refine wpAny_bind (wpAny_field he rfl (x := .ref z) rfl ?_)
  refine wpAny_bind (nextOf_zip_item D S ta tb hx hy fun h₁ S₁ P₁ z₁ k₁ => ?_)
  replace S₁ : ZS h₁ z TI TO i1 i2 a b (i + 1) := S₁
  replace P₁ : IsPair h₁ hp.objs.size x y := P₁
  replace z₁ : h₁.objs.size = hp.objs.size + 1 := z₁
  replace k₁ : ∀ c o, c ≠ z → c ≠ TO → c ≠ i1 → c ≠ i2 → hp.get? c = some o → h₁.get? c = some o := k₁
  have he₁ : IsEnum h₁ e z i old := k₁ _ _ hez heO he1 he2 he
  show wpAny _ _ (field (.ref e) 3 >>= _) _ _ ⟨h₁, g, d, tk, os⟩
  refine wpAny_bind (wpAny_field he₁ rfl (x := rawInt i) rfl ?_)
  show wpAny _ _ (field (.ref e) 4 >>= _) _ _ ⟨h₁, g, d, tk, os⟩
  refine wpAny_bind (wpAny_field he₁ rfl (x := .none) rfl ?_)
  show wpAny _ _ (mkInt i >>= _) _ _ ⟨h₁, g, d, tk, os⟩
  refine wpAny_bind (wpAny_mkInt ?_)
  show wpAny _ _ (setField (.ref e) 3 (rawInt ((i : Int) + 1)) >>= _) _ _ ⟨h₁, g, d, tk + 1, os⟩
  refine wpAny_bind (wpAny_setField_rec he₁ (by simp) fun h₂ he₂ hs₂ => ?_)
  replace hs₂ : Heap.SameBut e h₁ h₂ := hs₂
  replace he₂ : IsEnum h₂ e z ((i : Int) + 1) old := he₂
  show wpAny _ _ (setField (.ref e) 4 .none >>= _) _ _ ⟨h₂, g, d, tk + 1, os⟩
  refine wpAny_bind (wpAny_setField_rec he₂ (by simp) fun h₃ he₃ hs₃ => ?_)
  replace hs₃ : Heap.SameBut e h₂ h₃ := hs₃
  replace he₃ : IsEnum h₃ e z ((i : Int) + 1) old := he₃
  show wpAny _ _ (newTuple [.int i tk, .ref hp.objs.size] >>= _) _ _ ⟨h₃, g, d, tk + 1, os⟩
  refine wpAny_bind (wpAny_newTuple ?_)
  have hsz : h₃.objs.size = hp.objs.size + 1 := by rw [hs₃.1, hs₂.1, z₁]
  have hel : e < hp.objs.size := Heap.lt_size he
  have he₄ : IsEnum (h₃.push { cls := .type "tuple", data := .seq #[.int i tk, .ref hp.objs.size] }) e z ((i : Int) + 1) old := Heap.get?_push_of_some _ he₃
  generalize hh₄ : h₃.push { cls := .type "tuple", data := .seq #[.int i tk, .ref hp.objs.size] } = h₄ at he₄
  have ht₄ : h₄.get? (hp.objs.size + 1) = some { cls := .type "tuple", data := .seq #[.int i tk, .ref hp.objs.size] } := by rw [← hh₄, ← hsz]; exact Heap.get?_push_size _ rfl
  have k14 : ∀ c o, c ≠ e → h₁.get? c = some o → h₄.get? c = some o := fun c o hc q => by
    rw [← hh₄]; exact Heap.get?_push_of_some _ (hs₃.extBut c o hc (hs₂.extBut c o hc q))
  show wpAny _ _ (Builtin.SmallTypes.ownedTupleIsFree (.ref e) >>= _) _ _ ⟨h₄, g, d, tk + 1, os⟩
  rw [hsz]
  refine wpAny_bind ?_
  · unfold Builtin.SmallTypes.ownedTupleIsFree
    refine wpAny_bind (wpAny_field he₄ rfl (x := .none) rfl (wpAny_pure ?_))
    simp only [if_true]
    refine wpAny_bind (wpAny_rule ?_)
    refine wpAny_bind (wpAny_field he₄ rfl (x := old) rfl ?_)
    refine wpAny_bind (wpAny_setField_rec he₄ (by simp) fun h₅ he₅ hs₅ => ?_)
    replace hs₅ : Heap.SameBut e h₄ h₅ := hs₅
    replace he₅ : IsEnum h₅ e z ((i : Int) + 1) (.ref hp.objs.size) := he₅
    show wpAny _ _ (Builtin.SmallTypes.ownedTupleHandOut (.ref e) (.ref (hp.objs.size + 1)) >>= _) _ _ ⟨h₅, g, d, tk + 1, os⟩
    refine wpAny_bind ?_
    · unfold Builtin.SmallTypes.ownedTupleHandOut
      refine wpAny_bind (wpAny_setField_rec he₅ (by simp) fun h₆ he₆ hs₆ => ?_)
      replace hs₆ : Heap.SameBut e h₅ h₆ := hs₆
      replace he₆ : IsEnumOut h₆ e z ((i : Int) + 1) (.ref hp.objs.size) (hp.objs.size + 1) := he₆
      refine wpAny_setField_rec he₆ (by simp) fun h₇ he₇ hs₇ => ?_
      replace hs₇ : Heap.SameBut e h₆ h₇ := hs₇
      replace he₇ : IsEnumOut h₇ e z ((i : Int) + 1) (.ref hp.objs.size) (hp.objs.size + 1) := he₇
      have k47 : ∀ c o, c ≠ e → h₄.get? c = some o → h₇.get? c = some o := fun c o hc q => hs₇.extBut c o hc (hs₆.extBut c o hc (hs₅.extBut c o hc q))
      have k17 : ∀ c o, c ≠ e → h₁.get? c = some o → h₇.get? c = some o := fun c o hc q => k47 c o hc (k14 c o hc q)
      refine wpAny_bind (wpAny_letGo (wpAny_pure ⟨_, rfl, hQ h₇ he₇ (S₁.at fun c o hm q => k17 c o (fun r => hn (r ▸ hm)) q) (k17 _ _ (Nat.ne_of_gt hel) P₁) (k47 _ _ (Nat.ne_of_gt (Nat.lt_succ_of_lt hel)) ht₄) ?_⟩))
      intro c o hm q
      have m1 : c ≠ e := fun r => hm (by simp [r])
      have m2 : c ≠ z := fun r => hm (by simp [r])
      have m3 : c ≠ TO := fun r => hm (by simp [r])
      have m4 : c ≠ i1 := fun r => hm (by simp [r])
      have m5 : c ≠ i2 := fun r => hm (by simp [r])
      exact k17 c o m1 (k₁ c o m2 m3 m4 m5 q)
theorem pyNext_ez_item {e z TI TO i1 i2 a b : Addr} {i : Nat} {xs ys : Array Value} {x y old : Value} {Q : Option Value → Shared → Prop} (D : ZipApart z TI TO i1 i2 a b) (he : IsEnum s.heap e z i old) (hn : e ∉ [z, TI, TO, i1, i2]) (S : ZS s.heap z TI TO i1 i2 a b i) (ta : s.heap.IsTuple a xs) (tb : s.heap.IsTuple b ys) (hx : xs[i]? = some x) (hy : ys[i]? = some y)
    (hQ : ∀ h', IsEnumOut h' e z ((i : Int) + 1) (.ref s.heap.objs.size) (s.heap.objs.size + 1) → ZS h' z TI TO i1 i2 a b (i + 1) → IsPair h' s.heap.objs.size x y →
      h'.get? (s.heap.objs.size + 1) = some { cls := .type "tuple", data := .seq #[.int i s.toks, .ref s.heap.objs.size] } →
      (∀ c o, c ∉ [e, z, TI, TO, i1, i2] → s.heap.get? c = some o → h'.get? c = some o) → Q (some (.ref (s.heap.objs.size + 1))) { s with heap := h', toks := s.toks + 1 }) :
    wpAny (model prog w) A (pyNext (.ref e)) Q E s := by
  have hT : s.TypeIs (.ref e) "enumerate" := ⟨_, he, rfl⟩
  unfold pyNext
  exact wpAny_bind (wpAny_attempt (wpAny_callSpecial?_slot (name := Str.ofString "__next__") hT F.slot_enumerate_next
    (wpAny_call_entry F.slot_enumerate_next hT F.entry_enumerate_next
      (ez_item D he hn S ta tb hx hy fun h' a b c d k => wpAny_pure (hQ h' a b c d k)) (F.args_enumerate_next_1 _))))
theorem pyNext_ez_end {e z TI TO i1 i2 a b : Addr} {i : Nat} {xs : Array Value} {old : Value} {Q : Option Value → Shared → Prop} (hh : A.handled = none) (D : ZipApart z TI TO i1 i2 a b) (he : IsEnum s.heap e z i old) (S : ZS s.heap z TI TO i1 i2 a b i) (ta : s.heap.IsTuple a xs) (hx : xs[i]? = none)
    (hQ : ∀ h', (∀ c o, c ∉ [e, z, TI, TO, i1, i2] → s.heap.get? c = some o → h'.get? c = some o) → Q none { s with heap := h' }) :
    wpAny (model prog w) A (pyNext (.ref e)) Q E s := by
  have hT : s.TypeIs (.ref e) "enumerate" := ⟨_, he, rfl⟩
  unfold pyNext
  refine wpAny_bind (wpAny_attempt (wpAny_callSpecial?_slot (name := Str.ofString "__next__") hT F.slot_enumerate_next
    (wpAny_call_entry F.slot_enumerate_next hT F.entry_enumerate_next ?_ (F.args_enumerate_next_1 _))))
  show wpAny _ _ (field (.ref e) 2 >>= _) _ _ _
  refine wpAny_bind (wpAny_field he rfl (x := .ref z) rfl ?_)
  refine wpAny_bind (nextOf_zip_end hh D S ta hx fun h' x he' hx' => ?_)
  obtain ⟨o, ho, hc⟩ := hx'
  refine wpAny_bind (wpAny_isInstance (T := "StopIteration") (b := true) ⟨o, ho, hc⟩ isSubtype_stop ?_)
  refine wpAny_pure (hQ _ fun c o hm q => he' c o (fun r => hm (by simp [r])) (fun r => hm (by simp [r])) (fun r => hm (by simp [r])) (fun r => hm (by simp [r])) q)
end
end ZE
namespace L2
open PySem PySem.Sem PyProof.Rows
section
variable {X : Cx} {pins : List (Addr × Obj)} {σ : St} {H : Hp} {s : Shared} {h' : Heap}
theorem Inv.turnedNew2 {t' : Nat} {ch : List Addr} {P T : Addr} {ob op : HO} (I : Inv X pins σ H s) (k : ∀ b o, b ∉ ch → s.heap.get? b = some o → h'.get? b = some o) (hf : ∀ b ∈ ch, FpOk X pins H b) (hP : s.heap.objs.size ≤ P) (hT : s.heap.objs.size ≤ T)
    (newP : ObjOk X.prog X.w (upd (upd H P op) T ob) h' P op) (newT : ObjOk X.prog X.w (upd (upd H P op) T ob) h' T ob) : Inv X pins σ (upd (upd H P op) T ob) { s with heap := h', toks := t' } := by
  have hn : H T = none := I.hok.fresh hT
  have hm : H P = none := I.hok.fresh hP
  have nit : ∀ b u, H b = some u → b ∉ ch := fun b u e z => by
    have q := (hf b z).1
    rw [q] at e; cases e
  have up : ∀ b u, H b = some u → (upd (upd H P op) T ob) b = some u := fun b u e => by
    rw [upd_ne (ne_of_none e hn), upd_ne (ne_of_none e hm)]; exact e
  refine I.step (g' := s.gens) (d' := s.drawn) (ch := ch) (fun b hb => ⟨(hf b hb).2.2.2.1, (hf b hb).2.1, (hf b hb).2.2.2.2.1, (hf b hb).2.2.2.2.2⟩) (fun b o _ _ hc e _ => k b o hc e) (fun b o _ _ hc e _ => ⟨o.slots, k b o hc e⟩)
    (fun b o _ e n => ?_) (fun b o hc e => ⟨o, k b o hc e⟩) (fun b xs e => ?_) (fun b o u e => ?_) (fun b ps e => ⟨#[], ?_⟩) (fun m hm => ?_) (fun b u e => ?_) I.bare
  · rw [upd_ne (Nat.ne_of_lt (Nat.lt_of_lt_of_le (Heap.lt_size e) hT)), upd_ne (Nat.ne_of_lt (Nat.lt_of_lt_of_le (Heap.lt_size e) hP))]; exact n
  · exact up _ _ e
  · exact up _ _ e
  · rw [up _ _ e]; simp
  · obtain ⟨o, es, ep, ho, r⟩ := hm
    exact ⟨o, es, ep, k _ o (fun z => (hf _ z).2.1 rfl) ho, r⟩
  · by_cases hb : b = T
    · subst hb
      rw [upd_same] at e
      cases e
      exact newT
    · rw [upd_ne hb] at e
      by_cases hb2 : b = P
      · subst hb2
        rw [upd_same] at e
        cases e
        exact newP
      · rw [upd_ne hb2] at e
        refine (I.hok b u e).stay (fun c v hc q => k c v ?_ q) (fun c q => up _ _ q) fun c xs q => up _ _ q
        rcases hc with z | z
        · rw [z]; exact nit b u e
        · exact nit c _ z
end
/-! enumerate(tuple) -/
def Iet (K : PySem.W.Frag) (a : Addr) : It :=
  ⟨fun i H => ∃ (xs : List V) (x : V), SqT K H a xs ∧ xs[i]? = some x, fun i H v H' => ∃ T x, v = .ref T ∧ H T = none ∧ H' = upd H T (.tup [.int (i : Nat), x]) ∧ ∀ xs, SqT K H a xs → xs[i]? = some x, fun i H => ∃ xs : List V, SqT K H a xs ∧ xs.length ≤ i⟩
theorem turn_enumT {P : Program} {w : World} {K : PySem.W.Frag} {elts : List Expr} {kk : Nat} {tpos : Pos} (a e it : Addr) (ha : a ≠ it) (hb : a ≠ e) :
    Turn P w K (.Tuple elts kk tpos) (Iet K a) [e, it] e (fun i h => (∃ old, IsEnum h e it ((i : Nat) : Int) old) ∧ h.IsTupleIter it a i ∧ e ≠ it) where
  mem := by simp
  obj := fun i h st b hb => by
    obtain ⟨⟨old, he⟩, ⟨o, ho, hc, hd⟩, _⟩ := st
    have e' : b = e ∨ b = it := by simpa using hb
    rcases e' with z | z
    · rw [z]; exact ⟨_, he, fun v q => nomatch q⟩
    · rw [z]; exact ⟨o, ho, fun v q => by rw [hd] at q; cases q⟩
  keep := fun i h h' st k => let ⟨⟨old, he⟩, hi, hne⟩ := st; ⟨⟨old, k e (by simp) _ he⟩, hi.at fun o q => k it (by simp) o q, hne⟩
  item := by
    intro X hP hw hK hc i pins s σ H E I hf st hg
    subst hP hw hK
    obtain ⟨⟨old, he⟩, hit, hne⟩ := st
    obtain ⟨xs, x, hq, hx⟩ := hg
    obtain ⟨its, rv, p, hz⟩ := I.tuple hq
    obtain ⟨u, hu, ru⟩ := rv.get hx
    have hel : e < s.heap.objs.size := Heap.lt_size he
    have hil : it < s.heap.objs.size := by obtain ⟨_, q, _⟩ := hit; exact Heap.lt_size q
    have hlt : i < its.toArray.size := by
      have := List.getElem?_eq_some_iff.mp hu
      simpa using this.1
    refine wpAny_pyNext_enum_itemD (Draws.tuple (A := X.A.in1) (I.ok.hd hc) it a ha its.toArray) he ⟨hit, p⟩ hlt hne (by simp [hne, Ne.symm hb]) fun v h' tk hv ho hit' hT hsz hk => ?_
    have ev : v = u := by
      have e1 : its[i]? = some v := by simpa using hv
      rw [hu] at e1
      exact (Option.some.inj e1).symm
    subst ev
    refine ⟨_, rfl, wpAny_letOwnedTupleGo_enum (s := { s with heap := h', toks := tk + 1 }) ho fun h'' he' sb => ?_⟩
    have hT2 : h''.get? s.heap.objs.size = some { cls := .type "tuple", data := .seq #[.int i tk, v] } := (sb.2 _ (Nat.ne_of_gt hel)).trans hT
    have new : ObjOk X.prog X.w (upd H s.heap.objs.size (.tup [.int (i : Nat), x])) h'' s.heap.objs.size (.tup [.int (i : Nat), x]) :=
      ⟨by show 2 ≤ sizeLine; decide, [.int i tk, v], .cons ⟨_, rfl⟩ (.cons ru .nil), ⟨_, hT2, rfl, _, rfl⟩⟩
    have I1 : Inv X pins σ (upd H s.heap.objs.size (.tup [.int (i : Nat), x])) { s with heap := h'', toks := tk + 1 } :=
      I.turnedNew (ch := [e, it]) (fun b ob hb q => (sb.2 b (fun z => hb (by simp [z]))).trans (hk b ob (fun z => hb (by simp [z])) (fun z => hb (by simp [z])) q)) hf (Nat.le_refl _) new
    refine ⟨.ref s.heap.objs.size, _, I1, rfl, ⟨_, x, rfl, I.hok.fresh (Nat.le_refl _), rfl, fun ys hy => by rw [I.tuple_inj hy hq]; exact hx⟩, ⟨⟨v, ?_⟩, hit'.1.at fun o q => (sb.2 it (Ne.symm hne)).trans q, hne⟩, fun b hb => ?_⟩
    · have e1 : ((i + 1 : Nat) : Int) = (i : Int) + 1 := by omega
      rw [e1]; exact he'
    · have hb' : b < s.heap.objs.size := by
        have e' : b = e ∨ b = it := by simpa using hb
        rcases e' with z | z
        · rw [z]; exact hel
        · rw [z]; exact hil
      rw [upd_ne (Nat.ne_of_lt hb')]
      exact (hf b hb).1
  done := by
    intro X hP hw hK hc i pins s σ H E I hf st hg
    subst hP hw hK
    obtain ⟨⟨old, he⟩, hit, hne⟩ := st
    obtain ⟨xs, hq, hx⟩ := hg
    obtain ⟨its, rv, p, hz⟩ := I.tuple hq
    obtain ⟨f0, f1, f2, f3, f4, f5⟩ := hf it (by simp)
    have hl := rv.length
    have hT : s.TypeIs (.ref e) "enumerate" := ⟨_, he, rfl⟩
    unfold pyNext
    refine wpAny_bind (wpAny_attempt (wpAny_callSpecial?_slot (name := Str.ofString "__next__") hT F.slot_enumerate_next
      (wpAny_call_entry F.slot_enumerate_next hT F.entry_enumerate_next ?_ (F.args_enumerate_next_1 _))))
    show wpAny _ _ (field (.ref e) 2 >>= _) _ _ _
    refine wpAny_bind (wpAny_field he rfl (x := .ref it) rfl ?_)
    refine wpAny_bind (wpAny_nextOf_tuple_end (I.ok.hd hc) hit p (by simp; omega) fun h' x he' hx' => ?_)
    obtain ⟨o, ho, hc'⟩ := hx'
    refine wpAny_bind (wpAny_isInstance (T := "StopIteration") (b := true) ⟨o, ho, hc'⟩ isSubtype_stop ?_)
    exact wpAny_pure ⟨rfl, I.turned (t' := s.toks) (fun b o hb q => he' b o hb q) f0 f1 f3 f4 f5⟩
  self := fun A i s Q E st h => let ⟨⟨_, he⟩, _⟩ := st; wpAny_pyIter_enum he h
def iEnumT (K : PySem.W.Frag) (ta : TA) : TI := fun σ H R => ta σ H fun vs H1 => ∃ a xs, vs = [.ref a] ∧ SqT K H1 a xs ∧ R (Iet K a) H1
theorem pi_enumT {X : Cx} {e : Expr} {ta : TA} {p pos tpos : Pos} {elts : List Expr} {kk : Nat} (hg : Gl X "enumerate") (hm : X.mg "enumerate" = none) (ha : PA X [e] ta) (hs : starEach [e] X.env = [(false, eval e X.env)] := by rfl) :
    PI X (.Tuple elts kk tpos) (.Call (.Name "enumerate" p) [e] [] pos) (iEnumT X.K ta) := by
  refine ⟨fun pins s σ H R I h => ?_⟩
  refine Call_ (ld_blt I hg hm boot_enumerate (PyProof.Rows.callWith_type1 (thn (ha.run pos pins s σ H _ I h) fun us s1 ⟨vs, H1, I1, r1, q1⟩ => ?_) hs rfl))
  obtain ⟨a, xs, ex, hq, q⟩ := q1
  subst ex
  cases r1 with
  | cons r rr =>
    cases rr
    cases r
    obtain ⟨its, rv, p', hz⟩ := I1.tuple hq
    have la : a < s1.heap.objs.size := p'.lt
    refine ZE.call_enum1 (begins_tuple a its.toArray) p' fun h' he hit hsz hk => wpAny_pyIter_enum he ?_
    have I2 : Inv X pins σ H1 { s1 with heap := h' } := I1.kept (t' := s1.toks) hk
    refine ⟨s1.heap.objs.size + 1, [s1.heap.objs.size + 1, s1.heap.objs.size], _, _, H1, rfl, I2, turn_enumT a (s1.heap.objs.size + 1) s1.heap.objs.size (Nat.ne_of_lt la) (Nat.ne_of_lt (Nat.lt_succ_of_lt la)), ⟨⟨.none, he⟩, ⟨_, hit, rfl, rfl⟩, Nat.succ_ne_self _⟩, fun b hb => ?_, q⟩
    have e' : b = s1.heap.objs.size + 1 ∨ b = s1.heap.objs.size := by simpa using hb
    have hle : s1.heap.objs.size ≤ b := by
      rcases e' with z | z
      · rw [z]; exact Nat.le_add_right _ _
      · rw [z]; exact Nat.le_refl _
    exact I1.fpOk hle (I1.hok.fresh hle)
/-! enumerate(zip(tuple, tuple)) -/
def Itzz (K : PySem.W.Frag) (a b : Addr) : It :=
  ⟨fun i H => ∃ (xs ys : List V) (x y : V), SqT K H a xs ∧ SqT K H b ys ∧ xs[i]? = some x ∧ ys[i]? = some y,
    fun i H v H' => ∃ P T x y, v = .ref T ∧ H P = none ∧ H T = none ∧ T ≠ P ∧ H' = upd (upd H P (.tup [x, y])) T (.tup [.int (i : Nat), .ref P]) ∧ (∀ xs, SqT K H a xs → xs[i]? = some x) ∧ ∀ ys, SqT K H b ys → ys[i]? = some y,
    fun i H => ∃ xs : List V, SqT K H a xs ∧ xs.length ≤ i⟩
theorem turn_enumZ {P : Program} {w : World} {K : PySem.W.Frag} {elts : List Expr} {kk : Nat} {tpos : Pos} {a b e z TI TO i1 i2 : Addr} (D : ZipApart z TI TO i1 i2 a b) (hn : e ∉ [z, TI, TO, i1, i2]) :
    Turn P w K (.Tuple elts kk tpos) (Itzz K a b) [e, z, TI, TO, i1, i2] e (fun i h => (∃ old, IsEnum h e z ((i : Nat) : Int) old) ∧ ZE.ZS h z TI TO i1 i2 a b i) where
  mem := by simp
  obj := fun i h st c hc => by
    obtain ⟨⟨old, he⟩, ⟨v, f, hz, _⟩, hTI, ⟨x, y, hTO⟩, ⟨o1, e1, _, d1⟩, ⟨o2, e2, _, d2⟩⟩ := st
    have e' : c = e ∨ c = z ∨ c = TI ∨ c = TO ∨ c = i1 ∨ c = i2 := by simpa using hc
    rcases e' with q | q | q | q | q | q
    · rw [q]; exact ⟨_, he, fun v q => nomatch q⟩
    · rw [q]; exact ⟨_, hz, fun v q => nomatch q⟩
    · rw [q]; exact ⟨_, hTI, fun v q => nomatch q⟩
    · rw [q]; exact ⟨_, hTO, fun v q => nomatch q⟩
    · rw [q]; exact ⟨o1, e1, fun v q => by rw [d1] at q; cases q⟩
    · rw [q]; exact ⟨o2, e2, fun v q => by rw [d2] at q; cases q⟩
  keep := fun i h h' st k => by
    obtain ⟨⟨old, he⟩, S⟩ := st
    exact ⟨⟨old, k e (by simp) _ he⟩, S.at fun c o hm q => k c (List.mem_cons_of_mem _ hm) o q⟩
  item := by
    intro X hP hw hK hc i pins s σ H E I hf st hg
    subst hP hw hK
    obtain ⟨⟨old, he⟩, S⟩ := st
    obtain ⟨xs, ys, x, y, hqx, hqy, hx, hy⟩ := hg
    obtain ⟨its, rv, p, _⟩ := I.tuple hqx
    obtain ⟨its2, rv2, p2, _⟩ := I.tuple hqy
    obtain ⟨u, hu, ru⟩ := rv.get hx
    obtain ⟨u2, hu2, ru2⟩ := rv2.get hy
    have hel : e < s.heap.objs.size := Heap.lt_size he
    refine ZE.pyNext_ez_item D he hn S p p2 (x := u) (y := u2) (by simpa using hu) (by simpa using hu2) fun h' ho S' hP hT hk => ?_
    refine ⟨_, rfl, wpAny_letOwnedTupleGo_enum (s := { s with heap := h', toks := s.toks + 1 }) ho fun h'' he' sb => ?_⟩
    have hP2 : h''.get? s.heap.objs.size = some { cls := .type "tuple", data := .seq #[u, u2] } := (sb.2 _ (Nat.ne_of_gt hel)).trans hP
    have hT2 : h''.get? (s.heap.objs.size + 1) = some { cls := .type "tuple", data := .seq #[.int i s.toks, .ref s.heap.objs.size] } := (sb.2 _ (Nat.ne_of_gt (Nat.lt_succ_of_lt hel))).trans hT
    have new : ObjOk X.prog X.w (upd H s.heap.objs.size (.tup [x, y])) h'' s.heap.objs.size (.tup [x, y]) :=
      ⟨by show 2 ≤ sizeLine; decide, [u, u2], .cons ru (.cons ru2 .nil), ⟨_, hP2, rfl, _, rfl⟩⟩
    have hk2 : ∀ c o, c ∉ [e, z, TI, TO, i1, i2] → s.heap.get? c = some o → h''.get? c = some o := fun c o hm q => (sb.2 c (fun r => hm (by simp [r]))).trans (hk c o hm q)
    have hlt : ∀ c ∈ [e, z, TI, TO, i1, i2], c < s.heap.objs.size := by
      intro c hcm
      obtain ⟨⟨v, f, hz, _⟩, hTI, ⟨x, y, hTO⟩, ⟨o1, e1, _, d1⟩, ⟨o2, e2, _, d2⟩⟩ := S
      have e' : c = e ∨ c = z ∨ c = TI ∨ c = TO ∨ c = i1 ∨ c = i2 := by simpa using hcm
      rcases e' with q | q | q | q | q | q
      · rw [q]; exact hel
      · rw [q]; exact Heap.lt_size hz
      · rw [q]; exact Heap.lt_size hTI
      · rw [q]; exact Heap.lt_size hTO
      · rw [q]; exact Heap.lt_size e1
      · rw [q]; exact Heap.lt_size e2
    have fr : ∀ c, s.heap.objs.size ≤ c → H c = none := fun c hc => I.hok.fresh hc
    have n1 : H (s.heap.objs.size + 1) = none := fr _ (Nat.le_succ _)
    have new2 : ObjOk X.prog X.w (upd (upd H s.heap.objs.size (.tup [x, y])) (s.heap.objs.size + 1) (.tup [.int (i : Nat), .ref s.heap.objs.size])) h'' (s.heap.objs.size + 1) (.tup [.int (i : Nat), .ref s.heap.objs.size]) :=
      ⟨by show 2 ≤ sizeLine; decide, [.int i s.toks, .ref s.heap.objs.size], .cons ⟨_, rfl⟩ (.cons rfl .nil), ⟨_, hT2, rfl, _, rfl⟩⟩
    have newP : ObjOk X.prog X.w (upd (upd H s.heap.objs.size (.tup [x, y])) (s.heap.objs.size + 1) (.tup [.int (i : Nat), .ref s.heap.objs.size])) h'' s.heap.objs.size (.tup [x, y]) :=
      ⟨by show 2 ≤ sizeLine; decide, [u, u2], .cons ru (.cons ru2 .nil), ⟨_, hP2, rfl, _, rfl⟩⟩
    have I2 : Inv X pins σ (upd (upd H s.heap.objs.size (.tup [x, y])) (s.heap.objs.size + 1) (.tup [.int (i : Nat), .ref s.heap.objs.size])) { s with heap := h'', toks := s.toks + 1 } :=
      I.turnedNew2 (ch := [e, z, TI, TO, i1, i2]) hk2 hf (Nat.le_refl _) (Nat.le_succ _) newP new2
    refine ⟨.ref (s.heap.objs.size + 1), _, I2, rfl, ⟨_, _, x, y, rfl, fr _ (Nat.le_refl _), n1, Nat.succ_ne_self _, rfl, fun l hl => by rw [I.tuple_inj hl hqx]; exact hx, fun l hl => by rw [I.tuple_inj hl hqy]; exact hy⟩, ⟨⟨.ref s.heap.objs.size, ?_⟩, S'.at fun c o hm q => (sb.2 c (fun r => hn (r ▸ hm))).trans q⟩, fun c hcm => ?_⟩
    · have e1 : ((i + 1 : Nat) : Int) = (i : Int) + 1 := by omega
      rw [e1]; exact he'
    · have hl := hlt c hcm
      rw [upd_ne (Nat.ne_of_lt (Nat.lt_succ_of_lt hl)), upd_ne (Nat.ne_of_lt hl)]
      exact (hf c hcm).1
  done := by
    intro X hP hw hK hc i pins s σ H E I hf st hg
    subst hP hw hK
    obtain ⟨⟨old, he⟩, S⟩ := st
    obtain ⟨xs, hq, hx⟩ := hg
    obtain ⟨its, rv, p, _⟩ := I.tuple hq
    have hl := rv.length
    refine ZE.pyNext_ez_end (I.ok.hd hc) D he S p (by simp; omega) fun h' hk => ⟨rfl, I.turnedL (t' := s.toks) (ch := [e, z, TI, TO, i1, i2]) hk hf⟩
  self := fun A i s Q E st h => let ⟨⟨_, he⟩, _⟩ := st; wpAny_pyIter_enum he h
def iEnumZ (K : PySem.W.Frag) (ta : TA) : TI := fun σ H R => ta σ H fun vs H1 => ∃ a b xs ys, vs = [.ref a, .ref b] ∧ SqT K H1 a xs ∧ SqT K H1 b ys ∧ R (Itzz K a b) H1
theorem pi_enumZ {X : Cx} {e e2 : Expr} {ta : TA} {p pos p2 pos2 tpos : Pos} {elts : List Expr} {kk : Nat} (hg : Gl X "enumerate") (hm : X.mg "enumerate" = none) (hg2 : Gl X "zip") (hm2 : X.mg "zip" = none) (ha : PA X [e, e2] ta)
    (hs : starEach [e, e2] X.env = (false, eval e X.env) :: starEach [e2] X.env := by rfl) (hpl : (backTo pos2 (starEach [e2] X.env)).any (·.1) = false := by rfl)
    (hs2 : starEach [.Call (.Name "zip" p2) [e, e2] [] pos2] X.env = [(false, eval (.Call (.Name "zip" p2) [e, e2] [] pos2) X.env)] := by rfl) :
    PI X (.Tuple elts kk tpos) (.Call (.Name "enumerate" p) [.Call (.Name "zip" p2) [e, e2] [] pos2] [] pos) (iEnumZ X.K ta) := by
  refine ⟨fun pins s σ H R I h => ?_⟩
  refine Call_ (ld_blt I hg hm boot_enumerate (PyProof.Rows.callWith_type1 ?_ hs2 rfl))
  rw [hs2]
  refine Calls.spliced_cons (Call_ (ld_blt I hg2 hm2 PyProof.Rows.boot_zip (PyProof.Rows.callWith_type1 (thn (ha.run pos2 pins s σ H _ I h) fun us s1 ⟨vs, H1, I1, r1, q1⟩ => ?_) hs hpl)))
  obtain ⟨a, b, xs, ys, ex, hqx, hqy, q⟩ := q1
  subst ex
  cases r1 with
  | cons r rr =>
    cases rr with
    | cons r' rr =>
      cases rr
      cases r
      cases r'
      obtain ⟨its, rv, p1, _⟩ := I1.tuple hqx
      obtain ⟨its2, rv2, p2, _⟩ := I1.tuple hqy
      have la : a < s1.heap.objs.size := p1.lt
      have lb : b < s1.heap.objs.size := p2.lt
      refine RZ.call_zipT p1 p2 fun h' hz hTI hTO h1 h2 hsz hk => Calls.spliced_nil ?_
      refine ZE.call_enumZ (s := { s1 with heap := h' }) hz fun h'' he hsz2 hk2 => wpAny_pyIter_enum he ?_
      have hk3 : ∀ c o, s1.heap.get? c = some o → h''.get? c = some o := fun c o e => hk2 _ _ (hk _ _ e)
      have I2 : Inv X pins σ H1 { s1 with heap := h'' } := I1.kept (t' := s1.toks) hk3
      replace hsz : h'.objs.size = s1.heap.objs.size + 5 := hsz
      replace he : IsEnum h'' h'.objs.size (s1.heap.objs.size + 4) 0 .none := he
      rw [hsz] at he
      show PIE _ _ _ _ _ (.ref h'.objs.size) _
      rw [hsz]
      refine ⟨s1.heap.objs.size + 5, [s1.heap.objs.size + 5, s1.heap.objs.size + 4, s1.heap.objs.size + 2, s1.heap.objs.size + 3, s1.heap.objs.size, s1.heap.objs.size + 1], _, _, H1, rfl, I2, turn_enumZ (PySem.W.ktu_apart s1.heap.objs.size a b la lb) (by simp), ⟨⟨.none, he⟩, ⟨⟨_, _, hk2 _ _ hz, .inl rfl⟩, hk2 _ _ hTI, ⟨_, _, hk2 _ _ hTO⟩, h1.at fun o e => hk2 _ _ e, h2.at fun o e => hk2 _ _ e⟩⟩, fun c hcm => ?_, q⟩
      have e' : c = s1.heap.objs.size + 5 ∨ c = s1.heap.objs.size + 4 ∨ c = s1.heap.objs.size + 2 ∨ c = s1.heap.objs.size + 3 ∨ c = s1.heap.objs.size ∨ c = s1.heap.objs.size + 1 := by simpa using hcm
      have hle : s1.heap.objs.size ≤ c := by
        rcases e' with z | z | z | z | z | z
        · rw [z]; exact Nat.le_add_right _ _
        · rw [z]; exact Nat.le_add_right _ _
        · rw [z]; exact Nat.le_add_right _ _
        · rw [z]; exact Nat.le_add_right _ _
        · rw [z]; exact Nat.le_refl _
        · rw [z]; exact Nat.le_add_right _ _
      exact I1.fpOk hle (I1.hok.fresh hle)
end L2
namespace Lw
open PySem PySem.Spec PyProof.Rows L2 XV TL XM DO
theorem absab (i : Int) : (if i < 0 then -i else i) = ab i := rfl
/-- a pair at a -/
def PrAt (K : PySem.W.Frag) (H : Hp) (a : Addr) (p : Pr) : Prop := SqT K H a [.int p.1, .int p.2]
theorem PrAt.mono {K : PySem.W.Frag} {H H' : Hp} (s : Same H H') {a : Addr} {p : Pr} (h : PrAt K H a p) : PrAt K H' a p := sqT_mono s h
abbrev sLife : Stmt := topOf "life_of"
theorem scLife : FnScope ["pair"] ["pair"] (defScope sLife) := ⟨rfl, rfl, rfl, by decide +kernel, rfl, by decide +kernel, by decide +kernel⟩
def spLife (K : PySem.W.Frag) : Sp := fun vs H Q _ => ∃ (a : Addr) (p : Pr), vs = [.ref a] ∧ PrAt K H a p ∧ Q (.int (p.2 - p.1)) H
abbrev sGap : Stmt := topOf "pair_gap"
theorem scGap : FnScope ["pair", "other"] ["pair", "other"] (defScope sGap) := ⟨rfl, rfl, rfl, by decide +kernel, rfl, by decide +kernel, by decide +kernel⟩
def spGap (K : PySem.W.Frag) : Sp := fun vs H Q _ => ∃ (a b : Addr) (p q : Pr), vs = [.ref a, .ref b] ∧ PrAt K H a p ∧ PrAt K H b q ∧ Q (.int (gapP p q)) H
abbrev sPof : Stmt := topOf "pairs_of"
theorem scPof : FnScope ["lives", "kind"] ["lives", "kind"] (defScope sPof) := ⟨rfl, rfl, rfl, by decide +kernel, rfl, by decide +kernel, by decide +kernel⟩
/-- the tuple of a kind's pairs -/
def spPof (K : PySem.W.Frag) (C : Addr) : Sp := fun vs H Q _ => ∃ (p : Addr) (A : Fv) (k : Bool), vs = [.ref p, .str (kindW k)] ∧ LvAt K C H p A ∧ ∀ (a : Addr) (xs : List V), H a = some (.tup xs) → PairVs K H xs (A.kind k) → Q (.ref a) H
abbrev sChH : Stmt := topOf "check_handles"
theorem scChH : FnScope ["lives", "other"] ["lives", "other"] (defScope sChH) := ⟨rfl, rfl, rfl, by decide +kernel, rfl, by decide +kernel, by decide +kernel⟩
def spChH (K : PySem.W.Frag) (c : CA) (C : Addr) : Sp := fun vs H Q E => ∃ (p q : Addr) (A B : Fv), vs = [.ref p, .ref q] ∧ LvAt K C H p A ∧ LvAt K C H q B ∧ (A.li.length ≠ B.li.length → UnlE c H E "handles") ∧ (A.li.length = B.li.length → ∀ H', Same H H' → Q .non H')
abbrev sChC : Stmt := topOf "check_call"
theorem scChC : FnScope ["lives", "other", "n"] ["lives", "other", "n"] (defScope sChC) := ⟨rfl, rfl, rfl, by decide +kernel, rfl, by decide +kernel, by decide +kernel⟩
def spChC (K : PySem.W.Frag) (c : CA) (C : Addr) : Sp := fun vs H Q E => ∃ (p q : Addr) (A B : Fv) (n : Int), vs = [.ref p, .ref q, .int n] ∧ LvAt K C H p A ∧ LvAt K C H q B ∧ (A.li.length ≠ B.li.length → UnlE c H E "handles") ∧ (A.li.length = B.li.length → n < 0 → BadVE c H E "n") ∧ (A.li.length = B.li.length → 0 ≤ n → ∀ H', Same H H' → Q .non H')
/-- a def, its promise, where it may raise -/
structure ClX (P : Program) (w : World) (K : PySem.W.Frag) (mg : Str → Option Value) (base : Heap) (k : Nat) (nm : Str) (st : Stmt) (ps : List Str) (sp : Sp) : Prop where
  ex : ∃ f fd, Df K mg nm st ps f fd ∧ FnOk P w K mg base (L2.CX P w) k f fd ps sp
theorem calX {X : Cx} {nm : Str} {st : Stmt} {ps : List Str} {k : Nat} {sp : Sp} {p pos : Pos} {e : Expr} {es : List Expr} {t : TA} {E : L2.St → XK} (D : ClX X.prog X.w X.K X.mg X.base k nm st ps sp) (hr : Room k X.A) (hx : ∀ σ, PassesAt (L2.CX X.prog X.w) X σ (E σ)) (ha : PA X (e :: es) t) (hg : Gl X nm := by rfl)
    (hdb : (nm == ("__debug__" : Str)) = false := by decide) (he : starEach (e :: es) X.env = (false, eval e X.env) :: starEach es X.env := by rfl) (hpl : (backTo pos (starEach es X.env)).any (·.1) = false := by rfl) : PE X (.Call (.Name nm p) (e :: es) [] pos) (tCallS sp E t) := by
  obtain ⟨f, fd, d, g⟩ := D.ex
  exact calS d g hr hx ha hg hdb he hpl
section
variable {P : Program} {w : World} {K : PySem.W.Frag} {mg : Str → Option Value} {base : Heap}
theorem ok_life {f : Addr} {fd : FuncData} (F : Fun K "life_of" "life_of" sLife f fd) (T : Bt mg) : FnOk P w K mg base CX0 1 f fd ["pair"] (spLife K) := by
  refine F.ok scLife (fun vs H Q E h => ?_) (fun cdv A outer s H vs Q E hr h => ?_)
  · obtain ⟨a, p, rfl, _⟩ := h
    rfl
  · obtain ⟨a, p, rfl, hp, k⟩ := h
    refine ⟨_, pss_one (ps_ret (pe_op op_sub (pe_ix ix_tup (pv 0) (pe_int) (fun _ _ => rfl)) (pe_ix ix_tup (pv 0) (pe_int) (fun _ _ => rfl)))), ?_⟩
    exact ⟨_, rfl, a, _, 1, _, rfl, rfl, hp, rfl, _, rfl, a, _, 0, _, rfl, rfl, hp, rfl, _, _, rfl, rfl, k⟩
theorem ok_gap {f : Addr} {fd : FuncData} (F : Fun K "pair_gap" "pair_gap" sGap f fd) (T : Bt mg) : FnOk P w K mg base CX0 1 f fd ["pair", "other"] (spGap K) := by
  refine F.ok scGap (fun vs H Q E h => ?_) (fun cdv A outer s H vs Q E hr h => ?_)
  · obtain ⟨a, b, p, q, rfl, _⟩ := h
    rfl
  · obtain ⟨a, b, p, q, rfl, hp, hq, k⟩ := h
    refine ⟨_, pss_one (ps_ret (pe_op op_mul (pe_int) (pe_callB (call_max2 rfl) (by rfl) T.max (by decide +kernel) (pa_cons (pe_callB call_abs (by rfl) T.abs (by decide +kernel) (pa_cons (pe_op op_sub (pe_ix ix_tup (pv 0) (pe_int) (fun _ _ => rfl)) (pe_ix ix_tup (pv 1) (pe_int) (fun _ _ => rfl))) pa_nil)) (pa_cons (pe_callB call_abs (by rfl) T.abs (by decide +kernel) (pa_cons (pe_op op_sub (pe_ix ix_tup (pv 0) (pe_int) (fun _ _ => rfl)) (pe_ix ix_tup (pv 1) (pe_int) (fun _ _ => rfl))) pa_nil)) pa_nil))))), ?_⟩
    exact ⟨_, rfl, a, _, 0, _, rfl, rfl, hp, rfl, _, rfl, b, _, 0, _, rfl, rfl, hq, rfl, _, _, rfl, rfl, _, rfl, _, rfl, a, _, 1, _, rfl, rfl, hp, rfl, _, rfl, b, _, 1, _, rfl, rfl, hq, rfl, _, _, rfl, rfl, _, rfl, _, _, rfl, _, _, rfl, rfl, .inl ⟨by decide, by decide⟩, k⟩
theorem ok_pof {f C : Addr} {fd : FuncData} (F : Fun K "pairs_of" "pairs_of" sPof f fd) (T : Bt mg) (L : LCls K C) : FnOk P w K mg base CX0 1 f fd ["lives", "kind"] (spPof K C) := by
  refine F.ok scPof (fun vs H Q E h => ?_) (fun cdv A outer s H vs Q E hr h => ?_)
  · obtain ⟨p, A, k, rfl, _⟩ := h
    rfl
  · obtain ⟨p, A, k, rfl, hA, q⟩ := h
    obtain ⟨dx, h, s, l, xs, ys, h1, h2, h3, h4, h5, h6⟩ := hA.ex
    refine ⟨_, pss_one (ps_ret (pe_ifExp (pt_cmpR op_eq (pv 1) (pe_str) (nomark _)) (pe_fld (pv 0) rfl) (pe_fld (pv 0) rfl))), ?_⟩
    cases k with
    | false =>
      refine ⟨_, rfl, rfl, _, rfl, ite_b (fun _ => ?_) (fun c => absurd c (by decide +kernel))⟩
      exact ⟨_, rfl, p, C, dx, _, _, rfl, h1, L.cl, L.nH, lf_hollows, q h xs h2 h5⟩
    | true =>
      refine ⟨_, rfl, rfl, _, rfl, ite_b (fun c => absurd c (by decide +kernel)) (fun _ => ?_)⟩
      exact ⟨_, rfl, p, C, dx, _, _, rfl, h1, L.cl, L.nS, lf_summits, q s ys h3 h6⟩
theorem ok_chH {f C : Addr} {fd : FuncData} {c : CA} (F : Fun K "check_handles" "check_handles" sChH f fd) (T : Bt mg) (D : Xs K mg c) (L : LCls K C) : FnOk P w K mg base (L2.CX P w) 3 f fd ["lives", "other"] (spChH K c C) := by
  refine F.okX scChH (fun vs H Q E h => ?_) (fun cdv A outer s H vs Q E hr h => ?_)
  · obtain ⟨p, q, A, B, rfl, _⟩ := h
    rfl
  · obtain ⟨p, q, A, B, rfl, hA, hB, k1, k2⟩ := h
    obtain ⟨dx, h, s, l, xs, ys, h1, _⟩ := hA.ex
    obtain ⟨dx', h', s', l', xs', ys', h1', _⟩ := hB.ex
    refine ⟨_, pss_one (ps_if (pt_cmpR op_ne (pe_fld (pv 0) rfl) (pe_fld (pv 1) rfl) (nomark _))
 (pss_one (ps_unl rfl rfl D (hr.mono (by decide)) (takes_of rfl rfl rfl rfl) (by exact (pa_cons pe_str pa_nil))))
 (pss_nil)), ?_⟩
    refine ⟨_, rfl, p, C, dx, _, _, rfl, h1, L.cl, L.nha, lf_handles, _, rfl, q, C, dx', _, _, rfl, h1', L.cl, L.nha, lf_handles, rfl, _, rfl, ite_b (fun c1 => ?_) (fun c1 => ?_)⟩
    · have ne : A.li.length ≠ B.li.length := fun e => by
        rw [e] at c1
        simp at c1
      refine ⟨(by show 1 ≤ 1000; decide), fun a1 ha1 => mk_ini (C := c.U) (ns := ["what"]) (code := "Unlike") (vs := [.str "handles"]) rfl ha1 fun d1 h1 e1 g1 hda1 mf1 => ⟨rfl, d1, _, e1, g1, hda1, fun u1 => ?_⟩⟩
      exact ⟨a1, c.U, d1, u1, rfl, (mf1 u1).pa, fr0_none ha1, D.u.T.exC, D.u.T.tyC, unl_do (k1 ne) (Same.refl _) (mf1 u1)⟩
    · refine k2 ?_ _ (Same.refl _)
      have : ((A.li.length : Int)) = B.li.length := by
        apply Classical.byContradiction
        intro hne
        simp [hne] at c1
      exact_mod_cast this
theorem ok_chC {f C : Addr} {fd : FuncData} {c : CA} (F : Fun K "check_call" "check_call" sChC f fd) (T : Bt mg) (D : Xs K mg c) (N : ClX P w K mg base 3 "check_handles" sChH ["lives", "other"] (spChH K c C)) : FnOk P w K mg base (L2.CX P w) 4 f fd ["lives", "other", "n"] (spChC K c C) := by
  refine F.okX scChC (fun vs H Q E h => ?_) (fun cdv A outer s H vs Q E hr h => ?_)
  · obtain ⟨p, q, A, B, n, rfl, _⟩ := h
    rfl
  · obtain ⟨p, q, A, B, n, rfl, hA, hB, k1, k2, k3⟩ := h
    refine ⟨_, pss_cons (ps_expr (by exact (calX N (hr.mono (by decide)) (fun σ => passAt (takes_of rfl rfl rfl rfl) σ) (by exact (pa_cons (pv 0) (pa_cons (pv 1) pa_nil))))))
 (pss_one (ps_if (pt_cmpR op_lt (pv 2) (pe_int) (nomark _))
 (pss_one (ps_badV rfl rfl D (hr.mono (by decide)) (takes_of rfl rfl rfl rfl) (by exact (pa_cons pe_str pa_nil))))
 (pss_nil))), ?_⟩
    refine ⟨_, rfl, _, rfl, p, q, A, B, rfl, hA, hB, fun ne => k1 ne, fun e H1 s1 => ?_⟩
    refine ⟨_, rfl, _, _, rfl, rfl, _, rfl, ite_b (fun c1 => ?_) (fun c1 => ?_)⟩
    · refine ⟨(by show 1 ≤ 1000; decide), fun a1 ha1 => mk_ini (C := c.V) (ns := ["what"]) (code := "BadValue") (vs := [.str "n"]) rfl ha1 fun d1 h1 e1 g1 hda1 mf1 => ⟨rfl, d1, _, e1, g1, hda1, fun u1 => ?_⟩⟩
      exact ⟨a1, c.V, d1, u1, rfl, (mf1 u1).pa, fr0_none (sN s1 ha1), D.v.T.exC, D.v.T.tyC, badV_do (k2 e (of_decide_eq_true c1)) s1 (mf1 u1)⟩
    · exact k3 e (by have := of_decide_eq_false c1; omega) H1 s1
end
end Lw
namespace Lw
open PySem PySem.Spec PyProof.Rows L2 XV TL XM DO
theorem for_enumT {K : PySem.W.Frag} {a : Addr} {xs : List V} {g : TG} {tb : TS} {D : Ends} {σ : L2.St} {H : Hp} (Pv : Nat → L2.St → Hp → Prop) (h0 : Pv 0 σ H) (hq : ∀ i σ H, Pv i σ H → SqT K H a xs)
    (hs : ∀ (i : Nat) (x : V) (T : Addr) (σ : L2.St) (H : Hp), xs[i]? = some x → Pv i σ H → H T = none → g (.ref T) σ (upd H T (.tup [.int (i : Nat), x])) fun σ2 H2 => tb { D with nx := Pv (i + 1), ct := Pv (i + 1), bk := D.nx } σ2 H2) (hd : ∀ σ H, Pv xs.length σ H → D.nx σ H) :
    ∃ W : Nat → Nat → L2.St → Hp → Prop, (∃ m, W 0 m σ H) ∧ ∀ i m σ H, W i m σ H →
      ((Iet K a).stop i H ∧ D.nx σ H) ∨ ((Iet K a).go i H ∧ ∃ N : L2.St → Hp → Prop, (∀ σ' H', N σ' H' → ∃ m', m' < m ∧ W (i + 1) m' σ' H') ∧ ∀ v H', (Iet K a).yld i H v H' → g v σ H' fun σ2 H2 => tb { D with nx := N, ct := N, bk := D.nx } σ2 H2) := by
  refine ⟨fun i m σ H => m = xs.length - i ∧ i ≤ xs.length ∧ Pv i σ H, ⟨xs.length, rfl, Nat.zero_le _, h0⟩, ?_⟩
  rintro i m σ H ⟨rfl, hi, p⟩
  have qx := hq i σ H p
  by_cases hlt : i < xs.length
  · have hx : xs[i]? = some xs[i] := List.getElem?_eq_getElem hlt
    refine .inr ⟨⟨xs, _, qx, hx⟩, Pv (i + 1), fun σ' H' p' => ⟨xs.length - (i + 1), by omega, rfl, hlt, p'⟩, fun v H' y => ?_⟩
    obtain ⟨T, x', rfl, hT, rfl, f1⟩ := y
    exact hs i x' T σ H (f1 xs qx) p hT
  · have e : i = xs.length := by omega
    subst e
    exact .inl ⟨⟨xs, qx, Nat.le_refl _⟩, hd σ H p⟩
theorem for_enumL {K : PySem.W.Frag} {a : Addr} {xs : List V} {g : TG} {tb : TS} {D : Ends} {σ : L2.St} {H : Hp} (Pv : Nat → L2.St → Hp → Prop) (h0 : Pv 0 σ H) (hq : ∀ i σ H, Pv i σ H → SqL K H a xs)
    (hs : ∀ (i : Nat) (x : V) (T : Addr) (σ : L2.St) (H : Hp), xs[i]? = some x → Pv i σ H → H T = none → g (.ref T) σ (upd H T (.tup [.int (i : Nat), x])) fun σ2 H2 => tb { D with nx := Pv (i + 1), ct := Pv (i + 1), bk := D.nx } σ2 H2) (hd : ∀ σ H, Pv xs.length σ H → D.nx σ H) :
    ∃ W : Nat → Nat → L2.St → Hp → Prop, (∃ m, W 0 m σ H) ∧ ∀ i m σ H, W i m σ H →
      ((Ite K a).stop i H ∧ D.nx σ H) ∨ ((Ite K a).go i H ∧ ∃ N : L2.St → Hp → Prop, (∀ σ' H', N σ' H' → ∃ m', m' < m ∧ W (i + 1) m' σ' H') ∧ ∀ v H', (Ite K a).yld i H v H' → g v σ H' fun σ2 H2 => tb { D with nx := N, ct := N, bk := D.nx } σ2 H2) := by
  refine ⟨fun i m σ H => m = xs.length - i ∧ i ≤ xs.length ∧ Pv i σ H, ⟨xs.length, rfl, Nat.zero_le _, h0⟩, ?_⟩
  rintro i m σ H ⟨rfl, hi, p⟩
  have qx := hq i σ H p
  by_cases hlt : i < xs.length
  · have hx : xs[i]? = some xs[i] := List.getElem?_eq_getElem hlt
    refine .inr ⟨⟨xs, _, qx, hx⟩, Pv (i + 1), fun σ' H' p' => ⟨xs.length - (i + 1), by omega, rfl, hlt, p'⟩, fun v H' y => ?_⟩
    obtain ⟨T, x', rfl, hT, rfl, f1⟩ := y
    exact hs i x' T σ H (f1 xs qx) p hT
  · have e : i = xs.length := by omega
    subst e
    exact .inl ⟨⟨xs, qx, Nat.le_refl _⟩, hd σ H p⟩
theorem for_enumZ {K : PySem.W.Frag} {a b : Addr} {xs ys : List V} {g : TG} {tb : TS} {D : Ends} {σ : L2.St} {H : Hp} (hl : xs.length ≤ ys.length) (Pv : Nat → L2.St → Hp → Prop) (h0 : Pv 0 σ H) (hq : ∀ i σ H, Pv i σ H → SqT K H a xs ∧ SqT K H b ys)
    (hs : ∀ (i : Nat) (x y : V) (P T : Addr) (σ : L2.St) (H : Hp), xs[i]? = some x → ys[i]? = some y → Pv i σ H → H P = none → H T = none → T ≠ P → g (.ref T) σ (upd (upd H P (.tup [x, y])) T (.tup [.int (i : Nat), .ref P])) fun σ2 H2 => tb { D with nx := Pv (i + 1), ct := Pv (i + 1), bk := D.nx } σ2 H2) (hd : ∀ σ H, Pv xs.length σ H → D.nx σ H) :
    ∃ W : Nat → Nat → L2.St → Hp → Prop, (∃ m, W 0 m σ H) ∧ ∀ i m σ H, W i m σ H →
      ((Itzz K a b).stop i H ∧ D.nx σ H) ∨ ((Itzz K a b).go i H ∧ ∃ N : L2.St → Hp → Prop, (∀ σ' H', N σ' H' → ∃ m', m' < m ∧ W (i + 1) m' σ' H') ∧ ∀ v H', (Itzz K a b).yld i H v H' → g v σ H' fun σ2 H2 => tb { D with nx := N, ct := N, bk := D.nx } σ2 H2) := by
  refine ⟨fun i m σ H => m = xs.length - i ∧ i ≤ xs.length ∧ Pv i σ H, ⟨xs.length, rfl, Nat.zero_le _, h0⟩, ?_⟩
  rintro i m σ H ⟨rfl, hi, p⟩
  obtain ⟨qx, qy⟩ := hq i σ H p
  by_cases hlt : i < xs.length
  · have hx : xs[i]? = some xs[i] := List.getElem?_eq_getElem hlt
    have hy : ys[i]? = some (ys[i]'(by omega)) := List.getElem?_eq_getElem (by omega)
    refine .inr ⟨⟨xs, ys, _, _, qx, qy, hx, hy⟩, Pv (i + 1), fun σ' H' p' => ⟨xs.length - (i + 1), by omega, rfl, hlt, p'⟩, fun v H' y => ?_⟩
    obtain ⟨P, T, x', y', rfl, hP, hT, ne, rfl, f1, f2⟩ := y
    exact hs i x' y' P T σ H (f1 xs qx) (f2 ys qy) p hP hT ne
  · have e : i = xs.length := by omega
    subst e
    exact .inl ⟨⟨xs, qx, Nat.le_refl _⟩, hd σ H p⟩
/-- the loose bars among the first k -/
def lbV (n : Int) (xs ys : List Int) (k : Nat) : List (List V) := (looseF n 0 (xs.take k) (ys.take k)).map (fun j => [.str "loose", .int (j : Nat)])
theorem looseF_snoc (n : Int) : ∀ (k : Nat) (xs ys : List Int) (x y : Int), xs.length = ys.length → looseF n k (xs ++ [x]) (ys ++ [y]) = looseF n k xs ys ++ (if near1 x y n = true then [] else [k + xs.length])
  | k, [], [], x, y, _ => by simp [looseF]
  | k, a :: xs, b :: ys, x, y, h => by
    have hl : xs.length = ys.length := by simpa using h
    rw [List.cons_append, List.cons_append, looseF, looseF, looseF_snoc n (k + 1) xs ys x y hl, List.append_assoc]
    have e : k + 1 + xs.length = k + (a :: xs).length := by rw [List.length_cons]; omega
    rw [e]
  | k, [], b :: ys, x, y, h => by simp at h
  | k, a :: xs, [], x, y, h => by simp at h
theorem lbV_succ (n : Int) (xs ys : List Int) (k : Nat) (x y : Int) (hl : xs.length = ys.length) (hx : xs[k]? = some x) (hy : ys[k]? = some y) : lbV n xs ys (k + 1) = lbV n xs ys k ++ (if near1 x y n = true then [] else [[.str "loose", .int (k : Nat)]]) := by
  have hk : k < xs.length := (List.getElem?_eq_some_iff.mp hx).1
  unfold lbV
  rw [List.take_add_one, List.take_add_one, hx, hy]
  show List.map _ (looseF n 0 (xs.take k ++ [x]) (ys.take k ++ [y])) = _
  rw [looseF_snoc n 0 (xs.take k) (ys.take k) x y (by rw [List.length_take, List.length_take, hl]), List.map_append]
  have e : 0 + (xs.take k).length = k := by rw [List.length_take]; omega
  rw [e]
  by_cases c : near1 x y n = true
  · rw [if_pos c, if_pos c]; rfl
  · rw [if_neg c, if_neg c]; rfl
theorem far_near (x y n : Int) : decide (n < 2 * ab (x - y)) = !near1 x y n := by
  unfold near1
  by_cases h : 2 * ab (x - y) ≤ n
  · rw [decide_eq_true h, decide_eq_false (by omega)]; rfl
  · rw [decide_eq_false h, decide_eq_true (by omega)]; rfl
theorem looseF_len (n : Int) : ∀ (k : Nat) (xs ys : List Int), (looseF n k xs ys).length ≤ xs.length
  | k, x :: xs, y :: ys => by
    have := looseF_len n (k + 1) xs ys
    rw [looseF, List.length_append, List.length_cons]
    by_cases c : near1 x y n = true
    · rw [if_pos c, List.length_nil]; omega
    · rw [if_neg c, List.length_singleton]; omega
  | k, [], _ => by simp [looseF]
  | k, x :: xs, [] => by simp [looseF]
theorem lbV_len (n : Int) (xs ys : List Int) (k : Nat) : (lbV n xs ys k).length ≤ xs.length := by
  unfold lbV
  rw [List.length_map]
  refine Nat.le_trans (looseF_len _ _ _ _) ?_
  rw [List.length_take]
  omega
abbrev sFar : Stmt := topOf "far_bars"
abbrev NFar : List Str := ["lives", "other", "n", "found", "index", "height", "height2"]
theorem scFar : FnScope NFar ["lives", "other", "n"] (defScope sFar) := ⟨rfl, rfl, rfl, by decide +kernel, rfl, by decide +kernel, by decide +kernel⟩
def spFar (K : PySem.W.Frag) (C : Addr) : Sp := fun vs H Q _ => ∃ (p q : Addr) (A B : Fv) (n : Int), vs = [.ref p, .ref q, .int n] ∧ LvAt K C H p A ∧ LvAt K C H q B ∧ A.li.length = B.li.length ∧ A.li.length ≤ 1000 ∧
  ∀ (l : Addr) (ys : List V) (H' : Hp), Same H H' → H l = none → H' l = some (.lst ys) → TupsAt H' ys (farsV A B n) → Q (.ref l) H'
section
variable {P : Program} {w : World} {K : PySem.W.Frag} {mg : Str → Option Value} {base : Heap}
theorem ok_far {f C : Addr} {fd : FuncData} (F : Fun K "far_bars" "far_bars" sFar f fd) (T : Bt mg) (L : LCls K C) : FnOk P w K mg base CX0 1 f fd ["lives", "other", "n"] (spFar K C) := by
  refine F.ok scFar (fun vs H Q E h => ?_) (fun cdv A outer s H vs Q E hr h => ?_)
  · obtain ⟨p, q, A, B, n, rfl, _⟩ := h
    rfl
  · obtain ⟨p, q, A, B, n, rfl, hA, hB, hl, hk, k⟩ := h
    obtain ⟨dx, h, s, l, xs, ys, h1, _, _, h4, _, _⟩ := hA.ex
    obtain ⟨dx', h', s', l', xs', ys', h1', _, _, h4', _, _⟩ := hB.ex
    refine ⟨_, pss_cons (ps_set (i := 3) scFar.nd rfl (Or.inl rfl) (pe_lst (pa_nil)))
 (pss_cons (ps_for PassesOwn.never rfl (pi_enumZ rfl T.enumerate rfl T.zip (pa_cons (pe_fld (pv 0) rfl) (pa_cons (pe_fld (pv 1) rfl) pa_nil))) (pg_tup rfl (pgs_cons (pg_name (i := 4) scFar.nd rfl (Or.inl rfl)) (pgs_cons (pg_tup rfl (pgs_cons (pg_name (i := 5) scFar.nd rfl (Or.inl rfl)) (pgs_cons (pg_name (i := 6) scFar.nd rfl (Or.inl rfl)) (pgs_nil)))) (pgs_nil))))
 (pss_one (ps_if (pt_cmpR op_gt (pe_op op_mul (pe_int) (pe_callB call_abs (by rfl) T.abs (by decide +kernel) (pa_cons (pe_op op_sub (pv 5) (pv 6)) pa_nil))) (pv 2) (nomark _))
 (pss_one (ps_expr (pe_bm PySem.F.plainAttrs_list PySem.F.slot_list_append PySem.F.type_list_append mt_append (pv 3) (pa_cons (pe_tup (pa_cons (pe_str) (pa_cons (pv 4) pa_nil))) pa_nil))))
 (pss_nil))))
 (pss_cons (ps_if (pt_cmpR op_gt (pe_op op_mul (pe_int) (pe_callB call_abs (by rfl) T.abs (by decide +kernel) (pa_cons (pe_op op_sub (pe_fld (pv 0) rfl) (pe_fld (pv 1) rfl)) pa_nil))) (pv 2) (nomark _))
 (pss_one (ps_expr (pe_bm PySem.F.plainAttrs_list PySem.F.slot_list_append PySem.F.type_list_append mt_append (pv 3) (pa_cons (pe_tup (pa_cons (pe_str) pa_nil)) pa_nil))))
 (pss_nil))
 (pss_cons (ps_if (pt_cmpR op_gt (pe_op op_mul (pe_int) (pe_callB call_abs (by rfl) T.abs (by decide +kernel) (pa_cons (pe_op op_sub (pe_fld (pv 0) rfl) (pe_fld (pv 1) rfl)) pa_nil))) (pv 2) (nomark _))
 (pss_one (ps_expr (pe_bm PySem.F.plainAttrs_list PySem.F.slot_list_append PySem.F.type_list_append mt_append (pv 3) (pa_cons (pe_tup (pa_cons (pe_str) pa_nil)) pa_nil))))
 (pss_nil))
 (pss_one (ps_ret (pv 3)))))), ?_⟩
    refine ⟨Nat.zero_le _, fun r hr0 => ?_⟩
    have s0 := same_new (o := .lst []) hr0
    refine ⟨_, rfl, p, C, dx, _, _, rfl, s0 _ _ h1, L.cl, L.nL, lf_loose, _, rfl, q, C, dx', _, _, rfl, s0 _ _ h1', L.cl, L.nL, lf_loose, l, l', _, _, rfl, SqT.of (s0 _ _ h4), SqT.of (s0 _ _ h4'), for_enumZ (K := K) (xs := A.li.map V.int) (ys := B.li.map V.int) (by simp [hl]) (fun i σ H2 => ∃ (x4 x5 x6 : Option V) (zs : List V), σ = [some (.ref p), some (.ref q), some (.int n), some (.ref r), x4, x5, x6] ∧ Same H H2 ∧ H2 r = some (.lst zs) ∧ TupsAt H2 zs (lbV n A.li B.li i))
      ⟨none, none, none, [], rfl, s0, upd_same, ⟨by simp [lbV, looseF], fun i x hx => by cases hx⟩⟩ (fun i σ H2 h => ?_) ?_ ?_⟩
    · obtain ⟨_, _, _, _, _, s2, _⟩ := h
      exact ⟨SqT.of (s2 _ _ h4), SqT.of (s2 _ _ h4')⟩
    · rintro i x y P' T' σ H2 hx hy ⟨x4, x5, x6, zs, rfl, s2, e2, t2⟩ hP hT ne
      obtain ⟨x, hx', rfl⟩ : ∃ z, A.li[i]? = some z ∧ V.int z = x := by
        rw [List.getElem?_map] at hx
        exact Option.map_eq_some_iff.mp hx
      obtain ⟨y, hy', rfl⟩ : ∃ z, B.li[i]? = some z ∧ V.int z = y := by
        rw [List.getElem?_map] at hy
        exact Option.map_eq_some_iff.mp hy
      have hs := lbV_succ n A.li B.li i x y hl hx' hy'
      have s3 := Same.trans (same_new (o := .tup [.int x, .int y]) hP) (same_new (o := .tup [.int (i : Nat), .ref P']) (p := T') (by rw [upd_ne ne]; exact hT))
      have eP : (upd (upd H2 P' (.tup [.int x, .int y])) T' (.tup [.int (i : Nat), .ref P'])) P' = some (.tup [.int x, .int y]) := by rw [upd_ne ne.symm]; exact upd_same
      have eT : (upd (upd H2 P' (.tup [.int x, .int y])) T' (.tup [.int (i : Nat), .ref P'])) T' = some (.tup [.int (i : Nat), .ref P']) := upd_same
      generalize upd (upd H2 P' (.tup [.int x, .int y])) T' (.tup [.int (i : Nat), .ref P']) = H3 at s3 eP eT ⊢
      refine ⟨T', _, rfl, SqT.of eT, rfl, _, _, rfl, _, _, rfl, P', _, rfl, SqT.of eP, rfl, _, _, rfl, _, _, rfl, rfl, rfl, ?_⟩
      refine ⟨_, rfl, _, rfl, _, _, rfl, rfl, _, rfl, _, _, rfl, rfl, .inl ⟨by decide, by decide⟩, _, rfl, _, _, rfl, rfl, _, rfl, ite_b (fun c => ?_) (fun c => ?_)⟩
      · have c' : near1 x y n = false := by
          have := (far_near x y n).symm.trans c
          simpa using this
        rw [if_neg (by rw [c']; exact Bool.false_ne_true)] at hs
        have e3 := s3 _ _ e2
        refine ⟨_, rfl, tyL e3, _, rfl, (by show 2 ≤ sizeLine; decide), fun t ht => ?_⟩
        have nt : t ≠ r := fun z => by rw [z, e3] at ht; cases ht
        refine ⟨r, zs, _, rfl, rfl, by rw [upd_ne nt.symm]; exact e3, by rw [t2.1, sizeLine_eq]; have := lbV_len n A.li B.li i; omega, ?_⟩
        refine ⟨_, _, _, _, rfl, fun b o hb => ?_, upd_same, ?_⟩
        · have h2 := s3 _ _ (s2 _ _ hb)
          rw [upd_ne (ne_of_none hb hr0), upd_ne (ne_of_none h2 ht)]
          exact h2
        · rw [hs]
          refine (t2.turn fun a ys e => ?_).snoc (by rw [upd_ne nt]; exact upd_same)
          have e4 := s3 _ _ e
          rw [upd_ne (ne_of e4 e3 (by intro z; cases z)), upd_ne (ne_of_none e4 ht)]
          exact e4
      · have c' : near1 x y n = true := by
          have := (far_near x y n).symm.trans c
          simpa using this
        rw [if_pos c', List.append_nil] at hs
        refine ⟨_, _, _, _, rfl, Same.trans s2 s3, s3 _ _ e2, ?_⟩
        rw [hs]
        exact t2.turn fun a ys e => s3 _ _ e
    · rintro σ H2 ⟨x4, x5, x6, zs, rfl, s2, e2, t2⟩
      rw [List.length_map] at t2
      have hfull : lbV n A.li B.li A.li.length = (looseF n 0 A.li B.li).map (fun k => [.str "loose", .int (k : Nat)]) := by
        unfold lbV
        rw [List.take_length, hl, List.take_length]
      have lz : zs.length ≤ 1000 := by rw [t2.1]; exact Nat.le_trans (lbV_len _ _ _ _) hk
      rw [hfull] at t2
      -- lowest
      refine ⟨_, rfl, p, C, dx, _, _, rfl, s2 _ _ h1, L.cl, L.nlo, lf_lowest, _, rfl, q, C, dx', _, _, rfl, s2 _ _ h1', L.cl, L.nlo, lf_lowest, _, _, rfl, rfl, _, rfl, _, _, rfl, rfl, .inl ⟨by decide, by decide⟩, _, rfl, _, _, rfl, rfl, _, rfl, ite_b (fun c1 => ?_) (fun c1 => ?_)⟩
      · have nl : near1 A.lo B.lo n = false := by
          have := (far_near A.lo B.lo n).symm.trans c1
          simpa using this
        refine ⟨_, rfl, tyL e2, (by show 1 ≤ sizeLine; decide), fun t ht => ?_⟩
        have nt : t ≠ r := fun z => by rw [z, e2] at ht; cases ht
        refine ⟨r, zs, _, rfl, rfl, by rw [upd_ne nt.symm]; exact e2, by rw [sizeLine_eq]; omega, ?_⟩
        have s3 : Same H (upd (upd H2 t (.tup [.str "lowest"])) r (.lst (zs ++ [.ref t]))) := fun b o hb => by
          have h2 := s2 _ _ hb
          rw [upd_ne (ne_of_none hb hr0), upd_ne (ne_of_none h2 ht)]
          exact h2
        have e3 : (upd (upd H2 t (.tup [.str "lowest"])) r (.lst (zs ++ [.ref t]))) r = some (.lst (zs ++ [.ref t])) := upd_same
        have t3 := (t2.turn (M' := upd (upd H2 t (.tup [.str "lowest"])) r (.lst (zs ++ [.ref t]))) fun a ys e => by
          rw [upd_ne (ne_of e e2 (by intro z; cases z)), upd_ne (ne_of_none e ht)]
          exact e).snoc (t := t) (c := [.str "lowest"]) (by rw [upd_ne nt]; exact upd_same)
        generalize upd (upd H2 t (.tup [.str "lowest"])) r (.lst (zs ++ [.ref t])) = H3 at s3 e3 t3 ⊢
        refine ⟨_, rfl, p, C, dx, _, _, rfl, s3 _ _ h1, L.cl, L.nhi, lf_highest, _, rfl, q, C, dx', _, _, rfl, s3 _ _ h1', L.cl, L.nhi, lf_highest, _, _, rfl, rfl, _, rfl, _, _, rfl, rfl, .inl ⟨by decide, by decide⟩, _, rfl, _, _, rfl, rfl, _, rfl, ite_b (fun c2 => ?_) (fun c2 => ?_)⟩
        · have nh : near1 A.hi B.hi n = false := by
            have := (far_near A.hi B.hi n).symm.trans c2
            simpa using this
          have l3 : (zs ++ [V.ref t]).length ≤ 1001 := by rw [List.length_append, List.length_singleton]; omega
          obtain ⟨zs3, ez3⟩ : ∃ z, z = zs ++ [V.ref t] := ⟨_, rfl⟩
          rw [← ez3] at e3 t3 l3
          clear ez3 nt ht
          refine ⟨_, rfl, tyL e3, (by show 1 ≤ sizeLine; decide), fun t2 ht2 => ?_⟩
          have nt2 : t2 ≠ r := fun z => by rw [z, e3] at ht2; cases ht2
          refine ⟨r, zs3, _, rfl, rfl, by rw [upd_ne nt2.symm]; exact e3, by rw [sizeLine_eq]; omega, ?_⟩
          have s4 : Same H (upd (upd H3 t2 (.tup [.str "highest"])) r (.lst (zs3 ++ [.ref t2]))) := fun b o hb => by
            have h2 := s3 _ _ hb
            rw [upd_ne (ne_of_none hb hr0), upd_ne (ne_of_none h2 ht2)]
            exact h2
          have e4 : (upd (upd H3 t2 (.tup [.str "highest"])) r (.lst (zs3 ++ [.ref t2]))) r = some (.lst (zs3 ++ [.ref t2])) := upd_same
          have t4 := (t3.turn (M' := upd (upd H3 t2 (.tup [.str "highest"])) r (.lst (zs3 ++ [.ref t2]))) fun a ys e => by
            rw [upd_ne (ne_of e e3 (by intro z; cases z)), upd_ne (ne_of_none e ht2)]
            exact e).snoc (t := t2) (c := [.str "highest"]) (by rw [upd_ne nt2]; exact upd_same)
          generalize upd (upd H3 t2 (.tup [.str "highest"])) r (.lst (zs3 ++ [.ref t2])) = H4 at s4 e4 t4 ⊢
          exact ⟨_, rfl, k r _ _ s4 hr0 e4 (by
            unfold farsV
            rw [if_neg (by rw [nl]; exact Bool.false_ne_true), if_neg (by rw [nh]; exact Bool.false_ne_true)]
            simpa using t4)⟩
        · have nh : near1 A.hi B.hi n = true := by
            have := (far_near A.hi B.hi n).symm.trans c2
            simpa using this
          exact ⟨_, rfl, k r _ _ s3 hr0 e3 (by
            unfold farsV
            rw [if_neg (by rw [nl]; exact Bool.false_ne_true), if_pos nh]
            simpa using t3)⟩
      · have nl : near1 A.lo B.lo n = true := by
          have := (far_near A.lo B.lo n).symm.trans c1
          simpa using this
        refine ⟨_, rfl, p, C, dx, _, _, rfl, s2 _ _ h1, L.cl, L.nhi, lf_highest, _, rfl, q, C, dx', _, _, rfl, s2 _ _ h1', L.cl, L.nhi, lf_highest, _, _, rfl, rfl, _, rfl, _, _, rfl, rfl, .inl ⟨by decide, by decide⟩, _, rfl, _, _, rfl, rfl, _, rfl, ite_b (fun c2 => ?_) (fun c2 => ?_)⟩
        · have nh : near1 A.hi B.hi n = false := by
            have := (far_near A.hi B.hi n).symm.trans c2
            simpa using this
          refine ⟨_, rfl, tyL e2, (by show 1 ≤ sizeLine; decide), fun t ht => ?_⟩
          have nt : t ≠ r := fun z => by rw [z, e2] at ht; cases ht
          refine ⟨r, zs, _, rfl, rfl, by rw [upd_ne nt.symm]; exact e2, by rw [sizeLine_eq]; omega, ?_⟩
          have s4 : Same H (upd (upd H2 t (.tup [.str "highest"])) r (.lst (zs ++ [.ref t]))) := fun b o hb => by
            have h2 := s2 _ _ hb
            rw [upd_ne (ne_of_none hb hr0), upd_ne (ne_of_none h2 ht)]
            exact h2
          have e4 : (upd (upd H2 t (.tup [.str "highest"])) r (.lst (zs ++ [.ref t]))) r = some (.lst (zs ++ [.ref t])) := upd_same
          have t4 := (t2.turn (M' := upd (upd H2 t (.tup [.str "highest"])) r (.lst (zs ++ [.ref t]))) fun a ys e => by
            rw [upd_ne (ne_of e e2 (by intro z; cases z)), upd_ne (ne_of_none e ht)]
            exact e).snoc (t := t) (c := [.str "highest"]) (by rw [upd_ne nt]; exact upd_same)
          generalize upd (upd H2 t (.tup [.str "highest"])) r (.lst (zs ++ [.ref t])) = H4 at s4 e4 t4 ⊢
          exact ⟨_, rfl, k r _ _ s4 hr0 e4 (by
            unfold farsV
            rw [if_pos nl, if_neg (by rw [nh]; exact Bool.false_ne_true)]
            simpa using t4)⟩
        · have nh : near1 A.hi B.hi n = true := by
            have := (far_near A.hi B.hi n).symm.trans c2
            simpa using this
          exact ⟨_, rfl, k r _ _ s2 hr0 e2 (by
            unfold farsV
            rw [if_pos nl, if_pos nh]
            simpa using t2)⟩
end
end Lw
/-! set(xs), xs a list of ints: the set with its places told (SetR) -/
namespace ZE
open PySem PyProof.Rows L2
open PySem.Sem (wp)
section
variable {P : Program} {w : World} {A : Around} {E : Value → Shared → Prop} {s : Shared}
/-- the bare new set -/
abbrev ns0 (w : World) : Obj := { cls := .type "set", dict := none, data := .set #[] 0 (.fresh 0 0 (!w.params.followText "set-order")) }
/-- the list goes into the new set -/
theorem fillL {l : Addr} {items : Array Value} {ns : List Int} {h0 : Heap} {g : Array GenState} (hh : A.handled = none) (hl : s.heap.IsList l items) (hit : IntsAre items.toList ns) (hb : ns.length + 1 < scanBound) (S I : Addr) (e1 : S < s.heap.objs.size) (e2 : l ≠ S) (hS : s.heap.get? S = some (ns0 w)) {R : Result → Shared → Prop}
    (q : ∀ h' tk c, SetR w h' S (fun j => decide (j ∈ ns)) c → c ≤ ns.length → (∀ b o, b ≠ S → s.heap.get? b = some o → h'.get? b = some o) → R (.ok (.ret .none)) { s with heap := h', toks := tk }) :
    codeAny (model P w) A (.builtin "set.update.loop" ⟨[.ref S, .ref s.heap.objs.size], []⟩) R { s with heap := s.heap.push { cls := .type "list_iterator", data := .fields #[.ref l, .int 0 0] } } := by
  have sz : items.size = ns.length := by
    have e := IntsAre.length hit
    rwa [Array.length_toList] at e
  have ll : l < s.heap.objs.size := let ⟨_, h, _⟩ := hl; Heap.lt_size h
  have nS : S ∉ [s.heap.objs.size, l] := by
    simp only [List.mem_cons, List.not_mem_nil, or_false, not_or]
    exact ⟨Nat.ne_of_lt e1, e2.symm⟩
  have vl : ∀ (i : Nat) (v : Value), items[i]? = some v → ∃ k t, ns[i]? = some k ∧ v = .int k t := fun i v hv => by
    have hi : i < ns.length := by rw [← sz]; exact (Array.getElem?_eq_some_iff.mp hv).1
    obtain ⟨t, e⟩ := IntsAre.int_at hit i v (by rw [Array.getElem?_toList]; exact hv)
    exact ⟨ns[i], t, List.getElem?_eq_getElem hi, by rw [e, List.getD_eq_getElem?_getD, List.getElem?_eq_getElem hi]; rfl⟩
  refine set_update_ints (P := P) (w := w) (A := A) ((Walks.list (A := A.in1) hh s.heap.objs.size l (Nat.ne_of_lt ll) items).toS) S nS ns sz hb vl _ 0 _ rfl (Nat.zero_le _) ⟨⟨_, Heap.get?_push_size _ rfl, rfl, rfl⟩, hl.push _⟩ ⟨0, Nat.le_refl 0, setR_new_at (Heap.get?_push_of_some _ hS)⟩ fun s' c hm hc hR => ?_
  obtain ⟨h', g', d', tk', os'⟩ := s'
  have z1 : g' = s.gens := hm.gens
  have z2 : d' = s.drawn := hm.drawn
  have z3 : os' = s.os := hm.os
  subst z1 z2 z3
  refine q h' tk' c hR (by omega) fun b o hb e => ?_
  refine hm.heap b o ?_ (Heap.get?_push_of_some _ e)
  simp only [List.mem_cons, List.not_mem_nil, or_false, not_or]
  exact ⟨hb, Nat.ne_of_lt (Heap.lt_size e)⟩
/-- set(l) -/
theorem set_ofL {l : Addr} {items : Array Value} {ns : List Int} {Q : Value → Shared → Prop} (hh : A.handled = none) (hl : s.heap.IsList l items) (hit : IntsAre items.toList ns) (hb : ns.length + 1 < scanBound)
    (h : ∀ h' tk c, SetR w h' s.heap.objs.size (fun j => decide (j ∈ ns)) c → c ≤ ns.length → (∀ b o, s.heap.get? b = some o → h'.get? b = some o) → Q (.ref s.heap.objs.size) { s with heap := h', toks := tk }) :
    wpAny (model P w) A (call (.type "set") [.ref l]) Q E s := by
  have mk := F.called_set
  obtain ⟨c, tl, hmro⟩ := mk.mro
  have hmade := mk.made
  have hsub := mk.sub
  have h1 := mk.notType
  have h2 := mk.canCreate
  have hct := F.typeCall_set_1 (.ref l)
  refine wpAny_call (codeAny_of_tree ?_)
  show wpAny _ _ (callAny (.type "set") _) _ _ _
  refine wpAny_pure ⟨Code.quiet_builtin _ (by decide +kernel), codeAny_builtin F.entry_type_call ?_⟩
  rw [Around.under_plain (weight_type_call_type "set" [.ref l] []) rfl]
  repeat (any_goals (first | assumption | wp_step))
  have new : (s.heap.push (ns0 w)).get? s.heap.objs.size = some (ns0 w) := Heap.get?_push_size _ rfl
  refine codeAny_mono (code_set_led1 (.ref l) (E := E) (Q₁ := fun v t => v = .ref s.heap.objs.size ∧ t = { s with heap := s.heap.push (ns0 w) }) ⟨rfl, rfl⟩) fun r t hr => ?_
  match r, hr with
  | .error e, hr => exact hr
  | .ok (.ret v), ⟨ev, et⟩ =>
    subst ev et
    have ty : Shared.TypeIs { s with heap := s.heap.push (ns0 w) } (.ref s.heap.objs.size) "set" := ⟨_, new, rfl⟩
    have hli := mk.init.lookup
    have hbi := mk.init.bind (.ref s.heap.objs.size)
    repeat (any_goals (first | assumption | wp_step))
    refine codeAny_mono (codeAny_call_builtin (R := wants (fun r t => r = .none ∧ ∃ h' tk c, t = { s with heap := h', toks := tk } ∧ SetR w h' s.heap.objs.size (fun j => decide (j ∈ ns)) c ∧ c ≤ ns.length ∧ (∀ b o, s.heap.get? b = some o → h'.get? b = some o)) E) mk.init.plain F.entry_set_init (check_set_init_1 ty ?_)) fun r t hr => ?_
    · obtain ⟨⟨k1, k2, k3, k4⟩, hol, hcl, nl, hdl⟩ := hl
      replace hcl : k1 = .type "list" := hcl
      replace hdl : k3 = .seq items nl := hdl
      subst hcl hdl
      have hol2 : (s.heap.push (ns0 w)).get? l = some { cls := .type "list", dict := k2, data := .seq items nl, slots := k4 } := Heap.get?_push_of_some _ hol
      have ls : (s.heap.push (ns0 w)).IsList l items := ⟨_, hol2, rfl, nl, rfl⟩
      have f1 := F.sub_list_set
      have f2 := F.sub_list_frozenset
      have f3 : (Value.type "list" == Value.type "dict") = false := by decide
      unfold Builtin.«set.__init__» noKeywords Builtin.Frozenset.updateFrom
      generalize hPI : pyIter = PI
      wp_walk
      subst hPI
      refine wpAny_pyIter_list ls (wpAny_bind (wpAny_runValue ?_))
      refine fillL (s := { s with heap := s.heap.push (ns0 w) }) (h0 := s.heap) (g := s.gens) (by simp [hh]) ls hit hb s.heap.objs.size l (by show _ < (s.heap.push (ns0 w)).objs.size; rw [Heap.size_push]; exact Nat.lt_succ_self _) (Nat.ne_of_lt (Heap.lt_size hol)) new fun h' tk c R hc k => ?_
      show wpAny _ _ _ _ _ _
      refine wpAny_pure ?_
      show wpAny _ _ (ret Value.none) _ _ _
      exact wpAny_pure ⟨rfl, h', tk, c, rfl, R, hc, fun b o e => k b o (Nat.ne_of_lt (Heap.lt_size e)) (Heap.get?_push_of_some _ e)⟩
    · match r, hr with
      | .error e, hr => exact hr
      | .ok (.ret r), ⟨er, h', tk, c, et, R, hc, k⟩ =>
        subst er et
        repeat (any_goals (first | assumption | wp_step))
        exact h h' tk c R hc k
end
end ZE
namespace L2
open PySem PySem.Sem PyProof.Rows
section
variable {X : Cx}
/-- set(l), l a list of ints -/
def rSetLi (w : World) (K : PySem.W.Frag) : List V → Hp → VK → Prop := fun xs H Q => ∃ (l : Addr) (ns : List Int), xs = [.ref l] ∧ SqL K H l (ns.map V.int) ∧ ns.length ≤ 4000 ∧ ∀ p c, H p = none → c ≤ ns.length → Q (.ref p) (upd H p (SetO w p (fun j => decide (j ∈ ns)) c))
theorem cr_setLi (hc : X.calm = true) : CallR X (.type "set") (rSetLi X.w X.K) := by
  intro pins s σ H xs us Q I r h
  obtain ⟨l, ns, rfl, hq, hn, q⟩ := h
  cases r with
  | cons r rr =>
    cases rr
    cases r
    obtain ⟨its, rv, p, hz⟩ := I.list hq
    refine ZE.set_ofL (I.ok.hd hc) p.isList (show IntsAre its.toArray.toList ns from ints_of_vals rv) (by unfold scanBound; omega) fun h' tk c R hc' k => ?_
    exact ⟨.ref _, _, I.laid (t' := tk) k (Nat.le_refl _) (setO_new R), rfl, q _ c (I.hok.fresh (Nat.le_refl _)) hc'⟩
end
end L2
namespace Lw
open PySem PySem.Spec PyProof.Rows L2 XV TL XM DO
theorem pairIx {K : PySem.W.Frag} {H : Hp} {xs : List V} {ps : List Pr} {i : Int} (h : PairVs K H xs ps) (h0 : 0 ≤ i) (h1 : i < ps.length) : ∃ t : Addr, atI xs i = some (.ref t) ∧ PrAt K H t (getP ps i) := by
  obtain ⟨v, a1, a2, a3⟩ := at_pos (xs := xs) h0 (by rw [h.1]; exact h1)
  obtain ⟨t, p, b1, rfl, b3⟩ := h.2 _ _ a2
  refine ⟨t, a1, ?_⟩
  have e : getP ps i = p := by
    unfold getP
    rw [b1]
    rfl
  rw [e]
  exact b3
def natV : Option Nat → V
  | none => .non
  | some k => .int (k : Nat)
def InR (ps qs : List Pr) (r : Pr) : Prop := (0 ≤ r.1 ∧ r.1 < ps.length) ∧ (0 ≤ r.2 ∧ r.2 < qs.length)
end Lw
namespace Lw
open PySem PySem.Spec PyProof.Rows L2 XV TL XM DO
def rowK (r1 r2 : List Pr) (k : Bool) : List Pr := if k then r2 else r1
/-- rows at a -/
structure RowsAt (K : PySem.W.Frag) (H : Hp) (a : Addr) (rs : List Pr) : Prop where
  ex : ∃ zs, SqL K H a zs ∧ PairVs K H zs rs
theorem RowsAt.mono {K : PySem.W.Frag} {H H' : Hp} (s : Same H H') {a : Addr} {rs : List Pr} (h : RowsAt K H a rs) : RowsAt K H' a rs := by
  obtain ⟨zs, h1, h2⟩ := h.ex
  exact ⟨zs, s.seq h1, h2.mono s⟩
theorem two_at {H : Hp} {t1 t2 r s : Addr} (e1 : H t1 = some (.tup [.str "hollows", .ref r])) (e2 : H t2 = some (.tup [.str "summits", .ref s])) {i : Nat} {x : V} (h : [V.ref t1, V.ref t2][i]? = some x) :
    ∃ (k : Bool) (tk : Addr), x = .ref tk ∧ H tk = some (.tup [.str (kindW k), .ref (if k = true then s else r)]) ∧ ((k = false ∧ i = 0) ∨ (k = true ∧ i = 1)) := by
  match i, h with
  | 0, h => cases h; exact ⟨false, t1, rfl, e1, .inl ⟨rfl, rfl⟩⟩
  | 1, h => cases h; exact ⟨true, t2, rfl, e2, .inr ⟨rfl, rfl⟩⟩
theorem rows_of {K : PySem.W.Frag} {H : Hp} {r s : Addr} {r1 r2 : List Pr} (h1 : RowsAt K H r r1) (h2 : RowsAt K H s r2) (k : Bool) : RowsAt K H (if k = true then s else r) (rowK r1 r2 k) := by
  cases k
  · exact h1
  · exact h2
/-- what is left of the faults -/
theorem fst_none {a b : Option Ft} (h : a = none) : fst? a b = b := by rw [h]; rfl
theorem fst_some {a b : Option Ft} {t : Ft} (h : a = some t) : fst? a b = some t := by rw [h]; rfl
theorem far_head (A B : Fv) (n : Int) : (farAt A B n = none ∧ farsV A B n = []) ∨ ∃ t c tl, farAt A B n = some t ∧ farsV A B n = c :: tl ∧ ((∃ w x, c = [w, x] ∧ ftV t = [.str "M3", w, x]) ∨ ∃ w, c = [w] ∧ ftV t = [.str "M3", w, .non]) := by
  unfold farAt farsV
  cases looseF n 0 A.li B.li with
  | cons i is => exact .inr ⟨_, _, _, rfl, rfl, .inl ⟨_, _, rfl, rfl⟩⟩
  | nil =>
    cases near1 A.lo B.lo n with
    | false => exact .inr ⟨_, _, _, rfl, rfl, .inr ⟨_, rfl, rfl⟩⟩
    | true =>
      cases near1 A.hi B.hi n with
      | false => exact .inr ⟨_, _, _, rfl, rfl, .inr ⟨_, rfl, rfl⟩⟩
      | true => exact .inl ⟨rfl, rfl⟩
theorem at0 {α : Type} (x : α) (xs : List α) : atI (x :: xs) 0 = some x := by
  obtain ⟨v, h1, h2, _⟩ := at_pos (xs := x :: xs) (i := 0) (by decide) (by rw [List.length_cons]; omega)
  cases h2
  exact h1
theorem natV_none {o : Option Nat} : decide (natV o = .non) = o.isNone := by
  cases o with
  | none => rfl
  | some k => exact decide_eq_false (by intro h; cases h)
end Lw
namespace Lw
open PySem PySem.Spec PyProof.Rows L2 XV TL XM DO
def ixB (i m : Int) : Bool := decide (0 ≤ i) && decide (i < m)
/-- ascending indexes of long pairs -/
def upF (ps : List Pr) (n : Int) : Int → List Int → Bool
  | _, [] => true
  | b, i :: is => if (!ixB i ps.length || (decide (i ≤ b) || decide ((getP ps i).2 - (getP ps i).1 ≤ n))) = true then false else upF ps n i is
def anyN (ps : List Pr) (n : Int) (ns : List Int) (q : Pr) : Bool := (ns.map fun i => nearP (getP ps i) q n).any id
def nearC (ps qs : List Pr) (n : Int) (ns : List Int) : Nat := (qs.filter (anyN ps n ns)).length
def setB (A B : Fv) (n : Int) (k : Bool) (wh : Int) (ns : List Int) : Bool :=
  ixB wh 2 && (upF ((if wh = 0 then A else B).kind k) n (-1) ns && decide (nearC ((if wh = 0 then A else B).kind k) ((if wh = 0 then B else A).kind k) n ns < ns.length))
abbrev sIsIx : Stmt := topOf "is_index"
theorem scIsIx : FnScope ["value", "count"] ["value", "count"] (defScope sIsIx) := ⟨rfl, rfl, rfl, by decide +kernel, rfl, by decide +kernel, by decide +kernel⟩
def spIsIx : Sp := fun vs H Q _ => ∃ (v m : Int), vs = [.int v, .int m] ∧ Q (.bl (ixB v m)) H
abbrev sSetH : Stmt := topOf "set_holds"
abbrev NSetH : List Str := ["lives", "other", "n", "value", "kind", "whose", "indexes", "mine", "theirs", "before", "index", "near", "pair"]
theorem scSetH : FnScope NSetH ["lives", "other", "n", "value"] (defScope sSetH) := ⟨rfl, rfl, rfl, by decide +kernel, rfl, by decide +kernel, by decide +kernel⟩
def spSetH (K : PySem.W.Frag) (C : Addr) : Sp := fun vs H Q _ => ∃ (p q t ti : Addr) (A B : Fv) (n : Int) (k : Bool) (wh : Int) (ns : List Int), vs = [.ref p, .ref q, .int n, .ref t] ∧ LvAt K C H p A ∧ LvAt K C H q B ∧ H t = some (.tup [.str (kindW k), .int wh, .ref ti]) ∧ H ti = some (.tup (ns.map V.int)) ∧ ns.length ≤ 1000 ∧ (∀ k, (A.kind k).length ≤ 1000 ∧ (B.kind k).length ≤ 1000) ∧
  ∀ H', Same H H' → Q (.bl (setB A B n k wh ns)) H'
section
variable {P : Program} {w : World} {K : PySem.W.Frag} {mg : Str → Option Value} {base : Heap}
theorem ok_isIx {f : Addr} {fd : FuncData} (F : Fun K "is_index" "is_index" sIsIx f fd) (T : Bt mg) : FnOk P w K mg base CX0 1 f fd ["value", "count"] spIsIx := by
  refine F.ok scIsIx (fun vs H Q E h => ?_) (fun cdv A outer s H vs Q E hr h => ?_)
  · obtain ⟨v, m, rfl, _⟩ := h
    rfl
  · obtain ⟨v, m, rfl, k⟩ := h
    refine ⟨_, pss_one (ps_ret (pe_and (pe_callB call_isi (by rfl) T.isinstance (by decide +kernel) (pa_cons (pv 0) (pa_cons (pe_bltn (v := .ty "int") (by rfl) T.int (by decide +kernel) rfl) pa_nil))) (pe_and (pe_not (pe_callB call_isi (by rfl) T.isinstance (by decide +kernel) (pa_cons (pv 0) (pa_cons (pe_bltn (v := .ty "bool") (by rfl) T.bool (by decide +kernel) rfl) pa_nil)))) (pe_one (pe_chain op_le op_lt (pe_int) (pv 0) (pv 1)))))), ?_⟩
    have t1 : TyX K H (.int v) (.type "int") := .base (.int v)
    refine ⟨_, rfl, _, _, _, _, _, rfl, .ty _, t1, kit_ty (by decide +kernel : kitB "int" "int" = some true), _, rfl, iteT ?_⟩
    refine ⟨_, rfl, _, _, _, _, _, rfl, .ty _, t1, kit_ty (by decide +kernel : kitB "int" "bool" = some false), _, rfl, _, rfl, iteT ?_⟩
    refine ⟨_, rfl, _, _, rfl, rfl, _, rfl, ite_b (fun c => ?_) (fun c => ?_)⟩
    · refine ⟨_, rfl, _, _, rfl, rfl, ?_⟩
      unfold ixB at k
      rw [c, Bool.true_and] at k
      exact k
    · unfold ixB at k
      rw [c, Bool.false_and] at k
      exact k
theorem pick_do {σ : L2.St} {H : Hp} {Q : VK} {wh : Int} {i j m : Nat} {p q : Addr} (h0 : σ[i]? = some (some (.int wh))) (h1 : σ[j]? = some (some (.ref p))) (h2 : σ[m]? = some (some (.ref q))) (h : Q (.ref (if wh = 0 then p else q)) H) : tIf (tTest (tOp rEq (tVar i) (tC (.int 0)))) (tVar j) (tVar m) σ H Q := by
  refine ⟨_, h0, rfl, _, rfl, ite_b (fun c => ⟨_, h1, ?_⟩) (fun c => ⟨_, h2, ?_⟩)⟩
  · have c := of_decide_eq_true c
    injection c with c
    rw [if_pos c] at h
    exact h
  · have c := of_decide_eq_false c
    rw [if_neg (fun e => c (by rw [e]))] at h
    exact h
theorem lv_pick {K : PySem.W.Frag} {C : Addr} {H : Hp} {p q : Addr} {A B : Fv} (hA : LvAt K C H p A) (hB : LvAt K C H q B) (c : Prop) [Decidable c] : LvAt K C H (if c then p else q) (if c then A else B) := by
  by_cases h : c
  · rw [if_pos h, if_pos h]; exact hA
  · rw [if_neg h, if_neg h]; exact hB
theorem ok_setH {f C : Addr} {fd : FuncData} (F : Fun K "set_holds" "set_holds" sSetH f fd) (T : Bt mg) (N1 : Cl P w K mg base 1 "is_index" sIsIx ["value", "count"] spIsIx) (N2 : Cl P w K mg base 1 "pairs_of" sPof ["lives", "kind"] (spPof K C)) (N3 : Cl P w K mg base 1 "life_of" sLife ["pair"] (spLife K)) (N4 : Cl P w K mg base 1 "pair_gap" sGap ["pair", "other"] (spGap K)) : FnOk P w K mg base CX0 2 f fd ["lives", "other", "n", "value"] (spSetH K C) := by
  refine F.ok scSetH (fun vs H Q E h => ?_) (fun cdv A0 outer s0 H vs Q E hr h => ?_)
  · obtain ⟨p, q, t, ti, A, B, n, k, wh, ns, rfl, _⟩ := h
    rfl
  · obtain ⟨p, q, t, ti, A, B, n, kd, wh, ns, rfl, hA, hB, ht, hti, hl, hlk, k⟩ := h
    refine ⟨_, pss_cons (ps_asg (pv 3) (pg_tup rfl (pgs_cons (pg_name (i := 4) scSetH.nd rfl (by first | exact Or.inl rfl | exact Or.inr rfl)) (pgs_cons (pg_name (i := 5) scSetH.nd rfl (by first | exact Or.inl rfl | exact Or.inr rfl)) (pgs_cons (pg_name (i := 6) scSetH.nd rfl (by first | exact Or.inl rfl | exact Or.inr rfl)) (pgs_nil))))))
 (pss_cons (ps_if (PW.pt (pw_or (pt_not (pt_val (calC N1 (hr.mono (by decide)) (pa_cons (pv 5) (pa_cons (pe_int) pa_nil))))) (pw_or1 (pt_not (pt_val (pe_callB call_isi (by rfl) T.isinstance (by decide +kernel) (pa_cons (pv 6) (pa_cons (pe_bltn (v := .ty "tuple") (by rfl) T.tuple (by decide +kernel) rfl) pa_nil))))))))
 (pss_one (ps_ret (pe_bl)))
 (pss_nil))
 (pss_cons (ps_set (i := 7) scSetH.nd rfl (by first | exact Or.inl rfl | exact Or.inr rfl) (calC N2 (hr.mono (by decide)) (pa_cons (pe_ifExp (pt_cmpR op_eq (pv 5) (pe_int) (nomark _)) (pv 0) (pv 1)) (pa_cons (pv 4) pa_nil))))
 (pss_cons (ps_set (i := 8) scSetH.nd rfl (by first | exact Or.inl rfl | exact Or.inr rfl) (calC N2 (hr.mono (by decide)) (pa_cons (pe_ifExp (pt_cmpR op_eq (pv 5) (pe_int) (nomark _)) (pv 1) (pv 0)) (pa_cons (pv 4) pa_nil))))
 (pss_cons (ps_set (i := 9) scSetH.nd rfl (by first | exact Or.inl rfl | exact Or.inr rfl) (pe_un un_neg (pe_int)))
 (pss_cons (ps_for PassesOwn.never rfl (pi_tup (pv 6)) (pg_name (i := 10) scSetH.nd rfl (by first | exact Or.inl rfl | exact Or.inr rfl))
 (pss_cons (ps_if (PW.pt (pw_or (pt_not (pt_val (calC N1 (hr.mono (by decide)) (pa_cons (pv 10) (pa_cons (pe_callB call_len (by rfl) T.len (by decide +kernel) (pa_cons (pv 7) pa_nil)) pa_nil))))) (pw_or (pt_cmpR op_le (pv 10) (pv 9) (nomark _)) (pw_or1 (pt_cmpR op_le (calC N3 (hr.mono (by decide)) (pa_cons (pe_ix ix_tup (pv 7) (pv 10) (fun _ _ => rfl)) pa_nil)) (pv 2) (nomark _))))))
 (pss_one (ps_ret (pe_bl)))
 (pss_nil))
 (pss_one (ps_set (i := 9) scSetH.nd rfl (by first | exact Or.inl rfl | exact Or.inr rfl) (pv 10)))))
 (pss_cons (ps_setLc (i := 11) (own := [("pair", 12)]) (g := gName 12) (tt := tB (tCB (rAny K) (tCons (tLc (iTup K (tVar 6)) (gName 10) tYes (tOp (rI0 fun i j => .bl (decide (i ≤ j))) (tCall (spGap K) [] E0 (tCons (tOp (rIxT K) (tVar 7) (tVar 10)) (tCons (tVar 12) tNil))) (tVar 2)) [10]) tNil))) (te := tVar 12) rfl scSetH.nd rfl rfl (sw_true rfl rfl rfl (by decide +kernel)) (pi_tup (pv 8)) (blkOk_by (N := NSetH) (sc := defScope sSetH) (by decide +kernel)) (fun _ _ _ _ _ => pg_name (i := 12) scSetH.nd rfl (Or.inr rfl)) (fun _ _ _ _ _ => pts_one (pt_val (pe_callB (cr_any rfl) (by rfl) T.any (by decide +kernel) (pa_cons (pe_lc (own := [("index", 10)]) (g := gName 10) (tt := tYes) (te := tOp (rI0 fun i j => .bl (decide (i ≤ j))) (tCall (spGap K) [] E0 (tCons (tOp (rIxT K) (tVar 7) (tVar 10)) (tCons (tVar 12) tNil))) (tVar 2)) rfl scSetH.nd (pi_tup (pv 6)) (blkOk_by (N := NSetH) (sc := ⟨.function, [(".0", .local), ("pair", .cell), ("any", .globalImplicit), ("indexes", .cell), ("mine", .cell), ("n", .cell)], false, false, []⟩) (by decide +kernel)) (fun _ _ _ _ _ => pg_name (i := 10) scSetH.nd rfl (Or.inl rfl)) (fun _ _ _ _ _ => pts_nil) (fun _ _ _ _ _ => pe_cmpR op_le (calC N4 (hr.mono (by decide)) (pa_cons (pe_ix ix_tup (pv 7) (pv 10) (fun _ _ => rfl)) (pa_cons (pv 12) pa_nil))) (pv 2) (nomark _))) pa_nil)))) (fun _ _ _ _ _ => pv 12))
 (pss_one (ps_ret (pe_cmpR op_lt (pe_callB call_len (by rfl) T.len (by decide +kernel) (pa_cons (pv 11) pa_nil)) (pe_callB call_len (by rfl) T.len (by decide +kernel) (pa_cons (pv 6) pa_nil)) (nomark _)))))))))), ?_⟩
    refine ⟨_, rfl, t, _, rfl, SqT.of ht, rfl, _, _, rfl, _, _, rfl, _, _, rfl, rfl, ?_⟩
    have k0 := k H (Same.refl H)
    refine ⟨_, rfl, wh, 2, rfl, _, rfl, ?_⟩
    unfold setB at k k0
    refine ite_b (fun c1 => ?_) (fun c1 => ?_)
    · have c1 : ixB wh 2 = false := by simpa using c1
      rw [c1, Bool.false_and] at k0
      exact iteT k0
    · have c1 : ixB wh 2 = true := by simpa using c1
      rw [c1, Bool.true_and] at k k0
      refine ⟨_, rfl, _, _, _, _, _, rfl, .ty _, .base (.tup hti), kit_ty (by decide +kernel : kitB "tuple" "tuple" = some true), _, rfl, iteF ?_⟩
      have hM := lv_pick hA hB (wh = 0)
      have hO := lv_pick hB hA (wh = 0)
      have lM : ((if wh = 0 then A else B).kind kd).length ≤ 1000 := by
        by_cases h : wh = 0
        · rw [if_pos h]; exact (hlk kd).1
        · rw [if_neg h]; exact (hlk kd).2
      have lO : ((if wh = 0 then B else A).kind kd).length ≤ 1000 := by
        by_cases h : wh = 0
        · rw [if_pos h]; exact (hlk kd).2
        · rw [if_neg h]; exact (hlk kd).1
      generalize (if wh = 0 then A else B) = M at k k0 hM lM ⊢
      generalize (if wh = 0 then B else A) = O at k k0 hO lO ⊢
      refine pick_do (wh := wh) (p := p) (q := q) rfl rfl rfl ⟨_, rfl, _, M, kd, rfl, hM, fun a1 xs1 e1 p1 => ?_⟩
      refine pick_do (wh := wh) (p := q) (q := p) rfl rfl rfl ⟨_, rfl, _, O, kd, rfl, hO, fun a2 xs2 e2 p2 => ?_⟩
      generalize M.kind kd = ps at k k0 p1 lM
      generalize O.kind kd = qs at k k0 p2 lO
      have hlen : xs1.length = ps.length := p1.1
      refine ⟨1, rfl, _, rfl, ti, rfl, ⟨_, SqT.of hti⟩, for_tup (K := K) (xs := ns.map V.int) (fun i σ H2 => ∃ (x10 : Option V) (b : Int), σ = [some (.ref p), some (.ref q), some (.int n), some (.ref t), some (.str (kindW kd)), some (.int wh), some (.ref ti), some (.ref a1), some (.ref a2), some (.int b), x10, none, none] ∧ H2 = H ∧ upF ps n (-1) ns = upF ps n b (ns.drop i) ∧ ∀ (j : Nat) (x : Int), j < i → ns[j]? = some x → 0 ≤ x ∧ x < ps.length)
        ⟨none, -1, rfl, rfl, rfl, fun j x h => absurd h (Nat.not_lt_zero _)⟩ (fun i σ H2 _ h => ?_) ?_ ?_⟩
      · obtain ⟨_, _, _, rfl, _⟩ := h
        exact SqT.of hti
      · rintro i x σ H2 hx ⟨x10, b, rfl, rfl, w1, w2⟩
        obtain ⟨v, hv, rfl⟩ : ∃ z, ns[i]? = some z ∧ V.int z = x := by
          rw [List.getElem?_map] at hx
          exact Option.map_eq_some_iff.mp hx
        have hil := (List.getElem?_eq_some_iff.mp hv).1
        have hd : ns.drop i = v :: ns.drop (i + 1) := by rw [List.drop_eq_getElem_cons hil, ← (List.getElem?_eq_some_iff.mp hv).2]
        rw [hd, upF] at w1
        refine ⟨_, rfl, _, rfl, _, xs1.length, rfl, .inr ⟨_, SqT.of e1, rfl⟩, v, _, rfl, _, rfl, ?_⟩
        rw [hlen]
        refine ite_b (fun c1 => iteT ?_) (fun c1 => ?_)
        · rw [c1, Bool.true_or, if_pos rfl] at w1
          rw [w1, Bool.false_and] at k0
          exact k0
        · have ci : ixB v ps.length = true := by simpa using c1
          have cj : 0 ≤ v ∧ v < ps.length := by
            have := Bool.and_eq_true_iff.mp ci
            exact ⟨of_decide_eq_true this.1, of_decide_eq_true this.2⟩
          rw [c1, Bool.false_or] at w1
          refine ⟨_, rfl, _, rfl, _, _, rfl, rfl, _, rfl, ite_b (fun c2 => iteT ?_) (fun c2 => ?_)⟩
          · rw [c2, Bool.true_or, if_pos rfl] at w1
            rw [w1, Bool.false_and] at k0
            exact k0
          · rw [c2, Bool.false_or] at w1
            obtain ⟨tt, q1, q2⟩ := pairIx p1 cj.1 cj.2
            refine ⟨_, rfl, _, rfl, a1, _, _, _, rfl, rfl, SqT.of e1, q1, tt, _, rfl, q2, _, rfl, _, _, rfl, rfl, _, rfl, ite_b (fun c3 => ?_) (fun c3 => ?_)⟩
            · rw [if_pos c3] at w1
              rw [w1, Bool.false_and] at k0
              exact k0
            · rw [if_neg (by rw [c3]; exact Bool.false_ne_true)] at w1
              refine ⟨_, rfl, _, _, rfl, rfl, w1, fun j x hj hxx => ?_⟩
              by_cases e : j < i
              · exact w2 j x e hxx
              · have : j = i := by omega
                subst this
                cases hxx.symm.trans hv
                exact cj
      · rintro σ H2 ⟨x10, b, rfl, rfl, w1, w2⟩
        rw [List.length_map] at w1 w2
        have w3 : ∀ x ∈ ns, 0 ≤ x ∧ x < ps.length := fun x hx => by
          obtain ⟨j, hj⟩ := List.mem_iff_getElem?.mp hx
          exact w2 j x (List.getElem?_eq_some_iff.mp hj).1 hj
        rw [List.drop_length] at w1
        rw [w1, show upF ps n b [] = true from rfl, Bool.true_and] at k
        refine ⟨_, rfl, a2, rfl, ⟨_, SqT.of e2⟩, fun D hD => lc_tup (K := K) (a := a2) (xs := xs2) (fun i M => Same H2 M ∧ ∃ zs, M D = some (.lst zs) ∧ zs.length = ((qs.take i).filter (anyN ps n ns)).length) ⟨same_new hD, [], upd_same, rfl⟩ (fun i M _ h => SqT.of (h.1 _ _ e2)) ?_ ?_⟩
        · rintro i x M hx ⟨s1, zs, ez, lz⟩
          obtain ⟨tq, pq, hq, rfl, hpq⟩ := p2.2 i x hx
          refine ⟨rfl, ?_⟩
          have hil := (List.getElem?_eq_some_iff.mp hq).1
          have hsn : (qs.take (i + 1)).filter (anyN ps n ns) = (qs.take i).filter (anyN ps n ns) ++ (if anyN ps n ns pq = true then [pq] else []) := by
            rw [List.take_add_one, hq, List.filter_append]
            by_cases c : anyN ps n ns pq = true
            · rw [if_pos c]
              show _ ++ List.filter _ [pq] = _
              rw [List.filter_cons_of_pos c]
              rfl
            · rw [if_neg c]
              show _ ++ List.filter _ [pq] = _
              rw [List.filter_cons_of_neg c]
              rfl
          refine ⟨_, rfl, ti, rfl, ⟨_, SqT.of (s1 _ _ hti)⟩, fun D2 hD2 => lc_tup (K := K) (a := ti) (xs := ns.map V.int) (fun j N => Same M N ∧ N D2 = some (.lst (((ns.take j).map fun i => nearP (getP ps i) pq n).map V.bl))) ⟨same_new hD2, upd_same⟩ (fun j N _ h => SqT.of (h.1 _ _ (s1 _ _ hti))) ?_ ?_⟩
          · rintro j y N hy ⟨s2, e2'⟩
            obtain ⟨v, hv, rfl⟩ : ∃ z, ns[j]? = some z ∧ V.int z = y := by
              rw [List.getElem?_map] at hy
              exact Option.map_eq_some_iff.mp hy
            have hv3 := w3 v (List.mem_of_getElem? hv)
            have s12 := Same.trans s1 s2
            obtain ⟨tt, q1, q2⟩ := pairIx p1 hv3.1 hv3.2
            refine ⟨rfl, _, rfl, _, rfl, a1, _, _, _, rfl, rfl, SqT.of (s12 _ _ e1), q1, _, rfl, tt, tq, _, _, rfl, q2.mono s12, sqT_mono s12 hpq, _, rfl, _, _, rfl, rfl, _, e2', by rw [List.length_map, List.length_map, sizeLine_eq]; have := List.length_take_le' j ns; omega, fun b o h => ?_, ?_⟩
            · rw [upd_ne (ne_of_none h hD2)]
              exact s2 _ _ h
            · rw [upd_same, List.take_add_one, hv, List.map_append, List.map_append]
              show some (HO.lst (_ ++ [V.bl (decide (gapP (getP ps v) pq ≤ n))])) = _
              rw [gap_near]
              rfl
          · rintro N ⟨s2, e2'⟩
            rw [List.length_map, List.take_length] at e2'
            refine ⟨D2, _, rfl, SqL.of e2', _, rfl, ite_b (fun c => ?_) (fun c => ?_)⟩
            · have c : anyN ps n ns pq = true := c
              rw [if_pos c] at hsn
              refine ⟨_, rfl, zs, s2 _ _ ez, ?_, fun b o h => ?_, _, upd_same, by rw [hsn, List.length_append, List.length_append, lz]; rfl⟩
              · rw [lz, sizeLine_eq]
                have h1 := List.length_filter_le (anyN ps n ns) (qs.take i)
                have h2 := List.length_take_le' i qs
                omega
              · rw [upd_ne (ne_of_none h hD)]
                exact s2 _ _ (s1 _ _ h)
            · have c : anyN ps n ns pq = false := c
              rw [if_neg (by rw [c]; exact Bool.false_ne_true), List.append_nil] at hsn
              exact ⟨Same.trans s1 s2, zs, s2 _ _ ez, by rw [hsn, lz]⟩
        · rintro M ⟨s1, zs, ez, lz⟩
          rw [p2.1, List.take_length] at lz
          refine ⟨_, rfl, _, zs.length, rfl, .inl ⟨_, SqL.of ez, rfl⟩, _, rfl, _, ns.length, rfl, .inr ⟨_, SqT.of (s1 _ _ hti), (List.length_map _).symm⟩, _, _, rfl, rfl, ?_⟩
          have := k M s1
          unfold nearC at this
          rw [← lz] at this
          have e : decide (zs.length < ns.length) = decide ((zs.length : Int) < ns.length) := by
            rw [Bool.eq_iff_iff, decide_eq_true_eq, decide_eq_true_eq]
            omega
          rw [e] at this
          exact this
end
end Lw
namespace Lw
open PySem PySem.Spec PyProof.Rows L2 XV TL XM DO
/-! a bar told -/
def vD : V → PyData
  | .str x => .str x
  | .int i => .int i
  | _ => .none
def flat1 : V → Bool
  | .str x => PyData.canLay0 (.str x)
  | .int _ => true
  | _ => false
def cD (c : List V) : PyData := .tuple (c.map vD)
theorem dp_flat {K : PySem.W.Frag} {H : Hp} : ∀ {c : List V}, c.all flat1 = true → DpAll K H c (c.map vD)
  | [], _ => .nil
  | v :: c, h => by
    have h := Bool.and_eq_true_iff.mp (show (flat1 v && c.all flat1) = true from h)
    refine .cons ?_ (dp_flat h.2)
    cases v with
    | str x => exact .str x
    | int i => exact .int i
    | _ => exact absurd (show false = true from h.1) (by decide)
theorem dp_tups {K : PySem.W.Frag} {H : Hp} : ∀ {xs : List V} {cs : List (List V)}, TupsAt H xs cs → (∀ c ∈ cs, c.all flat1 = true) → DpAll K H xs (cs.map cD)
  | [], [], _, _ => .nil
  | [], _ :: _, h, _ => absurd h.1 (by simp)
  | _ :: _, [], h, _ => absurd h.1 (by simp)
  | x :: xs, c :: cs, h, hf => by
    obtain ⟨t, c', rfl, e, ht⟩ := h.2 0 x rfl
    cases e
    exact .cons (.tup (SqT.of ht) (dp_flat (hf c (by simp)))) (dp_tups ⟨by have := h.1; simp only [List.length_cons] at this; omega, fun i y hy => h.2 (i + 1) y hy⟩ fun d hd => hf d (by simp [hd]))
theorem can_vDs : ∀ {c : List V}, c.all flat1 = true → PyData.canLayAll0 (c.map vD) = true
  | [], _ => rfl
  | v :: c, h => by
    have h := Bool.and_eq_true_iff.mp (show (flat1 v && c.all flat1) = true from h)
    show (PyData.canLay0 (vD v) && PyData.canLayAll0 (c.map vD)) = true
    rw [can_vDs h.2, Bool.and_true]
    cases v with
    | str x => exact h.1
    | _ => rfl
theorem dep_vD (v : V) : PyData.depth (vD v) = 0 := by cases v <;> simp [vD, PyData.depth]
theorem dep_vDs : ∀ c : List V, PyData.depthAll (c.map vD) = 0
  | [] => by simp [PyData.depthAll]
  | v :: c => by
    show max (PyData.depth (vD v)) (PyData.depthAll (c.map vD)) = 0
    rw [dep_vD, dep_vDs c]; rfl
theorem can_cDs : ∀ {cs : List (List V)}, (∀ c ∈ cs, c.all flat1 = true) → PyData.canLayAll0 (cs.map cD) = true
  | [], _ => rfl
  | c :: cs, h => by
    show (PyData.canLayAll0 (c.map vD) && PyData.canLayAll0 (cs.map cD)) = true
    rw [can_vDs (h c (by simp)), can_cDs fun d hd => h d (by simp [hd])]; rfl
theorem dep_cDs : ∀ cs : List (List V), PyData.depthAll (cs.map cD) ≤ 1
  | [] => by simp [PyData.depthAll]
  | c :: cs => by
    have h := dep_cDs cs
    show max (PyData.depth (cD c)) (PyData.depthAll (cs.map cD)) ≤ 1
    have e : PyData.depth (cD c) = 1 := by
      show PyData.depthAll (c.map vD) + 1 = 1
      rw [dep_vDs]
    omega
theorem shaped_cD {c : List V} (h : c.all flat1 = true) : SeqAt.shaped (cD c) = true := by
  unfold SeqAt.shaped
  rw [Bool.and_eq_true]
  refine ⟨can_vDs h, decide_eq_true ?_⟩
  show PyData.depthAll (c.map vD) + 1 ≤ 64
  rw [dep_vDs]
  decide
theorem shaped_cDs {cs : List (List V)} (hf : ∀ c ∈ cs, c.all flat1 = true) : SeqAt.shaped (.list (cs.map cD)) = true := by
  unfold SeqAt.shaped
  rw [Bool.and_eq_true]
  refine ⟨can_cDs hf, decide_eq_true ?_⟩
  have h := dep_cDs cs
  show PyData.depthAll (cs.map cD) + 1 ≤ 64
  omega
theorem farsV_flat (A B : Fv) (n : Int) : ∀ c ∈ farsV A B n, c.all flat1 = true := by
  intro c hc
  unfold farsV at hc
  rcases List.mem_append.mp hc with h | h
  · obtain ⟨j, _, rfl⟩ := List.mem_map.mp h
    show (PyData.canLay0 (.str "loose") && (true && true)) = true
    decide +kernel
  · rcases List.mem_append.mp h with h | h
    · split at h
      · cases h
      · cases List.mem_singleton.mp h; decide +kernel
    · split at h
      · cases h
      · cases List.mem_singleton.mp h; decide +kernel
/-- is the bar among the far ones -/
def farIn (A B : Fv) (n : Int) (c : List V) : Bool := ((farsV A B n).map cD).any fun z => PyData.eqv z (cD c)
theorem eq_loose (j : Nat) (k : Int) : PyData.eqv (cD [.str "loose", .int (j : Nat)]) (cD [.str "loose", .int k]) = decide ((j : Int) = k) := by
  show (("loose" : Str) == ("loose" : Str) && (((j : Int) == k) && true)) = _
  rw [beq_self_eq_true, Bool.true_and, Bool.and_true, Bool.eq_iff_iff, beq_iff_eq, decide_eq_true_eq]
theorem ne_len1 (x y : Str) (v : V) : PyData.eqv (cD [.str x, v]) (cD [.str y]) = false := by
  show ((x == y) && false) = false
  rw [Bool.and_false]
theorem ne_len2 (x y : Str) (v : V) : PyData.eqv (cD [.str x]) (cD [.str y, v]) = false := by
  show ((x == y) && false) = false
  rw [Bool.and_false]
theorem any_none {α : Type} {xs : List α} {f : α → Bool} (h : ∀ x ∈ xs, f x = false) : xs.any f = false := by
  rw [List.any_eq_false]
  intro x hx
  rw [h x hx]
  exact Bool.false_ne_true
theorem farIn_loose (A B : Fv) (n k : Int) : farIn A B n [.str "loose", .int k] = (looseF n 0 A.li B.li).any fun j => decide ((j : Int) = k) := by
  unfold farIn farsV
  rw [List.map_append, List.any_append, List.map_append, List.any_append]
  have h1 : ((if near1 A.lo B.lo n = true then [] else [[V.str "lowest"]]).map cD).any (fun z => PyData.eqv z (cD [.str "loose", .int k])) = false := by
    split
    · rfl
    · exact any_none fun x hx => by cases List.mem_singleton.mp hx; exact ne_len2 _ _ _
  have h2 : ((if near1 A.hi B.hi n = true then [] else [[V.str "highest"]]).map cD).any (fun z => PyData.eqv z (cD [.str "loose", .int k])) = false := by
    split
    · rfl
    · exact any_none fun x hx => by cases List.mem_singleton.mp hx; exact ne_len2 _ _ _
  rw [h1, h2, Bool.or_false, Bool.or_false, List.any_map, List.any_map]
  congr 1
  funext j
  exact eq_loose j k
theorem farIn_low (A B : Fv) (n : Int) : farIn A B n [.str "lowest"] = !near1 A.lo B.lo n := by
  unfold farIn farsV
  rw [List.map_append, List.any_append, List.map_append, List.any_append]
  have h0 : (((looseF n 0 A.li B.li).map (fun k => [V.str "loose", V.int (k : Nat)])).map cD).any (fun z => PyData.eqv z (cD [.str "lowest"])) = false := any_none fun x hx => by
    obtain ⟨c, hc, rfl⟩ := List.mem_map.mp hx
    obtain ⟨j, _, rfl⟩ := List.mem_map.mp hc
    exact ne_len1 _ _ _
  have h2 : ((if near1 A.hi B.hi n = true then [] else [[V.str "highest"]]).map cD).any (fun z => PyData.eqv z (cD [.str "lowest"])) = false := by
    split
    · rfl
    · decide +kernel
  rw [h0, h2, Bool.false_or, Bool.or_false]
  cases near1 A.lo B.lo n
  · rw [if_neg Bool.false_ne_true]
    decide +kernel
  · rfl
theorem farIn_high (A B : Fv) (n : Int) : farIn A B n [.str "highest"] = !near1 A.hi B.hi n := by
  unfold farIn farsV
  rw [List.map_append, List.any_append, List.map_append, List.any_append]
  have h0 : (((looseF n 0 A.li B.li).map (fun k => [V.str "loose", V.int (k : Nat)])).map cD).any (fun z => PyData.eqv z (cD [.str "highest"])) = false := any_none fun x hx => by
    obtain ⟨c, hc, rfl⟩ := List.mem_map.mp hx
    obtain ⟨j, _, rfl⟩ := List.mem_map.mp hc
    exact ne_len1 _ _ _
  have h2 : ((if near1 A.lo B.lo n = true then [] else [[V.str "lowest"]]).map cD).any (fun z => PyData.eqv z (cD [.str "highest"])) = false := by
    split
    · rfl
    · decide +kernel
  rw [h0, h2, Bool.false_or, Bool.false_or]
  cases near1 A.hi B.hi n
  · rw [if_neg Bool.false_ne_true]
    decide +kernel
  · rfl
inductive Bar where
  | odd (w : Str) (m : Nat)
  | loose (k : Int)
  | low
  | high
  | set (k : Bool) (wh : Int) (ns : List Int)
def oddOk (w : Str) (m : Nat) : Prop := (∃ k, w = kindW k ∧ m ≠ 2) ∨ (w = "loose" ∧ m ≠ 1) ∨ ((w = "lowest" ∨ w = "highest") ∧ m ≠ 0)
/-- plain data: None, a number, a tuple of numbers -/
def DataV (H : Hp) (v : V) : Prop := v = .non ∨ (∃ i : Int, v = .int i) ∨ ∃ (ti : Addr) (ns : List Int), v = .ref ti ∧ H ti = some (.tup (ns.map V.int))
def BarAt (H : Hp) (t : Addr) : Bar → Prop
  | .odd w m => oddOk w m ∧ ∃ rest : List V, rest.length = m ∧ (∀ v ∈ rest, DataV H v) ∧ H t = some (.tup (.str w :: rest))
  | .loose k => H t = some (.tup [.str "loose", .int k])
  | .low => H t = some (.tup [.str "lowest"])
  | .high => H t = some (.tup [.str "highest"])
  | .set k wh ns => ns.length ≤ 1000 ∧ ∃ ti, H t = some (.tup [.str (kindW k), .int wh, .ref ti]) ∧ H ti = some (.tup (ns.map V.int))
def barB (A B : Fv) (n : Int) : Bar → Bool
  | .odd _ _ => false
  | .loose k => ixB k A.li.length && (looseF n 0 A.li B.li).any fun j => decide ((j : Int) = k)
  | .low => !near1 A.lo B.lo n
  | .high => !near1 A.hi B.hi n
  | .set k wh ns => setB A B n k wh ns
/-- what is told in the place of a bar: one, or something else -/
def BarO (H : Hp) (v : V) : Option Bar → Prop
  | none => v = .non ∨ v = .str "lowest" ∨ ∃ t, v = .ref t ∧ H t = some (.tup [])
  | some br => ∃ t, v = .ref t ∧ BarAt H t br
def barO (A B : Fv) (n : Int) : Option Bar → Bool
  | none => false
  | some br => barB A B n br
end Lw
namespace Lw
open PySem PySem.Spec PyProof.Rows L2 XV TL XM DO
abbrev sBarH : Stmt := topOf "bar_holds"
theorem scBarH : FnScope ["lives", "other", "n", "value"] ["lives", "other", "n", "value"] (defScope sBarH) := ⟨rfl, rfl, rfl, by decide +kernel, rfl, by decide +kernel, by decide +kernel⟩
def spBarH (K : PySem.W.Frag) (c : CA) (C : Addr) : Sp := fun vs H Q E => ∃ (p q : Addr) (v : V) (A B : Fv) (n : Int) (bo : Option Bar), vs = [.ref p, .ref q, .int n, v] ∧ LvAt K C H p A ∧ LvAt K C H q B ∧ (A.li.length ≠ B.li.length → UnlE c H E "handles") ∧ (A.li.length = B.li.length → A.li.length ≤ 1000 ∧ (∀ k, (A.kind k).length ≤ 1000 ∧ (B.kind k).length ≤ 1000) ∧ BarO H v bo ∧
  ∀ H', Same H H' → Q (.bl (barO A B n bo)) H')
theorem in_kind (k : Bool) : inV (.str (kindW k)) [.str "hollows", .str "summits"] = true := by cases k <;> decide +kernel
theorem in_loose : inV (.str "loose") [.str "hollows", .str "summits"] = false := by decide +kernel
theorem in_low : inV (.str "lowest") [.str "hollows", .str "summits"] = false := by decide +kernel
theorem in_high : inV (.str "highest") [.str "hollows", .str "summits"] = false := by decide +kernel
theorem dec_len {m j : Nat} (h : m ≠ j) : decide (V.int ((m : Nat) : Int) = V.int ((j : Nat) : Int)) = false := decide_eq_false fun e => by
  injection e with e
  omega
section
variable {P : Program} {w : World} {K : PySem.W.Frag} {mg : Str → Option Value} {base : Heap}
theorem ok_barH {f C : Addr} {fd : FuncData} {c : CA} (F : Fun K "bar_holds" "bar_holds" sBarH f fd) (T : Bt mg) (L : LCls K C) (N1 : ClX P w K mg base 3 "check_handles" sChH ["lives", "other"] (spChH K c C)) (N2 : Cl P w K mg base 2 "set_holds" sSetH ["lives", "other", "n", "value"] (spSetH K C)) (N3 : Cl P w K mg base 1 "is_index" sIsIx ["value", "count"] spIsIx) (N4 : Cl P w K mg base 1 "far_bars" sFar ["lives", "other", "n"] (spFar K C)) :
    FnOk P w K mg base (L2.CX P w) 4 f fd ["lives", "other", "n", "value"] (spBarH K c C) := by
  refine F.okX scBarH (fun vs H Q E h => ?_) (fun cdv A0 outer s0 H vs Q E hr h => ?_)
  · obtain ⟨p, q, v, A, B, n, bo, rfl, _⟩ := h
    rfl
  · obtain ⟨p, q, v, A, B, n, bo, rfl, hA, hB, kU, kE⟩ := h
    refine ⟨_, pss_cons (ps_expr (by exact (calX N1 (hr.mono (by decide)) (fun σ => passAt (takes_of rfl rfl rfl rfl) σ) (by exact (pa_cons (pv 0) (pa_cons (pv 1) pa_nil))))))
 (pss_cons (ps_if (PW.pt (pw_or (pt_not (pt_val (pe_callB call_isi (by rfl) T.isinstance (by decide +kernel) (pa_cons (pv 3) (pa_cons (pe_bltn (v := .ty "tuple") (by rfl) T.tuple (by decide +kernel) rfl) pa_nil))))) (pw_or (pt_cmpR op_eq (pe_callB call_len (by rfl) T.len (by decide +kernel) (pa_cons (pv 3) pa_nil)) (pe_int) (nomark _)) (pw_or1 (pt_not (pt_val (pe_callB call_isi (by rfl) T.isinstance (by decide +kernel) (pa_cons (pe_ix ix_tup (pv 3) (pe_int) (fun _ _ => rfl)) (pa_cons (pe_bltn (v := .ty "str") (by rfl) T.str (by decide +kernel) rfl) pa_nil)))))))))
 (pss_one (ps_ret (pe_bl)))
 (pss_nil))
 (pss_cons (ps_if (pt_cmpR op_in_seq (pe_ix ix_tup (pv 3) (pe_int) (fun _ _ => rfl)) (pe_tup (pa_cons (pe_str) (pa_cons (pe_str) pa_nil))) (by rfl))
 (pss_one (ps_ret (pe_and (pe_cmpR op_eq (pe_callB call_len (by rfl) T.len (by decide +kernel) (pa_cons (pv 3) pa_nil)) (pe_int) (nomark _)) (pe_one (calC N2 (hr.mono (by decide)) (pa_cons (pv 0) (pa_cons (pv 1) (pa_cons (pv 2) (pa_cons (pv 3) pa_nil)))))))))
 (pss_nil))
 (pss_cons (ps_if (pt_cmpR op_eq (pe_ix ix_tup (pv 3) (pe_int) (fun _ _ => rfl)) (pe_str) (nomark _))
 (pss_cons (ps_if (PW.pt (pw_or (pt_cmpR op_ne (pe_callB call_len (by rfl) T.len (by decide +kernel) (pa_cons (pv 3) pa_nil)) (pe_int) (nomark _)) (pw_or1 (pt_not (pt_val (calC N3 (hr.mono (by decide)) (pa_cons (pe_ix ix_tup (pv 3) (pe_int) (fun _ _ => rfl)) (pa_cons (pe_fld (pv 0) rfl) pa_nil))))))))
 (pss_one (ps_ret (pe_bl)))
 (pss_nil))
 (pss_one (ps_ret (pe_cmpR (op_inD (by exact un65 hr)) (pe_tup (pa_cons (pe_str) (pa_cons (pe_ix ix_tup (pv 3) (pe_int) (fun _ _ => rfl)) pa_nil))) (calC N4 (hr.mono (by decide)) (pa_cons (pv 0) (pa_cons (pv 1) (pa_cons (pv 2) pa_nil)))) (by rfl)))))
 (pss_nil))
 (pss_one (ps_ret (pe_and (pe_cmpR op_eq (pe_callB call_len (by rfl) T.len (by decide +kernel) (pa_cons (pv 3) pa_nil)) (pe_int) (nomark _)) (pe_one (pe_cmpR (op_inD (by exact un65 hr)) (pv 3) (calC N4 (hr.mono (by decide)) (pa_cons (pv 0) (pa_cons (pv 1) (pa_cons (pv 2) pa_nil)))) (by rfl))))))))), ?_⟩
    refine ⟨_, rfl, _, rfl, p, q, A, B, rfl, hA, hB, fun ne => kU ne, fun el H1 s1 => ?_⟩
    obtain ⟨l1, lk, hb, k⟩ := kE el
    cases bo with
    | none =>
      have kr : Q (.bl false) H1 := k H1 s1
      rcases hb with rfl | rfl | ⟨t, rfl, ht⟩
      · exact ⟨_, rfl, _, _, _, _, _, rfl, .ty _, .base .non, kit_ty (by decide +kernel : kitB "NoneType" "tuple" = some false), _, rfl, iteT kr⟩
      · exact ⟨_, rfl, _, _, _, _, _, rfl, .ty _, .base (.str _), kit_ty (by decide +kernel : kitB "str" "tuple" = some false), _, rfl, iteT kr⟩
      · have ht1 := s1 _ _ ht
        refine ⟨_, rfl, _, _, _, _, _, rfl, .ty _, .base (.tup ht1), kit_ty (by decide +kernel : kitB "tuple" "tuple" = some true), _, rfl, iteF ?_⟩
        exact ⟨_, rfl, _, 0, rfl, .inr ⟨_, SqT.of ht1, rfl⟩, rfl, _, rfl, ite_b (fun _ => iteT kr) (fun c => absurd c (by decide +kernel))⟩
    | some br =>
    obtain ⟨t, rfl, hb⟩ := hb
    have k : ∀ H', Same H H' → Q (.bl (barB A B n br)) H' := k
    obtain ⟨wd, rest, ht⟩ : ∃ wd rest, H t = some (.tup (.str wd :: rest)) := by
      cases br with
      | odd w m => obtain ⟨_, rest, _, _, h⟩ := hb; exact ⟨w, rest, h⟩
      | loose k => exact ⟨_, _, hb⟩
      | low => exact ⟨_, _, hb⟩
      | high => exact ⟨_, _, hb⟩
      | set k wh ns => obtain ⟨_, ti, h, _⟩ := hb; exact ⟨_, _, h⟩
    have ht1 := s1 _ _ ht
    refine ⟨_, rfl, _, _, _, _, _, rfl, .ty _, .base (.tup ht1), kit_ty (by decide +kernel : kitB "tuple" "tuple" = some true), _, rfl, iteF ?_⟩
    refine ⟨_, rfl, _, rest.length + 1, rfl, .inr ⟨_, SqT.of ht1, rfl⟩, rfl, _, rfl, ite_b (fun c => ?_) (fun _ => ?_)⟩
    · have c := of_decide_eq_true c
      injection c with c
      omega
    refine ⟨_, rfl, t, _, 0, _, rfl, rfl, SqT.of ht1, at0 _ _, _, _, _, _, _, rfl, .ty _, .base (.str wd), kit_ty (by decide +kernel : kitB "str" "str" = some true), _, rfl, iteF ?_⟩
    refine ⟨_, rfl, t, _, 0, _, rfl, rfl, SqT.of ht1, at0 _ _, (by show 2 ≤ sizeLine; decide), fun u hu => ?_⟩
    have s2 := Same.trans s1 (same_new (o := .tup [.str "hollows", .str "summits"]) hu)
    have eu := upd_same (H := H1) (a := u) (o := .tup [.str "hollows", .str "summits"])
    have ht2 := s2 _ _ ht
    generalize upd H1 u (.tup [.str "hollows", .str "summits"]) = H2 at s2 eu ht2 ⊢
    refine ⟨u, _, rfl, .inr (SqT.of eu), rfl, by decide +kernel, _, rfl, ?_⟩
    have kr := k H2 s2
    cases br with
    | odd w m =>
      obtain ⟨ok, rest', er, _, eh⟩ := hb
      have e2 := eh.symm.trans ht
      injection e2 with e2
      injection e2 with e2
      injection e2 with e2 e3
      injection e2 with e2
      subst e2 e3
      rcases ok with ⟨kd, rfl, hm⟩ | ⟨rfl, hm⟩ | ⟨hw, hm⟩
      · refine ite_b (fun _ => ?_) (fun c => absurd (c.symm.trans (in_kind kd)) (by decide))
        refine ⟨_, rfl, _, rest'.length + 1, rfl, .inr ⟨_, SqT.of ht2, rfl⟩, rfl, _, rfl, ite_b (fun c => ?_) (fun c => kr)⟩
        exact absurd (c.symm.trans (dec_len (j := 3) (by omega))) (by decide)
      · refine ite_b (fun c => absurd (c.symm.trans in_loose) (by decide)) (fun _ => ?_)
        refine ⟨_, rfl, t, _, 0, _, rfl, rfl, SqT.of ht2, at0 _ _, rfl, _, rfl, ite_b (fun _ => ?_) (fun c => absurd c (by decide +kernel))⟩
        refine ⟨_, rfl, _, rest'.length + 1, rfl, .inr ⟨_, SqT.of ht2, rfl⟩, rfl, _, rfl, ite_b (fun c => iteT kr) (fun c => ?_)⟩
        have c2 := dec_len (m := rest'.length + 1) (j := 2) (by omega)
        rw [show decide (V.int ((rest'.length + 1 : Nat) : Int) = V.int 2) = false from c2] at c
        exact absurd c (by decide)
      · rcases hw with rfl | rfl
        · refine ite_b (fun c => absurd (c.symm.trans in_low) (by decide)) (fun _ => ?_)
          refine ⟨_, rfl, t, _, 0, _, rfl, rfl, SqT.of ht2, at0 _ _, rfl, _, rfl, ite_b (fun c => absurd c (by decide +kernel)) (fun _ => ?_)⟩
          refine ⟨_, rfl, _, rest'.length + 1, rfl, .inr ⟨_, SqT.of ht2, rfl⟩, rfl, _, rfl, ite_b (fun c => ?_) (fun c => kr)⟩
          exact absurd (c.symm.trans (dec_len (j := 1) (by omega))) (by decide)
        · refine ite_b (fun c => absurd (c.symm.trans in_high) (by decide)) (fun _ => ?_)
          refine ⟨_, rfl, t, _, 0, _, rfl, rfl, SqT.of ht2, at0 _ _, rfl, _, rfl, ite_b (fun c => absurd c (by decide +kernel)) (fun _ => ?_)⟩
          refine ⟨_, rfl, _, rest'.length + 1, rfl, .inr ⟨_, SqT.of ht2, rfl⟩, rfl, _, rfl, ite_b (fun c => ?_) (fun c => kr)⟩
          exact absurd (c.symm.trans (dec_len (j := 1) (by omega))) (by decide)
    | loose kk =>
      have e2 := hb.symm.trans ht
      injection e2 with e2
      injection e2 with e2
      injection e2 with e2 e3
      injection e2 with e2
      subst e2 e3
      refine ite_b (fun c => absurd (c.symm.trans in_loose) (by decide)) (fun _ => ?_)
      refine ⟨_, rfl, t, _, 0, _, rfl, rfl, SqT.of ht2, at0 _ _, rfl, _, rfl, ite_b (fun _ => ?_) (fun c => absurd c (by decide +kernel))⟩
      refine ⟨_, rfl, _, 2, rfl, .inr ⟨_, SqT.of ht2, rfl⟩, rfl, _, rfl, ite_b (fun c => absurd c (by decide +kernel)) (fun _ => ?_)⟩
      obtain ⟨dx, h, s, l, xs, ys, h1, _⟩ := hA.ex
      refine ⟨_, rfl, t, _, 1, _, rfl, rfl, SqT.of ht2, rfl, _, rfl, p, C, dx, _, _, rfl, s2 _ _ h1, L.cl, L.nha, lf_handles, kk, _, rfl, _, rfl, ?_⟩
      have kr' : ∀ H', Same H2 H' → Q (.bl (ixB kk A.li.length && (looseF n 0 A.li B.li).any fun j => decide ((j : Int) = kk))) H' := fun H' s' => k H' (Same.trans s2 s')
      refine ite_b (fun c => ?_) (fun c => ?_)
      · have c : ixB kk A.li.length = false := by simpa using c
        rw [c, Bool.false_and] at kr'
        exact kr' _ (Same.refl _)
      · have c : ixB kk A.li.length = true := by simpa using c
        rw [c, Bool.true_and] at kr'
        refine ⟨_, rfl, t, _, 1, _, rfl, rfl, SqT.of ht2, rfl, (by show 2 ≤ sizeLine; decide), fun u2 hu2 => ?_⟩
        have s3 := same_new (o := .tup [.str "loose", .int kk]) hu2
        have eu2 := upd_same (H := H2) (a := u2) (o := .tup [.str "loose", .int kk])
        have s23 := Same.trans s2 s3
        generalize upd H2 u2 (.tup [.str "loose", .int kk]) = H3 at s3 eu2 s23 ⊢
        refine ⟨_, rfl, _, rfl, _, rfl, p, q, A, B, n, rfl, hA.mono s23, hB.mono s23, el, l1, fun r zs H4 s4 _ er ez => ?_⟩
        have hf : ([.str "loose", .int kk] : List V).all flat1 = true := by
          show (PyData.canLay0 (.str "loose") && (true && true)) = true
          decide +kernel
        refine ⟨cD [.str "loose", .int kk], (farsV A B n).map cD, .tup (SqT.of (s4 _ _ eu2)) (dp_flat hf), .lst (SqL.of er) (dp_tups ez (farsV_flat A B n)), shaped_cD hf, shaped_cDs (farsV_flat A B n), ?_⟩
        have e := farIn_loose A B n kk
        unfold farIn at e
        rw [e]
        exact kr' _ (Same.trans s3 s4)
    | low =>
      have e2 := hb.symm.trans ht
      injection e2 with e2
      injection e2 with e2
      injection e2 with e2 e3
      injection e2 with e2
      subst e2 e3
      refine ite_b (fun c => absurd (c.symm.trans in_low) (by decide)) (fun _ => ?_)
      refine ⟨_, rfl, t, _, 0, _, rfl, rfl, SqT.of ht2, at0 _ _, rfl, _, rfl, ite_b (fun c => absurd c (by decide +kernel)) (fun _ => ?_)⟩
      refine ⟨_, rfl, _, 1, rfl, .inr ⟨_, SqT.of ht2, rfl⟩, rfl, _, rfl, ite_b (fun _ => ?_) (fun c => absurd c (by decide +kernel))⟩
      refine ⟨_, rfl, _, rfl, _, rfl, _, rfl, p, q, A, B, n, rfl, hA.mono s2, hB.mono s2, el, l1, fun r zs H4 s4 _ er ez => ?_⟩
      have hf : ([.str "lowest"] : List V).all flat1 = true := by
        show (PyData.canLay0 (.str "lowest") && true) = true
        decide +kernel
      refine ⟨cD [.str "lowest"], (farsV A B n).map cD, .tup (SqT.of (s4 _ _ ht2)) (dp_flat hf), .lst (SqL.of er) (dp_tups ez (farsV_flat A B n)), shaped_cD hf, shaped_cDs (farsV_flat A B n), ?_⟩
      have e := farIn_low A B n
      unfold farIn at e
      rw [e]
      exact k _ (Same.trans s2 s4)
    | high =>
      have e2 := hb.symm.trans ht
      injection e2 with e2
      injection e2 with e2
      injection e2 with e2 e3
      injection e2 with e2
      subst e2 e3
      refine ite_b (fun c => absurd (c.symm.trans in_high) (by decide)) (fun _ => ?_)
      refine ⟨_, rfl, t, _, 0, _, rfl, rfl, SqT.of ht2, at0 _ _, rfl, _, rfl, ite_b (fun c => absurd c (by decide +kernel)) (fun _ => ?_)⟩
      refine ⟨_, rfl, _, 1, rfl, .inr ⟨_, SqT.of ht2, rfl⟩, rfl, _, rfl, ite_b (fun _ => ?_) (fun c => absurd c (by decide +kernel))⟩
      refine ⟨_, rfl, _, rfl, _, rfl, _, rfl, p, q, A, B, n, rfl, hA.mono s2, hB.mono s2, el, l1, fun r zs H4 s4 _ er ez => ?_⟩
      have hf : ([.str "highest"] : List V).all flat1 = true := by
        show (PyData.canLay0 (.str "highest") && true) = true
        decide +kernel
      refine ⟨cD [.str "highest"], (farsV A B n).map cD, .tup (SqT.of (s4 _ _ ht2)) (dp_flat hf), .lst (SqL.of er) (dp_tups ez (farsV_flat A B n)), shaped_cD hf, shaped_cDs (farsV_flat A B n), ?_⟩
      have e := farIn_high A B n
      unfold farIn at e
      rw [e]
      exact k _ (Same.trans s2 s4)
    | set kd wh ns =>
      obtain ⟨ln, ti, eh, eti⟩ := hb
      have e2 := eh.symm.trans ht
      injection e2 with e2
      injection e2 with e2
      injection e2 with e2 e3
      injection e2 with e2
      subst e2 e3
      refine ite_b (fun _ => ?_) (fun c => absurd (c.symm.trans (in_kind kd)) (by decide))
      refine ⟨_, rfl, _, 3, rfl, .inr ⟨_, SqT.of ht2, rfl⟩, rfl, _, rfl, ite_b (fun c => ?_) (fun c => absurd c (by decide +kernel))⟩
      exact ⟨_, rfl, _, rfl, _, rfl, _, rfl, p, q, t, ti, A, B, n, kd, wh, ns, rfl, hA.mono s2, hB.mono s2, ht2, s2 _ _ eti, ln, lk, fun H' s' => k H' (Same.trans s2 s')⟩
end
end Lw
namespace Lw
open PySem PySem.Spec PyProof.Rows L2 XV TL XM DO
abbrev sPlain : Stmt := topOf "_law_plain"
theorem scPlain : FnScope ["x"] ["x"] (defScope sPlain) := ⟨rfl, rfl, rfl, by decide +kernel, rfl, by decide +kernel, by decide +kernel⟩
def spPlain : Sp := fun vs H Q _ => ∃ i : Int, vs = [.int i] ∧ Q (.bl true) H
abbrev sNum : Stmt := topOf "_law_number_near"
theorem scNum : FnScope ["box", "x", "far"] ["box", "x", "far"] (defScope sNum) := ⟨rfl, rfl, rfl, by decide +kernel, rfl, by decide +kernel, by decide +kernel⟩
def spNum : Sp := fun vs H Q _ => ∃ (B : Bx) (x far : Int), vs = [.ref B.b, .int x, .int far] ∧ BoxAt B H ∧ 0 ≤ far ∧ far ≤ 1000 ∧ ∀ (i : Int) H', x - far ≤ i → i ≤ x + far → Go B H H' → Q (.int i) H'
abbrev sNear : Stmt := topOf "_law_near"
theorem scNear : FnScope ["a", "b", "halves"] ["a", "b", "halves"] (defScope sNear) := ⟨rfl, rfl, rfl, by decide +kernel, rfl, by decide +kernel, by decide +kernel⟩
def spNear : Sp := fun vs H Q _ => ∃ (a b n : Int), vs = [.int a, .int b, .int n] ∧ Q (.bl (near1 a b n)) H
abbrev sPNear : Stmt := topOf "_law_pair_near"
theorem scPNear : FnScope ["one", "two", "halves"] ["one", "two", "halves"] (defScope sPNear) := ⟨rfl, rfl, rfl, by decide +kernel, rfl, by decide +kernel, by decide +kernel⟩
def spPNear (K : PySem.W.Frag) : Sp := fun vs H Q _ => ∃ (a b : Addr) (p q : Pr) (n : Int), vs = [.ref a, .ref b, .int n] ∧ PrAt K H a p ∧ PrAt K H b q ∧ Q (.bl (nearP p q n)) H
section
variable {P : Program} {w : World} {K : PySem.W.Frag} {mg : Str → Option Value} {base : Heap}
theorem ok_plain {f : Addr} {fd : FuncData} (F : Fun K "_law_plain" "_law_plain" sPlain f fd) (T : Bt mg) : FnOk P w K mg base CX0 1 f fd ["x"] spPlain := by
  refine F.ok scPlain (fun vs H Q E h => ?_) (fun cdv A outer s H vs Q E hr h => ?_)
  · obtain ⟨i, rfl, _⟩ := h
    rfl
  · obtain ⟨i, rfl, k⟩ := h
    refine ⟨_, pss_one (ps_ret (pe_and (pe_callB call_isi (by rfl) T.isinstance (by decide +kernel) (pa_cons (pv 0) (pa_cons (pe_bltn (v := .ty "int") (by rfl) T.int (by decide +kernel) rfl) pa_nil))) (pe_one (pe_not (pe_callB call_isi (by rfl) T.isinstance (by decide +kernel) (pa_cons (pv 0) (pa_cons (pe_bltn (v := .ty "bool") (by rfl) T.bool (by decide +kernel) rfl) pa_nil))))))), ?_⟩
    have t1 : TyX K H (.int i) (.type "int") := .base (.int i)
    refine ⟨_, rfl, _, _, _, _, _, rfl, .ty _, t1, kit_ty (by decide +kernel : kitB "int" "int" = some true), _, rfl, iteT ?_⟩
    exact ⟨_, rfl, _, _, _, _, _, rfl, .ty _, t1, kit_ty (by decide +kernel : kitB "int" "bool" = some false), _, rfl, k⟩
theorem ok_num {f : Addr} {fd : FuncData} (F : Fun K "_law_number_near" "_law_number_near" sNum f fd) (T : Bt mg) (N : Cl P w K mg base 1 "_law_take" sTake ["box", "limit"] spTake) : FnOk P w K mg base CX0 2 f fd ["box", "x", "far"] spNum := by
  refine F.ok scNum (fun vs H Q E h => ?_) (fun cdv A outer s H vs Q E hr h => ?_)
  · obtain ⟨B, x, far, rfl, _⟩ := h
    rfl
  · obtain ⟨B, x, far, rfl, hB, h0, h1, k⟩ := h
    refine ⟨_, pss_one (ps_ret (pe_op op_sub (pe_op op_add (pv 1) (calC N (hr.mono (by decide)) (pa_cons (pv 0) (pa_cons (pe_op op_add (pe_op op_mul (pe_int) (pv 2)) (pe_int)) pa_nil)))) (pv 2))), ?_⟩
    refine ⟨_, rfl, _, rfl, _, rfl, _, _, rfl, rfl, .inl ⟨by decide, by decide⟩, _, _, rfl, rfl, B, _, rfl, hB, by omega, by omega, fun d H' d0 d1 g => ?_⟩
    exact ⟨_, _, rfl, rfl, _, rfl, _, _, rfl, rfl, k _ H' (by omega) (by omega) g⟩
theorem ok_near {f : Addr} {fd : FuncData} (F : Fun K "_law_near" "_law_near" sNear f fd) (T : Bt mg) : FnOk P w K mg base CX0 1 f fd ["a", "b", "halves"] spNear := by
  refine F.ok scNear (fun vs H Q E h => ?_) (fun cdv A outer s H vs Q E hr h => ?_)
  · obtain ⟨a, b, n, rfl, _⟩ := h
    rfl
  · obtain ⟨a, b, n, rfl, k⟩ := h
    refine ⟨_, pss_one (ps_ret (pe_cmpR op_le (pe_op op_mul (pe_int) (pe_callB call_abs (by rfl) T.abs (by decide +kernel) (pa_cons (pe_op op_sub (pv 0) (pv 1)) pa_nil))) (pv 2) (nomark _))), ?_⟩
    exact ⟨_, rfl, _, rfl, _, _, rfl, rfl, _, rfl, _, _, rfl, rfl, .inl ⟨by decide, by decide⟩, _, rfl, _, _, rfl, rfl, k⟩
theorem ok_pnear {f : Addr} {fd : FuncData} (F : Fun K "_law_pair_near" "_law_pair_near" sPNear f fd) (T : Bt mg) (N : Cl P w K mg base 1 "_law_near" sNear ["a", "b", "halves"] spNear) : FnOk P w K mg base CX0 2 f fd ["one", "two", "halves"] (spPNear K) := by
  refine F.ok scPNear (fun vs H Q E h => ?_) (fun cdv A outer s H vs Q E hr h => ?_)
  · obtain ⟨a, b, p, q, n, rfl, _⟩ := h
    rfl
  · obtain ⟨a, b, p, q, n, rfl, hp, hq, k⟩ := h
    refine ⟨_, pss_one (ps_ret (pe_and (calC N (hr.mono (by decide)) (pa_cons (pe_ix ix_tup (pv 0) (pe_int) (fun _ _ => rfl)) (pa_cons (pe_ix ix_tup (pv 1) (pe_int) (fun _ _ => rfl)) (pa_cons (pv 2) pa_nil)))) (pe_one (calC N (hr.mono (by decide)) (pa_cons (pe_ix ix_tup (pv 0) (pe_int) (fun _ _ => rfl)) (pa_cons (pe_ix ix_tup (pv 1) (pe_int) (fun _ _ => rfl)) (pa_cons (pv 2) pa_nil))))))), ?_⟩
    unfold nearP at k
    refine ⟨_, rfl, a, _, 0, _, rfl, rfl, hp, rfl, _, rfl, b, _, 0, _, rfl, rfl, hq, rfl, _, rfl, _, _, _, rfl, _, rfl, ite_b (fun c => ?_) (fun c => ?_)⟩
    · refine ⟨_, rfl, a, _, 1, _, rfl, rfl, hp, rfl, _, rfl, b, _, 1, _, rfl, rfl, hq, rfl, _, rfl, _, _, _, rfl, ?_⟩
      rw [c, Bool.true_and] at k
      exact k
    · rw [c, Bool.false_and] at k
      exact k
end
end Lw
namespace Lw
open PySem PySem.Spec PyProof.Rows L2 XV TL XM DO
theorem wrongP_of {a b : Int} (h : a < b) : wrongP (a, b) = false := decide_eq_false (show ¬ b ≤ a by omega)
theorem RawVs.go {B : Bx} {M M' : Hp} {xs : List V} {ps : List Pr} (h : RawVs M xs ps) (hB : BoxAt B M) (g : Go B M M') : RawVs M' xs ps := h.turn fun _ _ e => g.tup hB e
/-- a pair within bounds -/
def InP (l u : Int) (r : Pr) : Prop := l ≤ r.1 ∧ r.1 ≤ u ∧ l ≤ r.2 ∧ r.2 ≤ u
/-- pairs at q, all right -/
structure RowAt (H : Hp) (q : Addr) (ps : List Pr) : Prop where
  ex : ∃ xs, H q = some (.lst xs) ∧ RawVs H xs ps
  ok : ∀ r ∈ ps, wrongP r = false
  le : ps.length ≤ 5
theorem RowAt.go {B : Bx} {M M' : Hp} {q : Addr} {ps : List Pr} (h : RowAt M q ps) (hB : BoxAt B M) (g : Go B M M') (n : q ≠ B.b ∧ q ≠ B.l) : RowAt M' q ps := by
  obtain ⟨xs, h1, h2⟩ := h.ex
  exact ⟨⟨xs, g.keep n.1 n.2 h1, h2.go hB g⟩, h.ok, h.le⟩
theorem RowAt.mono {M M' : Hp} {q : Addr} {ps : List Pr} (h : RowAt M q ps) (s : Same M M') : RowAt M' q ps := by
  obtain ⟨xs, h1, h2⟩ := h.ex
  exact ⟨⟨xs, s _ _ h1, h2.turn fun _ _ e => s _ _ e⟩, h.ok, h.le⟩
abbrev sBent : Stmt := topOf "_law_bent_pairs"
abbrev NBent : List Str := ["box", "row", "far", "found", "a", "b", "one", "two"]
theorem scBent : FnScope NBent ["box", "row", "far"] (defScope sBent) := ⟨rfl, rfl, rfl, by decide +kernel, rfl, by decide +kernel, by decide +kernel⟩
def spBent : Sp := fun vs H Q _ => ∃ (B : Bx) (p : Addr) (ps : List Pr) (far : Int), vs = [.ref B.b, .ref p, .int far] ∧ BoxAt B H ∧ RowAt H p ps ∧ (p ≠ B.b ∧ p ≠ B.l) ∧ 0 ≤ far ∧ far ≤ 4 ∧ (∀ z ∈ ps, InP (-5) 13 z) ∧
  ∀ (q : Addr) (qs : List Pr) (H' : Hp), Go B H H' → H q = none → RowAt H' q qs → (∀ z ∈ qs, InP (-9) 17 z) → Q (.ref q) H'
section
variable {P : Program} {w : World} {K : PySem.W.Frag} {mg : Str → Option Value} {base : Heap}
theorem ok_bent {f : Addr} {fd : FuncData} (F : Fun K "_law_bent_pairs" "_law_bent_pairs" sBent f fd) (T : Bt mg) (N1 : Cl P w K mg base 1 "_law_take" sTake ["box", "limit"] spTake) (N2 : Cl P w K mg base 2 "_law_number_near" sNum ["box", "x", "far"] spNum) (N3 : Cl P w K mg base 2 "_law_mixed" sMixed ["box", "things"] spMixed) : FnOk P w K mg base CX0 3 f fd ["box", "row", "far"] spBent := by
  refine F.ok scBent (fun vs H Q E h => ?_) (fun cdv A outer s H vs Q E hr h => ?_)
  · obtain ⟨B, p, ps, far, rfl, _⟩ := h
    rfl
  · obtain ⟨B, p, ps, far, rfl, hB, hp, np, h0, h1, hin, k⟩ := h
    obtain ⟨xs, ep, rp⟩ := hp.ex
    have lp := hp.le
    refine ⟨_, pss_cons (ps_set (i := 3) scBent.nd rfl (Or.inl rfl) (pe_lst (pa_nil)))
 (pss_cons (ps_for PassesOwn.never rfl (pi_list (pv 1)) (pg_tup rfl (pgs_cons (pg_name (i := 4) scBent.nd rfl (Or.inl rfl)) (pgs_cons (pg_name (i := 5) scBent.nd rfl (Or.inl rfl)) (pgs_nil))))
 (pss_cons (ps_par (i := 6) (j := 7) rfl scBent.nd rfl rfl (by decide) rfl rfl (pa_cons (calC N2 (hr.mono (by decide)) (pa_cons (pv 0) (pa_cons (pv 4) (pa_cons (pv 2) pa_nil)))) (pa_cons (calC N2 (hr.mono (by decide)) (pa_cons (pv 0) (pa_cons (pv 5) (pa_cons (pv 2) pa_nil)))) pa_nil)) (by rfl))
 (pss_one (ps_if (PW.pt (pw_and (pt_cmpR op_lt (pv 6) (pv 7) (nomark _)) (pw_and1 (pt_cmpR op_gt (calC N1 (hr.mono (by decide)) (pa_cons (pv 0) (pa_cons (pe_int) pa_nil))) (pe_int) (nomark _)))))
 (pss_one (ps_expr (pe_bm PySem.F.plainAttrs_list PySem.F.slot_list_append PySem.F.type_list_append mt_append (pv 3) (pa_cons (pe_tup (pa_cons (pv 6) (pa_cons (pv 7) pa_nil))) pa_nil))))
 (pss_nil)))))
 (pss_mid (ps_if (PW.pt (pw_or (pt_cmpR (op_eqD (by exact un64 hr)) (pv 3) (pe_lst (pa_nil)) (nomark _)) (pw_or1 (PW.pt (pw_and (pt_cmpR op_lt (pe_callB call_len (by rfl) T.len (by decide +kernel) (pa_cons (pv 3) pa_nil)) (pe_int) (nomark _)) (pw_and1 (pt_cmpR op_eq (calC N1 (hr.mono (by decide)) (pa_cons (pv 0) (pa_cons (pe_int) pa_nil))) (pe_int) (nomark _))))))))
 (pss_cons (ps_set (i := 6) scBent.nd rfl (Or.inl rfl) (pe_op op_sub (calC N1 (hr.mono (by decide)) (pa_cons (pv 0) (pa_cons (pe_int) pa_nil))) (pe_int)))
 (pss_one (ps_expr (pe_bm PySem.F.plainAttrs_list PySem.F.slot_list_append PySem.F.type_list_append mt_append (pv 3) (pa_cons (pe_tup (pa_cons (pv 6) (pa_cons (pe_op op_add (pe_op op_add (pv 6) (pe_int)) (calC N1 (hr.mono (by decide)) (pa_cons (pv 0) (pa_cons (pe_op op_add (pe_int) (pe_op op_mul (pe_int) (pv 2))) pa_nil)))) pa_nil))) pa_nil)))))
 (pss_nil))
 (pss_one (ps_ret (calC N3 (hr.mono (by decide)) (pa_cons (pv 0) (pa_cons (pv 3) pa_nil))))))), ?_⟩
    refine ⟨Nat.zero_le _, fun r hr0 => ?_⟩
    have g0 := (Go.refl hB).new (o := .lst []) hr0
    have nr := hB.away hr0
    refine ⟨_, rfl, p, rfl, ⟨_, SqL.of (g0.keep np.1 np.2 ep)⟩, for_list (K := K) (a := p) (xs := xs) (fun i σ M => ∃ (x4 x5 x6 x7 : Option V) (ys : List V) (qs : List Pr), σ = [some (.ref B.b), some (.ref p), some (.int far), some (.ref r), x4, x5, x6, x7] ∧ Go B H M ∧ M r = some (.lst ys) ∧ RawVs M ys qs ∧ qs.length ≤ i ∧ ∀ z ∈ qs, wrongP z = false ∧ InP (-9) 17 z)
      ⟨none, none, none, none, [], [], rfl, g0, upd_same, ⟨rfl, fun i x h => by cases h⟩, Nat.le_refl _, fun z hz => by cases hz⟩ (fun i σ M _ h => ?_) ?_ ?_⟩
    · obtain ⟨_, _, _, _, _, _, _, g, _⟩ := h
      exact SqL.of (g.keep np.1 np.2 ep)
    · rintro i x σ M hx ⟨x4, x5, x6, x7, ys, qs, rfl, g, er, rq, lq, oq⟩
      obtain ⟨t, pr, hpr, rfl, ht⟩ := rp.2 i x hx
      have hil := (List.getElem?_eq_some_iff.mp hpr).1
      refine ⟨t, _, rfl, SqT.of (g.tup hB ht), rfl, _, _, rfl, _, _, rfl, rfl, ?_⟩
      refine ⟨_, rfl, _, rfl, _, rfl, B, _, far, rfl, g.bag, h0, by omega, fun i1 M1 a1 a2 g1 => ⟨_, rfl, _, rfl, _, rfl, B, _, far, rfl, g1.bag, h0, by omega, fun i2 M2 b1 b2 g2 => ⟨_, _, rfl, ?_⟩⟩⟩
      have gg := (g.trans g1).trans g2
      have e2 := g2.keep nr.1 nr.2 (g1.keep nr.1 nr.2 er)
      have rq2 := (rq.go g.bag g1).go g1.bag g2
      refine ⟨_, rfl, _, rfl, _, _, rfl, rfl, _, rfl, ite_b (fun c1 => ?_) (fun c1 => iteF ⟨_, _, _, _, _, _, rfl, gg, e2, rq2, by omega, oq⟩)⟩
      refine ⟨_, rfl, B, _, rfl, gg.bag, by decide, by decide, fun d M3 d0 d1 g3 => ⟨_, _, rfl, rfl, _, rfl, ite_b (fun c2 => ?_) (fun c2 => ⟨_, _, _, _, _, _, rfl, gg.trans g3, g3.keep nr.1 nr.2 e2, rq2.go gg.bag g3, by omega, oq⟩)⟩⟩
      have e3 := g3.keep nr.1 nr.2 e2
      refine ⟨_, rfl, tyL e3, _, rfl, _, rfl, (by show 2 ≤ sizeLine; decide), fun u hu => ?_⟩
      have nu : u ≠ r := fun z => by rw [z, e3] at hu; cases hu
      refine ⟨r, ys, _, rfl, rfl, by rw [upd_ne nu.symm]; exact e3, by rw [rq.1, sizeLine_eq]; omega, ?_⟩
      refine ⟨_, _, _, _, _, qs ++ [(i1, i2)], rfl, ((gg.trans g3).new hu).turn hB hr0, upd_same, ?_, by rw [List.length_append, List.length_singleton]; omega, fun z hz => ?_⟩
      · refine ((rq2.go gg.bag g3).turn fun a zs e => ?_).snoc (by rw [upd_ne nu]; exact upd_same)
        rw [upd_ne (ne_of e e3 (by intro z; cases z)), upd_ne (ne_of_none e hu)]
        exact e
      · rcases List.mem_append.mp hz with h | h
        · exact oq z h
        · cases List.mem_singleton.mp h
          obtain ⟨q1, q2, q3, q4⟩ := hin pr (List.mem_of_getElem? hpr)
          exact ⟨wrongP_of (of_decide_eq_true c1), by show -9 ≤ i1; omega, by show i1 ≤ 17; omega, by show -9 ≤ i2; omega, by show i2 ≤ 17; omega⟩
    · rintro σ M ⟨x4, x5, x6, x7, ys, qs, rfl, g, er, rq, lq, oq⟩
      rw [rp.1] at lq
      replace lq := Nat.le_trans lq lp
      refine ⟨fun σ' M' => ∃ (x4 x5 x6 x7 : Option V) (ys : List V) (qs : List Pr), σ' = [some (.ref B.b), some (.ref p), some (.int far), some (.ref r), x4, x5, x6, x7] ∧ Go B H M' ∧ M' r = some (.lst ys) ∧ RawVs M' ys qs ∧ qs.length ≤ 5 ∧ ∀ z ∈ qs, wrongP z = false ∧ InP (-9) 17 z, ?_, ?_⟩
      · refine ⟨_, rfl, Nat.zero_le _, fun u hu => ?_⟩
        have g1 := (Go.refl g.bag).new (o := .lst []) hu
        have eu := upd_same (H := M) (a := u) (o := .lst [])
        have e1 := g1.keep nr.1 nr.2 er
        have rq1 := rq.go g.bag g1
        generalize upd M u (.lst []) = M1 at g1 eu e1 rq1 ⊢
        refine ⟨.list (qs.map pD), .list [], .lst (SqL.of e1) (dp_pairs rq1.pairs), .lst (SqL.of eu) .nil, shaped_pairs qs, shaped_pairs [], _, rfl, ite_b (fun c1 => iteT ?_) (fun c1 => ?_)⟩
        · have q0 : qs = [] := by
            cases qs with
            | nil => rfl
            | cons a b => exact absurd c1 (by simp [PyData.eqv, PyData.eqvAll])
          have l5 : qs.length < 5 := by rw [q0]; decide
          have gg1 := g.trans g1
          refine ⟨_, rfl, B, 12, rfl, gg1.bag, by decide, by decide, fun d M1a d0 d1 ga => ⟨_, _, rfl, rfl, ?_⟩⟩
          have ea := ga.keep nr.1 nr.2 e1
          have ra := rq1.go gg1.bag ga
          have gga := (gg1).trans ga
          refine ⟨_, rfl, tyL ea, _, rfl, _, rfl, _, _, rfl, rfl, _, rfl, _, rfl, _, _, rfl, rfl, .inl ⟨by decide, by decide⟩, _, _, rfl, rfl, B, _, rfl, gga.bag, by omega, by omega, fun d2 M1b d20 d21 gb => ⟨_, _, rfl, rfl, (by show 2 ≤ sizeLine; decide), fun v hv => ?_⟩⟩
          have eb := gb.keep nr.1 nr.2 ea
          have nv : v ≠ r := fun z => by rw [z, eb] at hv; cases hv
          refine ⟨r, ys, _, rfl, rfl, by rw [upd_ne nv.symm]; exact eb, by rw [rq.1, sizeLine_eq]; omega, ?_⟩
          refine ⟨_, _, _, _, _, qs ++ [(d - 4, d - 4 + 1 + d2)], rfl, ((gga.trans gb).new hv).turn hB hr0, upd_same, ?_, by rw [List.length_append, List.length_singleton]; omega, fun z hz => ?_⟩
          · refine ((ra.go gga.bag gb).turn fun a zs e => ?_).snoc (by rw [upd_ne nv]; exact upd_same)
            rw [upd_ne (ne_of e eb (by intro z; cases z)), upd_ne (ne_of_none e hv)]
            exact e
          · rcases List.mem_append.mp hz with h | h
            · exact oq z h
            · cases List.mem_singleton.mp h
              exact ⟨wrongP_of (by omega), by show -9 ≤ d - 4; omega, by show d - 4 ≤ 17; omega, by show -9 ≤ d - 4 + 1 + d2; omega, by show d - 4 + 1 + d2 ≤ 17; omega⟩
        · have gg1 := g.trans g1
          refine ⟨_, rfl, _, ys.length, rfl, .inl ⟨_, SqL.of e1, rfl⟩, _, _, rfl, rfl, _, rfl, ite_b (fun c2 => ?_) (fun c2 => iteF ⟨_, _, _, _, _, _, rfl, gg1, e1, rq1, lq, oq⟩)⟩
          have l5 : qs.length < 5 := by
            have := of_decide_eq_true c2
            rw [rq.1] at this
            omega
          refine ⟨_, rfl, B, 3, rfl, gg1.bag, by decide, by decide, fun d M2 d0 d1 g2 => ⟨rfl, _, rfl, ite_b (fun c3 => ?_) (fun c3 => ⟨_, _, _, _, _, _, rfl, gg1.trans g2, g2.keep nr.1 nr.2 e1, rq1.go gg1.bag g2, lq, oq⟩)⟩⟩
          have e2 := g2.keep nr.1 nr.2 e1
          have rq2 := rq1.go gg1.bag g2
          have gg2 := gg1.trans g2
          refine ⟨_, rfl, B, 12, rfl, gg2.bag, by decide, by decide, fun d M2a d0 d1 ga => ⟨_, _, rfl, rfl, ?_⟩⟩
          have ea := ga.keep nr.1 nr.2 e2
          have ra := rq2.go gg2.bag ga
          have gga := (gg2).trans ga
          refine ⟨_, rfl, tyL ea, _, rfl, _, rfl, _, _, rfl, rfl, _, rfl, _, rfl, _, _, rfl, rfl, .inl ⟨by decide, by decide⟩, _, _, rfl, rfl, B, _, rfl, gga.bag, by omega, by omega, fun d2 M2b d20 d21 gb => ⟨_, _, rfl, rfl, (by show 2 ≤ sizeLine; decide), fun v hv => ?_⟩⟩
          have eb := gb.keep nr.1 nr.2 ea
          have nv : v ≠ r := fun z => by rw [z, eb] at hv; cases hv
          refine ⟨r, ys, _, rfl, rfl, by rw [upd_ne nv.symm]; exact eb, by rw [rq.1, sizeLine_eq]; omega, ?_⟩
          refine ⟨_, _, _, _, _, qs ++ [(d - 4, d - 4 + 1 + d2)], rfl, ((gga.trans gb).new hv).turn hB hr0, upd_same, ?_, by rw [List.length_append, List.length_singleton]; omega, fun z hz => ?_⟩
          · refine ((ra.go gga.bag gb).turn fun a zs e => ?_).snoc (by rw [upd_ne nv]; exact upd_same)
            rw [upd_ne (ne_of e eb (by intro z; cases z)), upd_ne (ne_of_none e hv)]
            exact e
          · rcases List.mem_append.mp hz with h | h
            · exact oq z h
            · cases List.mem_singleton.mp h
              exact ⟨wrongP_of (by omega), by show -9 ≤ d - 4; omega, by show d - 4 ≤ 17; omega, by show -9 ≤ d - 4 + 1 + d2; omega, by show d - 4 + 1 + d2 ≤ 17; omega⟩
      · rintro σ' M' ⟨x4, x5, x6, x7, ys, qs, rfl, g, er, rq, lq, oq⟩
        refine ⟨_, rfl, _, rfl, B, r, ys, rfl, g.bag, er, nr.1, nr.2, by rw [rq.1]; omega, fun q ms H' pm g' hq eq => ?_⟩
        have rm := (rq.go g.bag g').perm pm
        have pk : (ms.map (keyIn H')).Perm qs := by
          have := pm.map (keyIn H')
          rw [(rq.go g.bag g').keys] at this
          exact this
        exact k q _ H' (g.trans g') (g.free hq) ⟨⟨ms, eq, rm⟩, fun z hz => (oq z (pk.mem_iff.mp hz)).1, by rw [pk.length_eq]; exact lq⟩ fun z hz => (oq z (pk.mem_iff.mp hz)).2
end
end Lw
namespace Lw
open PySem PySem.Spec PyProof.Rows L2 XV TL XM DO
abbrev Aw (B : Bx) (p : Addr) : Prop := p ≠ B.b ∧ p ≠ B.l
/-- lives as a list of five, rows in any order -/
structure FiveAt (H : Hp) (p : Addr) (A : Fv) : Prop where
  ex : ∃ h s l, H p = some (.lst [.ref h, .ref s, .ref l, .int A.lo, .int A.hi]) ∧ RowAt H h A.hs ∧ RowAt H s A.ss ∧ H l = some (.lst (A.li.map V.int))
  le : A.li.length ≤ 4
theorem FiveAt.mono {H H' : Hp} {p : Addr} {A : Fv} (x : FiveAt H p A) (s : Same H H') : FiveAt H' p A := by
  obtain ⟨h, t, l, a, b, c, d⟩ := x.ex
  exact ⟨⟨h, t, l, s _ _ a, b.mono s, c.mono s, s _ _ d⟩, x.le⟩
/-- the same, away from the box -/
structure FiveB (B : Bx) (H : Hp) (p : Addr) (A : Fv) : Prop where
  ex : ∃ h s l, H p = some (.lst [.ref h, .ref s, .ref l, .int A.lo, .int A.hi]) ∧ RowAt H h A.hs ∧ RowAt H s A.ss ∧ H l = some (.lst (A.li.map V.int)) ∧ Aw B p ∧ Aw B h ∧ Aw B s ∧ Aw B l
  le : A.li.length ≤ 4
theorem FiveB.at {B : Bx} {H : Hp} {p : Addr} {A : Fv} (x : FiveB B H p A) : FiveAt H p A := by
  obtain ⟨h, t, l, a, b, c, d, _⟩ := x.ex
  exact ⟨⟨h, t, l, a, b, c, d⟩, x.le⟩
theorem FiveB.go {B : Bx} {H H' : Hp} {p : Addr} {A : Fv} (x : FiveB B H p A) (hB : BoxAt B H) (g : Go B H H') : FiveB B H' p A := by
  obtain ⟨h, t, l, a, b, c, d, n1, n2, n3, n4⟩ := x.ex
  exact ⟨⟨h, t, l, g.keep n1.1 n1.2 a, b.go hB g n2, c.go hB g n3, g.keep n4.1 n4.2 d, n1, n2, n3, n4⟩, x.le⟩
theorem FiveB.mono {B : Bx} {H H' : Hp} {p : Addr} {A : Fv} (x : FiveB B H p A) (s : Same H H') : FiveB B H' p A := by
  obtain ⟨h, t, l, a, b, c, d, n⟩ := x.ex
  exact ⟨⟨h, t, l, s _ _ a, b.mono s, c.mono s, s _ _ d, n⟩, x.le⟩
/-- the bounds of drawn lives, of moved ones -/
structure FvD (A : Fv) : Prop where
  hs : ∀ z ∈ A.hs, InP (-5) 13 z
  ss : ∀ z ∈ A.ss, InP (-5) 13 z
  li : ∀ z ∈ A.li, 0 ≤ z ∧ z ≤ 8
  lo : -9 ≤ A.lo ∧ A.lo ≤ -1
  hi : 9 ≤ A.hi ∧ A.hi ≤ 17
structure FvM (A : Fv) : Prop where
  hs : ∀ z ∈ A.hs, InP (-9) 17 z
  ss : ∀ z ∈ A.ss, InP (-9) 17 z
  li : ∀ z ∈ A.li, -4 ≤ z ∧ z ≤ 12
  lo : -13 ≤ A.lo ∧ A.lo ≤ 3
  hi : 5 ≤ A.hi ∧ A.hi ≤ 21
theorem InP.wide {z : Pr} (h : InP (-5) 13 z) : InP (-9) 17 z := by
  obtain ⟨a, b, c, d⟩ := h
  exact ⟨by omega, by omega, by omega, by omega⟩
theorem FvD.m {A : Fv} (h : FvD A) : FvM A := ⟨fun z hz => (h.hs z hz).wide, fun z hz => (h.ss z hz).wide, fun z hz => by have := h.li z hz; omega, by have := h.lo; omega, by have := h.hi; omega⟩
/-- rows found -/
structure Rws (B : Bx) (r : Addr) (H : Hp) (fs : List V) (rws : List (List Pr)) : Prop where
  len : fs.length = rws.length
  row : ∀ (i : Nat) (x : V), fs[i]? = some x → ∃ t ps, x = .ref t ∧ rws[i]? = some ps ∧ RowAt H t ps ∧ Aw B t ∧ t ≠ r ∧ ∀ z ∈ ps, InP (-5) 13 z
theorem RowAt.upd {M : Hp} {t r : Addr} {ps : List Pr} {zs : List V} {o : HO} (h : RowAt M t ps) (n : t ≠ r) (e : M r = some (.lst zs)) : RowAt (upd M r o) t ps := by
  obtain ⟨xs, h1, h2⟩ := h.ex
  refine ⟨⟨xs, by rw [upd_ne n]; exact h1, h2.turn fun a ys q => ?_⟩, h.ok, h.le⟩
  rw [upd_ne (ne_of q e (by intro z; cases z))]
  exact q
abbrev sDrawn : Stmt := topOf "_law_drawn_lives"
abbrev NDrawn : List Str := ["box", "far", "found", "kind", "row", "at", "k", "one"]
theorem scDrawn : FnScope NDrawn ["box", "far"] (defScope sDrawn) := ⟨rfl, rfl, rfl, by decide +kernel, rfl, by decide +kernel, by decide +kernel⟩
def spDrawn : Sp := fun vs H Q _ => ∃ (B : Bx) (far : Int), vs = [.ref B.b, .int far] ∧ BoxAt B H ∧ 0 ≤ far ∧ far ≤ 4 ∧
  ∀ (q : Addr) (A : Fv) (H' : Hp), Go B H H' → H q = none → FiveB B H' q A → A.li.length ≤ 3 → FvD A → Q (.ref q) H'
section
variable {P : Program} {w : World} {K : PySem.W.Frag} {mg : Str → Option Value} {base : Heap}
theorem ok_drawn {f : Addr} {fd : FuncData} (F : Fun K "_law_drawn_lives" "_law_drawn_lives" sDrawn f fd) (T : Bt mg) (N1 : Cl P w K mg base 1 "_law_take" sTake ["box", "limit"] spTake) (N2 : Cl P w K mg base 2 "_law_number_near" sNum ["box", "x", "far"] spNum) : FnOk P w K mg base CX0 3 f fd ["box", "far"] spDrawn := by
  refine F.ok scDrawn (fun vs H Q E h => ?_) (fun cdv A0 outer s H vs Q E hr h => ?_)
  · obtain ⟨B, far, rfl, _⟩ := h
    rfl
  · obtain ⟨B, far, rfl, hB, h0, h1, k⟩ := h
    refine ⟨_, pss_cons (ps_set (i := 2) scDrawn.nd rfl (Or.inl rfl) (pe_lst (pa_nil)))
 (pss_cons (ps_for PassesOwn.never rfl (pi_range1 rfl T.range (pa_cons (pe_int) pa_nil)) (pg_name (i := 3) scDrawn.nd rfl (Or.inl rfl))
 (pss_cons (ps_par (i := 4) (j := 5) rfl scDrawn.nd rfl rfl (by decide) rfl rfl (pa_cons (pe_lst (pa_nil)) (pa_cons (pe_op op_sub (calC N1 (hr.mono (by decide)) (pa_cons (pv 0) (pa_cons (pe_int) pa_nil))) (pe_int)) pa_nil)) (by rfl))
 (pss_cons (ps_for PassesOwn.never rfl (pi_range1 rfl T.range (pa_cons (calC N1 (hr.mono (by decide)) (pa_cons (pv 0) (pa_cons (pe_int) pa_nil))) pa_nil)) (pg_name (i := 6) scDrawn.nd rfl (Or.inl rfl))
 (pss_mid (ps_if (pt_cmpR op_eq (calC N1 (hr.mono (by decide)) (pa_cons (pv 0) (pa_cons (pe_int) pa_nil))) (pe_int) (nomark _))
 (pss_one (ps_set (i := 5) scDrawn.nd rfl (Or.inl rfl) (pe_op op_sub (calC N1 (hr.mono (by decide)) (pa_cons (pv 0) (pa_cons (pe_int) pa_nil))) (pe_int))))
 (pss_nil))
 (pss_cons (ps_set (i := 7) scDrawn.nd rfl (Or.inl rfl) (calC N2 (hr.mono (by decide)) (pa_cons (pv 0) (pa_cons (pv 5) (pa_cons (pe_int) pa_nil)))))
 (pss_one (ps_expr (pe_bm PySem.F.plainAttrs_list PySem.F.slot_list_append PySem.F.type_list_append mt_append (pv 4) (pa_cons (pe_tup (pa_cons (pv 7) (pa_cons (pe_callB (call_max2 rfl) (by rfl) T.max (by decide +kernel) (pa_cons (pe_op op_add (pv 7) (pe_int)) (pa_cons (pe_op op_add (pe_op op_add (pv 5) (calC N1 (hr.mono (by decide)) (pa_cons (pv 0) (pa_cons (pe_int) pa_nil)))) (pe_op op_mul (calC N1 (hr.mono (by decide)) (pa_cons (pv 0) (pa_cons (pe_int) pa_nil))) (pv 1))) pa_nil))) pa_nil))) pa_nil)))))))
 (pss_one (ps_expr (pe_bm PySem.F.plainAttrs_list PySem.F.slot_list_append PySem.F.type_list_append mt_append (pv 2) (pa_cons (pv 4) pa_nil)))))))
 (pss_one (ps_ret (pe_op op_cat (pv 2) (pe_lst (pa_cons (pe_lc (own := [("k", 6)]) (g := gName 6) (tt := tYes) (te := tCall spTake [] E0 (tCons (tVar 0) (tCons (tC (.int 9)) tNil))) rfl scDrawn.nd (pi_range1 rfl T.range (pa_cons (calC N1 (hr.mono (by decide)) (pa_cons (pv 0) (pa_cons (pe_int) pa_nil))) pa_nil)) (blkOk_by (N := NDrawn) (sc := defScope sDrawn) (by decide +kernel)) (fun _ _ _ _ _ => pg_name (i := 6) scDrawn.nd rfl (Or.inl rfl)) (fun _ _ _ _ _ => pts_nil) (fun _ _ _ _ _ => calC N1 (hr.mono (by decide)) (pa_cons (pv 0) (pa_cons (pe_int) pa_nil)))) (pa_cons (pe_op op_sub (calC N1 (hr.mono (by decide)) (pa_cons (pv 0) (pa_cons (pe_int) pa_nil))) (pe_int)) (pa_cons (pe_op op_add (calC N1 (hr.mono (by decide)) (pa_cons (pv 0) (pa_cons (pe_int) pa_nil))) (pe_int)) pa_nil)))))))), ?_⟩
    refine ⟨Nat.zero_le _, fun r hr0 => ?_⟩
    have g0 := (Go.refl hB).new (o := .lst []) hr0
    have nr := hB.away hr0
    refine ⟨_, rfl, by omega, by omega, for_range (n := 2) (fun i σ M => ∃ (x3 x4 x5 x6 x7 : Option V) (fs : List V) (rws : List (List Pr)), σ = [some (.ref B.b), some (.int far), some (.ref r), x3, x4, x5, x6, x7] ∧ Go B H M ∧ M r = some (.lst fs) ∧ Rws B r M fs rws ∧ rws.length = i)
      ⟨none, none, none, none, none, [], [], rfl, g0, upd_same, ⟨rfl, fun i x h => by cases h⟩, rfl⟩ ?_ ?_⟩
    · rintro i σ M hi ⟨x3, x4, x5, x6, x7, fs, rws, rfl, g, er, hR, hl⟩
      refine ⟨Nat.zero_le _, fun u hu => ?_⟩
      have nu := g.bag.away hu
      have u0 := g.free hu
      have nur : u ≠ r := fun z => by rw [z, er] at hu; cases hu
      have g1 := (Go.refl g.bag).new (o := .lst []) hu
      refine ⟨_, rfl, B, 12, rfl, g1.bag, by decide, by decide, fun d M1 d0 d1 g2 => ⟨_, _, rfl, rfl, _, _, rfl, ?_⟩⟩
      have g12 := g1.trans g2
      have eu := g2.keep nu.1 nu.2 (upd_same (H := M) (a := u) (o := .lst []))
      refine ⟨_, rfl, B, 6, rfl, g12.bag, by decide, by decide, fun m M2 m0 m1 g3 => ⟨_, rfl, by omega, by omega, ?_⟩⟩
      obtain ⟨mm, rfl⟩ : ∃ mm : Nat, m = mm := ⟨m.toNat, by omega⟩
      refine for_range (n := mm) (fun j σ N => ∃ (y5 : Int) (x6 x7 : Option V) (ys : List V) (qs : List Pr), σ = [some (.ref B.b), some (.int far), some (.ref r), some (.int (0 + i)), some (.ref u), some (.int y5), x6, x7] ∧ Go B M N ∧ N u = some (.lst ys) ∧ RawVs N ys qs ∧ qs.length = j ∧ (-4 ≤ y5 ∧ y5 ≤ 7) ∧ ∀ z ∈ qs, wrongP z = false ∧ InP (-5) 13 z)
        ⟨_, x6, x7, [], [], rfl, g12.trans g3, g3.keep nu.1 nu.2 eu, ⟨rfl, fun i x h => by cases h⟩, rfl, ⟨by omega, by omega⟩, fun z h => by cases h⟩ ?_ ?_
      · rintro j σ N hj ⟨y5, x6, x7, ys, qs, rfl, gN, eN, rq, lq, by5, oq⟩
        refine ⟨fun σ' N' => ∃ (y5 : Int) (x6 x7 : Option V), σ' = [some (.ref B.b), some (.int far), some (.ref r), some (.int (0 + i)), some (.ref u), some (.int y5), x6, x7] ∧ Go B N N' ∧ (-4 ≤ y5 ∧ y5 ≤ 7), ?_, ?_⟩
        · refine ⟨_, rfl, B, 2, rfl, gN.bag, by decide, by decide, fun d N1 d0 d1 ga => ⟨rfl, _, rfl, ite_b (fun _ => ?_) (fun _ => ⟨_, _, _, rfl, ga, by5⟩)⟩⟩
          exact ⟨_, rfl, B, 12, rfl, ga.bag, by decide, by decide, fun d N1 d0 d1 gb => ⟨_, _, rfl, rfl, _, _, _, rfl, ga.trans gb, by omega, by omega⟩⟩
        · rintro σ' N' ⟨y5, x6, x7, rfl, ga, by5'⟩
          refine ⟨_, rfl, _, rfl, B, _, 1, rfl, ga.bag, by decide, by decide, fun i1 N1 i10 i11 gb => ?_⟩
          have gab := ga.trans gb
          have e1 := gab.keep nu.1 nu.2 eN
          refine ⟨_, rfl, tyL e1, _, rfl, _, rfl, _, _, rfl, rfl, _, rfl, _, rfl, B, 3, rfl, gb.bag, by decide, by decide, fun d2 N2 d20 d21 gc => ⟨_, _, rfl, rfl, _, rfl, B, 2, rfl, gc.bag, by decide, by decide, fun d3 N3 d30 d31 gd => ⟨_, rfl, _, _, rfl, rfl, .inl ⟨by omega, by omega⟩, _, _, rfl, rfl, _, _, rfl, (by show 2 ≤ sizeLine; decide), fun v hv => ?_⟩⟩⟩
          have gcd := gc.trans gd
          have e2 := gcd.keep nu.1 nu.2 e1
          have rq2 := ((rq.go gN.bag gab).go gab.bag gcd)
          have nv : v ≠ u := fun z => by rw [z, e2] at hv; cases hv
          refine ⟨u, ys, _, rfl, rfl, by rw [upd_ne nv.symm]; exact e2, by rw [rq.1, sizeLine_eq]; omega, ?_⟩
          refine ⟨_, _, _, _, qs ++ [(i1, (if y5 + d2 + d3 * far > i1 + 1 then y5 + d2 + d3 * far else i1 + 1))], rfl, (((gN.trans gab).trans gcd).new hv).turn g.bag hu, upd_same, ?_, by rw [List.length_append, List.length_singleton, lq], by5', fun z hz => ?_⟩
          · refine (rq2.turn fun a zs e => ?_).snoc (by rw [upd_ne nv]; exact upd_same)
            rw [upd_ne (ne_of e e2 (by intro z; cases z)), upd_ne (ne_of_none e hv)]
            exact e
          · rcases List.mem_append.mp hz with h | h
            · exact oq z h
            · cases List.mem_singleton.mp h
              have hd3 : 0 ≤ d3 * far ∧ d3 * far ≤ 4 := by
                have : d3 = 0 ∨ d3 = 1 := by omega
                rcases this with rfl | rfl
                · exact ⟨by omega, by omega⟩
                · exact ⟨by omega, by omega⟩
              obtain ⟨hd30, hd31⟩ := hd3
              generalize d3 * far = df at hd30 hd31
              refine ⟨wrongP_of (by split <;> omega), by show -5 ≤ i1; omega, by show i1 ≤ 13; omega, ?_, ?_⟩
              · show -5 ≤ (if y5 + d2 + df > i1 + 1 then y5 + d2 + df else i1 + 1)
                split <;> omega
              · show (if y5 + d2 + df > i1 + 1 then y5 + d2 + df else i1 + 1) ≤ 13
                split <;> omega
      · rintro σ N ⟨y5, x6, x7, ys, qs, rfl, gN, eN, rq, lq, by5, oq⟩
        have eNr := gN.keep nr.1 nr.2 er
        refine ⟨_, rfl, tyL eNr, _, rfl, r, fs, _, rfl, rfl, eNr, by rw [hR.len, hl, sizeLine_eq]; omega, ?_⟩
        refine ⟨_, _, _, _, _, fs ++ [.ref u], rws ++ [qs], rfl, (g.trans gN).turn hB hr0, upd_same, ⟨by rw [List.length_append, List.length_append, hR.len]; rfl, fun a x hx => ?_⟩, by rw [List.length_append, hl]; rfl⟩
        by_cases c : a < fs.length
        · rw [List.getElem?_append_left c] at hx
          obtain ⟨t, ps, rfl, hp, h3, h4, h5, h6⟩ := hR.row a x hx
          exact ⟨t, ps, rfl, by rw [List.getElem?_append_left (by rw [← hR.len]; exact c)]; exact hp, (h3.go g.bag gN h4).upd h5 eNr, h4, h5, h6⟩
        · rw [List.getElem?_append_right (by omega)] at hx
          obtain ⟨b, hb⟩ : ∃ b, a - fs.length = b := ⟨_, rfl⟩
          rw [hb] at hx
          cases b with
          | succ b => cases hx
          | zero =>
            cases hx
            refine ⟨u, qs, rfl, by rw [List.getElem?_append_right (by rw [← hR.len]; omega), ← hR.len, hb]; rfl, RowAt.upd ⟨⟨ys, eN, rq⟩, fun z hz => (oq z hz).1, by omega⟩ nur eNr, nu, nur, fun z hz => (oq z hz).2⟩
    · rintro σ M ⟨x3, x4, x5, x6, x7, fs, rws, rfl, g, er, hR, hl⟩
      obtain ⟨hs, ss, rfl⟩ : ∃ hs ss, rws = [hs, ss] := by
        match rws, hl with
        | [a, b], _ => exact ⟨a, b, rfl⟩
      obtain ⟨f1, f2, rfl⟩ : ∃ f1 f2, fs = [f1, f2] := by
        match fs, hR.len with
        | [a, b], _ => exact ⟨a, b, rfl⟩
      obtain ⟨ah, p1, rfl, e1, r1, n1, n1', b1⟩ := hR.row 0 f1 rfl
      obtain ⟨as', p2, rfl, e2, r2, n2, n2', b2⟩ := hR.row 1 f2 rfl
      cases e1
      cases e2
      refine ⟨_, rfl, _, rfl, B, 4, rfl, g.bag, by decide, by decide, fun m M1 m0 m1 g1 => ⟨_, rfl, by omega, by omega, fun D hD => ?_⟩⟩
      obtain ⟨mm, rfl⟩ : ∃ mm : Nat, m = mm := ⟨m.toNat, by omega⟩
      have nD := g1.bag.away hD
      refine lc_range (lo := 0) (n := mm) (fun j N => Go B M1 N ∧ ∃ ns : List Int, N D = some (.lst (ns.map V.int)) ∧ ns.length = j ∧ ∀ z ∈ ns, 0 ≤ z ∧ z ≤ 8) ⟨(Go.refl g1.bag).new hD, [], upd_same, rfl, fun z hz => by cases hz⟩ ?_ ?_
      · rintro j N hj ⟨gN, ns, eN, lN, bN⟩
        refine ⟨rfl, _, rfl, B, 9, rfl, gN.bag, by decide, by decide, fun d N1 d0 d1 ga => ⟨_, ga.keep nD.1 nD.2 eN, by rw [List.length_map, sizeLine_eq]; omega, ((gN.trans ga)).turn g1.bag hD, ns ++ [d], ?_, by rw [List.length_append, lN]; rfl, fun z hz => by
          rcases List.mem_append.mp hz with h | h
          · exact bN z h
          · cases List.mem_singleton.mp h
            exact ⟨d0, by omega⟩⟩⟩
        rw [upd_same, List.map_append]
        rfl
      · rintro N ⟨gN, ns, eN, lN, bN⟩
        refine ⟨_, rfl, B, 9, rfl, gN.bag, by decide, by decide, fun lo N1 lo0 lo1 ga => ⟨_, _, rfl, rfl, _, rfl, B, 9, rfl, ga.bag, by decide, by decide, fun hi N2 hi0 hi1 gb => ⟨_, _, rfl, rfl, (by show 3 ≤ sizeLine; decide), fun v hv => ?_⟩⟩⟩
        have gab := ga.trans gb
        have gM := (g1.trans gN).trans gab
        have gv := gM.new (o := .lst [.ref D, .int (lo - 9), .int (hi + 9)]) hv
        have ev := upd_same (H := N2) (a := v) (o := .lst [.ref D, .int (lo - 9), .int (hi + 9)])
        have eD := ((Go.refl gab.bag).new (o := .lst [.ref D, .int (lo - 9), .int (hi + 9)]) hv).keep nD.1 nD.2 (gab.keep nD.1 nD.2 eN)
        have er2 := gv.keep nr.1 nr.2 er
        generalize upd N2 v (.lst [.ref D, .int (lo - 9), .int (hi + 9)]) = N3 at gv ev eD er2 ⊢
        refine ⟨r, v, _, _, rfl, rfl, er2, ev, (by show 5 ≤ sizeLine; decide), fun q hq => ?_⟩
        have gq := gv.new (o := .lst [.ref ah, .ref as', .ref D, .int (lo - 9), .int (hi + 9)]) hq
        refine k q ⟨hs, ss, ns, lo - 9, hi + 9⟩ _ (g.trans gq) ((g.trans gv).free hq) ⟨⟨ah, as', D, upd_same, r1.go g.bag gq n1, r2.go g.bag gq n2, ?_, gv.bag.away hq, n1, n2, nD⟩, ?_⟩ ?_ ⟨b1, b2, bN, by show -9 ≤ lo - 9 ∧ lo - 9 ≤ -1; omega, by show 9 ≤ hi + 9 ∧ hi + 9 ≤ 17; omega⟩
        · rw [upd_ne (ne_of_none eD hq)]
          exact eD
        · show ns.length ≤ 4
          omega
        · show ns.length ≤ 3
          omega
end
end Lw
namespace Lw
open PySem PySem.Spec PyProof.Rows L2 XV TL XM DO
theorem passE {X : Cx} : Passes (L2.CX X.prog X.w) X E0 := fun _ _ _ _ _ _ _ ⟨_, _, _, _, _, _, _, _, _, _, _, _, h⟩ => h.elim
/-- the same lives, sorted -/
structure SrtF (A A' : Fv) : Prop where
  hs : SortP A.hs A'.hs
  ss : SortP A.ss A'.ss
  li : SortI A.li A'.li
  lo : A'.lo = A.lo
  hi : A'.hi = A.hi
theorem SortP.ok {l m : List Pr} (h : SortP l m) (k : ∀ r ∈ l, wrongP r = false) : ∀ r ∈ m, wrongP r = false := fun r hr => k r (h.perm.mem_iff.mp hr)
abbrev sMoved : Stmt := topOf "_law_moved_lives"
abbrev NMoved : List Str := ["box", "five", "far", "found", "x"]
theorem scMoved : FnScope NMoved ["box", "five", "far"] (defScope sMoved) := ⟨rfl, rfl, rfl, by decide +kernel, rfl, by decide +kernel, by decide +kernel⟩
def spMoved : Sp := fun vs H Q _ => ∃ (B : Bx) (p : Addr) (A : Fv) (far : Int), vs = [.ref B.b, .ref p, .int far] ∧ BoxAt B H ∧ FiveB B H p A ∧ FvD A ∧ 0 ≤ far ∧ far ≤ 4 ∧
  ∀ (q : Addr) (A' : Fv) (H' : Hp), Go B H H' → H q = none → FiveB B H' q A' → A'.li.length = A.li.length → FvM A' → Q (.ref q) H'
abbrev sSorted : Stmt := topOf "_law_sorted_lives"
theorem scSorted : FnScope ["five"] ["five"] (defScope sSorted) := ⟨rfl, rfl, rfl, by decide +kernel, rfl, by decide +kernel, by decide +kernel⟩
def spSorted : Sp := fun vs H Q _ => ∃ (B : Bx) (p : Addr) (A : Fv), vs = [.ref p] ∧ BoxAt B H ∧ FiveAt H p A ∧
  ∀ (q : Addr) (A' : Fv) (H' : Hp), Same H H' → H q = none → SrtF A A' → FiveB B H' q A' → Q (.ref q) H'
abbrev sMadeL : Stmt := topOf "_law_made_lives"
theorem scMadeL : FnScope ["five"] ["five"] (defScope sMadeL) := ⟨rfl, rfl, rfl, by decide +kernel, rfl, by decide +kernel, by decide +kernel⟩
def spMadeL (K : PySem.W.Frag) (C : Addr) : Sp := fun vs H Q _ => ∃ (p : Addr) (A : Fv), vs = [.ref p] ∧ FiveAt H p A ∧
  ∀ (q : Addr) (A' : Fv) (H' : Hp), Same H H' → H q = none → SrtF A A' → LvAt K C H' q A' → Q (.ref q) H'
section
variable {P : Program} {w : World} {K : PySem.W.Frag} {mg : Str → Option Value} {base : Heap}
theorem ok_sorted {f : Addr} {fd : FuncData} (F : Fun K "_law_sorted_lives" "_law_sorted_lives" sSorted f fd) (T : Bt mg) : FnOk P w K mg base CX0 1 f fd ["five"] spSorted := by
  refine F.ok scSorted (fun vs H Q E h => ?_) (fun cdv A0 outer s0 H vs Q E hr h => ?_)
  · obtain ⟨B, p, A, rfl, _⟩ := h
    rfl
  · obtain ⟨B, p, A, rfl, hB, hA, k⟩ := h
    obtain ⟨h, s, l, ep, rh, rs, el⟩ := hA.ex
    obtain ⟨xs, eh, rxs⟩ := rh.ex
    obtain ⟨ys, es, rys⟩ := rs.ex
    refine ⟨_, pss_one (ps_ret (pe_lst (pa_cons (pe_callB cr_sortedPO (by rfl) T.sorted (by decide +kernel) (pa_cons (pe_ix ix_list (pv 0) (pe_int) (fun _ _ => rfl)) pa_nil)) (pa_cons (pe_callB cr_sortedPO (by rfl) T.sorted (by decide +kernel) (pa_cons (pe_ix ix_list (pv 0) (pe_int) (fun _ _ => rfl)) pa_nil)) (pa_cons (pe_callB cr_sortedI (by rfl) T.sorted (by decide +kernel) (pa_cons (pe_ix ix_list (pv 0) (pe_int) (fun _ _ => rfl)) pa_nil)) (pa_cons (pe_ix ix_list (pv 0) (pe_int) (fun _ _ => rfl)) (pa_cons (pe_ix ix_list (pv 0) (pe_int) (fun _ _ => rfl)) pa_nil))))))), ?_⟩
    refine ⟨_, rfl, p, _, 0, _, rfl, rfl, SqL.of ep, rfl, h, xs, keyIn H, rfl, SqL.of eh, fun z hz => rxs.mem hz, fun us a h1 h2 ha => ?_⟩
    have s1 := same_new (o := .lst us) ha
    have e1 := upd_same (H := H) (a := a) (o := .lst us)
    have so1 := sort_keys rxs.keys h1 h2
    have ru := rxs.sorted (K := K) h2.perm
    have ru0 : RawVs H us (us.map (keyIn H)) := rxs.perm h2.perm
    generalize upd H a (.lst us) = H1 at s1 e1 ⊢
    refine ⟨_, rfl, p, _, 1, _, rfl, rfl, SqL.of (s1 _ _ ep), rfl, s, ys, keyIn H, rfl, SqL.of (s1 _ _ es), fun z hz => by
      obtain ⟨t, a1, a2⟩ := rys.mem hz
      exact ⟨t, a1, s1 _ _ a2⟩, fun vs b g1 g2 hb => ?_⟩
    have s2 := Same.trans s1 (same_new (o := .lst vs) hb)
    have e12 := (same_new (o := .lst vs) hb) _ _ e1
    have e2 := upd_same (H := H1) (a := b) (o := .lst vs)
    have so2 := sort_keys rys.keys g1 g2
    have rv0 : RawVs H vs (vs.map (keyIn H)) := rys.perm g2.perm
    have hb0 := sN s1 hb
    generalize upd H1 b (.lst vs) = H2 at s2 e12 e2 ⊢
    refine ⟨_, rfl, p, _, 2, _, rfl, rfl, SqL.of (s2 _ _ ep), rfl, l, A.li, rfl, SqL.of (s2 _ _ el), fun ns' c pm pw hc => ?_⟩
    have s3' := same_new (o := .lst (ns'.map V.int)) hc
    have s3 := Same.trans s2 s3'
    have e3 := upd_same (H := H2) (a := c) (o := .lst (ns'.map V.int))
    have e13 := s3' _ _ e12
    have e23 := s3' _ _ e2
    have hc0 := sN s2 hc
    generalize upd H2 c (.lst (ns'.map V.int)) = H3 at s3 e3 e13 e23 ⊢
    refine ⟨_, rfl, p, _, 3, _, rfl, rfl, SqL.of (s3 _ _ ep), rfl, _, rfl, p, _, 4, _, rfl, rfl, SqL.of (s3 _ _ ep), rfl, (by show 5 ≤ sizeLine; decide), fun q hq => ?_⟩
    have s4' := same_new (o := .lst [.ref a, .ref b, .ref c, .int A.lo, .int A.hi]) hq
    have s4 := Same.trans s3 s4'
    have f4 : SrtF A ⟨us.map (keyIn H), vs.map (keyIn H), ns', A.lo, A.hi⟩ := ⟨so1, so2, ⟨pm, pw⟩, rfl, rfl⟩
    refine k q ⟨us.map (keyIn H), vs.map (keyIn H), ns', A.lo, A.hi⟩ _ s4 (sN s3 hq) f4 ⟨⟨a, b, c, upd_same, ⟨⟨us, s4' _ _ e13, ru0.turn fun _ _ e => s4 _ _ e⟩, so1.ok rh.ok, by rw [so1.perm.length_eq]; exact rh.le⟩, ⟨⟨vs, s4' _ _ e23, rv0.turn fun _ _ e => s4 _ _ e⟩, so2.ok rs.ok, by rw [so2.perm.length_eq]; exact rs.le⟩, s4' _ _ e3, hB.away (sN s3 hq), hB.away ha, hB.away hb0, hB.away hc0⟩, by rw [pm.length_eq]; exact hA.le⟩
theorem any_ok {ps : List Pr} (h : ∀ r ∈ ps, wrongP r = false) : ps.any wrongP = false := any_none h
theorem ok_madeL {f fI C : Addr} {fd fdI : FuncData} {c : CA} (F : Fun K "_law_made_lives" "_law_made_lives" sMadeL f fd) (T : Bt mg) (gC : mg "Lives" = some (.ref C)) (M : Mk K C fI) (bI : Binds K fdI ["self", "hollows", "summits", "loose", "lowest", "highest"] [])
    (G_init : FnOk P w K mg base (L2.CX P w) 4 fI fdI ["self", "hollows", "summits", "loose", "lowest", "highest"] (spInitL K c C)) : FnOk P w K mg base CX0 6 f fd ["five"] (spMadeL K C) := by
  refine F.ok scMadeL (fun vs H Q E h => ?_) (fun cdv A0 outer s0 H vs Q E hr h => ?_)
  · obtain ⟨p, A, rfl, _⟩ := h
    rfl
  · obtain ⟨p, A, rfl, hA, k⟩ := h
    obtain ⟨h, s, l, ep, rh, rs, el⟩ := hA.ex
    obtain ⟨xs, eh, rxs⟩ := rh.ex
    obtain ⟨ys, es, rys⟩ := rs.ex
    refine ⟨_, pss_one (ps_ret (by exact (pe_mkS (E := fun _ => E0) M G_init (hr.mono (by decide)) bI (fun σ pins H s e s' I c => passE pins σ H s e s' I c) gC (by exact (pa_cons (pe_callTy call_listL (by rfl) T.list (by decide +kernel) (pa_cons (pe_ix ix_list (pv 0) (pe_int) (fun _ _ => rfl)) pa_nil)) (pa_cons (pe_callTy call_listL (by rfl) T.list (by decide +kernel) (pa_cons (pe_ix ix_list (pv 0) (pe_int) (fun _ _ => rfl)) pa_nil)) (pa_cons (pe_callTy call_listL (by rfl) T.list (by decide +kernel) (pa_cons (pe_ix ix_list (pv 0) (pe_int) (fun _ _ => rfl)) pa_nil)) (pa_cons (pe_ix ix_list (pv 0) (pe_int) (fun _ _ => rfl)) (pa_cons (pe_ix ix_list (pv 0) (pe_int) (fun _ _ => rfl)) pa_nil))))))))), ?_⟩
    refine ⟨_, rfl, p, _, 0, _, rfl, rfl, SqL.of ep, rfl, h, xs, rfl, SqL.of eh, fun a ha => ?_⟩
    have s1 := same_new (o := .lst xs) ha
    have e1 := upd_same (H := H) (a := a) (o := .lst xs)
    generalize upd H a (.lst xs) = H1 at s1 e1 ⊢
    refine ⟨_, rfl, p, _, 1, _, rfl, rfl, SqL.of (s1 _ _ ep), rfl, s, ys, rfl, SqL.of (s1 _ _ es), fun b hb => ?_⟩
    have s2' := same_new (o := .lst ys) hb
    have s2 := Same.trans s1 s2'
    have e2 := upd_same (H := H1) (a := b) (o := .lst ys)
    have e12 := s2' _ _ e1
    generalize upd H1 b (.lst ys) = H2 at s2 e2 e12 ⊢
    refine ⟨_, rfl, p, _, 2, _, rfl, rfl, SqL.of (s2 _ _ ep), rfl, l, _, rfl, SqL.of (s2 _ _ el), fun c' hc => ?_⟩
    have s3' := same_new (o := .lst (A.li.map V.int)) hc
    have s3 := Same.trans s2 s3'
    have e3 := upd_same (H := H2) (a := c') (o := .lst (A.li.map V.int))
    have e13 := s3' _ _ e12
    have e23 := s3' _ _ e2
    generalize upd H2 c' (.lst (A.li.map V.int)) = H3 at s3 e3 e13 e23 ⊢
    refine ⟨_, rfl, p, _, 3, _, rfl, rfl, SqL.of (s3 _ _ ep), rfl, _, rfl, p, _, 4, _, rfl, rfl, SqL.of (s3 _ _ ep), rfl, fun x dx hx hdx hne => ?_⟩
    have s4' := Same.trans (same_new (o := .own x) hdx) (same_new (p := x) (o := .ins C dx []) (by rw [upd_ne hne.symm]; exact hx))
    have s4 := Same.trans s3 s4'
    have n1 := any_ok rh.ok
    have n2 := any_ok rs.ok
    refine ⟨x, dx, a, b, c', A.hs, A.ss, A.li, A.lo, A.hi, rfl, upd_same, ⟨xs, .inl (SqL.of (s4' _ _ e13)), rxs.pairs.mono s4⟩, ⟨ys, .inl (SqL.of (s4' _ _ e23)), rys.pairs.mono s4⟩, SqL.of (s4' _ _ e3), Nat.le_trans rh.le (by decide), Nat.le_trans rs.le (by decide), fun w => (by rw [n1] at w; cases w), fun _ w => (by rw [n2] at w; cases w), fun _ _ H5 hs ss li so1 so2 so3 lv o3 => ⟨rfl, ?_⟩⟩
    have hx0 := sN s3 hx
    exact k x ⟨hs, ss, li, A.lo, A.hi⟩ H5 (fun y o hy => o3 y o (ne_of_none hy hx0) (s4 _ _ hy)) hx0 ⟨so1, so2, so3, rfl, rfl⟩ lv
end
end Lw
namespace Lw
open PySem PySem.Spec PyProof.Rows L2 XV TL XM DO
section
variable {P : Program} {w : World} {K : PySem.W.Frag} {mg : Str → Option Value} {base : Heap}
theorem ok_moved {f : Addr} {fd : FuncData} (F : Fun K "_law_moved_lives" "_law_moved_lives" sMoved f fd) (T : Bt mg) (N1 : Cl P w K mg base 1 "_law_take" sTake ["box", "limit"] spTake) (N2 : Cl P w K mg base 2 "_law_number_near" sNum ["box", "x", "far"] spNum) (N3 : Cl P w K mg base 3 "_law_bent_pairs" sBent ["box", "row", "far"] spBent) : FnOk P w K mg base CX0 4 f fd ["box", "five", "far"] spMoved := by
  refine F.ok scMoved (fun vs H Q E h => ?_) (fun cdv A0 outer s0 H vs Q E hr h => ?_)
  · obtain ⟨B, p, A, far, rfl, _⟩ := h
    rfl
  · obtain ⟨B, p, A, far, rfl, hB, hA, hD, h0, h1, k⟩ := h
    refine ⟨_, pss_cons (ps_set (i := 3) scMoved.nd rfl (Or.inl rfl) (pe_lst (pa_cons (calC N3 (hr.mono (by decide)) (pa_cons (pv 0) (pa_cons (pe_ix ix_list (pv 1) (pe_int) (fun _ _ => rfl)) (pa_cons (pv 2) pa_nil)))) (pa_cons (calC N3 (hr.mono (by decide)) (pa_cons (pv 0) (pa_cons (pe_ix ix_list (pv 1) (pe_int) (fun _ _ => rfl)) (pa_cons (pv 2) pa_nil)))) pa_nil))))
 (pss_cons (ps_set (i := 2) scMoved.nd rfl (by first | exact Or.inl rfl | exact Or.inr rfl) (pe_op op_mul (pv 2) (calC N1 (hr.mono (by decide)) (pa_cons (pv 0) (pa_cons (pe_int) pa_nil)))))
 (pss_one (ps_ret (pe_op op_cat (pe_op op_cat (pv 3) (pe_lst (pa_cons (pe_lc (own := [("x", 4)]) (g := gName 4) (tt := tYes) (te := tCall spNum [] E0 (tCons (tVar 0) (tCons (tVar 4) (tCons (tVar 2) tNil)))) rfl scMoved.nd (pi_list (pe_ix ix_list (pv 1) (pe_int) (fun _ _ => rfl))) (blkOk_by (N := NMoved) (sc := defScope sMoved) (by decide +kernel)) (fun _ _ _ _ _ => pg_name (i := 4) scMoved.nd rfl (Or.inl rfl)) (fun _ _ _ _ _ => pts_nil) (fun _ _ _ _ _ => calC N2 (hr.mono (by decide)) (pa_cons (pv 0) (pa_cons (pv 4) (pa_cons (pv 2) pa_nil))))) pa_nil))) (pe_lc (own := [("x", 4)]) (g := gName 4) (tt := tYes) (te := tCall spNum [] E0 (tCons (tVar 0) (tCons (tVar 4) (tCons (tVar 2) tNil)))) rfl scMoved.nd (pi_list (pe_slice sl_list (pv 1) (po_some (pe_int)) (po_none))) (blkOk_by (N := NMoved) (sc := defScope sMoved) (by decide +kernel)) (fun _ _ _ _ _ => pg_name (i := 4) scMoved.nd rfl (Or.inl rfl)) (fun _ _ _ _ _ => pts_nil) (fun _ _ _ _ _ => calC N2 (hr.mono (by decide)) (pa_cons (pv 0) (pa_cons (pv 4) (pa_cons (pv 2) pa_nil))))))))), ?_⟩
    obtain ⟨h, s, l, ep, rh, rs, el, np, nh, ns, nl⟩ := hA.ex
    refine ⟨_, rfl, _, rfl, p, _, 0, _, rfl, rfl, SqL.of ep, rfl, _, rfl, B, h, A.hs, far, rfl, hB, rh, nh, h0, h1, hD.hs, fun a qs1 H1 g1 ha r1 b1 => ?_⟩
    refine ⟨_, rfl, _, rfl, p, _, 1, _, rfl, rfl, SqL.of (g1.keep np.1 np.2 ep), rfl, _, rfl, B, s, A.ss, far, rfl, g1.bag, rs.go hB g1 ns, ns, h0, h1, hD.ss, fun b qs2 H2 g2 hb r2 b2 => ?_⟩
    have na := hB.away ha
    have nb := g1.bag.away hb
    have g12 := g1.trans g2
    refine ⟨(by show 2 ≤ sizeLine; decide), fun c hc => ?_⟩
    have nc := g2.bag.away hc
    have gc := (Go.refl g2.bag).new (o := .lst [.ref a, .ref b]) hc
    have ec := upd_same (H := H2) (a := c) (o := .lst [.ref a, .ref b])
    have g3 := g12.trans gc
    have r13 := (r1.go g1.bag g2 na).go g2.bag gc na
    have r23 := r2.go g2.bag gc nb
    generalize upd H2 c (.lst [.ref a, .ref b]) = H3 at gc ec g3 r13 r23 ⊢
    refine ⟨_, rfl, _, rfl, B, 2, rfl, g3.bag, by decide, by decide, fun d H4 d0 d1 g4 => ⟨_, _, rfl, rfl, .inr ⟨by omega, by omega⟩, ?_⟩⟩
    have f0 : 0 ≤ far * d := Int.mul_nonneg h0 d0
    have f1 : far * d ≤ 4 := by
      have : d = 0 ∨ d = 1 := by omega
      rcases this with rfl | rfl
      · omega
      · omega
    have g34 := g3.trans g4
    refine ⟨_, rfl, _, rfl, p, _, 2, _, rfl, rfl, SqL.of (g34.keep np.1 np.2 ep), rfl, l, rfl, ⟨_, SqL.of (g34.keep nl.1 nl.2 el)⟩, fun D hD' => ?_⟩
    have nD := g34.bag.away hD'
    refine lc_list (K := K) (a := l) (xs := A.li.map V.int) (fun i N => Go B H4 N ∧ ∃ ms : List Int, N D = some (.lst (ms.map V.int)) ∧ ms.length = i ∧ ∀ z ∈ ms, -4 ≤ z ∧ z ≤ 12) ⟨(Go.refl g4.bag).new hD', [], upd_same, rfl, fun z hz => by cases hz⟩ (fun i N _ h => SqL.of ((g34.trans h.1).keep nl.1 nl.2 el)) ?_ ?_
    · rintro i x N hx ⟨gN, ms, eN, lN, bm⟩
      obtain ⟨v, hv, rfl⟩ : ∃ z, A.li[i]? = some z ∧ V.int z = x := by
        rw [List.getElem?_map] at hx
        exact Option.map_eq_some_iff.mp hx
      have hil := (List.getElem?_eq_some_iff.mp hv).1
      have hle := hA.le
      refine ⟨rfl, _, rfl, _, rfl, _, rfl, B, _, _, rfl, gN.bag, f0, by omega, fun d N1 q1 q2 ga => ⟨_, ga.keep nD.1 nD.2 eN, by rw [List.length_map, sizeLine_eq]; omega, (gN.trans ga).turn g4.bag hD', ms ++ [d], ?_, by rw [List.length_append, lN]; rfl, fun z hz => by
        rcases List.mem_append.mp hz with h | h
        · exact bm z h
        · cases List.mem_singleton.mp h
          have := hD.li v (List.mem_of_getElem? hv)
          omega⟩⟩
      rw [upd_same, List.map_append]
      rfl
    · rintro N ⟨gN, ms, eN, lN, bm⟩
      rw [List.length_map] at lN
      refine ⟨(by show 1 ≤ sizeLine; decide), fun e he => ?_⟩
      have ne := gN.bag.away he
      have ge := (Go.refl gN.bag).new (o := .lst [.ref D]) he
      have ee := upd_same (H := N) (a := e) (o := .lst [.ref D])
      have eD5 := ge.keep nD.1 nD.2 eN
      have g45 := gN.trans ge
      generalize upd N e (.lst [.ref D]) = N5 at ge ee eD5 g45 ⊢
      have ec5 := (g4.trans g45).keep nc.1 nc.2 ec
      refine ⟨c, e, _, _, rfl, rfl, ec5, ee, (by show 3 ≤ sizeLine; decide), fun u hu => ?_⟩
      have nu := ge.bag.away hu
      have gu := (Go.refl ge.bag).new (o := .lst ([.ref a, .ref b] ++ [.ref D])) hu
      have eu := upd_same (H := N5) (a := u) (o := .lst ([.ref a, .ref b] ++ [.ref D]))
      have eD6 := gu.keep nD.1 nD.2 eD5
      have g46 := g45.trans gu
      generalize upd N5 u (.lst ([.ref a, .ref b] ++ [.ref D])) = N6 at gu eu eD6 g46 ⊢
      have ep6 := (g34.trans g46).keep np.1 np.2 ep
      refine ⟨_, rfl, _, rfl, p, _, rfl, SqL.of ep6, fun v hv => ?_⟩
      have cw : cutV [V.ref h, V.ref s, V.ref l, V.int A.lo, V.int A.hi] (some 3) none = [.int A.lo, .int A.hi] := rfl
      rw [cw]
      have nv := gu.bag.away hv
      have gv := (Go.refl gu.bag).new (o := .lst [.int A.lo, .int A.hi]) hv
      have ev := upd_same (H := N6) (a := v) (o := .lst [.int A.lo, .int A.hi])
      have eu7 := gv.keep nu.1 nu.2 eu
      have eD7 := gv.keep nD.1 nD.2 eD6
      have g47 := g46.trans gv
      generalize upd N6 v (.lst [.int A.lo, .int A.hi]) = N7 at gv ev eu7 eD7 g47 ⊢
      refine ⟨v, rfl, ⟨_, SqL.of ev⟩, fun D2 hD2 => ?_⟩
      have nD2 := gv.bag.away hD2
      refine lc_list (K := K) (a := v) (xs := [.int A.lo, .int A.hi]) (fun i N => Go B N7 N ∧ ∃ ks : List Int, N D2 = some (.lst (ks.map V.int)) ∧ ks.length = i ∧ (∀ z : Int, ks[0]? = some z → -13 ≤ z ∧ z ≤ 3) ∧ (∀ z : Int, ks[1]? = some z → 5 ≤ z ∧ z ≤ 21)) ⟨(Go.refl gv.bag).new hD2, [], upd_same, rfl, (fun z hz => by cases hz), (fun z hz => by cases hz)⟩ (fun i N _ h => SqL.of (h.1.keep nv.1 nv.2 ev)) ?_ ?_
      · rintro i x N hx ⟨gN, ks, eN, lN, bk0, bk1⟩
        obtain ⟨z, rfl, bz⟩ : ∃ z, x = .int z ∧ ((i = 0 ∧ -9 ≤ z ∧ z ≤ -1) ∨ (i = 1 ∧ 9 ≤ z ∧ z ≤ 17)) := by
          match i, hx with
          | 0, hx => cases hx; exact ⟨_, rfl, .inl ⟨rfl, hD.lo⟩⟩
          | 1, hx => cases hx; exact ⟨_, rfl, .inr ⟨rfl, hD.hi⟩⟩
        have hil := (List.getElem?_eq_some_iff.mp hx).1
        refine ⟨rfl, _, rfl, _, rfl, _, rfl, B, _, _, rfl, gN.bag, f0, by omega, fun d N1 q1 q2 ga => ⟨_, ga.keep nD2.1 nD2.2 eN, by rw [List.length_map, sizeLine_eq]; have : i < 2 := hil; omega, (gN.trans ga).turn gv.bag hD2, ks ++ [d], ?_, by rw [List.length_append, lN]; rfl, fun z hz => ?_, fun z hz => ?_⟩⟩
        rotate_left
        · rcases bz with ⟨rfl, c1, c2⟩ | ⟨rfl, c1, c2⟩
          · rw [List.eq_nil_of_length_eq_zero lN] at hz
            cases hz
            exact ⟨by omega, by omega⟩
          · rw [List.getElem?_append_left (by omega)] at hz
            exact bk0 z hz
        · rcases bz with ⟨rfl, c1, c2⟩ | ⟨rfl, c1, c2⟩
          · rw [List.eq_nil_of_length_eq_zero lN] at hz
            cases hz
          · rw [List.getElem?_append_right (by omega), lN] at hz
            cases hz
            exact ⟨by omega, by omega⟩
        rw [upd_same, List.map_append]
        rfl
      · rintro N8 ⟨g8, ks, e8, l8, bk0, bk1⟩
        obtain ⟨lo, hi, rfl⟩ : ∃ lo hi, ks = [lo, hi] := by
          match ks, l8 with
          | [a, b], _ => exact ⟨a, b, rfl⟩
        refine ⟨u, D2, _, _, rfl, rfl, g8.keep nu.1 nu.2 eu7, e8, (by show 5 ≤ sizeLine; decide), fun q hq => ?_⟩
        have g48 := (g47.trans g8).new (o := .lst ([.ref a, .ref b] ++ [.ref D] ++ [.int lo, .int hi])) hq
        have nq := g8.bag.away hq
        have e9 := g8.keep nD.1 nD.2 eD7
        have gall := g34.trans g48
        have g4q := g4.trans g48
        refine k q ⟨qs1, qs2, ms, lo, hi⟩ _ gall ((g34.trans (g47.trans g8)).free hq) ⟨⟨a, b, D, upd_same, r13.go gc.bag g4q na, r23.go gc.bag g4q nb, ?_, nq, na, nb, nD⟩, ?_⟩ ?_ ?_
        · rw [upd_ne (ne_of_none e9 hq)]
          exact e9
        · show ms.length ≤ 4
          have := hA.le
          omega
        · exact lN
        · exact ⟨b1, b2, bm, bk0 lo rfl, bk1 hi rfl⟩
end
end Lw
namespace Lw
open PySem PySem.Spec PyProof.Rows L2 XV TL XM DO
theorem lc_zipL {K : PySem.W.Frag} {a b : Addr} {xs ys : List V} {g : TG} {tt : TT} {te : TE} {vs : List Nat} {σ : L2.St} {H1 : Hp} {D : Addr} {Qd : Hp → Prop} (hxy : xs.length = ys.length) (Pv : Nat → Hp → Prop) (h0 : Pv 0 (upd H1 D (.lst []))) (hl : ∀ i H, Pv i H → SqL K H a xs ∧ SqL K H b ys)
    (hs : ∀ (i : Nat) (x y : V) (T : Addr) (H : Hp), xs[i]? = some x → ys[i]? = some y → Pv i H → H T = none → g (.ref T) (wipe σ vs) (upd H T (.tup [x, y])) fun σ2 H2 => wipe σ2 vs = wipe σ vs ∧ tt σ2 H2 fun b H3 =>
      if b = true then te σ2 H3 fun y H4 => ∃ acc, H4 D = some (.lst acc) ∧ acc.length < sizeLine ∧ Pv (i + 1) (upd H4 D (.lst (acc ++ [y]))) else Pv (i + 1) H3) (hd : ∀ H, Pv xs.length H → Qd H) :
    ∃ W : Nat → Nat → Hp → Prop, (∃ m, W 0 m (upd H1 D (.lst []))) ∧ ∀ i m H, W i m H →
      ((Itz K a b).stop i H ∧ Qd H) ∨ ((Itz K a b).go i H ∧ ∃ Nx : Hp → Prop, (∀ H', Nx H' → ∃ m', m' < m ∧ W (i + 1) m' H') ∧ ∀ x H', (Itz K a b).yld i H x H' → g x (wipe σ vs) H' fun σ2 H2 => wipe σ2 vs = wipe σ vs ∧ tt σ2 H2 fun b H3 =>
        if b = true then te σ2 H3 fun y H4 => ∃ acc, H4 D = some (.lst acc) ∧ acc.length < sizeLine ∧ Nx (upd H4 D (.lst (acc ++ [y]))) else Nx H3) := by
  refine ⟨fun i m H => m = xs.length - i ∧ i ≤ xs.length ∧ Pv i H, ⟨xs.length, rfl, Nat.zero_le _, h0⟩, ?_⟩
  rintro i m H ⟨rfl, hi, p⟩
  obtain ⟨qx, qy⟩ := hl i H p
  by_cases hlt : i < xs.length
  · have hx : xs[i]? = some xs[i] := List.getElem?_eq_getElem hlt
    have hy : ys[i]? = some (ys[i]'(by omega)) := List.getElem?_eq_getElem (by omega)
    refine .inr ⟨⟨xs, ys, _, _, qx, qy, hx, hy⟩, Pv (i + 1), fun H' p' => ⟨xs.length - (i + 1), by omega, rfl, hlt, p'⟩, fun v H' y => ?_⟩
    obtain ⟨T, x', y', rfl, hT, rfl, f1, f2⟩ := y
    exact hs i x' y' T H (f1 xs qx) (f2 ys qy) p hT
  · have e : i = xs.length := by omega
    subst e
    exact .inl ⟨⟨xs, ys, qx, qy, .inl (Nat.le_refl _)⟩, hd H p⟩
theorem lc_enumL {K : PySem.W.Frag} {a : Addr} {xs : List V} {g : TG} {tt : TT} {te : TE} {vs : List Nat} {σ : L2.St} {H1 : Hp} {D : Addr} {Qd : Hp → Prop} (Pv : Nat → Hp → Prop) (h0 : Pv 0 (upd H1 D (.lst []))) (hl : ∀ i H, Pv i H → SqL K H a xs)
    (hs : ∀ (i : Nat) (x : V) (T : Addr) (H : Hp), xs[i]? = some x → Pv i H → H T = none → g (.ref T) (wipe σ vs) (upd H T (.tup [.int (i : Nat), x])) fun σ2 H2 => wipe σ2 vs = wipe σ vs ∧ tt σ2 H2 fun b H3 =>
      if b = true then te σ2 H3 fun y H4 => ∃ acc, H4 D = some (.lst acc) ∧ acc.length < sizeLine ∧ Pv (i + 1) (upd H4 D (.lst (acc ++ [y]))) else Pv (i + 1) H3) (hd : ∀ H, Pv xs.length H → Qd H) :
    ∃ W : Nat → Nat → Hp → Prop, (∃ m, W 0 m (upd H1 D (.lst []))) ∧ ∀ i m H, W i m H →
      ((Ite K a).stop i H ∧ Qd H) ∨ ((Ite K a).go i H ∧ ∃ Nx : Hp → Prop, (∀ H', Nx H' → ∃ m', m' < m ∧ W (i + 1) m' H') ∧ ∀ x H', (Ite K a).yld i H x H' → g x (wipe σ vs) H' fun σ2 H2 => wipe σ2 vs = wipe σ vs ∧ tt σ2 H2 fun b H3 =>
        if b = true then te σ2 H3 fun y H4 => ∃ acc, H4 D = some (.lst acc) ∧ acc.length < sizeLine ∧ Nx (upd H4 D (.lst (acc ++ [y]))) else Nx H3) := by
  refine ⟨fun i m H => m = xs.length - i ∧ i ≤ xs.length ∧ Pv i H, ⟨xs.length, rfl, Nat.zero_le _, h0⟩, ?_⟩
  rintro i m H ⟨rfl, hi, p⟩
  have qx := hl i H p
  by_cases hlt : i < xs.length
  · have hx : xs[i]? = some xs[i] := List.getElem?_eq_getElem hlt
    refine .inr ⟨⟨xs, _, qx, hx⟩, Pv (i + 1), fun H' p' => ⟨xs.length - (i + 1), by omega, rfl, hlt, p'⟩, fun v H' y => ?_⟩
    obtain ⟨T, x', rfl, hT, rfl, f1⟩ := y
    exact hs i x' T H (f1 xs qx) p hT
  · have e : i = xs.length := by omega
    subst e
    exact .inl ⟨⟨xs, qx, Nat.le_refl _⟩, hd H p⟩
/-- the heights at the ends -/
def endsF (A : Fv) : List Int := A.li ++ [A.lo, A.hi]
def endsL (A B : Fv) (n : Int) : List Bool := ((endsF A).zip (endsF B)).map fun z => near1 z.1 z.2 n
def endsB (A B : Fv) (n : Int) : Bool := (endsL A B n).all id
abbrev sEnds : Stmt := topOf "_law_ends_near"
abbrev NEnds : List Str := ["a", "b", "halves", "x", "y"]
theorem scEnds : FnScope NEnds ["a", "b", "halves"] (defScope sEnds) := ⟨rfl, rfl, rfl, by decide +kernel, rfl, by decide +kernel, by decide +kernel⟩
def spEnds : Sp := fun vs H Q _ => ∃ (p q : Addr) (A B : Fv) (n : Int), vs = [.ref p, .ref q, .int n] ∧ FiveAt H p A ∧ FiveAt H q B ∧ A.li.length = B.li.length ∧ ∀ H', Same H H' → Q (.bl (endsB A B n)) H'
theorem cut3 (a b c d e : V) : cutV [a, b, c, d, e] (some 3) none = [d, e] := rfl
/-- a[2] + a[3:] -/
theorem ends_do {K : PySem.W.Frag} {H : Hp} {Q : VK} {σ : L2.St} {i : Nat} {p : Addr} {A : Fv} (hi : σ[i]? = some (some (.ref p))) (h : FiveAt H p A) (k : ∀ (u : Addr) (H' : Hp), Same H H' → H u = none → H' u = some (.lst ((endsF A).map V.int)) → Q (.ref u) H') :
    tOp rCat (tOp (rIxL K) (tVar i) (tC (.int 2))) (tSl (rSlL K) (tVar i) (tPart (tC (.int 3))) tNoPart) σ H Q := by
  obtain ⟨a, b, l, ep, ra, rb, el⟩ := h.ex
  refine ⟨_, hi, p, _, 2, _, rfl, rfl, SqL.of ep, rfl, _, hi, _, rfl, p, _, rfl, SqL.of ep, fun v hv => ?_⟩
  rw [cut3]
  have s1 := same_new (o := .lst [.int A.lo, .int A.hi]) hv
  have ev := upd_same (H := H) (a := v) (o := .lst [.int A.lo, .int A.hi])
  generalize upd H v (.lst [.int A.lo, .int A.hi]) = H1 at s1 ev ⊢
  refine ⟨l, v, _, _, rfl, rfl, s1 _ _ el, ev, by rw [List.length_map, sizeLine_eq]; have := h.le; show _ + 2 ≤ _; omega, fun u hu => k u _ (Same.trans s1 (same_new hu)) (sN s1 hu) ?_⟩
  rw [upd_same]
  unfold endsF
  rw [List.map_append]
  rfl
theorem endsF_len (A : Fv) : (endsF A).length = A.li.length + 2 := by
  unfold endsF
  rw [List.length_append]
  rfl
section
variable {P : Program} {w : World} {K : PySem.W.Frag} {mg : Str → Option Value} {base : Heap}
theorem ok_ends {f : Addr} {fd : FuncData} (F : Fun K "_law_ends_near" "_law_ends_near" sEnds f fd) (T : Bt mg) (N : Cl P w K mg base 1 "_law_near" sNear ["a", "b", "halves"] spNear) : FnOk P w K mg base CX0 2 f fd ["a", "b", "halves"] spEnds := by
  refine F.ok scEnds (fun vs H Q E h => ?_) (fun cdv A0 outer s0 H vs Q E hr h => ?_)
  · obtain ⟨p, q, A, B, n, rfl, _⟩ := h
    rfl
  · obtain ⟨p, q, A, B, n, rfl, hA, hB, hl, k⟩ := h
    refine ⟨_, pss_one (ps_ret (pe_callB (cr_all rfl) (by rfl) T.all (by decide +kernel) (pa_cons (pe_lc (own := [("x", 3), ("y", 4)]) (g := gTup K 2 (gCons (gName 3) (gCons (gName 4) gNil))) (tt := tYes) (te := tCall spNear [] E0 (tCons (tVar 3) (tCons (tVar 4) (tCons (tVar 2) tNil)))) rfl scEnds.nd (pi_zip rfl T.zip (pa_cons (pe_op op_cat (pe_ix ix_list (pv 0) (pe_int) (fun _ _ => rfl)) (pe_slice sl_list (pv 0) (po_some (pe_int)) (po_none))) (pa_cons (pe_op op_cat (pe_ix ix_list (pv 1) (pe_int) (fun _ _ => rfl)) (pe_slice sl_list (pv 1) (po_some (pe_int)) (po_none))) pa_nil))) (blkOk_by (N := NEnds) (sc := defScope sEnds) (by decide +kernel)) (fun _ _ _ _ _ => pg_tup rfl (pgs_cons (pg_name (i := 3) scEnds.nd rfl (Or.inl rfl)) (pgs_cons (pg_name (i := 4) scEnds.nd rfl (Or.inl rfl)) (pgs_nil)))) (fun _ _ _ _ _ => pts_nil) (fun _ _ _ _ _ => calC N (hr.mono (by decide)) (pa_cons (pv 3) (pa_cons (pv 4) (pa_cons (pv 2) pa_nil))))) pa_nil))), ?_⟩
    refine ends_do (A := A) rfl hA fun u H1 s1 hu eu => ?_
    refine ends_do (A := B) rfl (hB.mono s1) fun v H2 s2 hv ev => ?_
    have s12 := Same.trans s1 s2
    have eu2 := s2 _ _ eu
    refine ⟨u, v, _, _, rfl, SqL.of eu2, SqL.of ev, fun D hD => lc_zipL (K := K) (a := u) (b := v) (xs := (endsF A).map V.int) (ys := (endsF B).map V.int) (by rw [List.length_map, List.length_map, endsF_len, endsF_len, hl]) (fun i M => Same H2 M ∧ M D = some (.lst (((endsL A B n).take i).map V.bl))) ⟨same_new hD, upd_same⟩ (fun i M h => ⟨SqL.of (h.1 _ _ eu2), SqL.of (h.1 _ _ ev)⟩) ?_ ?_⟩
    · rintro i x y T' M hx hy ⟨s3, e3⟩ hT
      obtain ⟨x, hx', rfl⟩ : ∃ z, (endsF A)[i]? = some z ∧ V.int z = x := by
        rw [List.getElem?_map] at hx
        exact Option.map_eq_some_iff.mp hx
      obtain ⟨y, hy', rfl⟩ : ∃ z, (endsF B)[i]? = some z ∧ V.int z = y := by
        rw [List.getElem?_map] at hy
        exact Option.map_eq_some_iff.mp hy
      have s4 := same_new (o := .tup [.int x, .int y]) hT
      have eT := upd_same (H := M) (a := T') (o := .tup [.int x, .int y])
      have hz : (endsL A B n)[i]? = some (near1 x y n) := by
        unfold endsL
        rw [List.getElem?_map, List.getElem?_zip_eq_some (z := (x, y)) |>.mpr ⟨hx', hy'⟩]
        rfl
      have hil := (List.getElem?_eq_some_iff.mp hx').1
      have hle := hA.le
      rw [endsF_len] at hil
      refine ⟨T', _, rfl, SqT.of eT, rfl, _, _, rfl, _, _, rfl, rfl, rfl, _, rfl, _, rfl, _, rfl, x, y, n, rfl, _, s4 _ _ e3, by rw [List.length_map, List.length_take, sizeLine_eq]; omega, fun b o hb => ?_, ?_⟩
      · rw [upd_ne (ne_of_none hb hD)]
        exact s4 _ _ (s3 _ _ hb)
      · rw [upd_same, List.take_add_one, hz, List.map_append]
        rfl
    · rintro M ⟨s3, e3⟩
      rw [List.take_of_length_le (by unfold endsL; rw [List.length_map, List.length_map, List.length_zip]; exact Nat.min_le_left _ _)] at e3
      exact ⟨D, _, rfl, SqL.of e3, k M (Same.trans s12 s3)⟩
end
end Lw
namespace Lw
open PySem PySem.Spec PyProof.Rows L2 XV TL XM DO
/-! the masks, in plain words -/
abbrev Ms := List (Int × List Pr)
def putM (ms : Ms) (k : Int) (v : List Pr) : Ms :=
  if (ms.any fun e => decide (e.1 = k)) = true then ms.map (fun e => if e.1 = k then (e.1, v) else e) else ms ++ [(k, v)]
def valM : Ms → Int → List Pr
  | [], _ => []
  | e :: ms, k => if e.1 = k then e.2 else valM ms k
def bitF (mask : Int) (j : Nat) : Int := mask / (1 * 2 ^ j) % 2
def lifeP (p : Pr) : Int := p.2 - p.1
def inF (p : Pr) (i : Nat) (n mask : Int) (rs : List Pr) : Nat → List Pr → Ms → Ms
  | _, [], f => f
  | j, q :: qs, f => inF p i n mask rs (j + 1) qs (if (decide (bitF mask j = 0) && nearP p q n) = true then putM f (mask + 1 * 2 ^ j) (rs ++ [((i : Int), (j : Int))]) else f)
def maskF (p : Pr) (i : Nat) (n : Int) (two : List Pr) (all : Ms) : List Int → Ms → Ms
  | [], f => f
  | mask :: ms, f => maskF p i n two all ms (inF p i n mask (valM all mask) 0 two (if lifeP p ≤ n then putM f mask (valM all mask) else f))
def allF (n : Int) (two : List Pr) : Nat → List Pr → Ms → Ms
  | _, [], ms => ms
  | i, p :: ps, ms => allF n two (i + 1) ps (maskF p i n two ms (ms.map (·.1)) [])
def goodL (two : List Pr) (n mask : Int) : Nat → List Pr → List Bool
  | _, [] => []
  | j, q :: qs => (decide (lifeP q ≤ n) || decide (bitF mask j = 1)) :: goodL two n mask (j + 1) qs
def goodM (two : List Pr) (n mask : Int) : Bool := (goodL two n mask 0 two).all id
def pickF (two : List Pr) (n : Int) (all : Ms) : List Int → Option (List Pr)
  | [] => none
  | mask :: ms => if goodM two n mask = true then some (valM all mask) else pickF two n all ms
def matchF (one two : List Pr) (n : Int) : Option (List Pr) :=
  pickF two n (allF n two 0 one [(0, [])]) ((allF n two 0 one [(0, [])]).map (·.1))
/-- lists and tuples stay -/
structure KLT (H H' : Hp) : Prop where
  l : ∀ a xs, H a = some (.lst xs) → H' a = some (.lst xs)
  t : ∀ a xs, H a = some (.tup xs) → H' a = some (.tup xs)
theorem KLT.of {H H' : Hp} (s : Same H H') : KLT H H' := ⟨fun _ _ h => s _ _ h, fun _ _ h => s _ _ h⟩
theorem KLT.refl (H : Hp) : KLT H H := ⟨fun _ _ h => h, fun _ _ h => h⟩
theorem KLT.trans {H H' H'' : Hp} (s : KLT H H') (r : KLT H' H'') : KLT H H'' := ⟨fun _ _ h => r.l _ _ (s.l _ _ h), fun _ _ h => r.t _ _ (s.t _ _ h)⟩
theorem KLT.new {H : Hp} {p : Addr} {o : HO} (h : H p = none) : KLT H (upd H p o) := .of (same_new h)
theorem KLT.dk {H : Hp} {d : Addr} {kvs : List (Key × V)} {o : HO} (h : H d = some (.dK kvs)) : KLT H (upd H d o) :=
  ⟨fun a xs e => by rw [upd_ne (ne_of e h (by intro z; cases z))]; exact e, fun a xs e => by rw [upd_ne (ne_of e h (by intro z; cases z))]; exact e⟩
theorem KLT.fz {H : Hp} {d : Addr} {od : Obj} {u o : HO} (h : H d = some (.frz od u)) : KLT H (upd H d o) :=
  ⟨fun a xs e => by rw [upd_ne (ne_of e h (by intro z; cases z))]; exact e, fun a xs e => by rw [upd_ne (ne_of e h (by intro z; cases z))]; exact e⟩
theorem RawVs.klt {M M' : Hp} {xs : List V} {ps : List Pr} (h : RawVs M xs ps) (s : KLT M M') : RawVs M' xs ps := h.turn s.t
/-- rows at v -/
def RowsL (G H : Hp) (v : V) (rs : List Pr) : Prop := ∃ t xs, v = .ref t ∧ G t = none ∧ H t = some (.lst xs) ∧ RawVs H xs rs
theorem RowsL.klt {G H H' : Hp} {v : V} {rs : List Pr} (h : RowsL G H v rs) (s : KLT H H') : RowsL G H' v rs := by
  obtain ⟨t, xs, a, a2, b, c⟩ := h
  exact ⟨t, xs, a, a2, s.l _ _ b, c.klt s⟩
inductive MsAt (G H : Hp) : List (Key × V) → Ms → Prop
  | nil : MsAt G H [] []
  | cons {m : Int} {v : V} {rs : List Pr} {kvs : List (Key × V)} {ms : Ms} (a : RowsL G H v rs) (b : MsAt G H kvs ms) : MsAt G H ((.inl m, v) :: kvs) ((m, rs) :: ms)
theorem MsAt.klt {G H H' : Hp} (s : KLT H H') : ∀ {kvs : List (Key × V)} {ms : Ms}, MsAt G H kvs ms → MsAt G H' kvs ms
  | _, _, .nil => .nil
  | _, _, .cons a b => .cons (a.klt s) (b.klt s)
theorem MsAt.len {G H : Hp} : ∀ {kvs : List (Key × V)} {ms : Ms}, MsAt G H kvs ms → kvs.length = ms.length
  | _, _, .nil => rfl
  | _, _, .cons _ b => by rw [List.length_cons, List.length_cons, b.len]
theorem key_dec (m k : Int) : decide ((Sum.inl m : Key) = .inl k) = decide (m = k) := by
  rw [Bool.eq_iff_iff, decide_eq_true_eq, decide_eq_true_eq]
  exact ⟨fun h => by injection h, fun h => by rw [h]⟩
theorem MsAt.any {G H : Hp} (k : Int) : ∀ {kvs : List (Key × V)} {ms : Ms}, MsAt G H kvs ms → (kvs.any fun kv => decide (kv.1 = .inl k)) = ms.any fun e => decide (e.1 = k)
  | _, _, .nil => rfl
  | _, _, .cons _ b => by rw [List.any_cons, List.any_cons, b.any k, key_dec]
theorem MsAt.map {G H : Hp} {k : Int} {v : V} {rs : List Pr} (hv : RowsL G H v rs) : ∀ {kvs : List (Key × V)} {ms : Ms}, MsAt G H kvs ms → MsAt G H (kvs.map fun kv => if kv.1 = .inl k then (kv.1, v) else kv) (ms.map fun e => if e.1 = k then (e.1, rs) else e)
  | _, _, .nil => .nil
  | _, _, .cons (m := m) a b => by
    rw [List.map_cons, List.map_cons]
    by_cases h : m = k
    · rw [if_pos (show (Sum.inl m : Key) = .inl k by rw [h]), if_pos h]
      exact .cons hv (b.map hv)
    · rw [if_neg (show ¬ (Sum.inl m : Key) = .inl k from fun z => h (by injection z)), if_neg h]
      exact .cons a (b.map hv)
theorem MsAt.snoc {G H : Hp} {k : Int} {v : V} {rs : List Pr} (hv : RowsL G H v rs) : ∀ {kvs : List (Key × V)} {ms : Ms}, MsAt G H kvs ms → MsAt G H (kvs ++ [(.inl k, v)]) (ms ++ [(k, rs)])
  | _, _, .nil => .cons hv .nil
  | _, _, .cons a b => .cons a (b.snoc hv)
theorem MsAt.put {G H : Hp} {k : Int} {v : V} {rs : List Pr} {kvs : List (Key × V)} {ms : Ms} (h : MsAt G H kvs ms) (hv : RowsL G H v rs) : MsAt G H (putK kvs (.inl k) v) (putM ms k rs) := by
  unfold putK putM
  rw [h.any k]
  split
  · exact h.map hv
  · exact h.snoc hv
theorem MsAt.val {G H : Hp} {m : Int} : ∀ {kvs : List (Key × V)} {ms : Ms}, MsAt G H kvs ms → m ∈ ms.map (·.1) → ∃ v, valV kvs (.inl m) = some v ∧ RowsL G H v (valM ms m)
  | _, _, .nil, h => by cases h
  | _, _, .cons (m := k) (v := v) a b, h => by
    by_cases e : k = m
    · subst e
      exact ⟨v, valV_pos rfl, by rw [valM, if_pos rfl]; exact a⟩
    · obtain ⟨w, h1, h2⟩ := b.val (m := m) (by
        rw [List.map_cons, List.mem_cons] at h
        rcases h with h | h
        · exact absurd h.symm e
        · exact h)
      refine ⟨w, by rw [valV_neg (fun z => e (by injection z))]; exact h1, ?_⟩
      rw [valM, if_neg e]
      exact h2
theorem MsAt.keys {G H : Hp} : ∀ {kvs : List (Key × V)} {ms : Ms}, MsAt G H kvs ms → kvs.map (·.1) = ms.map fun e => (.inl e.1 : Key)
  | _, _, .nil => rfl
  | _, _, .cons _ b => by rw [List.map_cons, List.map_cons, b.keys]
theorem putM_len (ms : Ms) (k : Int) (v : List Pr) : (putM ms k v).length ≤ ms.length + 1 := by
  unfold putM
  split
  · rw [List.length_map]; omega
  · rw [List.length_append]; exact Nat.le_refl _
theorem inF_len (p : Pr) (i : Nat) (n mask : Int) (rs : List Pr) : ∀ (j : Nat) (qs : List Pr) (f : Ms), (inF p i n mask rs j qs f).length ≤ f.length + qs.length
  | _, [], f => Nat.le_refl _
  | j, q :: qs, f => by
    rw [inF]
    refine Nat.le_trans (inF_len p i n mask rs (j + 1) qs _) ?_
    rw [List.length_cons]
    split
    · have := putM_len f (mask + 1 * 2 ^ j) (rs ++ [((i : Int), (j : Int))])
      omega
    · omega
theorem maskF_len (p : Pr) (i : Nat) (n : Int) (two : List Pr) (all : Ms) : ∀ (ks : List Int) (f : Ms), (maskF p i n two all ks f).length ≤ f.length + ks.length * (two.length + 1)
  | [], f => by rw [maskF]; omega
  | k :: ks, f => by
    rw [maskF]
    refine Nat.le_trans (maskF_len p i n two all ks _) ?_
    have h1 := inF_len p i n k (valM all k) 0 two (if lifeP p ≤ n then putM f k (valM all k) else f)
    have h2 : (if lifeP p ≤ n then putM f k (valM all k) else f).length ≤ f.length + 1 := by
      split
      · exact putM_len _ _ _
      · omega
    rw [List.length_cons, Nat.succ_mul]
    omega
end Lw
namespace Lw
open PySem PySem.Spec PyProof.Rows L2 XV TL XM DO
def LenM (L : Nat) (ms : Ms) : Prop := ∀ e ∈ ms, e.2.length ≤ L
theorem LenM.put {L : Nat} {ms : Ms} {k : Int} {v : List Pr} (h : LenM L ms) (hv : v.length ≤ L) : LenM L (putM ms k v) := by
  unfold putM
  split
  · intro e he
    obtain ⟨e', h1, rfl⟩ := List.mem_map.mp he
    split
    · exact hv
    · exact h e' h1
  · intro e he
    rcases List.mem_append.mp he with h1 | h1
    · exact h e h1
    · cases List.mem_singleton.mp h1
      exact hv
theorem LenM.val {L : Nat} {k : Int} : ∀ {ms : Ms}, LenM L ms → (valM ms k).length ≤ L
  | [], _ => Nat.zero_le _
  | e :: ms, h => by
    rw [valM]
    split
    · exact h e (by simp)
    · exact LenM.val fun e' h' => h e' (by simp [h'])
theorem MsAt.at {G H : Hp} : ∀ {kvs : List (Key × V)} {ms : Ms} {i : Nat} {k : Key} {v : V}, MsAt G H kvs ms → kvs[i]? = some (k, v) → ∃ m, k = .inl m ∧ (ms.map (·.1))[i]? = some m
  | _, _, 0, _, _, .cons (m := m) _ _, h => by cases h; exact ⟨m, rfl, rfl⟩
  | _, _, i + 1, _, _, .cons _ b, h => by
    obtain ⟨m, h1, h2⟩ := b.at (i := i) h
    exact ⟨m, h1, h2⟩
theorem bit_dec (mask : Int) (j : Nat) (z : Int) : decide (V.int (mask / (1 * 2 ^ ((j : Nat) : Int).toNat) % 2) = V.int z) = decide (bitF mask j = z) := by
  rw [Int.toNat_natCast, Bool.eq_iff_iff, decide_eq_true_eq, decide_eq_true_eq]
  exact ⟨fun h => by injection h, fun h => by rw [← h]; rfl⟩
theorem cDivJ {m : Int} {j : Nat} (h : j ≤ 5) : CDiv m (1 * 2 ^ ((j : Nat) : Int).toNat) := by
  rw [Int.toNat_natCast]
  match j, h with
  | 0, _ => exact ⟨by decide, by decide⟩
  | 1, _ => exact ⟨by decide, by decide⟩
  | 2, _ => exact ⟨by decide, by decide⟩
  | 3, _ => exact ⟨by decide, by decide⟩
  | 4, _ => exact ⟨by decide, by decide⟩
  | 5, _ => exact ⟨by decide, by decide⟩
theorem un1 {k : Nat} {A : Around} (hr : Room k A) : A.units + 1 < cLine := by
  have := un65 hr
  omega
theorem for_keys {d : Addr} {o : Obj} {kvs : List (Key × V)} {g : TG} {tb : TS} {D : Ends} {σ : L2.St} {H : Hp} (Pv : Nat → L2.St → Hp → Prop) (h0 : Pv 0 σ H) (hl : ∀ i σ H, Pv i σ H → H d = some (.frz o (.dK kvs)))
    (hs : ∀ (i : Nat) (k : Key) (v : V) (σ : L2.St) (H : Hp), kvs[i]? = some (k, v) → Pv i σ H → g (kV k) σ H fun σ2 H2 => tb { D with nx := Pv (i + 1), ct := Pv (i + 1), bk := D.nx } σ2 H2) (hd : ∀ σ H, Pv kvs.length σ H → D.nx σ H) :
    ∃ W : Nat → Nat → L2.St → Hp → Prop, (∃ m, W 0 m σ H) ∧ ∀ i m σ H, W i m σ H →
      ((Itk d o kvs).stop i H ∧ D.nx σ H) ∨ ((Itk d o kvs).go i H ∧ ∃ N : L2.St → Hp → Prop, (∀ σ' H', N σ' H' → ∃ m', m' < m ∧ W (i + 1) m' σ' H') ∧ ∀ v H', (Itk d o kvs).yld i H v H' → g v σ H' fun σ2 H2 => tb { D with nx := N, ct := N, bk := D.nx } σ2 H2) := by
  refine ⟨fun i m σ H => m = kvs.length - i ∧ i ≤ kvs.length ∧ Pv i σ H, ⟨kvs.length, rfl, Nat.zero_le _, h0⟩, ?_⟩
  rintro i m σ H ⟨rfl, hi, p⟩
  have q := hl i σ H p
  by_cases hlt : i < kvs.length
  · refine .inr ⟨⟨q, hlt⟩, Pv (i + 1), fun σ' H' p' => ⟨kvs.length - (i + 1), by omega, rfl, hlt, p'⟩, fun v H' y => ?_⟩
    obtain ⟨rfl, k, w, hk, rfl⟩ := y
    exact hs i k w σ _ hk p
  · have e : i = kvs.length := by omega
    subst e
    exact .inl ⟨⟨q, Nat.le_refl _⟩, hd σ H p⟩
abbrev sMatched : Stmt := topOf "_law_matched"
abbrev NMatched : List Str := ["one", "two", "halves", "masks", "i", "p", "found", "mask", "j", "q"]
theorem scMatched : FnScope NMatched ["one", "two", "halves"] (defScope sMatched) := ⟨rfl, rfl, rfl, by decide +kernel, rfl, by decide +kernel, by decide +kernel⟩
def RowsO (G H : Hp) (v : V) : Option (List Pr) → Prop
  | none => v = .non
  | some rs => RowsL G H v rs
def spMatched : Sp := fun vs H Q _ => ∃ (a b : Addr) (n : Int) (one two : List Pr), vs = [.ref a, .ref b, .int n] ∧ RowAt H a one ∧ RowAt H b two ∧ ∀ v H', Same H H' → RowsO H H' v (matchF one two n) → Q v H'
section
variable {P : Program} {w : World} {K : PySem.W.Frag} {mg : Str → Option Value} {base : Heap}
theorem ok_matched {f : Addr} {fd : FuncData} (F : Fun K "_law_matched" "_law_matched" sMatched f fd) (T : Bt mg) (N1 : Cl P w K mg base 2 "_law_pair_near" sPNear ["one", "two", "halves"] (spPNear K)) : FnOk P w K mg base CX0 3 f fd ["one", "two", "halves"] spMatched := by
  refine F.ok scMatched (fun vs H Q E h => ?_) (fun cdv A0 outer s0 H vs Q E hr h => ?_)
  · obtain ⟨a, b, n, one, two, rfl, _⟩ := h
    rfl
  · obtain ⟨a, b, n, one, two, rfl, hO, hT, k⟩ := h
    refine ⟨_, pss_cons (ps_set (i := 3) scMatched.nd rfl (by first | exact Or.inl rfl | exact Or.inr rfl) (pe_disp (pps_cons pe_int (pe_lst pa_nil) pps_nil) rfl rfl (by simp) (by decide)))
 (pss_cons (ps_for PassesOwn.never rfl (pi_enum rfl T.enumerate (pa_cons (pv 0) pa_nil)) (pg_tup rfl (pgs_cons (pg_name (i := 4) scMatched.nd rfl (Or.inl rfl)) (pgs_cons (pg_name (i := 5) scMatched.nd rfl (Or.inl rfl)) (pgs_nil))))
 (pss_cons (ps_set (i := 6) scMatched.nd rfl (Or.inl rfl) pe_dnewK)
 (pss_cons (ps_lock (ps_for PassesOwn.never rfl (pi_keys (pv 3)) (pg_name (i := 7) scMatched.nd rfl (by first | exact Or.inl rfl | exact Or.inr rfl))
 (pss_mid (ps_if (pt_cmpR op_le (pe_op op_sub (pe_ix ix_tup (pv 5) (pe_int) (fun _ _ => rfl)) (pe_ix ix_tup (pv 5) (pe_int) (fun _ _ => rfl))) (pv 2) (nomark _))
 (pss_one (ps_dput (by exact un1 hr) (pv 6) (pv 7) (pe_dget (by exact un1 hr) (pv 3) (pv 7) (fun _ _ => rfl)) (by rfl)))
 (pss_nil))
 (pss_one (ps_for PassesOwn.never rfl (pi_enum rfl T.enumerate (pa_cons (pv 1) pa_nil)) (pg_tup rfl (pgs_cons (pg_name (i := 8) scMatched.nd rfl (Or.inl rfl)) (pgs_cons (pg_name (i := 9) scMatched.nd rfl (Or.inl rfl)) (pgs_nil))))
 (pss_one (ps_if (PW.pt (pw_and (pt_cmpR op_eq (pe_op op_mod (pe_callTy call_intI (by rfl) T.int (by decide +kernel) (pa_cons (pe_op op_fdiv (pv 7) (pe_op op_shl (pe_int) (pv 8))) pa_nil)) (pe_int)) (pe_int) (nomark _)) (pw_and1 (pt_val (calC N1 (hr.mono (by decide)) (pa_cons (pv 5) (pa_cons (pv 9) (pa_cons (pv 2) pa_nil))))))))
 (pss_one (ps_dput (by exact un1 hr) (pv 6) (pe_op op_add (pv 7) (pe_op op_shl (pe_int) (pv 8))) (pe_op op_cat (pe_dget (by exact un1 hr) (pv 3) (pv 7) (fun _ _ => rfl)) (pe_lst (pa_cons (pe_tup (pa_cons (pv 4) (pa_cons (pv 8) pa_nil))) pa_nil))) (by rfl)))
 (pss_nil))))))))
 (pss_one (ps_set (i := 3) scMatched.nd rfl (by first | exact Or.inl rfl | exact Or.inr rfl) (pe_callTy call_dictD (by rfl) T.dict (by decide +kernel) (pa_cons (pv 6) pa_nil)))))))
 (pss_cons (ps_lock (ps_for PassesOwn.never rfl (pi_keys (pv 3)) (pg_name (i := 7) scMatched.nd rfl (by first | exact Or.inl rfl | exact Or.inr rfl))
 (pss_one (ps_if (pt_val (pe_callB (cr_all rfl) (by rfl) T.all (by decide +kernel) (pa_cons (pe_lc (own := [("j", 8), ("q", 9)]) (g := gTup K 2 (gCons (gName 8) (gCons (gName 9) gNil))) (tt := tYes) (te := tOrV (tOp (rI0 fun i j => .bl (decide (i ≤ j))) (tOp (rI0 fun i j => .int (i - j)) (tOp (rIxT K) (tVar 9) (tC (.int 1))) (tOp (rIxT K) (tVar 9) (tC (.int 0)))) (tVar 2)) (tOp rEq (tOp (rI (fun _ j => 0 < j) fun i j => .int (i % j)) (tCB (fun xs H Q => ∃ i, xs = [.int i] ∧ Q (.int i) H) (tCons (tOp (rI CDiv fun i j => .int (i / j)) (tVar 7) (tOp (rI CPow fun i j => .int (i * 2 ^ j.toNat)) (tC (.int 1)) (tVar 8))) tNil)) (tC (.int 2))) (tC (.int 1)))) rfl scMatched.nd (pi_enum rfl T.enumerate (pa_cons (pv 1) pa_nil)) (blkOk_by (N := NMatched) (sc := defScope sMatched) (by decide +kernel)) (fun _ _ _ _ _ => pg_tup rfl (pgs_cons (pg_name (i := 8) scMatched.nd rfl (Or.inl rfl)) (pgs_cons (pg_name (i := 9) scMatched.nd rfl (Or.inl rfl)) (pgs_nil)))) (fun _ _ _ _ _ => pts_nil) (fun _ _ _ _ _ => pe_or (pe_cmpR op_le (pe_op op_sub (pe_ix ix_tup (pv 9) (pe_int) (fun _ _ => rfl)) (pe_ix ix_tup (pv 9) (pe_int) (fun _ _ => rfl))) (pv 2) (nomark _)) (pe_one (pe_cmpR op_eq (pe_op op_mod (pe_callTy call_intI (by rfl) T.int (by decide +kernel) (pa_cons (pe_op op_fdiv (pv 7) (pe_op op_shl (pe_int) (pv 8))) pa_nil)) (pe_int)) (pe_int) (nomark _))))) pa_nil)))
 (pss_one (ps_ret (pe_dget (by exact un1 hr) (pv 3) (pv 7) (fun _ _ => rfl))))
 (pss_nil)))))
 (pss_one (ps_ret (pe_non))))), ?_⟩
    obtain ⟨xs, ea, rxs⟩ := hO.ex
    obtain ⟨ys, eb, rys⟩ := hT.ex
    have lO := hO.le
    have lT := hT.le
    refine fun d hd => ⟨Nat.zero_le _, fun l0 hl0 => ⟨by rw [upd_ne (ne_of_none upd_same hl0)]; exact upd_same, [(.inl 0, .ref l0)], rfl, (by show 1 ≤ 15; decide), ?_⟩⟩
    have d0 : H d = none := hd
    have nl : d ≠ l0 := ne_of_none upd_same hl0
    have hl00 : H l0 = none := by rw [upd_ne nl.symm] at hl0; exact hl0
    have s1 : Same H (upd (upd (upd H d (.dK [])) l0 (.lst [])) d (.dK (mergeK [] [((.inl 0 : Key), V.ref l0)]))) := fun c o hc => by
      rw [upd_ne (ne_of_none hc d0), upd_ne (ne_of_none hc hl00), upd_ne (ne_of_none hc d0)]
      exact hc
    have e1 := upd_same (H := upd (upd H d (.dK [])) l0 (.lst [])) (a := d) (o := .dK (mergeK [] [((.inl 0 : Key), V.ref l0)]))
    have m1 : MsAt H (upd (upd (upd H d (.dK [])) l0 (.lst [])) d (.dK (mergeK [] [((.inl 0 : Key), V.ref l0)]))) (mergeK [] [((.inl 0 : Key), V.ref l0)]) [(0, [])] :=
      .cons ⟨l0, [], rfl, hl00, by rw [upd_ne nl.symm]; exact upd_same, ⟨rfl, fun i x h => by cases h⟩⟩ .nil
    generalize upd (upd (upd H d (.dK [])) l0 (.lst [])) d (.dK (mergeK [] [((.inl 0 : Key), V.ref l0)])) = H1 at s1 e1 m1 ⊢
    generalize mergeK [] [((.inl 0 : Key), V.ref l0)] = kv0 at e1 m1
    refine ⟨_, rfl, a, xs, rfl, SqL.of (s1 _ _ ea), for_enumL (K := K) (xs := xs) (fun i σ M => ∃ (dd : Addr) (x4 x5 x6 x7 x8 x9 : Option V) (kvs : List (Key × V)) (ms : Ms), σ = [some (.ref a), some (.ref b), some (.int n), some (.ref dd), x4, x5, x6, x7, x8, x9] ∧ Same H M ∧ H dd = none ∧ M dd = some (.dK kvs) ∧ MsAt H M kvs ms ∧ i ≤ one.length ∧ ms.length ≤ 6 ^ i ∧ LenM i ms ∧ allF n two 0 one [(0, [])] = allF n two i (one.drop i) ms)
      ⟨d, none, none, none, none, none, none, _, _, rfl, s1, d0, e1, m1, Nat.zero_le _, Nat.le_refl _, fun e he => by cases List.mem_singleton.mp he; exact Nat.le_refl _, rfl⟩ (fun i σ M h => ?_) ?_ ?_⟩
    · obtain ⟨_, _, _, _, _, _, _, _, _, _, s2, _⟩ := h
      exact SqL.of (s2 _ _ ea)
    · rintro i x T' σ M hx ⟨dd, x4, x5, x6, x7, x8, x9, kvs, ms, rfl, s2, dd0, edd, hm, li, lm, hLm, wA⟩ hT'
      obtain ⟨t, pr, hp, rfl, ht⟩ := rxs.2 i x hx
      have hil := (List.getElem?_eq_some_iff.mp hp).1
      have hdr : one.drop i = pr :: one.drop (i + 1) := by rw [List.drop_eq_getElem_cons hil, ← (List.getElem?_eq_some_iff.mp hp).2]
      rw [hdr, allF] at wA
      have s3 := same_new (o := .tup [.int (i : Nat), .ref t]) hT'
      have s23 := Same.trans s2 s3
      have eT := upd_same (H := M) (a := T') (o := .tup [.int (i : Nat), .ref t])
      have edd3 := s3 _ _ edd
      have hm3 := hm.klt (.of s3)
      generalize upd M T' (.tup [.int (i : Nat), .ref t]) = M3 at s3 s23 eT edd3 hm3 ⊢
      refine ⟨T', _, rfl, SqT.of eT, rfl, _, _, rfl, _, _, rfl, rfl, fun e he => ?_⟩
      have e0 := sN s23 he
      have s4 := same_new (o := .dK []) he
      have s24 := Same.trans s23 s4
      have ee := upd_same (H := M3) (a := e) (o := .dK [])
      have edd4 := s4 _ _ edd3
      have hm4 := hm3.klt (.of s4)
      have ned : e ≠ dd := fun z => by rw [z, edd3] at he; cases he
      generalize upd M3 e (.dK []) = M4 at s4 s24 ee edd4 hm4 ⊢
      refine ⟨dd, _, edd4, trivial, fun od => ⟨_, rfl, dd, od, rfl, .inl ⟨kvs, upd_same, ?_⟩⟩⟩
      -- the keys
      have hlen := hm4.len
      have hkeys := hm4.keys
      have ptA : PrAt K M4 t pr := SqT.of (s24 _ _ ht)
      refine for_keys (fun kx σ N => ∃ (x7 x8 x9 : Option V) (fkvs : List (Key × V)) (fs : Ms), σ = [some (.ref a), some (.ref b), some (.int n), some (.ref dd), some (.int (i : Nat)), some (.ref t), some (.ref e), x7, x8, x9] ∧ Same H N ∧ N dd = some (.frz od (.dK kvs)) ∧ N e = some (.dK fkvs) ∧ MsAt H N kvs ms ∧ MsAt H N fkvs fs ∧ kx ≤ kvs.length ∧ fs.length ≤ kx * 6 ∧ LenM (i + 1) fs ∧ maskF pr i n two ms (ms.map (·.1)) [] = maskF pr i n two ms ((ms.map (·.1)).drop kx) fs)
        ⟨x7, x8, x9, [], [], rfl, fun c o hc => by rw [upd_ne (ne_of_none hc dd0)]; exact s24 _ _ hc, upd_same, by rw [upd_ne ned]; exact ee, hm4.klt (.dk edd4), .nil, Nat.zero_le _, Nat.zero_le _, (fun e he => nomatch he), rfl⟩ (fun kx σ N h => ?_) ?_ ?_
      · obtain ⟨_, _, _, _, _, _, _, h, _⟩ := h
        exact h
      · rintro kx kk kval σ N hkx ⟨x7, x8, x9, fkvs, fs, rfl, sN4, eN, eE, mN, mF, lk, lf, hLf, wM⟩
        obtain ⟨mask, rfl, hmask⟩ := mN.at hkx
        have hkl := (List.getElem?_eq_some_iff.mp hkx).1
        have hml : kx < (ms.map (·.1)).length := (List.getElem?_eq_some_iff.mp hmask).1
        have hdk : (ms.map (·.1)).drop kx = mask :: (ms.map (·.1)).drop (kx + 1) := by rw [List.drop_eq_getElem_cons hml, ← (List.getElem?_eq_some_iff.mp hmask).2]
        rw [hdk, maskF] at wM
        obtain ⟨vm, hvm, rvm⟩ := mN.val (m := mask) (List.mem_of_getElem? hmask)
        have hLv : (valM ms mask).length ≤ i := hLm.val
        have ptN : PrAt K N t pr := SqT.of (sN4 _ _ ht)
        have lone : i ≤ 5 := by omega
        have l6 : (6:Nat) ^ i ≤ 7776 := by
          have : (6:Nat) ^ i ≤ 6 ^ 5 := Nat.pow_le_pow_right (by decide) lone
          omega
        have kvl : kvs.length ≤ 7776 := by rw [hlen]; omega
        refine ⟨fun σ' N' => ∃ fkvs, σ' = [some (.ref a), some (.ref b), some (.int n), some (.ref dd), some (.int (i : Nat)), some (.ref t), some (.ref e), some (.int mask), x8, x9] ∧ Same H N' ∧ N' dd = some (.frz od (.dK kvs)) ∧ N' e = some (.dK fkvs) ∧ MsAt H N' kvs ms ∧ MsAt H N' fkvs (if lifeP pr ≤ n then putM fs mask (valM ms mask) else fs), ?_, ?_⟩
        · refine ⟨_, rfl, t, _, 1, _, rfl, rfl, ptN, rfl, _, rfl, t, _, 0, _, rfl, rfl, ptN, rfl, _, _, rfl, rfl, _, rfl, _, _, rfl, rfl, _, rfl, ite_b (fun c => ?_) (fun c => ?_)⟩
          · have c : lifeP pr ≤ n := of_decide_eq_true c
            rw [if_pos c]
            refine ⟨_, rfl, _, rfl, dd, vm, rfl, .inl ⟨kvs, .inl mask, .inr ⟨od, eN⟩, rfl, hvm.symm⟩, _, rfl, _, rfl, e, _, rfl, .inl ⟨fkvs, .inl mask, eE, rfl, by rw [mF.len, sizeLine_eq]; omega, rfl⟩, _, rfl, fun c o hc => ?_, ?_, upd_same, mN.klt (.dk eE), (mF.put rvm).klt (.dk eE)⟩
            · rw [upd_ne (ne_of_none hc e0)]; exact sN4 _ _ hc
            · rw [upd_ne ned.symm]; exact eN
          · have c : ¬ lifeP pr ≤ n := of_decide_eq_false c
            rw [if_neg c]
            exact ⟨_, rfl, sN4, eN, eE, mN, mF⟩
        · rintro σ' N' ⟨fkvs', rfl, sN', eN', eE', mN', mF'⟩
          have hLf0 : LenM (i + 1) (if lifeP pr ≤ n then putM fs mask (valM ms mask) else fs) := by
            split
            · exact hLf.put (by omega)
            · exact hLf
          have lf0 : (if lifeP pr ≤ n then putM fs mask (valM ms mask) else fs).length ≤ kx * 6 + 1 := by
            split
            · have := putM_len fs mask (valM ms mask)
              omega
            · omega
          generalize (if lifeP pr ≤ n then putM fs mask (valM ms mask) else fs) = f0 at wM mF' hLf0 lf0
          refine ⟨_, rfl, b, ys, rfl, SqL.of (sN' _ _ eb), for_enumL (K := K) (xs := ys) (fun j σ L => ∃ (x8 x9 : Option V) (fkvs : List (Key × V)) (fs : Ms), σ = [some (.ref a), some (.ref b), some (.int n), some (.ref dd), some (.int (i : Nat)), some (.ref t), some (.ref e), some (.int mask), x8, x9] ∧ Same H L ∧ L dd = some (.frz od (.dK kvs)) ∧ L e = some (.dK fkvs) ∧ MsAt H L kvs ms ∧ MsAt H L fkvs fs ∧ j ≤ two.length ∧ fs.length ≤ kx * 6 + 1 + j ∧ LenM (i + 1) fs ∧ inF pr i n mask (valM ms mask) 0 two f0 = inF pr i n mask (valM ms mask) j (two.drop j) fs)
            ⟨x8, x9, fkvs', f0, rfl, sN', eN', eE', mN', mF', Nat.zero_le _, lf0, hLf0, rfl⟩ (fun j σ L h => ?_) ?_ ?_⟩
          · obtain ⟨_, _, _, _, _, h, _⟩ := h
            exact SqL.of (h _ _ eb)
          · rintro j x T2 σ L hx2 ⟨x8, x9, fkvs, fs, rfl, sL, eL, eF, mL, mG, lj, lg, hLg, wI⟩ hT2
            obtain ⟨tq, q, hq, rfl, htq⟩ := rys.2 j x hx2
            have hjl := (List.getElem?_eq_some_iff.mp hq).1
            have hdj : two.drop j = q :: two.drop (j + 1) := by rw [List.drop_eq_getElem_cons hjl, ← (List.getElem?_eq_some_iff.mp hq).2]
            rw [hdj, inF] at wI
            have s5 := same_new (o := .tup [.int (j : Nat), .ref tq]) hT2
            have sL5 := Same.trans sL s5
            have eT2 := upd_same (H := L) (a := T2) (o := .tup [.int (j : Nat), .ref tq])
            have eL5 := s5 _ _ eL
            have eF5 := s5 _ _ eF
            have mL5 := mL.klt (.of s5)
            have mG5 := mG.klt (.of s5)
            generalize upd L T2 (.tup [.int (j : Nat), .ref tq]) = L5 at s5 sL5 eT2 eL5 eF5 mL5 mG5 ⊢
            have j5 : j ≤ 5 := by omega
            have cP : CPow 1 ((j : Nat) : Int) := ⟨by omega, by omega, by decide⟩
            refine ⟨T2, _, rfl, SqT.of eT2, rfl, _, _, rfl, _, _, rfl, rfl, ?_⟩
            refine ⟨_, rfl, _, rfl, _, _, rfl, rfl, cP, _, _, rfl, rfl, cDivJ j5, _, rfl, _, _, rfl, rfl, (show (0:Int) < 2 by decide), rfl, _, rfl, ite_b (fun c => ?_) (fun c => ?_)⟩
            · have c := (bit_dec mask j 0).symm.trans c
              refine ⟨_, rfl, _, rfl, _, rfl, t, tq, pr, q, n, rfl, SqT.of (sL5 _ _ ht), SqT.of (sL5 _ _ htq), _, rfl, ite_b (fun c2 => ?_) (fun c2 => ?_)⟩
              · rw [if_pos (by rw [c, c2]; rfl)] at wI
                obtain ⟨v5, hv5, tv, xv, rfl, g0, ev, rv⟩ := mL5.val (m := mask) (List.mem_of_getElem? hmask)
                have lxv : xv.length ≤ i := by rw [rv.1]; exact hLv
                refine ⟨_, rfl, _, rfl, dd, _, rfl, .inl ⟨kvs, .inl mask, .inr ⟨od, eL5⟩, rfl, hv5.symm⟩, _, rfl, _, rfl, (by show 2 ≤ sizeLine; decide), fun u1 hu1 => ⟨(by show 1 ≤ sizeLine; decide), fun u2 hu2 => ?_⟩⟩
                have s6 := same_new (o := .tup [.int (i : Nat), .int (j : Nat)]) hu1
                have s7 := same_new (o := .lst [.ref u1]) hu2
                have eu1 := s7 _ _ (upd_same (H := L5) (a := u1) (o := .tup [.int (i : Nat), .int (j : Nat)]))
                have eu2 := upd_same (H := upd L5 u1 (.tup [.int (i : Nat), .int (j : Nat)])) (a := u2) (o := .lst [.ref u1])
                have s67 := Same.trans s6 s7
                generalize upd (upd L5 u1 (.tup [.int (i : Nat), .int (j : Nat)])) u2 (.lst [.ref u1]) = L7 at s7 s67 eu1 eu2 ⊢
                refine ⟨tv, u2, xv, _, rfl, rfl, s67 _ _ ev, eu2, by rw [sizeLine_eq]; show _ + 1 ≤ _; omega, fun u3 hu3 => ?_⟩
                have s8 := same_new (o := .lst (xv ++ [.ref u1])) hu3
                have s58 := Same.trans s67 s8
                have eu3 := upd_same (H := L7) (a := u3) (o := .lst (xv ++ [.ref u1]))
                have eu1' := s8 _ _ eu1
                have h30 : H u3 = none := sN sL5 (sN s67 hu3)
                generalize upd L7 u3 (.lst (xv ++ [.ref u1])) = L8 at s8 s58 eu3 eu1' ⊢
                have rw8 : RowsL H L8 (.ref u3) (valM ms mask ++ [((i : Int), (j : Int))]) := ⟨u3, _, rfl, h30, eu3, (rv.turn fun _ _ z => s58 _ _ z).snoc eu1'⟩
                have eF8 := s58 _ _ eF5
                refine ⟨_, rfl, _, rfl, _, rfl, _, _, rfl, rfl, cP, _, _, rfl, rfl, e, _, rfl, .inl ⟨fkvs, .inl (mask + 1 * 2 ^ ((j : Nat) : Int).toNat), eF8, rfl, by rw [mG.len, sizeLine_eq]; omega, rfl⟩, ?_⟩
                rw [Int.toNat_natCast]
                refine ⟨_, _, _, putM fs (mask + 1 * 2 ^ j) (valM ms mask ++ [((i : Int), (j : Int))]), rfl, fun c o hc => ?_, ?_, upd_same, (mL5.klt (.of s58)).klt (.dk eF8), ((mG5.klt (.of s58)).put rw8).klt (.dk eF8), by omega, ?_, hLg.put (by rw [List.length_append, List.length_singleton]; omega), wI⟩
                · rw [upd_ne (ne_of_none hc e0)]; exact s58 _ _ (sL5 _ _ hc)
                · rw [upd_ne ned.symm]; exact s58 _ _ eL5
                · have := putM_len fs (mask + 1 * 2 ^ j) (valM ms mask ++ [((i : Int), (j : Int))])
                  omega
              · rw [if_neg (by rw [c2, Bool.and_false]; exact Bool.false_ne_true)] at wI
                exact ⟨_, _, _, fs, rfl, sL5, eL5, eF5, mL5, mG5, by omega, by omega, hLg, wI⟩
            · have c := (bit_dec mask j 0).symm.trans c
              rw [if_neg (by rw [c, Bool.false_and]; exact Bool.false_ne_true)] at wI
              exact iteF ⟨_, _, _, fs, rfl, sL5, eL5, eF5, mL5, mG5, by omega, by omega, hLg, wI⟩
          · rintro σ L ⟨x8, x9, fkvs, fs, rfl, sL, eL, eF, mL, mG, lj, lg, hLg, wI⟩
            rw [rys.1] at lg wI lj
            rw [List.drop_length, show ∀ j, inF pr i n mask (valM ms mask) j [] fs = fs from fun j => rfl] at wI
            rw [wI] at wM
            exact ⟨_, _, _, _, fs, rfl, sL, eL, eF, mL, mG, hkl, by omega, hLg, wM⟩
      · rintro σ N ⟨x7, x8, x9, fkvs, fs, rfl, sN4, eN, eE, mN, mF, lk, lf, hLf, wM⟩
        refine ⟨eN, ?_⟩
        rw [hlen] at lf wM
        rw [show (ms.map (·.1)).drop ms.length = [] by rw [← List.length_map (·.1)]; exact List.drop_length, show maskF pr i n two ms [] fs = fs from rfl] at wM
        have s5 : Same H (upd N dd (.dK kvs)) := fun c o hc => by rw [upd_ne (ne_of_none hc dd0)]; exact sN4 _ _ hc
        have eE5 : (upd N dd (.dK kvs)) e = some (.dK fkvs) := by rw [upd_ne ned]; exact eE
        have mF5 := mF.klt (.fz (o := .dK kvs) eN)
        generalize upd N dd (.dK kvs) = N5 at s5 eE5 mF5 ⊢
        refine ⟨_, rfl, e, fkvs, rfl, .inl eE5, fun p' hp' => ?_⟩
        have s6 := same_new (o := .dK fkvs) hp'
        refine ⟨p', _, _, _, x7, x8, x9, fkvs, fs, rfl, Same.trans s5 s6, sN s5 hp', upd_same, mF5.klt (.of s6), hil, ?_, hLf, ?_⟩
        · rw [Nat.pow_succ]
          omega
        · rw [wM] at wA
          exact wA
    · rintro σ M ⟨dd, x4, x5, x6, x7, x8, x9, kvs, ms, rfl, s2, dd0, edd, hm, li, lm, hLm, wA⟩
      rw [rxs.1] at wA
      rw [List.drop_length, show ∀ z, allF n two z [] ms = ms from fun z => rfl] at wA
      have kr : ∀ v H', Same H H' → RowsO H H' v (pickF two n ms (ms.map (·.1))) → Q v H' := fun v H' h1 h2 => k v H' h1 (by unfold matchF; rw [wA]; exact h2)
      have hlen := hm.len
      have hkeys := hm.keys
      refine ⟨dd, _, edd, trivial, fun od => ⟨_, rfl, dd, od, rfl, .inl ⟨kvs, upd_same, ?_⟩⟩⟩
      have un : ∀ N, Same H N → MsAt H N kvs ms → N dd = some (.frz od (.dK kvs)) → Same H (upd N dd (.dK kvs)) ∧ MsAt H (upd N dd (.dK kvs)) kvs ms := fun N h1 h2 h3 => ⟨fun c o hc => by rw [upd_ne (ne_of_none hc dd0)]; exact h1 _ _ hc, h2.klt (.fz h3)⟩
      refine for_keys (fun kx σ N => ∃ (x7 : Option V), σ = [some (.ref a), some (.ref b), some (.int n), some (.ref dd), x4, x5, x6, x7, x8, x9] ∧ Same H N ∧ N dd = some (.frz od (.dK kvs)) ∧ MsAt H N kvs ms ∧ kx ≤ kvs.length ∧ pickF two n ms (ms.map (·.1)) = pickF two n ms ((ms.map (·.1)).drop kx))
        ⟨x7, rfl, fun c o hc => by rw [upd_ne (ne_of_none hc dd0)]; exact s2 _ _ hc, upd_same, hm.klt (.dk edd), Nat.zero_le _, rfl⟩ (fun kx σ N h => ?_) ?_ ?_
      · obtain ⟨_, _, _, h, _⟩ := h
        exact h
      · rintro kx kk kval σ N hkx ⟨x7, rfl, sN, eN, mN, lk, wP⟩
        obtain ⟨mask, rfl, hmask⟩ := mN.at hkx
        have hkl := (List.getElem?_eq_some_iff.mp hkx).1
        have hml : kx < (ms.map (·.1)).length := (List.getElem?_eq_some_iff.mp hmask).1
        have hdk : (ms.map (·.1)).drop kx = mask :: (ms.map (·.1)).drop (kx + 1) := by rw [List.drop_eq_getElem_cons hml, ← (List.getElem?_eq_some_iff.mp hmask).2]
        rw [hdk, pickF] at wP
        refine ⟨_, rfl, b, ys, rfl, SqL.of (sN _ _ eb), fun D hD => lc_enumL (K := K) (a := b) (xs := ys) (fun j L => Same N L ∧ ∃ bs : List Bool, L D = some (.lst (bs.map V.bl)) ∧ bs.length = j ∧ goodL two n mask 0 two = bs ++ goodL two n mask j (two.drop j)) ⟨same_new hD, [], upd_same, rfl, rfl⟩ (fun j L h => SqL.of (h.1 _ _ (sN _ _ eb))) ?_ ?_⟩
        · rintro j x T2 L hx2 ⟨s5, bs, eD, lb, wG⟩ hT2
          obtain ⟨tq, q, hq, rfl, htq⟩ := rys.2 j x hx2
          have hjl := (List.getElem?_eq_some_iff.mp hq).1
          have hdj : two.drop j = q :: two.drop (j + 1) := by rw [List.drop_eq_getElem_cons hjl, ← (List.getElem?_eq_some_iff.mp hq).2]
          rw [hdj, goodL] at wG
          have s6 := same_new (o := .tup [.int (j : Nat), .ref tq]) hT2
          have s56 := Same.trans s5 s6
          have eT2 := upd_same (H := L) (a := T2) (o := .tup [.int (j : Nat), .ref tq])
          have eD6 := s6 _ _ eD
          generalize upd L T2 (.tup [.int (j : Nat), .ref tq]) = L6 at s6 s56 eT2 eD6 ⊢
          have j5 : j ≤ 5 := by omega
          have cP : CPow 1 ((j : Nat) : Int) := ⟨by omega, by omega, by decide⟩
          have ptq : PrAt K L6 tq q := SqT.of (s56 _ _ (sN _ _ htq))
          have fin : ∀ z : Bool, z = (decide (lifeP q ≤ n) || decide (bitF mask j = 1)) → ∃ acc, L6 D = some (.lst acc) ∧ acc.length < sizeLine ∧ Same N (upd L6 D (.lst (acc ++ [V.bl z]))) ∧ ∃ bs : List Bool, (upd L6 D (.lst (acc ++ [V.bl z]))) D = some (.lst (bs.map V.bl)) ∧ bs.length = j + 1 ∧ goodL two n mask 0 two = bs ++ goodL two n mask (j + 1) (two.drop (j + 1)) := fun z hz =>
            ⟨_, eD6, by rw [List.length_map, sizeLine_eq]; omega, fun c o hc => by rw [upd_ne (ne_of_none hc hD)]; exact s56 _ _ hc, bs ++ [z], by rw [upd_same, List.map_append]; rfl, by rw [List.length_append, lb]; rfl, by rw [wG, hz, List.append_assoc]; rfl⟩
          refine ⟨T2, _, rfl, SqT.of eT2, rfl, _, _, rfl, _, _, rfl, rfl, rfl, ?_⟩
          refine ⟨_, rfl, tq, _, 1, _, rfl, rfl, ptq, rfl, _, rfl, tq, _, 0, _, rfl, rfl, ptq, rfl, _, _, rfl, rfl, _, rfl, _, _, rfl, rfl, _, rfl, ite_b (fun c => ?_) (fun c => ?_)⟩
          · exact fin true (by rw [show decide (lifeP q ≤ n) = true from c]; rfl)
          · refine ⟨_, rfl, _, rfl, _, _, rfl, rfl, cP, _, _, rfl, rfl, cDivJ j5, _, rfl, _, _, rfl, rfl, (show (0:Int) < 2 by decide), rfl, ?_⟩
            rw [bit_dec mask j 1]
            exact fin _ (by rw [show decide (lifeP q ≤ n) = false from c, Bool.false_or])
        · rintro L ⟨s5, bs, eD, lb, wG⟩
          rw [rys.1, List.drop_length, show ∀ z, goodL two n mask z [] = [] from fun z => rfl, List.append_nil] at wG
          have hg : goodM two n mask = bs.all id := by unfold goodM; rw [wG]
          rw [hg] at wP
          have sL := Same.trans sN s5
          have eL := s5 _ _ eN
          have mL := mN.klt (.of s5)
          refine ⟨D, bs, rfl, SqL.of eD, _, rfl, ite_b (fun c => ?_) (fun c => ?_)⟩
          · rw [if_pos c] at wP
            obtain ⟨vm, hvm, rvm⟩ := mL.val (m := mask) (List.mem_of_getElem? hmask)
            obtain ⟨u1, u2⟩ := un L sL mL eL
            refine ⟨_, rfl, _, rfl, dd, vm, rfl, .inl ⟨kvs, .inl mask, .inr ⟨od, eL⟩, rfl, hvm.symm⟩, eL, kr vm _ u1 ?_⟩
            rw [wP]
            exact rvm.klt (.fz eL)
          · rw [if_neg (by rw [c]; exact Bool.false_ne_true)] at wP
            exact ⟨_, rfl, sL, eL, mL, hkl, wP⟩
      · rintro σ N ⟨x7, rfl, sN, eN, mN, lk, wP⟩
        rw [hlen, show (ms.map (·.1)).drop ms.length = [] by rw [← List.length_map (·.1)]; exact List.drop_length] at wP
        obtain ⟨u1, u2⟩ := un N sN mN eN
        exact ⟨eN, kr .non _ u1 (by rw [wP]; rfl)⟩
end
end Lw
namespace Lw
open PySem PySem.Spec PyProof.Rows L2 XV TL XM DO
theorem RowsL.weak {G G' H : Hp} {v : V} {rs : List Pr} (s : Same G G') (h : RowsL G' H v rs) : RowsL G H v rs := by
  obtain ⟨t, xs, a, b, c, d⟩ := h
  exact ⟨t, xs, a, sN s b, c, d⟩
def bothF (A B : Fv) (n : Int) : Option (List Pr × List Pr) :=
  if endsB A B n = true then
    match matchF A.hs B.hs n, matchF A.ss B.ss n with
    | some r1, some r2 => some (r1, r2)
    | _, _ => none
  else none
/-- two lists of rows at v -/
def BothO (G H : Hp) (v : V) : Option (List Pr × List Pr) → Prop
  | none => v = .non
  | some r => ∃ q t1 t2, v = .ref q ∧ G q = none ∧ H q = some (.lst [t1, t2]) ∧ RowsL G H t1 r.1 ∧ RowsL G H t2 r.2
abbrev sBoth : Stmt := topOf "_law_both_matched"
abbrev NBoth : List Str := ["a", "b", "halves", "one", "two"]
theorem scBoth : FnScope NBoth ["a", "b", "halves"] (defScope sBoth) := ⟨rfl, rfl, rfl, by decide +kernel, rfl, by decide +kernel, by decide +kernel⟩
def spBoth : Sp := fun vs H Q _ => ∃ (p q : Addr) (A B : Fv) (n : Int), vs = [.ref p, .ref q, .int n] ∧ FiveAt H p A ∧ FiveAt H q B ∧ A.li.length = B.li.length ∧ ∀ v H', Same H H' → BothO H H' v (bothF A B n) → Q v H'
section
variable {P : Program} {w : World} {K : PySem.W.Frag} {mg : Str → Option Value} {base : Heap}
theorem ok_both {f : Addr} {fd : FuncData} (F : Fun K "_law_both_matched" "_law_both_matched" sBoth f fd) (T : Bt mg) (N1 : Cl P w K mg base 2 "_law_ends_near" sEnds ["a", "b", "halves"] spEnds) (N2 : Cl P w K mg base 3 "_law_matched" sMatched ["one", "two", "halves"] spMatched) : FnOk P w K mg base CX0 4 f fd ["a", "b", "halves"] spBoth := by
  refine F.ok scBoth (fun vs H Q E h => ?_) (fun cdv A0 outer s0 H vs Q E hr h => ?_)
  · obtain ⟨p, q, A, B, n, rfl, _⟩ := h
    rfl
  · obtain ⟨p, q, A, B, n, rfl, hA, hB, hl, k⟩ := h
    refine ⟨_, pss_cons (ps_if (pt_not (pt_val (calC N1 (hr.mono (by decide)) (pa_cons (pv 0) (pa_cons (pv 1) (pa_cons (pv 2) pa_nil))))))
 (pss_one (ps_ret (pe_non)))
 (pss_nil))
 (pss_cons (ps_par (i := 3) (j := 4) rfl scBoth.nd rfl rfl (by decide) rfl rfl (pa_cons (calC N2 (hr.mono (by decide)) (pa_cons (pe_ix ix_list (pv 0) (pe_int) (fun _ _ => rfl)) (pa_cons (pe_ix ix_list (pv 1) (pe_int) (fun _ _ => rfl)) (pa_cons (pv 2) pa_nil)))) (pa_cons (calC N2 (hr.mono (by decide)) (pa_cons (pe_ix ix_list (pv 0) (pe_int) (fun _ _ => rfl)) (pa_cons (pe_ix ix_list (pv 1) (pe_int) (fun _ _ => rfl)) (pa_cons (pv 2) pa_nil)))) pa_nil)) (by rfl))
 (pss_cons (ps_if (PW.pt (pw_or (pt_cmpR op_isN (pv 3) (pe_non) (nomark _)) (pw_or1 (pt_cmpR op_isN (pv 4) (pe_non) (nomark _)))))
 (pss_one (ps_ret (pe_non)))
 (pss_nil))
 (pss_one (ps_ret (pe_lst (pa_cons (pv 3) (pa_cons (pv 4) pa_nil))))))), ?_⟩
    refine ⟨_, rfl, _, rfl, _, rfl, p, q, A, B, n, rfl, hA, hB, hl, fun H1 s1 => ⟨_, rfl, ?_⟩⟩
    unfold bothF at k
    refine ite_b (fun c => ?_) (fun c => ?_)
    · rw [if_neg (by simpa using c)] at k
      exact k .non H1 s1 rfl
    · rw [if_pos (by simpa using c)] at k
      obtain ⟨ah, as', al, ep, rh, rs, el⟩ := (hA.mono s1).ex
      obtain ⟨bh, bs, bl, eq, uh, us, _⟩ := (hB.mono s1).ex
      refine ⟨_, rfl, p, _, 0, _, rfl, rfl, SqL.of ep, rfl, _, rfl, q, _, 0, _, rfl, rfl, SqL.of eq, rfl, _, rfl, ah, bh, n, A.hs, B.hs, rfl, rh, uh, fun v1 H2 s2 hv1 => ?_⟩
      refine ⟨_, rfl, p, _, 1, _, rfl, rfl, SqL.of (s2 _ _ ep), rfl, _, rfl, q, _, 1, _, rfl, rfl, SqL.of (s2 _ _ eq), rfl, _, rfl, as', bs, n, A.ss, B.ss, rfl, rs.mono s2, us.mono s2, fun v2 H3 s3 hv2 => ⟨_, _, rfl, ?_⟩⟩
      have s12 := Same.trans s1 s2
      have s13 := Same.trans s12 s3
      cases h1 : matchF A.hs B.hs n with
      | none =>
        rw [h1] at hv1 k
        have hv1 : v1 = .non := hv1
        subst hv1
        exact ⟨_, rfl, rfl, _, rfl, iteT (iteT (k .non H3 s13 rfl))⟩
      | some r1 =>
        rw [h1] at hv1 k
        obtain ⟨t1, x1, rfl, g1, e1, w1⟩ := hv1
        refine ⟨_, rfl, rfl, _, rfl, iteF ?_⟩
        cases h2 : matchF A.ss B.ss n with
        | none =>
          rw [h2] at hv2 k
          have hv2 : v2 = .non := hv2
          subst hv2
          exact ⟨_, rfl, rfl, _, rfl, iteT (k .non H3 s13 rfl)⟩
        | some r2 =>
          rw [h2] at hv2 k
          have hw2 := hv2
          obtain ⟨t2, x2, rfl, g2, e2, w2⟩ := hv2
          refine ⟨_, rfl, rfl, _, rfl, iteF ?_⟩
          refine ⟨_, rfl, _, rfl, (by show 2 ≤ sizeLine; decide), fun u hu => ?_⟩
          have s4 := same_new (o := .lst [.ref t1, .ref t2]) hu
          refine k (.ref u) _ (Same.trans s13 s4) ⟨u, _, _, rfl, sN s13 hu, upd_same, ?_, ?_⟩
          · exact ((RowsL.weak (G := H) s1 ⟨t1, x1, rfl, g1, e1, w1⟩).klt (.of s3)).klt (.of s4)
          · exact (RowsL.weak (G := H) s12 ⟨t2, x2, rfl, g2, e2, w2⟩).klt (.of s4)
end
end Lw
namespace Lw
open PySem PySem.Spec PyProof.Rows L2 XV TL XM DO
theorem pigeon : ∀ (m : Nat) (l : List Int), l.Nodup → (∀ k ∈ l, 0 ≤ k ∧ k < m) → l.length ≤ m
  | 0, l, _, h => by
    cases l with
    | nil => exact Nat.le_refl _
    | cons a t => have := h a (by simp); omega
  | m + 1, l, nd, h => by
    have h1 := pigeon m (l.filter fun k => decide (k ≠ (m : Int))) (nd.filter _) fun k hk => by
      obtain ⟨h1, h2⟩ := List.mem_filter.mp hk
      have h3 := h k h1
      have h4 := of_decide_eq_true h2
      omega
    have h2 : l.length ≤ (l.filter fun k => decide (k ≠ (m : Int))).length + 1 := by
      clear h1 h
      induction l with
      | nil => simp
      | cons a t ih =>
        have nd' := List.nodup_cons.mp nd
        by_cases e : a = (m : Int)
        · have ft : (t.filter fun k => decide (k ≠ (m : Int))) = t := List.filter_eq_self.mpr fun k hk => decide_eq_true fun z => nd'.1 (by rw [e, ← z]; exact hk)
          rw [List.filter_cons_of_neg (by simp [e]), ft, List.length_cons]
          exact Nat.le_refl _
        · rw [List.filter_cons_of_pos (by simpa using e), List.length_cons, List.length_cons]
          have := ih nd'.2
          omega
    omega
end Lw
namespace L2
open PySem PySem.Sem PyProof.Rows
section
variable {X : Cx}
/-- set(l), l a list of ints below 64 -/
def rSetLb (w : World) (K : PySem.W.Frag) : List V → Hp → VK → Prop := fun xs H Q => ∃ (l : Addr) (ns : List Int), xs = [.ref l] ∧ SqL K H l (ns.map V.int) ∧ ns.length ≤ 4000 ∧ (∀ k ∈ ns, 0 ≤ k ∧ k < 63) ∧ ∀ p c, H p = none → c < 64 → Q (.ref p) (upd H p (SetO w p (fun j => decide (j ∈ ns)) c))
theorem cr_setLb (hc : X.calm = true) : CallR X (.type "set") (rSetLb X.w X.K) := by
  intro pins s σ H xs us Q I r h
  obtain ⟨l, ns, rfl, hq, hn, hb, q⟩ := h
  cases r with
  | cons r rr =>
    cases rr
    cases r
    obtain ⟨its, rv, p, hz⟩ := I.list hq
    refine ZE.set_ofL (I.ok.hd hc) p.isList (show IntsAre its.toArray.toList ns from ints_of_vals rv) (by unfold scanBound; omega) fun h' tk c R hc' k => ?_
    have c63 : c ≤ 63 := by
      obtain ⟨o, es, ep, t, ho, hex, hdt, g, nd, hm2, hb2, hf, hn2, hr, hl2⟩ := id R
      have := Lw.pigeon 63 (es.toList.map keyOf) nd fun k hk => hb k (of_decide_eq_true ((hm2 k).mpr hk))
      rw [List.length_map, Array.length_toList] at this
      omega
    exact ⟨.ref _, _, I.laid (t' := tk) k (Nat.le_refl _) (setO_new R), rfl, q _ c (I.hok.fresh (Nat.le_refl _)) (by omega)⟩
end
end L2
namespace Lw
open PySem PySem.Spec PyProof.Rows L2 XV TL XM DO
theorem putM_ne (ms : Ms) (k : Int) (v : List Pr) : putM ms k v ≠ [] := by
  unfold putM
  split
  · rename_i h
    intro z
    have := List.map_eq_nil_iff.mp z
    rw [this] at h
    exact absurd h (by simp)
  · intro z
    exact absurd (List.append_eq_nil_iff.mp z).2 (by simp)
theorem inF_ne (p : Pr) (i : Nat) (n mask : Int) (rs : List Pr) : ∀ (j : Nat) (qs : List Pr) (f : Ms), f ≠ [] → inF p i n mask rs j qs f ≠ []
  | _, [], f, h => h
  | j, q :: qs, f, h => by
    rw [inF]
    refine inF_ne p i n mask rs (j + 1) qs _ ?_
    split
    · exact putM_ne _ _ _
    · exact h
theorem maskF_ne (p : Pr) (i : Nat) (n : Int) (two : List Pr) (all : Ms) : ∀ (ks : List Int) (f : Ms), f ≠ [] → maskF p i n two all ks f ≠ []
  | [], f, h => h
  | k :: ks, f, h => by
    rw [maskF]
    refine maskF_ne p i n two all ks _ (inF_ne _ _ _ _ _ _ _ _ ?_)
    split
    · exact putM_ne _ _ _
    · exact h
theorem allF_ne (n : Int) (two : List Pr) : ∀ (i : Nat) (ps : List Pr) (ms : Ms), ms ≠ [] → (∀ p ∈ ps, lifeP p ≤ n) → allF n two i ps ms ≠ []
  | _, [], ms, h, _ => h
  | i, p :: ps, ms, h, hl => by
    rw [allF]
    refine allF_ne n two (i + 1) ps _ ?_ fun q hq => hl q (by simp [hq])
    cases ms with
    | nil => exact absurd rfl h
    | cons e ms =>
      rw [List.map_cons, maskF]
      refine maskF_ne _ _ _ _ _ _ _ (inF_ne _ _ _ _ _ _ _ _ ?_)
      rw [if_pos (hl p (by simp))]
      exact putM_ne _ _ _
theorem goodL_top (two : List Pr) (n mask : Int) : ∀ (j : Nat) (qs : List Pr), (∀ q ∈ qs, lifeP q ≤ n) → (goodL two n mask j qs).all id = true
  | _, [], _ => rfl
  | j, q :: qs, h => by
    rw [goodL, List.all_cons, decide_eq_true (h q (by simp)), Bool.true_or]
    exact goodL_top two n mask (j + 1) qs fun r hr => h r (by simp [hr])
theorem matchF_top (one two : List Pr) (n : Int) (h1 : ∀ p ∈ one, lifeP p ≤ n) (h2 : ∀ p ∈ two, lifeP p ≤ n) : matchF one two n ≠ none := by
  unfold matchF
  have ne := allF_ne n two 0 one [(0, [])] (by simp) h1
  generalize allF n two 0 one [(0, [])] = ms at ne ⊢
  cases ms with
  | nil => exact absurd rfl ne
  | cons e ms =>
    rw [List.map_cons, pickF, if_pos (show goodM two n e.1 = true from goodL_top two n e.1 0 two h2)]
    simp
/-- what a great enough span must reach -/
def needE (A B : Fv) : List Int := ((endsF A).zip (endsF B)).map fun z => 2 * ab (z.1 - z.2)
theorem both_top (A B : Fv) (n : Int) (he : ∀ m ∈ needE A B, m ≤ n) (h1 : ∀ p ∈ A.hs, lifeP p ≤ n) (h2 : ∀ p ∈ B.hs, lifeP p ≤ n) (h3 : ∀ p ∈ A.ss, lifeP p ≤ n) (h4 : ∀ p ∈ B.ss, lifeP p ≤ n) : bothF A B n ≠ none := by
  unfold bothF
  have e : endsB A B n = true := by
    unfold endsB endsL
    rw [List.all_map, List.all_eq_true]
    intro z hz
    exact decide_eq_true (he _ (List.mem_map.mpr ⟨z, hz, rfl⟩))
  rw [if_pos e]
  have m1 := matchF_top A.hs B.hs n h1 h2
  have m2 := matchF_top A.ss B.ss n h3 h4
  cases a : matchF A.hs B.hs n with
  | none => exact absurd a m1
  | some r1 =>
    cases b : matchF A.ss B.ss n with
    | none => exact absurd b m2
    | some r2 => simp
end Lw
namespace Lw
open PySem PySem.Spec PyProof.Rows L2 XV TL XM DO
abbrev sNess : Stmt := topOf "_law_nearness"
abbrev NNess : List Str := ["a", "b", "marks", "x", "y", "kind", "p", "q", "under", "over", "k", "middle"]
theorem scNess : FnScope NNess ["a", "b"] (defScope sNess) := ⟨rfl, rfl, rfl, by decide +kernel, rfl, by decide +kernel, by decide +kernel⟩
def spNess : Sp := fun vs H Q _ => ∃ (p q : Addr) (A B : Fv), vs = [.ref p, .ref q] ∧ FiveAt H p A ∧ FiveAt H q B ∧ FvM A ∧ FvM B ∧ A.li.length = B.li.length ∧ ∀ (n : Int) H', Same H H' → 0 ≤ n → bothF A B n ≠ none → (∀ k, 0 ≤ k → k < n → bothF A B k = none) → Q (.int n) H'
/-- a list of marks -/
def MkAt (H : Hp) (u : Addr) (M : List Int) : Prop := H u = some (.lst (M.map V.int))
def okM (M : List Int) : Prop := ∀ m ∈ M, 0 ≤ m ∧ m < 63
theorem okM.app {M N : List Int} (h : okM M) (k : okM N) : okM (M ++ N) := fun m hm => (List.mem_append.mp hm).elim (h m) (k m)
theorem ab_le {x y l u : Int} (h1 : l ≤ x) (h2 : x ≤ u) (h3 : l ≤ y) (h4 : y ≤ u) : 0 ≤ ab (x - y) ∧ ab (x - y) ≤ u - l := by
  unfold ab
  split <;> omega
theorem FvM.row {A : Fv} (h : FvM A) (k : Bool) : ∀ z ∈ A.kind k, InP (-9) 17 z := by
  cases k
  · exact h.hs
  · exact h.ss
/-- a row of five, by its kind -/
theorem row_at {H : Hp} {p : Addr} {A : Fv} (h : FiveAt H p A) (k : Bool) : ∃ xs0 t xs, H p = some (.lst xs0) ∧ atI xs0 (0 + ((if k = true then 1 else 0 : Nat) : Int)) = some (.ref t) ∧ H t = some (.lst xs) ∧ RawVs H xs (A.kind k) ∧ (A.kind k).length ≤ 5 ∧ ∀ r ∈ A.kind k, wrongP r = false := by
  obtain ⟨a, b, l, ep, ra, rb, el⟩ := h.ex
  cases k
  · obtain ⟨xs, e1, e2⟩ := ra.ex
    exact ⟨_, a, xs, ep, rfl, e1, e2, ra.le, ra.ok⟩
  · obtain ⟨xs, e1, e2⟩ := rb.ex
    exact ⟨_, b, xs, ep, rfl, e1, e2, rb.le, rb.ok⟩
theorem life_ok {r : Pr} (h : InP (-9) 17 r) (w : wrongP r = false) : 0 ≤ lifeP r ∧ lifeP r < 63 := by
  have w : ¬ r.2 ≤ r.1 := of_decide_eq_false w
  obtain ⟨a, b, c, d⟩ := h
  unfold lifeP
  omega
section
variable {P : Program} {w : World} {K : PySem.W.Frag} {mg : Str → Option Value} {base : Heap}
/-- the lives of a row, in a comprehension -/
abbrev tLives (K : PySem.W.Frag) (i : Nat) : TE := tLc (iList K (tOp (rIxL K) (tVar i) (tVar 5))) (gTup K 2 (gCons (gName 3) (gCons (gName 4) gNil))) tYes (tOp (rI0 fun i j => .int (i - j)) (tVar 4) (tVar 3)) [3, 4]
theorem lives_do {H : Hp} {Q : VK} {u0 u1 u2 u5 u6 u7 u8 u9 u10 u11 : Option V} {x3 x4 : Option V} {i : Nat} {p : Addr} {A : Fv} {k : Bool} (hi : ([u0, u1, u2, x3, x4, u5, u6, u7, u8, u9, u10, u11] : L2.St)[i]? = some (some (.ref p))) (h5 : u5 = some (.int (0 + ((if k = true then 1 else 0 : Nat) : Int)))) (h : FiveAt H p A)
    (kk : ∀ (u : Addr) (H' : Hp), Same H H' → H u = none → MkAt H' u ((A.kind k).map lifeP) → Q (.ref u) H') : tLives K i [u0, u1, u2, x3, x4, u5, u6, u7, u8, u9, u10, u11] H Q := by
  obtain ⟨xs0, t, xs, e0, e1, e2, e3, e4, _⟩ := row_at h k
  subst h5
  refine ⟨_, hi, _, rfl, p, xs0, _, _, rfl, rfl, SqL.of e0, e1, t, rfl, ⟨_, SqL.of e2⟩, fun D hD => lc_list (K := K) (a := t) (xs := xs) (fun i M => Same H M ∧ M D = some (.lst ((((A.kind k).map lifeP).take i).map V.int))) ⟨same_new hD, upd_same⟩ (fun i M _ h => SqL.of (h.1 _ _ e2)) ?_ ?_⟩
  · rintro i x M hx ⟨s1, eD⟩
    obtain ⟨tt, pr, hp, rfl, htt⟩ := e3.2 i x hx
    have hil := (List.getElem?_eq_some_iff.mp hp).1
    refine ⟨tt, _, rfl, SqT.of (s1 _ _ htt), rfl, _, _, rfl, _, _, rfl, rfl, rfl, _, rfl, _, rfl, _, _, rfl, rfl, _, eD, by rw [List.length_map, List.length_take, List.length_map, sizeLine_eq]; omega, fun c o hc => ?_, ?_⟩
    · rw [upd_ne (ne_of_none hc hD)]
      exact s1 _ _ hc
    · rw [upd_same, List.take_add_one, List.getElem?_map, hp, List.map_append]
      rfl
  · rintro M ⟨s1, eD⟩
    rw [e3.1, ← List.length_map lifeP, List.take_length] at eD
    exact kk D M s1 hD eD
end
end Lw
namespace Lw
end Lw
namespace Lw
open PySem PySem.Spec PyProof.Rows L2 XV TL XM DO
/-- a dict of int keys that stands for a set -/
def LdAt (M : Hp) (d : Addr) (S : Int → Bool) (L : Nat) : Prop := ∃ kvs : List (Key × V), M d = some (.dK kvs) ∧ (∀ k : Int, (valV kvs (.inl k)).isSome = S k) ∧ kvs.length ≤ L
theorem LdAt.put {kvs : List (Key × V)} {S : Int → Bool} {i : Int} {v : V} (h : ∀ k : Int, (valV kvs (.inl k)).isSome = S k) : ∀ k : Int, (valV (putK kvs (.inl i) v) (.inl k)).isSome = orIs S i k := fun k => by
  rw [valV_put]
  unfold orIs
  by_cases e : k = i
  · subst e
    rw [if_pos rfl, decide_eq_true rfl, Bool.or_true]
    rfl
  · rw [if_neg (fun z => e (by injection z)), decide_eq_false e, Bool.or_false]
    exact h k
theorem inV_ints (k : Int) (ns : List Int) : inV (.int k) (ns.map V.int) = decide (k ∈ ns) := by
  unfold inV
  rw [List.any_map, Bool.eq_iff_iff, List.any_eq_true, decide_eq_true_eq]
  constructor
  · rintro ⟨x, hx, e⟩
    have e : (x == k) = true := e
    rw [← beq_iff_eq.mp e]
    exact hx
  · intro h
    exact ⟨k, h, show (k == k) = true from beq_self_eq_true k⟩
theorem flat_ints (ns : List Int) : (ns.map V.int).all flatV = true := by
  rw [List.all_map, List.all_eq_true]
  intro x _
  rfl
theorem isl_put {kvs : List (Key × V)} {k : Key} {v : V} : (putK kvs k v).length ≤ kvs.length + 1 := length_putK kvs k v
/-- a pair of a row of five -/
theorem pair_at {K : PySem.W.Frag} {H : Hp} {xs : List V} {ps : List Pr} {i : Int} (h : RawVs H xs ps) (h0 : 0 ≤ i) (h1 : i < ps.length) : ∃ t : Addr, atI xs i = some (.ref t) ∧ PrAt K H t (getP ps i) := pairIx h.pairs h0 h1
abbrev sFirst : Stmt := topOf "_law_first_fault"
abbrev NFirst : List Str := ["a", "b", "halves", "one", "two", "words", "kind", "row", "left", "right", "k", "i", "j", "whose", "used", "x"]
theorem scFirst : FnScope NFirst ["a", "b", "halves", "one", "two"] (defScope sFirst) := ⟨rfl, rfl, rfl, by decide +kernel, rfl, by decide +kernel, by decide +kernel⟩
def spFirst (K : PySem.W.Frag) : Sp := fun vs H Q _ => ∃ (p q r s : Addr) (A B : Fv) (n : Int) (r1 r2 : List Pr), vs = [.ref p, .ref q, .int n, .ref r, .ref s] ∧ FiveAt H p A ∧ FiveAt H q B ∧ RowsAt K H r r1 ∧ RowsAt K H s r2 ∧ A.li.length = B.li.length ∧ (∀ k, (rowK r1 r2 k).length ≤ 100 ∧ ∀ z ∈ rowK r1 r2 k, InR (A.kind k) (B.kind k) z) ∧
  ∀ v H', Same H H' → FtAt H' v (faultF A B n r1 r2) → Q v H'
theorem five_pick {H : Hp} {p q : Addr} {A B : Fv} (hA : FiveAt H p A) (hB : FiveAt H q B) (wh : Bool) : FiveAt H (if wh = true then q else p) (if wh = true then B else A) := by
  cases wh
  · exact hA
  · exact hB
section
variable {P : Program} {w : World} {K : PySem.W.Frag} {mg : Str → Option Value} {base : Heap}
theorem ok_first {f : Addr} {fd : FuncData} (F : Fun K "_law_first_fault" "_law_first_fault" sFirst f fd) (T : Bt mg) (N1 : Cl P w K mg base 2 "_law_pair_near" sPNear ["one", "two", "halves"] (spPNear K)) (N2 : Cl P w K mg base 1 "_law_near" sNear ["a", "b", "halves"] spNear) : FnOk P w K mg base CX0 3 f fd ["a", "b", "halves", "one", "two"] (spFirst K) := by
  refine F.ok scFirst (fun vs H Q E h => ?_) (fun cdv A0 outer s0 H vs Q E hr h => ?_)
  · obtain ⟨p, q, r, s, A, B, n, r1, r2, rfl, _⟩ := h
    rfl
  · obtain ⟨p, q, r, s, A, B, n, r1, r2, rfl, hA, hB, hr1, hr2, hl, kin, k⟩ := h
    refine ⟨_, pss_cons (ps_set (i := 5) scFirst.nd rfl (Or.inl rfl) (pe_lst (pa_cons (pe_str) (pa_cons (pe_str) pa_nil))))
 (pss_cons (ps_for PassesOwn.never rfl (pi_range1 rfl T.range (pa_cons (pe_int) pa_nil)) (pg_name (i := 6) scFirst.nd rfl (Or.inl rfl))
 (pss_cons (ps_par3 (i := 7) (j := 8) (l := 9) rfl scFirst.nd rfl rfl rfl (by decide) (by decide) (by decide) rfl rfl rfl (pa_cons (pe_ix ix_list (pe_lst (pa_cons (pv 3) (pa_cons (pv 4) pa_nil))) (pv 6) (fun _ _ => rfl)) (pa_cons (pe_dnewK) (pa_cons (pe_dnewK) pa_nil))) (by rfl))
 (pss_one (ps_for PassesOwn.never rfl (pi_enum rfl T.enumerate (pa_cons (pv 7) pa_nil)) (pg_tup rfl (pgs_cons (pg_name (i := 10) scFirst.nd rfl (Or.inl rfl)) (pgs_cons (pg_tup rfl (pgs_cons (pg_name (i := 11) scFirst.nd rfl (Or.inl rfl)) (pgs_cons (pg_name (i := 12) scFirst.nd rfl (Or.inl rfl)) (pgs_nil)))) (pgs_nil))))
 (pss_cons (ps_if (PW.pt (pw_or (pt_cmp (pc_din (by exact un1 hr) (pv 11) (pv 8))) (pw_or (pt_cmp (pc_din (by exact un1 hr) (pv 12) (pv 9))) (pw_or1 (pt_not (pt_val (calC N1 (hr.mono (by decide)) (pa_cons (pe_ix ix_list (pe_ix ix_list (pv 0) (pv 6) (fun _ _ => rfl)) (pv 11) (fun _ _ => rfl)) (pa_cons (pe_ix ix_list (pe_ix ix_list (pv 1) (pv 6) (fun _ _ => rfl)) (pv 12) (fun _ _ => rfl)) (pa_cons (pv 2) pa_nil))))))))))
 (pss_one (ps_ret (pe_tup (pa_cons (pe_str) (pa_cons (pe_ix ix_list (pv 5) (pv 6) (fun _ _ => rfl)) (pa_cons (pv 10) pa_nil))))))
 (pss_nil))
 (pss_one (ps_asg (pe_tup (pa_cons (pe_bl) (pa_cons (pe_bl) pa_nil))) (pg_tup rfl (pgs_cons (pg_sub (pv 8) (pv 11) (set_dict (by exact un1 hr))) (pgs_cons (pg_sub (pv 9) (pv 12) (set_dict (by exact un1 hr))) (pgs_nil)))))))))))
 (pss_cons (ps_for PassesOwn.never rfl (pi_range1 rfl T.range (pa_cons (pe_int) pa_nil)) (pg_name (i := 6) scFirst.nd rfl (Or.inl rfl))
 (pss_one (ps_for PassesOwn.never rfl (pi_range1 rfl T.range (pa_cons (pe_int) pa_nil)) (pg_name (i := 13) scFirst.nd rfl (by first | exact Or.inl rfl | exact Or.inr rfl))
 (pss_cons (ps_setLc (i := 14) (own := [("x", 15)]) (g := gName 15) (tt := tYes) (te := tOp (rIxT K) (tVar 15) (tVar 13)) rfl scFirst.nd rfl rfl (sw_true rfl rfl rfl (by decide +kernel)) (pi_list (pe_ix ix_list (pe_lst (pa_cons (pv 3) (pa_cons (pv 4) pa_nil))) (pv 6) (fun _ _ => rfl))) (blkOk_by (N := NFirst) (sc := defScope sFirst) (by decide +kernel)) (fun _ _ _ _ _ => pg_name (i := 15) scFirst.nd rfl (Or.inl rfl)) (fun _ _ _ _ _ => pts_nil) (fun _ _ _ _ _ => pe_ix ix_tup (pv 15) (pv 13) (fun _ _ => rfl)))
 (pss_one (ps_for PassesOwn.never rfl (pi_enum rfl T.enumerate (pa_cons (pe_ix ix_list (pe_ix ix_list (pe_lst (pa_cons (pv 0) (pa_cons (pv 1) pa_nil))) (pv 13) (fun _ _ => rfl)) (pv 6) (fun _ _ => rfl)) pa_nil)) (pg_tup rfl (pgs_cons (pg_name (i := 10) scFirst.nd rfl (Or.inl rfl)) (pgs_cons (pg_name (i := 15) scFirst.nd rfl (Or.inl rfl)) (pgs_nil))))
 (pss_one (ps_if (PW.pt (pw_and (pt_cmpR op_gt (pe_op op_sub (pe_ix ix_tup (pv 15) (pe_int) (fun _ _ => rfl)) (pe_ix ix_tup (pv 15) (pe_int) (fun _ _ => rfl))) (pv 2) (nomark _)) (pw_and1 (pt_cmpR op_notIn_seq (pv 10) (pv 14) (by rfl)))))
 (pss_one (ps_ret (pe_tup (pa_cons (pe_str) (pa_cons (pe_ix ix_list (pv 5) (pv 6) (fun _ _ => rfl)) (pa_cons (pv 13) (pa_cons (pv 10) pa_nil)))))))
 (pss_nil)))))))))
 (pss_cons (ps_for PassesOwn.never rfl (pi_range1 rfl T.range (pa_cons (pe_callB call_lenL (by rfl) T.len (by decide +kernel) (pa_cons (pe_ix ix_list (pv 0) (pe_int) (fun _ _ => rfl)) pa_nil)) pa_nil)) (pg_name (i := 10) scFirst.nd rfl (Or.inl rfl))
 (pss_one (ps_if (pt_not (pt_val (calC N2 (hr.mono (by decide)) (pa_cons (pe_ix ix_list (pe_ix ix_list (pv 0) (pe_int) (fun _ _ => rfl)) (pv 10) (fun _ _ => rfl)) (pa_cons (pe_ix ix_list (pe_ix ix_list (pv 1) (pe_int) (fun _ _ => rfl)) (pv 10) (fun _ _ => rfl)) (pa_cons (pv 2) pa_nil))))))
 (pss_one (ps_ret (pe_tup (pa_cons (pe_str) (pa_cons (pe_str) (pa_cons (pv 10) pa_nil))))))
 (pss_nil))))
 (pss_cons (ps_if (pt_not (pt_val (calC N2 (hr.mono (by decide)) (pa_cons (pe_ix ix_list (pv 0) (pe_int) (fun _ _ => rfl)) (pa_cons (pe_ix ix_list (pv 1) (pe_int) (fun _ _ => rfl)) (pa_cons (pv 2) pa_nil))))))
 (pss_one (ps_ret (pe_tup (pa_cons (pe_str) (pa_cons (pe_str) (pa_cons (pe_non) pa_nil))))))
 (pss_nil))
 (pss_cons (ps_if (pt_not (pt_val (calC N2 (hr.mono (by decide)) (pa_cons (pe_ix ix_list (pv 0) (pe_int) (fun _ _ => rfl)) (pa_cons (pe_ix ix_list (pv 1) (pe_int) (fun _ _ => rfl)) (pa_cons (pv 2) pa_nil))))))
 (pss_one (ps_ret (pe_tup (pa_cons (pe_str) (pa_cons (pe_str) (pa_cons (pe_non) pa_nil))))))
 (pss_nil))
 (pss_one (ps_ret (pe_non)))))))), ?_⟩
    refine ⟨(by show 2 ≤ sizeLine; decide), fun wd hwd => ?_⟩
    have s1 := same_new (o := .lst [.str "hollows", .str "summits"]) hwd
    have ew := upd_same (H := H) (a := wd) (o := .lst [.str "hollows", .str "summits"])
    generalize upd H wd (.lst [.str "hollows", .str "summits"]) = H1 at s1 ew ⊢
    have wordAt : ∀ kd : Bool, atI ([.str "hollows", .str "summits"] : List V) (0 + ((if kd = true then 1 else 0 : Nat) : Int)) = some (.str (kindW kd)) := fun kd => by cases kd <;> rfl
    have rowAt : ∀ kd : Bool, atI ([.ref r, .ref s] : List V) (0 + ((if kd = true then 1 else 0 : Nat) : Int)) = some (.ref (if kd = true then s else r)) := fun kd => by cases kd <;> rfl
    refine ⟨_, rfl, by omega, by omega, for_range (lo := 0) (n := 2) (fun i σ M => ∃ (x6 x7 x8 x9 x10 x11 x12 : Option V), σ = [some (.ref p), some (.ref q), some (.int n), some (.ref r), some (.ref s), some (.ref wd), x6, x7, x8, x9, x10, x11, x12, none, none, none] ∧ Same H1 M ∧ (0 < i → wrongAt A B n false r1 = none) ∧ (1 < i → wrongAt A B n true r2 = none))
      ⟨none, none, none, none, none, none, none, rfl, Same.refl _, fun h => absurd h (by decide), fun h => absurd h (by decide)⟩ ?_ ?_⟩
    · rintro i σ M hi ⟨x6, x7, x8, x9, x10, x11, x12, rfl, sM, w1, w2⟩
      obtain ⟨kd, rfl⟩ : ∃ kd : Bool, i = if kd = true then 1 else 0 := by
        match i, hi with
        | 0, _ => exact ⟨false, rfl⟩
        | 1, _ => exact ⟨true, rfl⟩
      have sM1 := Same.trans s1 sM
      obtain ⟨zs, hz1, hz2⟩ := ((rows_of hr1 hr2 kd).mono sM1).ex
      refine ⟨_, rfl, _, rfl, (by show 2 ≤ sizeLine; decide), fun u hu => ?_⟩
      have s2 := same_new (o := .lst [.ref r, .ref s]) hu
      have eu := upd_same (H := M) (a := u) (o := .lst [.ref r, .ref s])
      have sM2 := Same.trans sM s2
      generalize upd M u (.lst [.ref r, .ref s]) = M2 at s2 eu sM2 ⊢
      refine ⟨_, rfl, u, _, _, _, rfl, rfl, SqL.of eu, rowAt kd, fun d1 hd1 => fun d2 hd2 => ⟨_, _, _, rfl, ?_⟩⟩
      have s3 := same_new (o := .dK []) hd1
      have s4 := Same.trans s3 (same_new (o := .dK []) hd2)
      have n12 : d1 ≠ d2 := ne_of_none upd_same hd2
      have ed1 : (upd (upd M2 d1 (.dK [])) d2 (.dK [])) d1 = some (.dK []) := by rw [upd_ne n12]; exact upd_same
      have ed2 : (upd (upd M2 d1 (.dK [])) d2 (.dK [])) d2 = some (.dK []) := upd_same
      have d10 : M2 d1 = none := hd1
      have d20 : M2 d2 = none := sN s3 hd2
      generalize upd (upd M2 d1 (.dK [])) d2 (.dK []) = M4 at s4 ed1 ed2 ⊢
      have sM4 := Same.trans sM2 s4
      have sH4 := Same.trans s1 sM4
      have sH2 := Same.trans s1 sM2
      have hz1 := s2.seq hz1
      have hz2 := hz2.mono s2
      have ew2 := sM2 _ _ ew
      obtain ⟨xs0, ta, xa, ea0, ea1, ea2, ea3, _, _⟩ := row_at (hA.mono sH2) kd
      obtain ⟨ys0, tb, xb, eb0, eb1, eb2, eb3, _, _⟩ := row_at (hB.mono sH2) kd
      refine ⟨_, rfl, _, zs, rfl, s4.seq hz1, for_enumL (K := K) (xs := zs) (fun j σ L => ∃ (x10 x11 x12 : Option V) (S T : Int → Bool), σ = [some (.ref p), some (.ref q), some (.int n), some (.ref r), some (.ref s), some (.ref wd), some (.int (0 + ((if kd = true then 1 else 0 : Nat) : Int))), some (.ref (if kd = true then s else r)), some (.ref d1), some (.ref d2), x10, x11, x12, none, none, none] ∧ Same M2 L ∧ LdAt L d1 S j ∧ LdAt L d2 T j ∧ j ≤ zs.length ∧ wrongF (A.kind kd) (B.kind kd) n 0 (fun _ => false) (fun _ => false) (rowK r1 r2 kd) = wrongF (A.kind kd) (B.kind kd) n j S T ((rowK r1 r2 kd).drop j))
        ⟨x10, x11, x12, fun _ => false, fun _ => false, rfl, s4, ⟨[], ed1, fun _ => rfl, Nat.le_refl _⟩, ⟨[], ed2, fun _ => rfl, Nat.le_refl _⟩, Nat.zero_le _, rfl⟩ (fun j σ L h => ?_) ?_ ?_⟩
      · obtain ⟨_, _, _, _, _, _, h, _⟩ := h
        exact h.seq hz1
      · rintro j x T' σ L hx ⟨y10, y11, y12, S, T, rfl, s5, ⟨kv1, f1, g1, l1⟩, ⟨kv2, f2, g2, l2⟩, lj, wr⟩ hT'
        obtain ⟨t, pr, hp, rfl, ht⟩ := hz2.2 j x hx
        have hil := (List.getElem?_eq_some_iff.mp hp).1
        obtain ⟨b1, b2⟩ := (kin kd).2 pr (List.mem_of_getElem? hp)
        have lk := (kin kd).1
        have hd : (rowK r1 r2 kd).drop j = pr :: (rowK r1 r2 kd).drop (j + 1) := by rw [List.drop_eq_getElem_cons hil, ← (List.getElem?_eq_some_iff.mp hp).2]
        rw [hd, wrongF] at wr
        have s6 := same_new (o := .tup [.int (j : Nat), .ref t]) hT'
        have eT := upd_same (H := L) (a := T') (o := .tup [.int (j : Nat), .ref t])
        have s56 := Same.trans s5 s6
        have f1 := s6 _ _ f1
        have f2 := s6 _ _ f2
        generalize upd L T' (.tup [.int (j : Nat), .ref t]) = L6 at s6 eT s56 f1 f2 ⊢
        have sH6 : Same H L6 := Same.trans sH2 s56
        have S1 : (valV kv1 (.inl pr.1)).isSome = S pr.1 := g1 pr.1
        have T1 : (valV kv2 (.inl pr.2)).isSome = T pr.2 := g2 pr.2
        obtain ⟨tx, q1, q2⟩ := pair_at (K := K) ea3 b1.1 b1.2
        obtain ⟨ty, q3, q4⟩ := pair_at (K := K) eb3 b2.1 b2.2
        have outF : ((S pr.1 || (T pr.2 || !nearP (getP (A.kind kd) pr.1) (getP (B.kind kd) pr.2) n)) = true) → ∀ v M', Same H M' → M' v = some (.tup [.str "M1", .str (kindW kd), .int (j : Nat)]) → Q (.ref v) M' := fun c v M' h1 h2 => by
          rw [if_pos c] at wr
          have wj : wrongAt A B n kd (rowK r1 r2 kd) = some (.m1 kd j) := by unfold wrongAt; rw [wr]; rfl
          have ef : faultF A B n r1 r2 = some (.m1 kd j) := by
            unfold faultF
            cases kd
            · exact fst_some wj
            · exact (fst_none (w1 (by decide))).trans (fst_some wj)
          exact k _ M' h1 (by rw [ef]; exact ⟨v, rfl, h2⟩)
        refine ⟨T', _, rfl, SqT.of eT, rfl, _, _, rfl, _, _, rfl, t, _, rfl, sqT_mono s56 ht, rfl, _, _, rfl, _, _, rfl, rfl, rfl, ?_⟩
        refine ⟨_, rfl, _, rfl, d1, _, rfl, .inl ⟨kv1, .inl pr.1, .inl f1, rfl, rfl⟩, _, rfl, ite_b (fun c1 => iteT ?_) (fun c1 => ?_)⟩
        · have out := outF (by rw [← S1, c1, Bool.true_or])
          exact (⟨_, rfl, _, rfl, wd, _, _, _, rfl, rfl, SqL.of (s56 _ _ ew2), wordAt kd, _, rfl, (by show 3 ≤ sizeLine; decide), fun v hv => out v _ (Same.trans sH6 (same_new hv)) upd_same⟩)
        · refine ⟨_, rfl, _, rfl, d2, _, rfl, .inl ⟨kv2, .inl pr.2, .inl f2, rfl, rfl⟩, _, rfl, ite_b (fun c2 => iteT ?_) (fun c2 => ?_)⟩
          · have out := outF (by rw [← T1, c2, Bool.true_or, Bool.or_true])
            exact (⟨_, rfl, _, rfl, wd, _, _, _, rfl, rfl, SqL.of (s56 _ _ ew2), wordAt kd, _, rfl, (by show 3 ≤ sizeLine; decide), fun v hv => out v _ (Same.trans sH6 (same_new hv)) upd_same⟩)
          · refine ⟨_, rfl, _, rfl, p, xs0, _, _, rfl, rfl, SqL.of (s56 _ _ ea0), ea1, _, rfl, ta, xa, _, _, rfl, rfl, SqL.of (s56 _ _ ea2), q1, _, rfl, _, rfl, q, ys0, _, _, rfl, rfl, SqL.of (s56 _ _ eb0), eb1, _, rfl, tb, xb, _, _, rfl, rfl, SqL.of (s56 _ _ eb2), q3, _, rfl, tx, ty, _, _, n, rfl, sqT_mono s56 q2, sqT_mono s56 q4, _, rfl, ite_b (fun c3 => ?_) (fun c3 => ?_)⟩
            · have out := outF (by rw [c3, Bool.or_true, Bool.or_true])
              exact (⟨_, rfl, _, rfl, wd, _, _, _, rfl, rfl, SqL.of (s56 _ _ ew2), wordAt kd, _, rfl, (by show 3 ≤ sizeLine; decide), fun v hv => out v _ (Same.trans sH6 (same_new hv)) upd_same⟩)
            · rw [if_neg (by rw [← S1, ← T1, c1, c2, c3]; decide)] at wr
              refine ⟨(by show 2 ≤ sizeLine; decide), fun z hz => ?_⟩
              have s7 := same_new (o := .tup [.bl true, .bl true]) hz
              have ez := upd_same (H := L6) (a := z) (o := .tup [.bl true, .bl true])
              have s57 := Same.trans s56 s7
              have f1 := s7 _ _ f1
              have f2 := s7 _ _ f2
              generalize upd L6 z (.tup [.bl true, .bl true]) = L7 at s7 ez s57 f1 f2 ⊢
              have lj2 : j ≤ 100 := by rw [hz2.1] at lj; omega
              refine ⟨z, _, rfl, SqT.of ez, rfl, _, _, rfl, _, rfl, _, rfl, d1, _, rfl, .inl ⟨kv1, .inl pr.1, f1, rfl, by rw [sizeLine_eq]; omega, rfl⟩, _, _, rfl, _, rfl, _, rfl, d2, _, rfl, .inl ⟨kv2, .inl pr.2, by rw [upd_ne n12.symm]; exact f2, rfl, by rw [sizeLine_eq]; omega, rfl⟩, rfl, ?_⟩
              refine ⟨_, _, _, orIs S pr.1, orIs T pr.2, rfl, fun c o hc => ?_, ⟨putK kv1 (.inl pr.1) (.bl true), by rw [upd_ne n12]; exact upd_same, LdAt.put g1, Nat.le_trans isl_put (by omega)⟩, ⟨putK kv2 (.inl pr.2) (.bl true), upd_same, LdAt.put g2, Nat.le_trans isl_put (by omega)⟩, by rw [hz2.1]; omega, wr⟩
              rw [upd_ne (ne_of_none hc d20), upd_ne (ne_of_none hc d10)]
              exact s57 _ _ hc
      · rintro σ L ⟨y10, y11, y12, S, T, rfl, s5, _, _, lj, wr⟩
        rw [hz2.1, List.drop_length] at wr
        have wj : wrongAt A B n kd (rowK r1 r2 kd) = none := by unfold wrongAt; rw [wr]; rfl
        refine ⟨_, _, _, _, _, _, _, rfl, Same.trans sM2 s5, ?_⟩
        cases kd
        · exact ⟨fun _ => wj, fun h => absurd h (by decide)⟩
        · exact ⟨fun _ => w1 (by decide), fun _ => wj⟩
    · rintro σ M ⟨x6, x7, x8, x9, x10, x11, x12, rfl, sM, w1, w2⟩
      have w1 := w1 (by decide)
      have w2 := w2 (by decide)
      have fiveAt : ∀ wh : Bool, atI ([.ref p, .ref q] : List V) (0 + ((if wh = true then 1 else 0 : Nat) : Int)) = some (.ref (if wh = true then q else p)) := fun wh => by cases wh <;> rfl
      have whB : ∀ wh : Bool, (0 + ((if wh = true then 1 else 0 : Nat) : Int)) = b2n wh := fun wh => by cases wh <;> rfl
      refine ⟨_, rfl, by omega, by omega, for_range (lo := 0) (n := 2) (fun i σ M => ∃ (x6 x7 x8 x9 x10 x11 x12 x13 x14 x15 : Option V), σ = [some (.ref p), some (.ref q), some (.int n), some (.ref r), some (.ref s), some (.ref wd), x6, x7, x8, x9, x10, x11, x12, x13, x14, x15] ∧ Same H1 M ∧ (0 < i → leftAt A B n false false r1 = none ∧ leftAt A B n false true r1 = none) ∧ (1 < i → leftAt A B n true false r2 = none ∧ leftAt A B n true true r2 = none))
        ⟨x6, x7, x8, x9, x10, x11, x12, none, none, none, rfl, sM, fun h => absurd h (by decide), fun h => absurd h (by decide)⟩ ?_ ?_⟩
      · rintro i σ M hi ⟨x6, x7, x8, x9, x10, x11, x12, x13, x14, x15, rfl, sM, v1, v2⟩
        obtain ⟨kd, rfl⟩ : ∃ kd : Bool, i = if kd = true then 1 else 0 := by
          match i, hi with
          | 0, _ => exact ⟨false, rfl⟩
          | 1, _ => exact ⟨true, rfl⟩
        refine ⟨_, rfl, by omega, by omega, for_range (lo := 0) (n := 2) (fun m σ L => ∃ (x10 x13 x14 x15 : Option V), σ = [some (.ref p), some (.ref q), some (.int n), some (.ref r), some (.ref s), some (.ref wd), some (.int (0 + ((if kd = true then 1 else 0 : Nat) : Int))), x7, x8, x9, x10, x11, x12, x13, x14, x15] ∧ Same H1 L ∧ (0 < m → leftAt A B n kd false (rowK r1 r2 kd) = none) ∧ (1 < m → leftAt A B n kd true (rowK r1 r2 kd) = none))
          ⟨x10, x13, x14, x15, rfl, sM, fun h => absurd h (by decide), fun h => absurd h (by decide)⟩ ?_ ?_⟩
        · rintro m σ L hm ⟨y10, y13, y14, y15, rfl, sL, y1, y2⟩
          obtain ⟨wh, rfl⟩ : ∃ wh : Bool, m = if wh = true then 1 else 0 := by
            match m, hm with
            | 0, _ => exact ⟨false, rfl⟩
            | 1, _ => exact ⟨true, rfl⟩
          have sHL := Same.trans s1 sL
          obtain ⟨zs, hz1, hz2⟩ := ((rows_of hr1 hr2 kd).mono sHL).ex
          have lk := (kin kd).1
          refine ⟨_, rfl, _, rfl, (by show 2 ≤ sizeLine; decide), fun u hu => ?_⟩
          have s2 := same_new (o := .lst [.ref r, .ref s]) hu
          have eu := upd_same (H := L) (a := u) (o := .lst [.ref r, .ref s])
          have sL2 := Same.trans sL s2
          have hz1 := s2.seq hz1
          have hz2 := hz2.mono s2
          generalize upd L u (.lst [.ref r, .ref s]) = L2' at s2 eu sL2 hz1 hz2 ⊢
          refine ⟨_, rfl, u, _, _, _, rfl, rfl, SqL.of eu, rowAt kd, _, rfl, ⟨_, hz1⟩, fun D hD => lc_list (K := K) (a := (if kd = true then s else r)) (xs := zs) (fun i H => Same L2' H ∧ H D = some (.lst ((((rowK r1 r2 kd).map fun r => if wh = true then r.2 else r.1).take i).map V.int))) ⟨same_new hD, upd_same⟩ (fun i H _ h => h.1.seq hz1) ?_ ?_⟩
          · rintro i y H4 hi ⟨s4, e4⟩
            obtain ⟨t, pr, hp, rfl, ht⟩ := hz2.2 i y hi
            refine ⟨rfl, _, rfl, _, rfl, t, _, _, .int (if wh = true then pr.2 else pr.1), rfl, rfl, sqT_mono s4 ht, ?_, _, e4, by rw [List.length_map, sizeLine_eq, List.length_take, List.length_map]; omega, fun b o h => ?_, ?_⟩
            · cases wh <;> rfl
            · rw [upd_ne (ne_of_none h hD)]
              exact s4 _ _ h
            · rw [upd_same, List.take_add_one, List.getElem?_map, hp, List.map_append]
              rfl
          · rintro H4 ⟨s4, e4⟩
            rw [hz2.1, ← List.length_map (fun r => if wh = true then r.2 else r.1), List.take_length] at e4
            have sL4 := Same.trans sL2 s4
            refine ⟨_, rfl, _, rfl, (by show 2 ≤ sizeLine; decide), fun u2 hu2 => ?_⟩
            have s5 := same_new (o := .lst [.ref p, .ref q]) hu2
            have eu2 := upd_same (H := H4) (a := u2) (o := .lst [.ref p, .ref q])
            have e45 := s5 _ _ e4
            have sL5 := Same.trans sL4 s5
            generalize upd H4 u2 (.lst [.ref p, .ref q]) = H5 at s5 eu2 e45 sL5 ⊢
            have sH5 := Same.trans s1 sL5
            obtain ⟨xs0, ta, xa, ea0, ea1, ea2, ea3, _, _⟩ := row_at (five_pick (hA.mono sH5) (hB.mono sH5) wh) kd
            refine ⟨_, rfl, u2, _, _, _, rfl, rfl, SqL.of eu2, fiveAt wh, _, rfl, _, xs0, _, _, rfl, rfl, SqL.of ea0, ea1, ta, xa, rfl, SqL.of ea2, for_enumL (K := K) (xs := xa) (fun j σ N => ∃ (x10 x15 : Option V), σ = [some (.ref p), some (.ref q), some (.int n), some (.ref r), some (.ref s), some (.ref wd), some (.int (0 + ((if kd = true then 1 else 0 : Nat) : Int))), x7, x8, x9, x10, x11, x12, some (.int (0 + ((if wh = true then 1 else 0 : Nat) : Int))), some (.ref D), x15] ∧ Same H5 N ∧ leftF n (usedF wh (rowK r1 r2 kd)) 0 ((if wh = true then B else A).kind kd) = leftF n (usedF wh (rowK r1 r2 kd)) j (((if wh = true then B else A).kind kd).drop j))
              ⟨y10, y15, rfl, Same.refl _, rfl⟩ (fun j σ N h => ?_) ?_ ?_⟩
            · obtain ⟨_, _, _, h, _⟩ := h
              exact SqL.of (h _ _ ea2)
            · rintro j x T' σ N hx ⟨z10, z15, rfl, s6, wl⟩ hT'
              obtain ⟨t, pr, hp, rfl, ht⟩ := ea3.2 j x hx
              have hil := (List.getElem?_eq_some_iff.mp hp).1
              have hd : ((if wh = true then B else A).kind kd).drop j = pr :: ((if wh = true then B else A).kind kd).drop (j + 1) := by rw [List.drop_eq_getElem_cons hil, ← (List.getElem?_eq_some_iff.mp hp).2]
              rw [hd, leftF] at wl
              have s7 := same_new (o := .tup [.int (j : Nat), .ref t]) hT'
              have eT := upd_same (H := N) (a := T') (o := .tup [.int (j : Nat), .ref t])
              have s67 := Same.trans s6 s7
              generalize upd N T' (.tup [.int (j : Nat), .ref t]) = N7 at s7 eT s67 ⊢
              have pt : PrAt K N7 t pr := SqT.of (s67 _ _ ht)
              have un : decide (V.int 0 = V.int 0) = true := rfl
              refine ⟨T', _, rfl, SqT.of eT, rfl, _, _, rfl, _, _, rfl, rfl, ?_⟩
              refine ⟨_, rfl, t, _, 1, _, rfl, rfl, pt, rfl, _, rfl, t, _, 0, _, rfl, rfl, pt, rfl, _, _, rfl, rfl, _, rfl, _, _, rfl, rfl, _, rfl, ite_b (fun c1 => ?_) (fun c1 => ?_)⟩
              · refine ⟨_, rfl, _, rfl, D, _, rfl, .inl (SqL.of (s67 _ _ e45)), rfl, flat_ints _, _, rfl, ?_⟩
                rw [inV_ints]
                refine ite_b (fun c2 => ?_) (fun c2 => ?_)
                · have cc : (decide (pr.2 - pr.1 > n) && !usedF wh (rowK r1 r2 kd) ((j : Nat) : Int)) = true := Bool.and_eq_true_iff.mpr ⟨c1, c2⟩
                  rw [if_pos cc] at wl
                  have wj : leftAt A B n kd wh (rowK r1 r2 kd) = some (.m2 kd wh j) := by unfold leftAt; rw [wl]; rfl
                  have ef : faultF A B n r1 r2 = some (.m2 kd wh j) := by
                    unfold faultF
                    refine (fst_none w1).trans ((fst_none w2).trans ?_)
                    cases kd
                    · cases wh
                      · exact fst_some wj
                      · exact (fst_none (y1 (by decide))).trans (fst_some wj)
                    · refine (fst_none (v1 (by decide)).1).trans ((fst_none (v1 (by decide)).2).trans ?_)
                      cases wh
                      · exact fst_some wj
                      · exact (fst_none (y1 (by decide))).trans (fst_some wj)
                  refine ⟨_, rfl, _, rfl, wd, _, _, _, rfl, rfl, SqL.of (s67 _ _ (sL5 _ _ ew)), wordAt kd, _, rfl, _, rfl, (by show 4 ≤ sizeLine; decide), fun v hv => k _ _ (Same.trans (Same.trans sH5 s67) (same_new hv)) ?_⟩
                  rw [ef]
                  refine ⟨v, rfl, ?_⟩
                  rw [upd_same, whB]
                  rfl
                · have cc : ¬ (decide (pr.2 - pr.1 > n) && !usedF wh (rowK r1 r2 kd) ((j : Nat) : Int)) = true := fun e => by
                    have h := (Bool.and_eq_true_iff.mp e).2
                    exact absurd (h.symm.trans c2) (by decide)
                  rw [if_neg cc] at wl
                  exact ⟨_, _, rfl, s67, wl⟩
              · have cc : ¬ (decide (pr.2 - pr.1 > n) && !usedF wh (rowK r1 r2 kd) ((j : Nat) : Int)) = true := fun e => by
                  have h := (Bool.and_eq_true_iff.mp e).1
                  exact absurd (h.symm.trans c1) (by decide)
                rw [if_neg cc] at wl
                exact iteF ⟨_, _, rfl, s67, wl⟩
            · rintro σ N ⟨z10, z15, rfl, s6, wl⟩
              rw [ea3.1, List.drop_length] at wl
              have wj : leftAt A B n kd wh (rowK r1 r2 kd) = none := by unfold leftAt; rw [wl]; rfl
              refine ⟨_, _, _, _, rfl, Same.trans sL5 s6, ?_⟩
              cases wh
              · exact ⟨fun _ => wj, fun h => absurd h (by decide)⟩
              · exact ⟨fun _ => y1 (by decide), fun _ => wj⟩
        · rintro σ L ⟨y10, y13, y14, y15, rfl, sL, y1, y2⟩
          have y1 := y1 (by decide)
          have y2 := y2 (by decide)
          refine ⟨_, _, _, _, _, _, _, _, _, _, rfl, sL, ?_⟩
          cases kd
          · exact ⟨fun _ => ⟨y1, y2⟩, fun h => absurd h (by decide)⟩
          · exact ⟨fun _ => v1 (by decide), fun _ => ⟨y1, y2⟩⟩
      · rintro σ M ⟨x6, x7, x8, x9, x10, x11, x12, x13, x14, x15, rfl, sM, v1, v2⟩
        obtain ⟨v1, v2'⟩ := v1 (by decide)
        obtain ⟨v3, v4⟩ := v2 (by decide)
        have ef : faultF A B n r1 r2 = farAt A B n := by
          unfold faultF
          exact (fst_none w1).trans ((fst_none w2).trans ((fst_none v1).trans ((fst_none v2').trans ((fst_none v3).trans (fst_none v4)))))
        rw [ef] at k
        have sH := Same.trans s1 sM
        obtain ⟨pa, pb, pl, ep, _, _, el⟩ := (hA.mono sH).ex
        obtain ⟨qa, qb, ql, eq, _, _, em⟩ := (hB.mono sH).ex
        refine ⟨_, rfl, p, _, 2, _, rfl, rfl, SqL.of ep, rfl, pl, _, rfl, SqL.of el, ?_⟩
        rw [List.length_map]
        refine ⟨_, rfl, by omega, by have := hA.le; omega, ?_⟩
        refine for_range (lo := 0) (n := A.li.length) (fun i σ L => ∃ x10 : Option V, σ = [some (.ref p), some (.ref q), some (.int n), some (.ref r), some (.ref s), some (.ref wd), x6, x7, x8, x9, x10, x11, x12, x13, x14, x15] ∧ Same M L ∧ looseF n 0 A.li B.li = looseF n i (A.li.drop i) (B.li.drop i))
          ⟨x10, rfl, Same.refl _, rfl⟩ ?_ ?_
        · rintro i σ L hi ⟨z10, rfl, sL, wl⟩
          have hib : i < B.li.length := by omega
          have da : A.li.drop i = A.li[i] :: A.li.drop (i + 1) := List.drop_eq_getElem_cons hi
          have db : B.li.drop i = B.li[i] :: B.li.drop (i + 1) := List.drop_eq_getElem_cons hib
          rw [da, db, looseF] at wl
          have ti : (0 + ((i : Nat) : Int)).toNat = i := by omega
          obtain ⟨va, a1, a2, _⟩ := at_pos (xs := A.li.map V.int) (i := 0 + ((i : Nat) : Int)) (by omega) (by rw [List.length_map]; omega)
          obtain ⟨vb, b1, b2, _⟩ := at_pos (xs := B.li.map V.int) (i := 0 + ((i : Nat) : Int)) (by omega) (by rw [List.length_map]; omega)
          rw [ti, List.getElem?_map, List.getElem?_eq_getElem hi] at a2
          rw [ti, List.getElem?_map, List.getElem?_eq_getElem hib] at b2
          cases a2
          cases b2
          refine ⟨_, rfl, p, _, 2, _, rfl, rfl, SqL.of (sL _ _ ep), rfl, _, rfl, pl, _, _, _, rfl, rfl, SqL.of (sL _ _ el), a1, _, rfl, q, _, 2, _, rfl, rfl, SqL.of (sL _ _ eq), rfl, _, rfl, ql, _, _, _, rfl, rfl, SqL.of (sL _ _ em), b1, _, rfl, _, _, n, rfl, _, rfl, ?_⟩
          refine ite_b (fun c => ?_) (fun c => ?_)
          · have c : near1 A.li[i] B.li[i] n = false := by simpa using c
            rw [if_neg (by rw [c]; exact Bool.false_ne_true)] at wl
            refine ⟨_, rfl, (by show 3 ≤ sizeLine; decide), fun v hv => k _ _ (Same.trans (Same.trans sH sL) (same_new hv)) ?_⟩
            have ff : farAt A B n = some (.m3 i) := by unfold farAt; rw [wl]; rfl
            rw [ff]
            refine ⟨v, rfl, ?_⟩
            rw [upd_same, Int.zero_add]
            rfl
          · have c : near1 A.li[i] B.li[i] n = true := by simpa using c
            rw [if_pos c] at wl
            exact ⟨_, rfl, sL, wl⟩
        · rintro σ L ⟨z10, rfl, sL, wl⟩
          rw [List.drop_length, hl, List.drop_length, show ∀ z, looseF n z [] [] = [] from fun z => rfl] at wl
          have ep := sL _ _ ep
          have eq := sL _ _ eq
          have sHL := Same.trans sH sL
          refine ⟨_, rfl, p, _, 3, _, rfl, rfl, SqL.of ep, rfl, _, rfl, q, _, 3, _, rfl, rfl, SqL.of eq, rfl, _, rfl, _, _, n, rfl, _, rfl, ite_b (fun c => ?_) (fun c => ?_)⟩
          · have c : near1 A.lo B.lo n = false := by simpa using c
            refine ⟨(by show 3 ≤ sizeLine; decide), fun v hv => k _ _ (Same.trans sHL (same_new hv)) ?_⟩
            have ff : farAt A B n = some .lo := by unfold farAt; rw [wl, c]; rfl
            rw [ff]
            exact ⟨v, rfl, upd_same⟩
          · have c : near1 A.lo B.lo n = true := by simpa using c
            refine ⟨_, rfl, p, _, 4, _, rfl, rfl, SqL.of ep, rfl, _, rfl, q, _, 4, _, rfl, rfl, SqL.of eq, rfl, _, rfl, _, _, n, rfl, _, rfl, ite_b (fun c2 => ?_) (fun c2 => ?_)⟩
            · have c2 : near1 A.hi B.hi n = false := by simpa using c2
              refine ⟨(by show 3 ≤ sizeLine; decide), fun v hv => k _ _ (Same.trans sHL (same_new hv)) ?_⟩
              have ff : farAt A B n = some .hi := by unfold farAt; rw [wl, c, c2]; rfl
              rw [ff]
              exact ⟨v, rfl, upd_same⟩
            · have c2 : near1 A.hi B.hi n = true := by simpa using c2
              have ff : farAt A B n = none := by unfold farAt; rw [wl, c, c2]; rfl
              exact k .non L sHL (by rw [ff]; rfl)
end
end Lw
namespace Lw
open PySem PySem.Spec PyProof.Rows L2 XV TL XM DO
/-! the rows of a matching: nothing is wrong with them -/
theorem bits_nat : ∀ m : Fin 32, ∀ j : Fin 5, m.val / (1 * 2 ^ j.val) % 2 = 0 → m.val + 1 * 2 ^ j.val < 32 ∧ ∀ i : Fin 5, (m.val + 1 * 2 ^ j.val) / (1 * 2 ^ i.val) % 2 = if i = j then 1 else m.val / (1 * 2 ^ i.val) % 2 := by decide +kernel
theorem bitF_nat (m j : Nat) : bitF (m : Int) j = ((m / (1 * 2 ^ j) % 2 : Nat) : Int) := by
  unfold bitF
  rw [Int.natCast_emod, Int.natCast_ediv, Int.natCast_mul, Int.natCast_pow]
  rfl
structure OkM (one two : List Pr) (n : Int) (i : Nat) (mask : Int) (rs : List Pr) : Prop where
  m : ∃ m : Nat, mask = m ∧ m < 32
  bit : ∀ j : Nat, j < 5 → (bitF mask j = 1 ↔ ((j : Nat) : Int) ∈ rs.map (·.2))
  row : ∀ r ∈ rs, (0 ≤ r.1 ∧ r.1 < i) ∧ (0 ≤ r.2 ∧ r.2 < two.length) ∧ nearP (getP one r.1) (getP two r.2) n = true
  nd1 : (rs.map (·.1)).Nodup
  nd2 : (rs.map (·.2)).Nodup
  long : ∀ a : Nat, a < i → n < lifeP (getP one a) → ((a : Nat) : Int) ∈ rs.map (·.1)
theorem OkM.keep {one two : List Pr} {n : Int} {i : Nat} {mask : Int} {rs : List Pr} (h : OkM one two n i mask rs) (hl : lifeP (getP one i) ≤ n) : OkM one two n (i + 1) mask rs :=
  ⟨h.m, h.bit, fun r hr => by obtain ⟨a, b, c⟩ := h.row r hr; exact ⟨⟨a.1, by omega⟩, b, c⟩, h.nd1, h.nd2, fun a ha hn => by
    by_cases e : a = i
    · subst e; omega
    · exact h.long a (by omega) hn⟩
theorem nodup_snoc {l : List Int} {x : Int} (h : l.Nodup) (hx : x ∉ l) : (l ++ [x]).Nodup :=
  List.nodup_append.mpr ⟨h, List.nodup_cons.mpr ⟨by simp, List.nodup_nil⟩, fun a ha b hb e => hx (by cases List.mem_singleton.mp hb; rw [← e]; exact ha)⟩
theorem OkM.add {one two : List Pr} {n : Int} {i j : Nat} {mask : Int} {rs : List Pr} (h : OkM one two n i mask rs) (hj : j < two.length) (l5 : two.length ≤ 5) (hb : bitF mask j = 0) (hn : nearP (getP one i) (getP two j) n = true) : OkM one two n (i + 1) (mask + 1 * 2 ^ j) (rs ++ [((i : Int), (j : Int))]) := by
  obtain ⟨m, rfl, hm⟩ := h.m
  have hj5 : j < 5 := by omega
  rw [bitF_nat] at hb
  obtain ⟨b1, b2⟩ := bits_nat ⟨m, hm⟩ ⟨j, hj5⟩ (by exact_mod_cast hb)
  have em : ((m : Nat) : Int) + 1 * 2 ^ j = ((m + 1 * 2 ^ j : Nat) : Int) := by
    rw [Int.natCast_add, Int.natCast_mul, Int.natCast_pow]
    rfl
  have nj : ((j : Nat) : Int) ∉ rs.map (·.2) := fun z => by
    have := (h.bit j hj5).mpr z
    rw [bitF_nat] at this
    omega
  have ni : ((i : Nat) : Int) ∉ rs.map (·.1) := fun z => by
    obtain ⟨r, hr, e⟩ := List.mem_map.mp z
    have := (h.row r hr).1
    omega
  refine ⟨⟨_, em, b1⟩, fun k hk => ?_, fun r hr => ?_, ?_, ?_, fun a ha hl => ?_⟩
  · rw [em, bitF_nat, b2 ⟨k, hk⟩, List.map_append, List.mem_append]
    by_cases e : k = j
    · subst e
      rw [if_pos rfl]
      exact ⟨fun _ => .inr (by simp), fun _ => rfl⟩
    · rw [if_neg (fun z => e (by injection z)), ← bitF_nat]
      refine ⟨fun z => .inl ((h.bit k hk).mp z), fun z => (h.bit k hk).mpr (z.elim id fun w => ?_)⟩
      have : ((k : Nat) : Int) = j := by simpa using w
      omega
  · rcases List.mem_append.mp hr with hr | hr
    · obtain ⟨a, b, c⟩ := h.row r hr
      exact ⟨⟨a.1, by omega⟩, b, c⟩
    · cases List.mem_singleton.mp hr
      exact ⟨⟨by show 0 ≤ (i : Int); omega, by show (i : Int) < _; omega⟩, ⟨by show 0 ≤ (j : Int); omega, by show (j : Int) < _; omega⟩, hn⟩
  · rw [List.map_append]
    exact nodup_snoc h.nd1 ni
  · rw [List.map_append]
    exact nodup_snoc h.nd2 nj
  · rw [List.map_append, List.mem_append]
    by_cases e : a = i
    · subst e
      exact .inr (by simp)
    · exact .inl (h.long a (by omega) hl)
def AllOk (one two : List Pr) (n : Int) (i : Nat) (ms : Ms) : Prop := ∀ e ∈ ms, OkM one two n i e.1 e.2
theorem AllOk.put {one two : List Pr} {n : Int} {i : Nat} {ms : Ms} {k : Int} {v : List Pr} (h : AllOk one two n i ms) (hv : OkM one two n i k v) : AllOk one two n i (putM ms k v) := by
  intro e he
  unfold putM at he
  split at he
  · obtain ⟨e', h1, rfl⟩ := List.mem_map.mp he
    by_cases c : e'.1 = k
    · rw [if_pos c]
      show OkM one two n i e'.1 v
      rw [c]
      exact hv
    · rw [if_neg c]
      exact h e' h1
  · rcases List.mem_append.mp he with h1 | h1
    · exact h e h1
    · cases List.mem_singleton.mp h1
      exact hv
theorem valM_mem {k : Int} : ∀ {ms : Ms}, k ∈ ms.map (·.1) → (k, valM ms k) ∈ ms
  | [], h => by cases h
  | e :: ms, h => by
    rw [valM]
    by_cases c : e.1 = k
    · rw [if_pos c]
      subst c
      exact List.mem_cons_self
    · rw [if_neg c]
      rw [List.map_cons, List.mem_cons] at h
      exact List.mem_cons_of_mem _ (valM_mem (h.resolve_left fun z => c z.symm))
theorem inF_ok {one two : List Pr} {n : Int} {i : Nat} {p : Pr} {mask : Int} {rs : List Pr} (hp : getP one i = p) (l5 : two.length ≤ 5) (h : OkM one two n i mask rs) : ∀ (j : Nat) (qs : List Pr) (f : Ms), two.drop j = qs → AllOk one two n (i + 1) f → AllOk one two n (i + 1) (inF p i n mask rs j qs f)
  | _, [], f, _, hf => hf
  | j, q :: qs, f, hd, hf => by
    have hj : j < two.length := by
      apply Classical.byContradiction
      intro z
      rw [List.drop_of_length_le (by omega)] at hd
      cases hd
    have hq : getP two j = q := by
      have : two[j]? = some q := by rw [← List.head?_drop, hd]; rfl
      unfold getP
      rw [Int.toNat_natCast, this]
      rfl
    have hd2 : two.drop (j + 1) = qs := by rw [← List.drop_drop, hd]; rfl
    rw [inF]
    refine inF_ok hp l5 h (j + 1) qs _ hd2 ?_
    split
    · rename_i c
      obtain ⟨c1, c2⟩ := Bool.and_eq_true_iff.mp c
      exact hf.put (h.add hj l5 (of_decide_eq_true c1) (by rw [hp, hq]; exact c2))
    · exact hf
theorem maskF_ok {one two : List Pr} {n : Int} {i : Nat} {p : Pr} {all : Ms} (hp : getP one i = p) (l5 : two.length ≤ 5) (h : AllOk one two n i all) : ∀ (ks : List Int) (f : Ms), (∀ k ∈ ks, k ∈ all.map (·.1)) → AllOk one two n (i + 1) f → AllOk one two n (i + 1) (maskF p i n two all ks f)
  | [], f, _, hf => hf
  | k :: ks, f, hk, hf => by
    have hv := h _ (valM_mem (hk k (by simp)))
    rw [maskF]
    refine maskF_ok hp l5 h ks _ (fun k' h' => hk k' (by simp [h'])) (inF_ok hp l5 hv 0 two _ rfl ?_)
    split
    · rename_i c
      exact hf.put (hv.keep (by rw [hp]; exact c))
    · exact hf
theorem allF_ok {one two : List Pr} {n : Int} (l5 : two.length ≤ 5) : ∀ (i : Nat) (ps : List Pr) (ms : Ms), one.drop i = ps → AllOk one two n i ms → AllOk one two n one.length (allF n two i ps ms) ∨ one.length < i
  | i, [], ms, hd, h => by
    by_cases e : i = one.length
    · subst e; exact .inl h
    · right
      apply Classical.byContradiction
      intro z
      have : (one.drop i).length = 0 := by rw [hd]; rfl
      rw [List.length_drop] at this
      omega
  | i, p :: ps, ms, hd, h => by
    have hi : i < one.length := by
      apply Classical.byContradiction
      intro z
      rw [List.drop_of_length_le (by omega)] at hd
      cases hd
    have hp : getP one i = p := by
      have : one[i]? = some p := by rw [← List.head?_drop, hd]; rfl
      unfold getP
      rw [Int.toNat_natCast, this]
      rfl
    have hd2 : one.drop (i + 1) = ps := by rw [← List.drop_drop, hd]; rfl
    rw [allF]
    rcases allF_ok l5 (i + 1) ps _ hd2 (maskF_ok hp l5 h _ [] (fun k hk => hk) (fun e he => by cases he)) with h1 | h1
    · exact .inl h1
    · exact .inr (by omega)
end Lw
namespace Lw
open PySem PySem.Spec PyProof.Rows L2 XV TL XM DO
theorem pickF_ok {two : List Pr} {n : Int} {all : Ms} : ∀ {ks : List Int} {rs : List Pr}, pickF two n all ks = some rs → ∃ mask ∈ ks, goodM two n mask = true ∧ rs = valM all mask
  | [], _, h => by cases h
  | k :: ks, rs, h => by
    rw [pickF] at h
    by_cases c : goodM two n k = true
    · rw [if_pos c] at h
      cases h
      exact ⟨k, by simp, c, rfl⟩
    · rw [if_neg c] at h
      obtain ⟨m, h1, h2, h3⟩ := pickF_ok h
      exact ⟨m, by simp [h1], h2, h3⟩
theorem goodL_at {two : List Pr} {n mask : Int} : ∀ (k : Nat) (qs : List Pr), (goodL two n mask k qs).all id = true → ∀ (j : Nat) (q : Pr), qs[j]? = some q → lifeP q ≤ n ∨ bitF mask (k + j) = 1
  | _, [], _, j, q, h => by cases h
  | k, q :: qs, h, 0, q', e => by
    cases e
    rw [goodL, List.all_cons, Bool.and_eq_true] at h
    rcases Bool.or_eq_true_iff.mp h.1 with h | h
    · exact .inl (of_decide_eq_true h)
    · exact .inr (of_decide_eq_true h)
  | k, q :: qs, h, j + 1, q', e => by
    rw [goodL, List.all_cons, Bool.and_eq_true] at h
    have := goodL_at (k + 1) qs h.2 j q' e
    rw [show k + (j + 1) = k + 1 + j by omega]
    exact this
/-- what a matching is -/
structure Mtch (one two : List Pr) (n : Int) (rs : List Pr) : Prop where
  row : ∀ r ∈ rs, (0 ≤ r.1 ∧ r.1 < one.length) ∧ (0 ≤ r.2 ∧ r.2 < two.length) ∧ nearP (getP one r.1) (getP two r.2) n = true
  nd1 : (rs.map (·.1)).Nodup
  nd2 : (rs.map (·.2)).Nodup
  l1 : ∀ (a : Nat) (p : Pr), one[a]? = some p → n < lifeP p → ((a : Nat) : Int) ∈ rs.map (·.1)
  l2 : ∀ (a : Nat) (p : Pr), two[a]? = some p → n < lifeP p → ((a : Nat) : Int) ∈ rs.map (·.2)
theorem getP_nat {ps : List Pr} {a : Nat} {p : Pr} (h : ps[a]? = some p) : getP ps a = p := by
  unfold getP
  rw [Int.toNat_natCast, h]
  rfl
theorem matchF_ok {one two : List Pr} {n : Int} {rs : List Pr} (l5 : two.length ≤ 5) (h : matchF one two n = some rs) : Mtch one two n rs := by
  unfold matchF at h
  have h0 : AllOk one two n 0 [(0, [])] := by
    intro e he
    cases List.mem_singleton.mp he
    refine ⟨⟨0, rfl, by decide⟩, fun j hj => ?_, (fun r hr => by cases hr), List.nodup_nil, List.nodup_nil, fun a ha => absurd ha (Nat.not_lt_zero _)⟩
    show bitF 0 j = 1 ↔ ((j : Nat) : Int) ∈ ([] : List Int)
    unfold bitF
    rw [Int.zero_ediv]
    exact ⟨fun z => absurd z (by decide), fun z => by cases z⟩
  have hall := (allF_ok l5 0 one _ rfl h0).resolve_right (Nat.not_lt_zero _)
  generalize allF n two 0 one [(0, [])] = ms at h hall
  obtain ⟨mask, hm, hg, rfl⟩ := pickF_ok h
  have ok : OkM one two n one.length mask (valM ms mask) := hall _ (valM_mem hm)
  refine ⟨ok.row, ok.nd1, ok.nd2, fun a p ha hn => ok.long a (List.getElem?_eq_some_iff.mp ha).1 (by rw [getP_nat ha]; exact hn), fun a p ha hn => ?_⟩
  have hal := (List.getElem?_eq_some_iff.mp ha).1
  rcases goodL_at 0 two hg a p ha with h | h
  · omega
  · rw [Nat.zero_add] at h
    exact (ok.bit a (by omega)).mp h
theorem Mtch.len {one two : List Pr} {n : Int} {rs : List Pr} (h : Mtch one two n rs) : rs.length ≤ one.length := by
  have := pigeon one.length (rs.map (·.1)) h.nd1 fun k hk => by
    obtain ⟨r, hr, rfl⟩ := List.mem_map.mp hk
    exact (h.row r hr).1
  rwa [List.length_map] at this
theorem wrongF_none {ps qs : List Pr} {n : Int} : ∀ (k : Nat) (S T : Int → Bool) (rs : List Pr), (rs.map (·.1)).Nodup → (rs.map (·.2)).Nodup → (∀ r ∈ rs, S r.1 = false ∧ T r.2 = false ∧ nearP (getP ps r.1) (getP qs r.2) n = true) → wrongF ps qs n k S T rs = none
  | _, _, _, [], _, _, _ => rfl
  | k, S, T, r :: rs, h1, h2, h => by
    obtain ⟨a, b, c⟩ := h r (by simp)
    rw [List.map_cons, List.nodup_cons] at h1 h2
    rw [wrongF, if_neg (by rw [a, b, c]; decide)]
    refine wrongF_none (k + 1) _ _ rs h1.2 h2.2 fun r' hr' => ?_
    obtain ⟨a', b', c'⟩ := h r' (by simp [hr'])
    have e1 : ¬ r'.1 = r.1 := fun z => h1.1 (by rw [← z]; exact List.mem_map.mpr ⟨r', hr', rfl⟩)
    have e2 : ¬ r'.2 = r.2 := fun z => h2.1 (by rw [← z]; exact List.mem_map.mpr ⟨r', hr', rfl⟩)
    refine ⟨?_, ?_, c'⟩
    · unfold orIs; rw [a', decide_eq_false e1]; rfl
    · unfold orIs; rw [b', decide_eq_false e2]; rfl
theorem leftF_none {n : Int} {U : Int → Bool} : ∀ (k : Nat) (ps : List Pr), (∀ (a : Nat) (p : Pr), ps[a]? = some p → n < lifeP p → U ((k + a : Nat) : Int) = true) → leftF n U k ps = none
  | _, [], _ => rfl
  | k, p :: ps, h => by
    rw [leftF, if_neg ?_]
    · refine leftF_none (k + 1) ps fun a q ha hn => ?_
      have := h (a + 1) q ha hn
      rw [show k + 1 + a = k + (a + 1) by omega]
      exact this
    · intro z
      obtain ⟨z1, z2⟩ := Bool.and_eq_true_iff.mp z
      have h1 : n < lifeP p := of_decide_eq_true z1
      have h2 : U ((k : Nat) : Int) = true := h 0 p rfl h1
      rw [h2] at z2
      exact absurd z2 (by decide)
theorem looseF_nil {n : Int} : ∀ (k : Nat) (xs ys : List Int), (∀ z ∈ xs.zip ys, near1 z.1 z.2 n = true) → looseF n k xs ys = []
  | _, [], _, _ => by simp [looseF]
  | _, x :: xs, [], _ => by simp [looseF]
  | k, x :: xs, y :: ys, h => by
    rw [looseF, if_pos (h (x, y) (by simp)), looseF_nil (k + 1) xs ys fun z hz => h z (by simp [hz])]
    rfl
theorem ends_far {A B : Fv} {n : Int} (hl : A.li.length = B.li.length) (h : endsB A B n = true) : farAt A B n = none := by
  unfold endsB endsL endsF at h
  rw [List.zip_append hl, List.map_append, List.all_append, Bool.and_eq_true, List.all_map, List.all_eq_true] at h
  obtain ⟨h1, h2⟩ := h
  have h2 : (near1 A.lo B.lo n && (near1 A.hi B.hi n && true)) = true := h2
  rw [Bool.and_true, Bool.and_eq_true] at h2
  unfold farAt
  rw [looseF_nil 0 A.li B.li h1, h2.1, h2.2]
  rfl
theorem fault_none {A B : Fv} {n : Int} {r1 r2 : List Pr} (hl : A.li.length = B.li.length) (he : endsB A B n = true) (m1 : Mtch A.hs B.hs n r1) (m2 : Mtch A.ss B.ss n r2) : faultF A B n r1 r2 = none := by
  have w : ∀ {one two rs : List Pr}, Mtch one two n rs → wrongF one two n 0 (fun _ => false) (fun _ => false) rs = none := fun m => wrongF_none 0 _ _ _ m.nd1 m.nd2 fun r hr => ⟨rfl, rfl, (m.row r hr).2.2⟩
  have la : ∀ {one two rs : List Pr}, Mtch one two n rs → leftF n (usedF false rs) 0 one = none := fun m => leftF_none 0 _ fun a p ha hn => by
    rw [Nat.zero_add]
    exact decide_eq_true (m.l1 a p ha hn)
  have lb : ∀ {one two rs : List Pr}, Mtch one two n rs → leftF n (usedF true rs) 0 two = none := fun m => leftF_none 0 _ fun a p ha hn => by
    rw [Nat.zero_add]
    exact decide_eq_true (m.l2 a p ha hn)
  have e1 : wrongAt A B n false r1 = none := by
    show (wrongF A.hs B.hs n 0 _ _ r1).map _ = none
    rw [w m1]; rfl
  have e2 : wrongAt A B n true r2 = none := by
    show (wrongF A.ss B.ss n 0 _ _ r2).map _ = none
    rw [w m2]; rfl
  have e3 : leftAt A B n false false r1 = none := by
    show (leftF n (usedF false r1) 0 A.hs).map _ = none
    rw [la m1]; rfl
  have e4 : leftAt A B n false true r1 = none := by
    show (leftF n (usedF true r1) 0 B.hs).map _ = none
    rw [lb m1]; rfl
  have e5 : leftAt A B n true false r2 = none := by
    show (leftF n (usedF false r2) 0 A.ss).map _ = none
    rw [la m2]; rfl
  have e6 : leftAt A B n true true r2 = none := by
    show (leftF n (usedF true r2) 0 B.ss).map _ = none
    rw [lb m2]; rfl
  unfold faultF
  exact (fst_none e1).trans ((fst_none e2).trans ((fst_none e3).trans ((fst_none e4).trans ((fst_none e5).trans ((fst_none e6).trans (ends_far hl he))))))
/-- the rows of both matchings -/
theorem both_ok {A B : Fv} {n : Int} {r : List Pr × List Pr} (hl : A.li.length = B.li.length) (b1 : B.hs.length ≤ 5) (b2 : B.ss.length ≤ 5) (h : bothF A B n = some r) : faultF A B n r.1 r.2 = none ∧ Mtch A.hs B.hs n r.1 ∧ Mtch A.ss B.ss n r.2 := by
  unfold bothF at h
  by_cases c : endsB A B n = true
  · rw [if_pos c] at h
    cases e1 : matchF A.hs B.hs n with
    | none => rw [e1] at h; cases h
    | some x1 =>
      cases e2 : matchF A.ss B.ss n with
      | none => rw [e1, e2] at h; cases h
      | some x2 =>
        rw [e1, e2] at h
        cases h
        exact ⟨fault_none hl c (matchF_ok b1 e1) (matchF_ok b2 e2), matchF_ok b1 e1, matchF_ok b2 e2⟩
  · rw [if_neg c] at h
    cases h
end Lw
namespace Lw
open PySem PySem.Spec PyProof.Rows L2 XV TL XM DO
section
variable {X : Cx} {CX : CXT} {k : Nat} {f : Addr} {fd : FuncData} {ps ks : List Str} {sp : Sp} {E : L2.St → XK} {x : Str} {p pos : Pos} {kws : List Keyword} {tk : TA} {g : List Value → List Value → List Value} {gV : List V → List V → List V}
/-- a call by keywords alone, the exceptions by the frame's state -/
def tCallKO (sp : Sp) (gV : List V → List V → List V) (E : L2.St → XK) (tk : TA) : TE := fun σ H Q => tk σ H fun zs H2 => sp (gV [] zs) H2 Q (E σ)
theorem run_kS {pins : List (Addr × Obj)} {σ : L2.St} {H : Hp} {s : Shared} {Q : VK} {us ws : List Value} {vs zs : List V} (F : FnOk X.prog X.w X.K X.mg X.base CX k f fd ps sp) (hr : Room k X.A) (hb : KBinds X.K fd ps ks g gV) (hx : PassesAt CX X σ (E σ))
    (I : Inv X pins σ H s) (r : Vals vs us) (rz : Vals zs ws) (h : sp (gV vs zs) H Q (E σ)) : wpAny (model X.prog X.w) X.A (call (.ref f) us (ks.zip ws)) (EP X pins σ Q) X.xe s := by
  have r2 := hb.rel r rz
  have hl : (g us ws).length = ps.length := by rw [← r2.length]; exact F.len _ _ _ _ h
  refine wpAny_call (codeAny_mono (F.run X.A X.stack s H ⟨us, ks.zip ws⟩ (g us ws) (gV vs zs) Q (E σ) hr I.env0 (hb.to s us ws I.kIn hl) r2 h) fun r s' hq => ?_)
  match r, hq with
  | .error e, hq => exact hx pins H s e s' I hq
  | .ok (.ret u), hq => exact I.after hq
  | .ok .next, hq => exact False.elim hq
  | .ok .brk, hq => exact False.elim hq
  | .ok .cont, hq => exact False.elim hq
theorem pe_callKO (F : FnOk X.prog X.w X.K X.mg X.base CX k f fd ps sp) (hr : Room k X.A) (hg : Gl X x) (hm : X.mg x = some (.ref f)) (hk : PySem.W.keepIn X.K (.ref f) = true) (hb : KBinds X.K fd ps ks g gV) (hx : ∀ σ, PassesAt CX X σ (E σ)) (hkw : PK X kws tk)
    (hall : (backToKw pos (keywordEach kws X.env)).all (·.1.isSome) = true := by rfl) (hks : (backToKw pos (keywordEach kws X.env)).filterMap (·.1) = ks := by rfl) (hdb : (x == ("__debug__" : Str)) = false := by decide)
    (hpl : ((backTo pos (starEach [] X.env)).any (·.1) || (backToKw pos (keywordEach kws X.env)).any (·.1.isNone)) = false := by rfl) : PE X (.Call (.Name x p) [] kws pos) (tCallKO sp gV E tk) := by
  refine ⟨fun pins s σ H Q I h => ?_⟩
  refine wpAny_Call_Name_kw (ld_glob I hg hm ?_ hdb)
  refine PySem.W.callWith_KW0 (first := []) (h₀ := X.base) I.ok.mod.kin hk hall (thn (hkw.run pos pins _ σ H _ I h) fun ws s3 hv => ?_) hpl
  obtain ⟨zs, H2, I3, rz, q3⟩ := hv
  refine ⟨I3.kIn, ?_⟩
  rw [hks]
  exact run_kS F hr hb (hx σ) I3 .nil rz q3
end
theorem vals_rev {zs : List V} {ws : List Value} (h : Vals zs ws) : Vals zs.reverse ws.reverse := by
  have rv : ∀ {vs us as bs}, Vals vs us → Vals as bs → Vals (List.reverseAux vs as) (List.reverseAux us bs) := by
    intro vs us as bs h
    induction h generalizing as bs with
    | nil => intro h2; exact h2
    | cons r rr ih => intro h2; exact ih (.cons r h2)
  exact rv h .nil
section
variable {P : Program} {w : World} {K : PySem.W.Frag} {mg : Str → Option Value} {base : Heap}
theorem kb_bar {f : Addr} {fd : FuncData} (F : Fun K "bar_holds" "bar_holds" sBarH f fd) : KBinds K fd ["lives", "other", "n", "value"] ["value", "n", "other", "lives"] (fun us ws => us ++ ws.reverse) (fun us ws => us ++ ws.reverse) := by
  obtain ⟨oc, od, kV, doc, pm, an, cdv, ct, osl, rfl, lk, hcd⟩ := F.ex
  refine ⟨fun s us ws _ hl => ?_, fun a b => a.append (vals_rev b)⟩
  rw [List.length_append, List.length_reverse] at hl
  match us, hl with
  | [], hl =>
    have hw : ws.length = 4 := by simp only [List.length_cons, List.length_nil] at hl; omega
    match ws, hw with
    | [_, _, _, _], _ => exact .of_eq rfl
  | [_], hl =>
    have hw : ws.length = 3 := by simp only [List.length_cons, List.length_nil] at hl; omega
    match ws, hw with
    | [_, _, _], _ => exact .of_eq rfl
  | [_, _], hl =>
    have hw : ws.length = 2 := by simp only [List.length_cons, List.length_nil] at hl; omega
    match ws, hw with
    | [_, _], _ => exact .of_eq rfl
  | [_, _, _], hl =>
    have hw : ws.length = 1 := by simp only [List.length_cons, List.length_nil] at hl; omega
    match ws, hw with
    | [_], _ => exact .of_eq rfl
  | [_, _, _, _], hl =>
    have hw : ws.length = 0 := by simp only [List.length_cons, List.length_nil] at hl; omega
    match ws, hw with
    | [], _ => exact .of_eq rfl
  | _ :: _ :: _ :: _ :: _ :: _, hl => simp only [List.length_cons, List.length_nil] at hl; omega
end
end Lw
namespace Lw
open PySem PySem.Spec PyProof.Rows L2 XV TL XM DO
/-! a bar in plain words: its indexes ascend -/
def inN (n : Nat) (ns : List Int) : List Int := ((List.range n).map fun i : Nat => (0 + (i : Int))).filter fun k => decide (k ∈ ns)
theorem inN_zero (ns : List Int) : inN 0 ns = [] := rfl
theorem inN_succ (n : Nat) (ns : List Int) : inN (n + 1) ns = inN n ns ++ (if decide ((0 + (n : Int)) ∈ ns) = true then [0 + (n : Int)] else []) := by
  unfold inN
  rw [List.range_succ, List.map_append, List.filter_append]
  congr 1
  show List.filter _ [0 + (n : Int)] = _
  by_cases c : decide ((0 + (n : Int)) ∈ ns) = true
  · rw [if_pos c, List.filter_cons_of_pos (by exact c)]
    rfl
  · rw [if_neg c, List.filter_cons_of_neg (by exact c)]
    rfl
theorem inN_len (n : Nat) (ns : List Int) : (inN n ns).length ≤ n := by
  have h := List.length_filter_le (fun k => decide (k ∈ ns)) ((List.range n).map fun i : Nat => (0 + (i : Int)))
  rw [List.length_map, List.length_range] at h
  exact h
theorem inN_asc (n : Nat) (ns : List Int) : (inN n ns).Pairwise (· < ·) := by
  unfold inN
  refine List.Pairwise.filter _ ?_
  rw [List.pairwise_map]
  exact List.pairwise_lt_range.imp (fun h => by omega)
theorem inN_mem {n : Nat} {ns : List Int} {z : Int} : z ∈ inN n ns ↔ (0 ≤ z ∧ z < n) ∧ z ∈ ns := by
  unfold inN
  rw [List.mem_filter, decide_eq_true_eq, List.mem_map]
  constructor
  · rintro ⟨⟨i, h, rfl⟩, h2⟩
    rw [List.mem_range] at h
    exact ⟨⟨by omega, by omega⟩, h2⟩
  · rintro ⟨h, h2⟩
    exact ⟨⟨z.toNat, List.mem_range.mpr (by omega), by omega⟩, h2⟩
theorem asc_eq : ∀ {xs ys : List Int}, xs.Pairwise (· < ·) → ys.Pairwise (· < ·) → (∀ z, z ∈ xs ↔ z ∈ ys) → xs = ys
  | [], [], _, _, _ => rfl
  | [], y :: ys, _, _, h => absurd ((h y).mpr (by simp)) (by simp)
  | x :: xs, [], _, _, h => absurd ((h x).mp (by simp)) (by simp)
  | x :: xs, y :: ys, hx, hy, h => by
    have hx := List.pairwise_cons.mp hx
    have hy := List.pairwise_cons.mp hy
    have e : x = y := by
      rcases List.mem_cons.mp ((h x).mp (by simp)) with e | e
      · exact e
      rcases List.mem_cons.mp ((h y).mpr (by simp)) with f | f
      · exact f.symm
      have := hy.1 x e
      have := hx.1 y f
      omega
    subst e
    rw [asc_eq hx.2 hy.2 fun z => ?_]
    constructor
    · intro m
      rcases List.mem_cons.mp ((h z).mp (List.mem_cons_of_mem _ m)) with e | e
      · have := hx.1 z m
        omega
      · exact e
    · intro m
      rcases List.mem_cons.mp ((h z).mpr (List.mem_cons_of_mem _ m)) with e | e
      · have := hy.1 z m
        omega
      · exact e
theorem upF_iff (ps : List Pr) (n : Int) : ∀ (ns : List Int) (b : Int), upF ps n b ns = true ↔ ((∀ i ∈ ns, b < i) ∧ ns.Pairwise (· < ·)) ∧ ∀ i ∈ ns, (0 ≤ i ∧ i < ps.length) ∧ ¬ (getP ps i).2 - (getP ps i).1 ≤ n
  | [], b => ⟨fun _ => ⟨⟨(fun _ h => nomatch h), List.Pairwise.nil⟩, (fun _ h => nomatch h)⟩, fun _ => rfl⟩
  | i :: is, b => by
    rw [upF]
    have ih := upF_iff ps n is i
    by_cases c : (!ixB i ps.length || (decide (i ≤ b) || decide ((getP ps i).2 - (getP ps i).1 ≤ n))) = true
    · rw [if_pos c]
      refine ⟨fun h => absurd h Bool.false_ne_true, fun h => ?_⟩
      have h1 := h.1.1 i (by simp)
      have h2 := h.2 i (by simp)
      unfold ixB at c
      simp [h2.1.1, h2.1.2, h2.2] at c
      omega
    · rw [if_neg c, ih]
      have c := (Bool.not_eq_true _).mp c
      rw [Bool.or_eq_false_iff, Bool.or_eq_false_iff, Bool.not_eq_false', decide_eq_false_iff_not, decide_eq_false_iff_not] at c
      obtain ⟨c0, c3, c4⟩ := c
      have c0 := Bool.and_eq_true_iff.mp (show (decide (0 ≤ i) && decide (i < (ps.length : Int))) = true from c0)
      have c1 := of_decide_eq_true c0.1
      have c2 := of_decide_eq_true c0.2
      constructor
      · rintro ⟨⟨a1, a2⟩, a3⟩
        refine ⟨⟨fun j hj => ?_, List.pairwise_cons.mpr ⟨a1, a2⟩⟩, fun j hj => ?_⟩
        · rcases List.mem_cons.mp hj with rfl | hj
          · omega
          · have := a1 j hj
            omega
        · rcases List.mem_cons.mp hj with rfl | hj
          · exact ⟨⟨c1, c2⟩, by omega⟩
          · exact a3 j hj
      · rintro ⟨⟨a1, a2⟩, a3⟩
        have a2 := List.pairwise_cons.mp a2
        exact ⟨⟨a2.1, a2.2⟩, fun j hj => a3 j (List.mem_cons_of_mem _ hj)⟩
/-- all long -/
def shortA (ps : List Pr) (n : Int) (ns : List Int) : Bool := (ns.map fun k => decide ((getP ps k).2 - (getP ps k).1 ≤ n)).any id
theorem upF_eq (ps : List Pr) (n : Int) (ns : List Int) : upF ps n (-1) ns = (decide (inN ps.length ns = ns) && !shortA ps n ns) := by
  rw [Bool.eq_iff_iff, upF_iff, Bool.and_eq_true, decide_eq_true_eq, Bool.not_eq_true']
  have hs : shortA ps n ns = false ↔ ∀ i ∈ ns, ¬ (getP ps i).2 - (getP ps i).1 ≤ n := by
    unfold shortA
    rw [List.any_eq_false]
    constructor
    · intro h i hi
      have := h _ (List.mem_map.mpr ⟨i, hi, rfl⟩)
      simpa using this
    · intro h x hx
      obtain ⟨i, hi, rfl⟩ := List.mem_map.mp hx
      have := h i hi
      simpa using this
  rw [hs]
  constructor
  · rintro ⟨⟨a1, a2⟩, a3⟩
    refine ⟨asc_eq (inN_asc _ _) a2 fun z => ?_, fun i hi => (a3 i hi).2⟩
    rw [inN_mem]
    exact ⟨fun h => h.2, fun h => ⟨(a3 z h).1, h⟩⟩
  · rintro ⟨e, a3⟩
    have hm : ∀ i ∈ ns, 0 ≤ i ∧ i < (ps.length : Int) := fun i hi => by
      rw [← e] at hi
      exact (inN_mem.mp hi).1
    refine ⟨⟨fun i hi => by have := hm i hi; omega, by rw [← e]; exact inN_asc _ _⟩, fun i hi => ⟨hm i hi, a3 i hi⟩⟩
theorem loose_ge (n : Int) : ∀ (xs ys : List Int) (i j : Nat), j ∈ looseF n i xs ys → i ≤ j
  | [], _, i, j, h => by simp [looseF] at h
  | _ :: _, [], i, j, h => by simp [looseF] at h
  | x :: xs, y :: ys, i, j, h => by
    rw [looseF] at h
    rcases List.mem_append.mp h with h | h
    · split at h
      · cases h
      · cases List.mem_singleton.mp h
        exact Nat.le_refl _
    · have := loose_ge n xs ys (i + 1) j h
      omega
theorem loose_at (n : Int) : ∀ (xs ys : List Int) (i m : Nat) (x y : Int), xs[m]? = some x → ys[m]? = some y → ((looseF n i xs ys).any fun j => decide ((j : Int) = ((i + m : Nat) : Int))) = !near1 x y n
  | [], _, _, _, _, _, h, _ => by simp at h
  | _ :: _, [], _, _, _, _, _, h => by simp at h
  | a :: xs, b :: ys, i, 0, x, y, hx, hy => by
    cases hx
    cases hy
    rw [looseF, List.any_append]
    have h2 : ((looseF n (i + 1) xs ys).any fun j => decide ((j : Int) = ((i + 0 : Nat) : Int))) = false := any_none fun j hj => by
      have := loose_ge n xs ys (i + 1) j hj
      exact decide_eq_false (by omega)
    rw [h2, Bool.or_false]
    by_cases c : near1 a b n = true
    · rw [if_pos c, c]; rfl
    · rw [if_neg c, (Bool.not_eq_true _).mp c]
      simp
  | a :: xs, b :: ys, i, m + 1, x, y, hx, hy => by
    rw [looseF, List.any_append]
    have h1 : ((if near1 a b n = true then [] else [i]).any fun j => decide ((j : Int) = ((i + (m + 1) : Nat) : Int))) = false := by
      split
      · rfl
      · simp; omega
    rw [h1, Bool.false_or]
    have ih := loose_at n xs ys (i + 1) m x y hx hy
    rw [show i + 1 + m = i + (m + 1) by omega] at ih
    exact ih
theorem DataV.mono {H H' : Hp} {v : V} (h : DataV H v) (s : Same H H') : DataV H' v := by
  rcases h with rfl | ⟨i, rfl⟩ | ⟨t, ns, rfl, e⟩
  · exact .inl rfl
  · exact .inr (.inl ⟨_, rfl⟩)
  · exact .inr (.inr ⟨t, ns, rfl, s _ _ e⟩)
theorem data_dp {K : PySem.W.Frag} {H : Hp} {v : V} (h : DataV H v) : ∃ d, Dp K H v d ∧ PyData.canLay0 d = true ∧ PyData.depth d ≤ 1 := by
  rcases h with rfl | ⟨i, rfl⟩ | ⟨t, ns, rfl, e⟩
  · exact ⟨.none, .non, rfl, Nat.zero_le _⟩
  · exact ⟨.int i, .int i, rfl, Nat.zero_le _⟩
  · refine ⟨.tuple (ns.map .int), .tup (SqT.of e) (dp_ints ns), can_ints ns, ?_⟩
    show PyData.depthAll (ns.map PyData.int) + 1 ≤ 1
    rw [dep_ints]
    exact Nat.le_refl _
theorem datas_dp {K : PySem.W.Frag} {H : Hp} : ∀ {vs : List V}, (∀ v ∈ vs, DataV H v) → ∃ ds, DpAll K H vs ds ∧ PyData.canLayAll0 ds = true ∧ PyData.depthAll ds ≤ 1
  | [], _ => ⟨[], .nil, rfl, Nat.zero_le _⟩
  | v :: vs, h => by
    obtain ⟨d, a1, a2, a3⟩ := data_dp (K := K) (h v (by simp))
    obtain ⟨ds, b1, b2, b3⟩ := datas_dp (K := K) (vs := vs) fun x hx => h x (by simp [hx])
    refine ⟨d :: ds, .cons a1 b1, ?_, ?_⟩
    · show (PyData.canLay0 d && PyData.canLayAll0 ds) = true
      rw [a2, b2]; rfl
    · show max (PyData.depth d) (PyData.depthAll ds) ≤ 1
      omega
/-- a bar is data: a word ahead, plain data behind -/
theorem bar_data {H : Hp} {t : Addr} {br : Bar} (h : BarAt H t br) : ∃ (wd : Str) (rest : List V), H t = some (.tup (.str wd :: rest)) ∧ inV (.str wd) [.str "hollows", .str "summits", .str "loose", .str "lowest", .str "highest"] = true ∧ PyData.canLay0 (.str wd) = true ∧ ∀ v ∈ rest, DataV H v := by
  have hk : ∀ k, inV (.str (kindW k)) [.str "hollows", .str "summits", .str "loose", .str "lowest", .str "highest"] = true ∧ PyData.canLay0 (.str (kindW k)) = true := fun k => by cases k <;> decide +kernel
  cases br with
  | odd w m =>
    obtain ⟨ok, rest, _, hd, e⟩ := h
    refine ⟨w, rest, e, ?_, ?_, hd⟩ <;> rcases ok with ⟨k, rfl, _⟩ | ⟨rfl, _⟩ | ⟨rfl | rfl, _⟩
    · exact (hk k).1
    · decide +kernel
    · decide +kernel
    · decide +kernel
    · exact (hk k).2
    · decide +kernel
    · decide +kernel
    · decide +kernel
  | loose k => exact ⟨_, _, h, by decide +kernel, by decide +kernel, fun v hv => by cases List.mem_singleton.mp hv; exact .inr (.inl ⟨_, rfl⟩)⟩
  | low => exact ⟨_, _, h, by decide +kernel, by decide +kernel, fun v hv => nomatch hv⟩
  | high => exact ⟨_, _, h, by decide +kernel, by decide +kernel, fun v hv => nomatch hv⟩
  | set k wh ns =>
    obtain ⟨_, ti, e, ei⟩ := h
    refine ⟨_, _, e, (hk k).1, (hk k).2, fun v hv => ?_⟩
    simp only [List.mem_cons, List.not_mem_nil, or_false] at hv
    rcases hv with rfl | rfl
    · exact .inr (.inl ⟨_, rfl⟩)
    · exact .inr (.inr ⟨_, _, rfl, ei⟩)
theorem BarAt.mono {H H' : Hp} {t : Addr} {br : Bar} (h : BarAt H t br) (s : Same H H') : BarAt H' t br := by
  cases br with
  | odd w m =>
    obtain ⟨ok, rest, er, hd, e⟩ := h
    exact ⟨ok, rest, er, fun v hv => (hd v hv).mono s, s _ _ e⟩
  | loose k => exact s _ _ h
  | low => exact s _ _ h
  | high => exact s _ _ h
  | set k wh ns =>
    obtain ⟨l, ti, e, ei⟩ := h
    exact ⟨l, ti, s _ _ e, s _ _ ei⟩
end Lw
namespace Lw
open PySem PySem.Spec PyProof.Rows L2 XV TL XM DO
abbrev sIsB : Stmt := topOf "_law_is_bar"
abbrev NIsB : List Str := ["a", "b", "halves", "told", "k", "kind", "mine", "others", "row", "x", "q"]
theorem scIsB : FnScope NIsB ["a", "b", "halves", "told"] (defScope sIsB) := ⟨rfl, rfl, rfl, by decide +kernel, rfl, by decide +kernel, by decide +kernel⟩
def spIsB : Sp := fun vs H Q _ => ∃ (p q : Addr) (v : V) (A B : Fv) (n : Int) (bo : Option Bar), vs = [.ref p, .ref q, .int n, v] ∧ FiveAt H p A ∧ FiveAt H q B ∧ A.li.length = B.li.length ∧ BarO H v bo ∧ ∀ H', Same H H' → Q (.bl (barO A B n bo)) H'
abbrev fiveW : List V := [.str "hollows", .str "summits", .str "loose", .str "lowest", .str "highest"]
theorem lh_kind (k : Bool) : inV (.str (kindW k)) [.str "lowest", .str "highest"] = false := by cases k <;> decide +kernel
theorem lh_loose : inV (.str "loose") [.str "lowest", .str "highest"] = false := by decide +kernel
theorem lh_low : inV (.str "lowest") [.str "lowest", .str "highest"] = true := by decide +kernel
theorem lh_high : inV (.str "highest") [.str "lowest", .str "highest"] = true := by decide +kernel
theorem same_turn {H M : Hp} {D : Addr} {o : HO} (s : Same H M) (hD : H D = none) : Same H (upd M D o) := fun b u h => by
  rw [upd_ne (ne_of_none h hD)]
  exact s _ _ h
theorem kw_loose (k : Bool) : decide (V.str (kindW k) = V.str "loose") ≠ true := by cases k <;> decide +kernel
theorem at_ints {ns : List Int} {m : Nat} {z : Int} (h : ns[m]? = some z) : atI (ns.map V.int) (m : Int) = some (.int z) := by
  have hl := (List.getElem?_eq_some_iff.mp h).1
  obtain ⟨v, a1, a2, a3⟩ := at_pos (xs := ns.map V.int) (i := (m : Int)) (by omega) (by rw [List.length_map]; omega)
  rw [a1]
  rw [List.getElem?_map, show ((m : Int)).toNat = m from rfl, h] at a2
  exact a2.symm
section
variable {P : Program} {w : World} {K : PySem.W.Frag} {mg : Str → Option Value} {base : Heap}
theorem ok_isB {f : Addr} {fd : FuncData} (F : Fun K "_law_is_bar" "_law_is_bar" sIsB f fd) (T : Bt mg) (N1 : Cl P w K mg base 1 "_law_near" sNear ["a", "b", "halves"] spNear) (N2 : Cl P w K mg base 1 "_law_plain" sPlain ["x"] spPlain) (N3 : Cl P w K mg base 2 "_law_pair_near" sPNear ["one", "two", "halves"] (spPNear K)) : FnOk P w K mg base CX0 3 f fd ["a", "b", "halves", "told"] spIsB := by
  refine F.ok scIsB (fun vs H Q E h => ?_) (fun cdv A0 outer s0 H vs Q E hr h => ?_)
  · obtain ⟨p, q, v, A, B, n, bo, rfl, _⟩ := h
    rfl
  · obtain ⟨p, q, v, A, B, n, bo, rfl, hA, hB, el, hb, k⟩ := h
    refine ⟨_, pss_cons (ps_if (PW.pt (pw_or (pt_not (pt_val (pe_callB call_isi (by rfl) T.isinstance (by decide +kernel) (pa_cons (pv 3) (pa_cons (pe_bltn (v := .ty "tuple") (by rfl) T.tuple (by decide +kernel) rfl) pa_nil))))) (pw_or (pt_cmpR (op_eqD (by exact un64 hr)) (pv 3) (pe_tup (pa_nil)) (nomark _)) (pw_or1 (pt_cmpR op_notIn_seq (pe_ix ix_tup (pv 3) (pe_int) (fun _ _ => rfl)) (pe_lst (pa_cons (pe_str) (pa_cons (pe_str) (pa_cons (pe_str) (pa_cons (pe_str) (pa_cons (pe_str) pa_nil)))))) (by rfl))))))
 (pss_one (ps_ret (pe_bl)))
 (pss_nil))
 (pss_cons (ps_if (pt_cmpR op_in_seq (pe_ix ix_tup (pv 3) (pe_int) (fun _ _ => rfl)) (pe_lst (pa_cons (pe_str) (pa_cons (pe_str) pa_nil))) (by rfl))
 (pss_cons (ps_set (i := 4) scIsB.nd rfl (by first | exact Or.inl rfl | exact Or.inr rfl) (pe_op op_add (pe_bm PySem.F.plainAttrs_list PySem.F.slot_list_index PySem.F.type_list_index mt_index (pe_lst (pa_cons (pe_str) (pa_cons (pe_str) pa_nil))) (pa_cons (pe_ix ix_tup (pv 3) (pe_int) (fun _ _ => rfl)) pa_nil)) (pe_int)))
 (pss_one (ps_ret (pe_and (pe_cmpR op_eq (pe_callB call_len (by rfl) T.len (by decide +kernel) (pa_cons (pv 3) pa_nil)) (pe_int) (nomark _)) (pe_one (pe_not (calC N1 (hr.mono (by decide)) (pa_cons (pe_ix ix_list (pv 0) (pv 4) (fun _ _ => rfl)) (pa_cons (pe_ix ix_list (pv 1) (pv 4) (fun _ _ => rfl)) (pa_cons (pv 2) pa_nil))))))))))
 (pss_nil))
 (pss_cons (ps_if (pt_cmpR op_eq (pe_ix ix_tup (pv 3) (pe_int) (fun _ _ => rfl)) (pe_str) (nomark _))
 (pss_cons (ps_if (PW.pt (pw_or (pt_cmpR op_ne (pe_callB call_len (by rfl) T.len (by decide +kernel) (pa_cons (pv 3) pa_nil)) (pe_int) (nomark _)) (pw_or (pt_not (pt_val (calC N2 (hr.mono (by decide)) (pa_cons (pe_ix ix_tup (pv 3) (pe_int) (fun _ _ => rfl)) pa_nil)))) (pw_or (pt_cmpR op_lt (pe_ix ix_tup (pv 3) (pe_int) (fun _ _ => rfl)) (pe_int) (nomark _)) (pw_or1 (pt_cmpR op_ge (pe_ix ix_tup (pv 3) (pe_int) (fun _ _ => rfl)) (pe_callB call_lenL (by rfl) T.len (by decide +kernel) (pa_cons (pe_ix ix_list (pv 0) (pe_int) (fun _ _ => rfl)) pa_nil)) (nomark _)))))))
 (pss_one (ps_ret (pe_bl)))
 (pss_nil))
 (pss_one (ps_ret (pe_not (calC N1 (hr.mono (by decide)) (pa_cons (pe_ix ix_list (pe_ix ix_list (pv 0) (pe_int) (fun _ _ => rfl)) (pe_ix ix_tup (pv 3) (pe_int) (fun _ _ => rfl)) (fun _ _ => rfl)) (pa_cons (pe_ix ix_list (pe_ix ix_list (pv 1) (pe_int) (fun _ _ => rfl)) (pe_ix ix_tup (pv 3) (pe_int) (fun _ _ => rfl)) (fun _ _ => rfl)) (pa_cons (pv 2) pa_nil))))))))
 (pss_nil))
 (pss_cons (ps_if (PW.pt (pw_or (pt_cmpR op_ne (pe_callB call_len (by rfl) T.len (by decide +kernel) (pa_cons (pv 3) pa_nil)) (pe_int) (nomark _)) (pw_or (pt_not (pt_val (calC N2 (hr.mono (by decide)) (pa_cons (pe_ix ix_tup (pv 3) (pe_int) (fun _ _ => rfl)) pa_nil)))) (pw_or (pt_cmpR op_notIn_seq (pe_ix ix_tup (pv 3) (pe_int) (fun _ _ => rfl)) (pe_lst (pa_cons (pe_int) (pa_cons (pe_int) pa_nil))) (by rfl)) (pw_or1 (pt_not (pt_val (pe_callB call_isi (by rfl) T.isinstance (by decide +kernel) (pa_cons (pe_ix ix_tup (pv 3) (pe_int) (fun _ _ => rfl)) (pa_cons (pe_bltn (v := .ty "tuple") (by rfl) T.tuple (by decide +kernel) rfl) pa_nil))))))))))
 (pss_one (ps_ret (pe_bl)))
 (pss_nil))
 (pss_cons (ps_set (i := 5) scIsB.nd rfl (by first | exact Or.inl rfl | exact Or.inr rfl) (pe_bm PySem.F.plainAttrs_list PySem.F.slot_list_index PySem.F.type_list_index mt_index (pe_lst (pa_cons (pe_str) (pa_cons (pe_str) pa_nil))) (pa_cons (pe_ix ix_tup (pv 3) (pe_int) (fun _ _ => rfl)) pa_nil)))
 (pss_cons (ps_asg (pe_tup (pa_cons (pe_ix ix_list (pe_ix ix_list (pe_lst (pa_cons (pv 0) (pa_cons (pv 1) pa_nil))) (pe_ix ix_tup (pv 3) (pe_int) (fun _ _ => rfl)) (fun _ _ => rfl)) (pv 5) (fun _ _ => rfl)) (pa_cons (pe_ix ix_list (pe_ix ix_list (pe_lst (pa_cons (pv 1) (pa_cons (pv 0) pa_nil))) (pe_ix ix_tup (pv 3) (pe_int) (fun _ _ => rfl)) (fun _ _ => rfl)) (pv 5) (fun _ _ => rfl)) (pa_cons (pe_callTy call_list_of (by rfl) T.list (by decide +kernel) (pa_cons (pe_ix ix_tup (pv 3) (pe_int) (fun _ _ => rfl)) pa_nil)) pa_nil)))) (pg_tup rfl (pgs_cons (pg_name (i := 6) scIsB.nd rfl (by first | exact Or.inl rfl | exact Or.inr rfl)) (pgs_cons (pg_name (i := 7) scIsB.nd rfl (by first | exact Or.inl rfl | exact Or.inr rfl)) (pgs_cons (pg_name (i := 8) scIsB.nd rfl (by first | exact Or.inl rfl | exact Or.inr rfl)) (pgs_nil))))))
 (pss_cons (ps_if (PW.pt (pw_or (pt_not (pt_val (pe_callB (cr_all rfl) (by rfl) T.all (by decide +kernel) (pa_cons (pe_lc (own := [("x", 9)]) (g := gName 9) (tt := tYes) (te := tCall spPlain [] E0 (tCons (tVar 9) tNil)) rfl scIsB.nd (pi_list (pv 8)) (blkOk_by (N := NIsB) (sc := defScope sIsB) (by decide +kernel)) (fun _ _ _ _ _ => pg_name (i := 9) scIsB.nd rfl (Or.inl rfl)) (fun _ _ _ _ _ => pts_nil) (fun _ _ _ _ _ => calC N2 (hr.mono (by decide)) (pa_cons (pv 9) pa_nil))) pa_nil)))) (pw_or1 (pt_cmpR (op_neD (by exact un64 hr)) (pv 8) (pe_lc (own := [("k", 4)]) (g := gName 4) (tt := tTest (tOp (rIn K false) (tVar 4) (tVar 8))) (te := tVar 4) rfl scIsB.nd (pi_range1 rfl T.range (pa_cons (pe_callB call_lenL (by rfl) T.len (by decide +kernel) (pa_cons (pv 6) pa_nil)) pa_nil)) (blkOk_by (N := NIsB) (sc := defScope sIsB) (by decide +kernel)) (fun _ _ _ _ _ => pg_name (i := 4) scIsB.nd rfl (by first | exact Or.inl rfl | exact Or.inr rfl)) (fun _ _ _ _ _ => pts_one (pt_cmpR op_in_seq (pv 4) (pv 8) (by rfl))) (fun _ _ _ _ _ => pv 4)) (nomark _)))))
 (pss_one (ps_ret (pe_bl)))
 (pss_nil))
 (pss_cons (ps_if (pt_val (pe_callB (cr_any rfl) (by rfl) T.any (by decide +kernel) (pa_cons (pe_lc (own := [("k", 4)]) (g := gName 4) (tt := tYes) (te := tOp (rI0 fun i j => .bl (decide (i ≤ j))) (tOp (rI0 fun i j => .int (i - j)) (tOp (rIxT K) (tOp (rIxL K) (tVar 6) (tVar 4)) (tC (.int 1))) (tOp (rIxT K) (tOp (rIxL K) (tVar 6) (tVar 4)) (tC (.int 0)))) (tVar 2)) rfl scIsB.nd (pi_list (pv 8)) (blkOk_by (N := NIsB) (sc := defScope sIsB) (by decide +kernel)) (fun _ _ _ _ _ => pg_name (i := 4) scIsB.nd rfl (by first | exact Or.inl rfl | exact Or.inr rfl)) (fun _ _ _ _ _ => pts_nil) (fun _ _ _ _ _ => pe_cmpR op_le (pe_op op_sub (pe_ix ix_tup (pe_ix ix_list (pv 6) (pv 4) (fun _ _ => rfl)) (pe_int) (fun _ _ => rfl)) (pe_ix ix_tup (pe_ix ix_list (pv 6) (pv 4) (fun _ _ => rfl)) (pe_int) (fun _ _ => rfl))) (pv 2) (nomark _))) pa_nil)))
 (pss_one (ps_ret (pe_bl)))
 (pss_nil))
 (pss_one (ps_ret (pe_cmpR op_lt (pe_callB call_lenL (by rfl) T.len (by decide +kernel) (pa_cons (pe_lc (own := [("q", 10)]) (g := gName 10) (tt := tB (tCB (rAny K) (tCons (tLc (iList K (tVar 8)) (gName 4) tYes (tCall (spPNear K) [] E0 (tCons (tOp (rIxL K) (tVar 6) (tVar 4)) (tCons (tVar 10) (tCons (tVar 2) tNil)))) [4]) tNil))) (te := tVar 10) rfl scIsB.nd (pi_list (pv 7)) (blkOk_by (N := NIsB) (sc := defScope sIsB) (by decide +kernel)) (fun _ _ _ _ _ => pg_name (i := 10) scIsB.nd rfl (Or.inr rfl)) (fun _ _ _ _ _ => pts_one (pt_val (pe_callB (cr_any rfl) (by rfl) T.any (by decide +kernel) (pa_cons (pe_lc (own := [("k", 4)]) (g := gName 4) (tt := tYes) (te := tCall (spPNear K) [] E0 (tCons (tOp (rIxL K) (tVar 6) (tVar 4)) (tCons (tVar 10) (tCons (tVar 2) tNil)))) rfl scIsB.nd (pi_list (pv 8)) (blkOk_by (N := NIsB) (sc := ⟨.function, [(".0", .local), ("q", .cell), ("any", .globalImplicit), ("halves", .cell), ("mine", .cell), ("row", .cell)], false, false, []⟩) (by decide +kernel)) (fun _ _ _ _ _ => pg_name (i := 4) scIsB.nd rfl (by first | exact Or.inl rfl | exact Or.inr rfl)) (fun _ _ _ _ _ => pts_nil) (fun _ _ _ _ _ => calC N3 (hr.mono (by decide)) (pa_cons (pe_ix ix_list (pv 6) (pv 4) (fun _ _ => rfl)) (pa_cons (pv 10) (pa_cons (pv 2) pa_nil))))) pa_nil)))) (fun _ _ _ _ _ => pv 10)) pa_nil)) (pe_callB call_lenL (by rfl) T.len (by decide +kernel) (pa_cons (pv 8) pa_nil)) (nomark _))))))))))), ?_⟩
    cases bo with
    | none =>
      have kr : ∀ H', Same H H' → Q (.bl false) H' := k
      rcases hb with rfl | rfl | ⟨t, rfl, ht⟩
      · exact ⟨_, rfl, _, _, _, _, _, rfl, .ty _, .base .non, kit_ty (by decide +kernel : kitB "NoneType" "tuple" = some false), _, rfl, iteT (kr H (Same.refl H))⟩
      · exact ⟨_, rfl, _, _, _, _, _, rfl, .ty _, .base (.str _), kit_ty (by decide +kernel : kitB "str" "tuple" = some false), _, rfl, iteT (kr H (Same.refl H))⟩
      · refine ⟨_, rfl, _, _, _, _, _, rfl, .ty _, .base (.tup ht), kit_ty (by decide +kernel : kitB "tuple" "tuple" = some true), _, rfl, iteF ?_⟩
        refine ⟨_, rfl, Nat.zero_le _, fun u0 hu0 => ?_⟩
        have s1 := same_new (o := .tup []) hu0
        exact ⟨.tuple [], .tuple [], .tup (SqT.of (s1 _ _ ht)) .nil, .tup (SqT.of upd_same) .nil, by decide +kernel, by decide +kernel, _, rfl, ite_b (fun _ => iteT (kr _ s1)) (fun c => absurd c (by decide +kernel))⟩
    | some br =>
    obtain ⟨t, rfl, hb⟩ := hb
    have k : ∀ H', Same H H' → Q (.bl (barB A B n br)) H' := k
    obtain ⟨wd, rest, ht, h5, hcw, hrest⟩ := bar_data hb
    refine ⟨_, rfl, _, _, _, _, _, rfl, .ty _, .base (.tup ht), kit_ty (by decide +kernel : kitB "tuple" "tuple" = some true), _, rfl, iteF ?_⟩
    refine ⟨_, rfl, Nat.zero_le _, fun u0 hu0 => ?_⟩
    have s1 := same_new (o := .tup []) hu0
    have eu0 := upd_same (H := H) (a := u0) (o := .tup [])
    generalize upd H u0 (.tup []) = H1 at s1 eu0 ⊢
    obtain ⟨ds, b1, b2, b3⟩ := datas_dp (K := K) (fun v hv => (hrest v hv).mono s1)
    have ht1 := s1 _ _ ht
    refine ⟨.tuple (.str wd :: ds), .tuple [], .tup (SqT.of ht1) (.cons (.str wd) b1), .tup (SqT.of eu0) .nil, ?_, by decide +kernel, _, rfl, ite_b (fun c => absurd c (by simp [PyData.eqv, PyData.eqvAll])) (fun _ => ?_)⟩
    · unfold SeqAt.shaped
      rw [Bool.and_eq_true]
      refine ⟨?_, decide_eq_true ?_⟩
      · show (PyData.canLay0 (.str wd) && PyData.canLayAll0 ds) = true
        rw [hcw, b2]; rfl
      · show max (PyData.depth (.str wd)) (PyData.depthAll ds) + 1 ≤ 64
        have : PyData.depth (.str wd) = 0 := by simp [PyData.depth]
        omega
    refine ⟨_, rfl, t, _, 0, _, rfl, rfl, SqT.of ht1, at0 _ _, (by show 5 ≤ sizeLine; decide), fun u1 hu1 => ?_⟩
    have s2 := Same.trans s1 (same_new (o := .lst fiveW) hu1)
    have eu1 := upd_same (H := H1) (a := u1) (o := .lst fiveW)
    generalize upd H1 u1 (.lst fiveW) = H2 at s2 eu1 ⊢
    have ht2 := s2 _ _ ht
    refine ⟨u1, _, rfl, .inl (SqL.of eu1), rfl, by decide +kernel, _, rfl, ite_b (fun c => absurd c (by rw [h5]; decide)) (fun _ => ?_)⟩
    refine ⟨_, rfl, t, _, 0, _, rfl, rfl, SqT.of ht2, at0 _ _, (by show 2 ≤ sizeLine; decide), fun u2 hu2 => ?_⟩
    have s3 := Same.trans s2 (same_new (o := .lst [.str "lowest", .str "highest"]) hu2)
    have eu2 := upd_same (H := H2) (a := u2) (o := .lst [.str "lowest", .str "highest"])
    generalize upd H2 u2 (.lst [.str "lowest", .str "highest"]) = H3 at s3 eu2 ⊢
    have ht3 := s3 _ _ ht
    refine ⟨u2, _, rfl, .inl (SqL.of eu2), rfl, by decide +kernel, _, rfl, ?_⟩
    have kr := k H3 s3
    obtain ⟨pa, pb, pl, ep, _, _, epl⟩ := (hA.mono s3).ex
    obtain ⟨qa, qb, ql, eq, _, _, eql⟩ := (hB.mono s3).ex
    cases br with
    | odd w m =>
      obtain ⟨ok, rest', er, _, eh⟩ := hb
      have e2 := eh.symm.trans ht
      injection e2 with e2
      injection e2 with e2
      injection e2 with e2 e3
      injection e2 with e2
      subst e2 e3
      rcases ok with ⟨kd, rfl, hm⟩ | ⟨rfl, hm⟩ | ⟨hw, hm⟩
      · refine ite_b (fun c => absurd (c.symm.trans (lh_kind kd)) (by decide)) (fun _ => ?_)
        refine ⟨_, rfl, t, _, 0, _, rfl, rfl, SqT.of ht3, at0 _ _, rfl, _, rfl, ite_b (fun c => absurd c (kw_loose kd)) (fun _ => ?_)⟩
        refine ⟨_, rfl, _, rest'.length + 1, rfl, .inr ⟨_, SqT.of ht3, rfl⟩, rfl, _, rfl, ite_b (fun c => iteT kr) (fun c => ?_)⟩
        have c2 := dec_len (m := rest'.length + 1) (j := 3) (by omega)
        rw [show decide (V.int ((rest'.length + 1 : Nat) : Int) = V.int 3) = false from c2] at c
        exact absurd c (by decide)
      · refine ite_b (fun c => absurd (c.symm.trans lh_loose) (by decide)) (fun _ => ?_)
        refine ⟨_, rfl, t, _, 0, _, rfl, rfl, SqT.of ht3, at0 _ _, rfl, _, rfl, ite_b (fun _ => ?_) (fun c => absurd c (by decide +kernel))⟩
        refine ⟨_, rfl, _, rest'.length + 1, rfl, .inr ⟨_, SqT.of ht3, rfl⟩, rfl, _, rfl, ite_b (fun c => iteT kr) (fun c => ?_)⟩
        have c2 := dec_len (m := rest'.length + 1) (j := 2) (by omega)
        rw [show decide (V.int ((rest'.length + 1 : Nat) : Int) = V.int 2) = false from c2] at c
        exact absurd c (by decide)
      · rcases hw with rfl | rfl
        · refine ite_b (fun _ => ?_) (fun c => absurd (lh_low.symm.trans c) (by decide))
          refine ⟨(by show 2 ≤ sizeLine; decide), fun u3 hu3 => ?_⟩
          have s4 := Same.trans s3 (same_new (o := .lst [.str "lowest", .str "highest"]) hu3)
          have s34 := same_new (o := .lst [.str "lowest", .str "highest"]) hu3
          have eu3 := upd_same (H := H3) (a := u3) (o := .lst [.str "lowest", .str "highest"])
          generalize upd H3 u3 (.lst [.str "lowest", .str "highest"]) = H4 at s4 s34 eu3 ⊢
          have ht4 := s4 _ _ ht
          refine ⟨.inl ⟨rfl, _, SqL.of eu3⟩, _, rfl, t, _, 0, _, rfl, rfl, SqT.of ht4, at0 _ _, u3, _, _, 0, _, rfl, rfl, SqL.of eu3, rfl, by decide +kernel, rfl, by decide +kernel, fun m z h => absurd h (Nat.not_lt_zero _), _, _, rfl, rfl, ?_⟩
          refine ⟨_, rfl, _, rest'.length + 1, rfl, .inr ⟨_, SqT.of ht4, rfl⟩, rfl, _, rfl, ite_b (fun c => ?_) (fun c => k _ s4)⟩
          exact absurd (c.symm.trans (dec_len (j := 1) (by omega))) (by decide)
        · refine ite_b (fun _ => ?_) (fun c => absurd (lh_high.symm.trans c) (by decide))
          refine ⟨(by show 2 ≤ sizeLine; decide), fun u3 hu3 => ?_⟩
          have s4 := Same.trans s3 (same_new (o := .lst [.str "lowest", .str "highest"]) hu3)
          have s34 := same_new (o := .lst [.str "lowest", .str "highest"]) hu3
          have eu3 := upd_same (H := H3) (a := u3) (o := .lst [.str "lowest", .str "highest"])
          generalize upd H3 u3 (.lst [.str "lowest", .str "highest"]) = H4 at s4 s34 eu3 ⊢
          have ht4 := s4 _ _ ht
          refine ⟨.inl ⟨rfl, _, SqL.of eu3⟩, _, rfl, t, _, 0, _, rfl, rfl, SqT.of ht4, at0 _ _, u3, _, _, 1, _, rfl, rfl, SqL.of eu3, rfl, by decide +kernel, rfl, by decide +kernel, fun m z h hz => (by have : m = 0 := (by omega); subst this; cases hz; decide +kernel), _, _, rfl, rfl, ?_⟩
          refine ⟨_, rfl, _, rest'.length + 1, rfl, .inr ⟨_, SqT.of ht4, rfl⟩, rfl, _, rfl, ite_b (fun c => ?_) (fun c => k _ s4)⟩
          exact absurd (c.symm.trans (dec_len (j := 1) (by omega))) (by decide)
    | low =>
      have e2 := hb.symm.trans ht
      injection e2 with e2
      injection e2 with e2
      injection e2 with e2 e3
      injection e2 with e2
      subst e2 e3
      refine ite_b (fun _ => ?_) (fun c => absurd (lh_low.symm.trans c) (by decide))
      refine ⟨(by show 2 ≤ sizeLine; decide), fun u3 hu3 => ?_⟩
      have s4 := Same.trans s3 (same_new (o := .lst [.str "lowest", .str "highest"]) hu3)
      have s34 := same_new (o := .lst [.str "lowest", .str "highest"]) hu3
      have eu3 := upd_same (H := H3) (a := u3) (o := .lst [.str "lowest", .str "highest"])
      generalize upd H3 u3 (.lst [.str "lowest", .str "highest"]) = H4 at s4 s34 eu3 ⊢
      have ht4 := s4 _ _ ht
      refine ⟨.inl ⟨rfl, _, SqL.of eu3⟩, _, rfl, t, _, 0, _, rfl, rfl, SqT.of ht4, at0 _ _, u3, _, _, 0, _, rfl, rfl, SqL.of eu3, rfl, by decide +kernel, rfl, by decide +kernel, fun m z h => absurd h (Nat.not_lt_zero _), _, _, rfl, rfl, ?_⟩
      refine ⟨_, rfl, _, 1, rfl, .inr ⟨_, SqT.of ht4, rfl⟩, rfl, _, rfl, ite_b (fun _ => ?_) (fun c => absurd c (by decide +kernel))⟩
      exact ⟨_, rfl, _, rfl, p, _, _, _, rfl, rfl, SqL.of (s34 _ _ ep), rfl, _, rfl, _, rfl, q, _, _, _, rfl, rfl, SqL.of (s34 _ _ eq), rfl, _, rfl, _, _, n, rfl, _, rfl, k _ s4⟩
    | high =>
      have e2 := hb.symm.trans ht
      injection e2 with e2
      injection e2 with e2
      injection e2 with e2 e3
      injection e2 with e2
      subst e2 e3
      refine ite_b (fun _ => ?_) (fun c => absurd (lh_high.symm.trans c) (by decide))
      refine ⟨(by show 2 ≤ sizeLine; decide), fun u3 hu3 => ?_⟩
      have s4 := Same.trans s3 (same_new (o := .lst [.str "lowest", .str "highest"]) hu3)
      have s34 := same_new (o := .lst [.str "lowest", .str "highest"]) hu3
      have eu3 := upd_same (H := H3) (a := u3) (o := .lst [.str "lowest", .str "highest"])
      generalize upd H3 u3 (.lst [.str "lowest", .str "highest"]) = H4 at s4 s34 eu3 ⊢
      have ht4 := s4 _ _ ht
      refine ⟨.inl ⟨rfl, _, SqL.of eu3⟩, _, rfl, t, _, 0, _, rfl, rfl, SqT.of ht4, at0 _ _, u3, _, _, 1, _, rfl, rfl, SqL.of eu3, rfl, by decide +kernel, rfl, by decide +kernel, fun m z h hz => (by have : m = 0 := (by omega); subst this; cases hz; decide +kernel), _, _, rfl, rfl, ?_⟩
      refine ⟨_, rfl, _, 1, rfl, .inr ⟨_, SqT.of ht4, rfl⟩, rfl, _, rfl, ite_b (fun _ => ?_) (fun c => absurd c (by decide +kernel))⟩
      exact ⟨_, rfl, _, rfl, p, _, _, _, rfl, rfl, SqL.of (s34 _ _ ep), rfl, _, rfl, _, rfl, q, _, _, _, rfl, rfl, SqL.of (s34 _ _ eq), rfl, _, rfl, _, _, n, rfl, _, rfl, k _ s4⟩
    | loose kk =>
      have e2 := hb.symm.trans ht
      injection e2 with e2
      injection e2 with e2
      injection e2 with e2 e3
      injection e2 with e2
      subst e2 e3
      refine ite_b (fun c => absurd (c.symm.trans lh_loose) (by decide)) (fun _ => ?_)
      refine ⟨_, rfl, t, _, 0, _, rfl, rfl, SqT.of ht3, at0 _ _, rfl, _, rfl, ite_b (fun _ => ?_) (fun c => absurd c (by decide +kernel))⟩
      refine ⟨_, rfl, _, 2, rfl, .inr ⟨_, SqT.of ht3, rfl⟩, rfl, _, rfl, ite_b (fun c => absurd c (by decide +kernel)) (fun _ => ?_)⟩
      refine ⟨_, rfl, t, _, 1, _, rfl, rfl, SqT.of ht3, rfl, kk, rfl, _, rfl, iteF ?_⟩
      have kr : Q (.bl (ixB kk A.li.length && (looseF n 0 A.li B.li).any fun j => decide ((j : Int) = kk))) H3 := kr
      have out : ixB kk A.li.length = false → Q (.bl false) H3 := fun e => by
        rw [e, Bool.false_and] at kr
        exact kr
      refine ⟨_, rfl, t, _, 1, _, rfl, rfl, SqT.of ht3, rfl, _, _, rfl, rfl, _, rfl, ite_b (fun c => iteT (out ?_)) (fun c0 => ?_)⟩
      · have c := of_decide_eq_true c
        unfold ixB
        rw [decide_eq_false (by omega), Bool.false_and]
      refine ⟨_, rfl, t, _, 1, _, rfl, rfl, SqT.of ht3, rfl, _, rfl, p, _, 2, _, rfl, rfl, SqL.of ep, rfl, pl, _, rfl, SqL.of epl, _, _, rfl, rfl, _, rfl, ite_b (fun c => out ?_) (fun c1 => ?_)⟩
      · have c := of_decide_eq_true c
        rw [List.length_map] at c
        unfold ixB
        rw [decide_eq_false (p := kk < _) (by omega), Bool.and_false]
      have c0 := of_decide_eq_false c0
      have c1 := of_decide_eq_false c1
      rw [List.length_map] at c1
      have k0 : 0 ≤ kk := by omega
      have k1 : kk < A.li.length := by omega
      have k2 : kk < B.li.length := by omega
      obtain ⟨m, rfl⟩ := Int.eq_ofNat_of_zero_le k0
      have m1 : m < A.li.length := by omega
      have m2 : m < B.li.length := by omega
      have hx := List.getElem?_eq_getElem m1
      have hy := List.getElem?_eq_getElem m2
      have la := loose_at n A.li B.li 0 m _ _ hx hy
      rw [Nat.zero_add] at la
      have ei : ixB (m : Int) A.li.length = true := by
        unfold ixB
        rw [decide_eq_true (p := (0 : Int) ≤ _) (by omega), decide_eq_true (by omega)]
        rfl
      rw [ei, Bool.true_and] at kr
      rw [show ((looseF n 0 A.li B.li).any fun j => decide ((j : Int) = ((m : Nat) : Int))) = _ from la] at kr
      have ax : atI (A.li.map V.int) (m : Int) = some (.int A.li[m]) := at_ints hx
      have ay : atI (B.li.map V.int) (m : Int) = some (.int B.li[m]) := at_ints hy
      exact ⟨_, rfl, p, _, 2, _, rfl, rfl, SqL.of ep, rfl, _, rfl, t, _, 1, _, rfl, rfl, SqT.of ht3, rfl, pl, _, _, _, rfl, rfl, SqL.of epl, ax, _, rfl, q, _, 2, _, rfl, rfl, SqL.of eq, rfl, _, rfl, t, _, 1, _, rfl, rfl, SqT.of ht3, rfl, ql, _, _, _, rfl, rfl, SqL.of eql, ay, _, rfl, _, _, n, rfl, _, rfl, kr⟩
    | set kd wh ns =>
      obtain ⟨ln, ti, eh, eti⟩ := hb
      have e2 := eh.symm.trans ht
      injection e2 with e2
      injection e2 with e2
      injection e2 with e2 e3
      injection e2 with e2
      subst e2 e3
      refine ite_b (fun c => absurd (c.symm.trans (lh_kind kd)) (by decide)) (fun _ => ?_)
      refine ⟨_, rfl, t, _, 0, _, rfl, rfl, SqT.of ht3, at0 _ _, rfl, _, rfl, ite_b (fun c => absurd c (kw_loose kd)) (fun _ => ?_)⟩
      refine ⟨_, rfl, _, 3, rfl, .inr ⟨_, SqT.of ht3, rfl⟩, rfl, _, rfl, ite_b (fun c => absurd c (by decide +kernel)) (fun _ => ?_)⟩
      refine ⟨_, rfl, t, _, 1, _, rfl, rfl, SqT.of ht3, rfl, wh, rfl, _, rfl, iteF ?_⟩
      refine ⟨_, rfl, t, _, 1, _, rfl, rfl, SqT.of ht3, rfl, (by show 2 ≤ sizeLine; decide), fun u3 hu3 => ?_⟩
      have s4 := Same.trans s3 (same_new (o := .lst [.int 0, .int 1]) hu3)
      have eu3 := upd_same (H := H3) (a := u3) (o := .lst [.int 0, .int 1])
      generalize upd H3 u3 (.lst [.int 0, .int 1]) = H4 at s4 eu3 ⊢
      have ht4 := s4 _ _ ht
      have hi4 := s4 _ _ eti
      have iv := inV_ints wh [0, 1]
      refine ⟨u3, _, rfl, .inl (SqL.of eu3), rfl, by decide +kernel, _, rfl, ite_b (fun c => iteT ?_) (fun c => ?_)⟩
      · have e : ixB wh 2 = false := by
          have c : (!inV (.int wh) ([0, 1].map V.int)) = true := c
          rw [iv] at c
          simp at c
          unfold ixB
          by_cases h : 0 ≤ wh
          · rw [decide_eq_false (p := wh < 2) (by omega), Bool.and_false]
          · rw [decide_eq_false h, Bool.false_and]
        have kr : Q (.bl (setB A B n kd wh ns)) H4 := k H4 s4
        unfold setB at kr
        rw [e, Bool.false_and] at kr
        exact kr
      obtain ⟨wb, rfl⟩ : ∃ wb : Bool, wh = ((if wb = true then 1 else 0 : Nat) : Int) := by
        have c : (!inV (.int wh) ([0, 1].map V.int)) = false := c
        rw [iv] at c
        simp at c
        by_cases h : wh = 0
        · exact ⟨false, h⟩
        · exact ⟨true, c h⟩
      refine ⟨_, rfl, t, _, 2, _, rfl, rfl, SqT.of ht4, rfl, _, _, _, _, _, rfl, .ty _, .base (.tup hi4), kit_ty (by decide +kernel : kitB "tuple" "tuple" = some true), _, rfl, iteF ?_⟩
      refine ⟨(by show 2 ≤ sizeLine; decide), fun u4 hu4 => ?_⟩
      have s5 := Same.trans s4 (same_new (o := .lst [.str "hollows", .str "summits"]) hu4)
      have eu4 := upd_same (H := H4) (a := u4) (o := .lst [.str "hollows", .str "summits"])
      generalize upd H4 u4 (.lst [.str "hollows", .str "summits"]) = H5 at s5 eu4 ⊢
      have ht5 := s5 _ _ ht
      refine ⟨.inl ⟨rfl, _, SqL.of eu4⟩, _, rfl, t, _, 0, _, rfl, rfl, SqT.of ht5, at0 _ _, u4, _, _, (if kd = true then 1 else 0), .str (kindW kd), rfl, rfl, SqL.of eu4, rfl, by decide +kernel, by cases kd <;> rfl, by cases kd <;> decide +kernel, fun m z h hz => ?_, ?_⟩
      · cases kd
        · exact absurd h (Nat.not_lt_zero _)
        · have : m = 0 := by
            have h : m < 1 := h
            omega
          subst this
          cases hz
          decide +kernel
      refine ⟨_, rfl, _, rfl, (by show 2 ≤ sizeLine; decide), fun u5 hu5 => ?_⟩
      have s6 := Same.trans s5 (same_new (o := .lst [.ref p, .ref q]) hu5)
      have eu5 := upd_same (H := H5) (a := u5) (o := .lst [.ref p, .ref q])
      generalize upd H5 u5 (.lst [.ref p, .ref q]) = H6 at s6 eu5 ⊢
      obtain ⟨xa0, ta, xa, ea0, ea1, ea2, ea3, ea4, _⟩ := row_at ((five_pick hA hB wb).mono s6) kd
      rw [Int.zero_add] at ea1
      have pick1 : atI ([.ref p, .ref q] : List V) ((if wb = true then 1 else 0 : Nat) : Int) = some (.ref (if wb = true then q else p)) := by cases wb <;> rfl
      refine ⟨_, rfl, t, _, 1, _, rfl, rfl, SqT.of (s6 _ _ ht), rfl, u5, _, _, _, rfl, rfl, SqL.of eu5, pick1, _, rfl, _, xa0, _, _, rfl, rfl, SqL.of ea0, ea1, ?_⟩
      refine ⟨_, rfl, _, rfl, (by show 2 ≤ sizeLine; decide), fun u6 hu6 => ?_⟩
      have s67 := same_new (o := .lst [.ref q, .ref p]) hu6
      have s7 := Same.trans s6 s67
      have eu6 := upd_same (H := H6) (a := u6) (o := .lst [.ref q, .ref p])
      generalize upd H6 u6 (.lst [.ref q, .ref p]) = H7 at s67 s7 eu6 ⊢
      obtain ⟨xb0, tb, xb, eb0, eb1, eb2, eb3, eb4, _⟩ := row_at ((five_pick hB hA wb).mono s7) kd
      rw [Int.zero_add] at eb1
      have pick2 : atI ([.ref q, .ref p] : List V) ((if wb = true then 1 else 0 : Nat) : Int) = some (.ref (if wb = true then p else q)) := by cases wb <;> rfl
      refine ⟨_, rfl, t, _, 1, _, rfl, rfl, SqT.of (s7 _ _ ht), rfl, u6, _, _, _, rfl, rfl, SqL.of eu6, pick2, _, rfl, _, xb0, _, _, rfl, rfl, SqL.of eb0, eb1, ?_⟩
      refine ⟨_, rfl, t, _, 2, _, rfl, rfl, SqT.of (s7 _ _ ht), rfl, ti, _, rfl, .inr (SqT.of (s7 _ _ eti)), fun lr hlr => ⟨(by show 3 ≤ sizeLine; decide), fun z hz => ⟨z, _, rfl, SqT.of upd_same, rfl, _, _, rfl, _, _, rfl, _, _, rfl, rfl, ?_⟩⟩⟩
      have s78 := same_new (o := .lst (ns.map V.int)) hlr
      have er := upd_same (H := H7) (a := lr) (o := .lst (ns.map V.int))
      have s89 := same_new (o := .tup [.ref ta, .ref tb, .ref lr]) hz
      have s79 := Same.trans s78 s89
      have s8 := Same.trans s7 s79
      have er := s89 _ _ er
      have ea := Same.trans s67 s79 _ _ ea2
      have ra := ea3.pairs.mono (K := K) (Same.trans s67 s79)
      have eb := s79 _ _ eb2
      have rb := eb3.pairs.mono (K := K) s79
      generalize upd (upd H7 lr (.lst (ns.map V.int))) z (.tup [.ref ta, .ref tb, .ref lr]) = W at s8 er ea ra eb rb ⊢
      have kW : ∀ H', Same W H' → Q (.bl (upF ((if wb = true then B else A).kind kd) n (-1) ns && decide (nearC ((if wb = true then B else A).kind kd) ((if wb = true then A else B).kind kd) n ns < ns.length))) H' := fun H' s' => by
        have z := k H' (Same.trans s8 s')
        unfold barB setB at z
        cases wb
        · exact z
        · exact z
      generalize (if wb = true then B else A).kind kd = ps at kW ra ea4
      generalize (if wb = true then A else B).kind kd = qs at kW rb eb4
      have la : xa.length = ps.length := ra.1
      have lb : xb.length = qs.length := rb.1
      rw [upF_eq] at kW
      clear k kr
      refine ⟨_, rfl, lr, rfl, ⟨_, SqL.of er⟩, fun D1 hD1 => lc_list (K := K) (a := lr) (xs := ns.map V.int) (fun i M => Same W M ∧ M D1 = some (.lst ((List.replicate i true).map V.bl))) ⟨same_new hD1, upd_same⟩ (fun i M _ h => SqL.of (h.1 _ _ er)) ?_ ?_⟩
      · rintro i x M hx ⟨sM, eM⟩
        have hil := (List.getElem?_eq_some_iff.mp hx).1
        rw [List.length_map] at hil
        obtain ⟨z, hz, rfl⟩ : ∃ z, ns[i]? = some z ∧ V.int z = x := by
          rw [List.getElem?_map] at hx
          exact Option.map_eq_some_iff.mp hx
        refine ⟨rfl, _, rfl, z, rfl, _, eM, by rw [List.length_map, List.length_replicate, sizeLine_eq]; omega, same_turn sM hD1, ?_⟩
        rw [upd_same, List.replicate_succ', List.map_append]
        rfl
      rintro M1 ⟨sM1, eM1⟩
      have all1 : (List.replicate (ns.map V.int).length true).all id = true := by
        rw [List.all_eq_true]
        intro x hx
        rw [(List.mem_replicate.mp hx).2]
        rfl
      refine ⟨D1, _, rfl, SqL.of eM1, _, rfl, ite_b (fun c => absurd c (by rw [all1]; decide)) (fun _ => ?_)⟩
      refine ⟨_, rfl, _, rfl, ta, _, rfl, SqL.of (sM1 _ _ ea), _, rfl, by omega, by omega, fun D2 hD2 => lc_range (lo := 0) (n := xa.length) (fun i M => Same M1 M ∧ M D2 = some (.lst ((inN i ns).map V.int))) ⟨same_new hD2, upd_same⟩ ?_ ?_⟩
      · rintro i M hi ⟨sM, eM⟩
        refine ⟨rfl, _, rfl, _, rfl, lr, _, rfl, .inl (SqL.of (sM _ _ (sM1 _ _ er))), rfl, flat_ints ns, _, rfl, ite_b (fun c => ?_) (fun c => ?_)⟩
        · have c : inV (.int (0 + (i : Int))) (ns.map V.int) = true := c
          rw [inV_ints] at c
          have l2 := inN_len i ns
          refine ⟨_, rfl, _, eM, by rw [List.length_map, sizeLine_eq]; omega, same_turn sM hD2, ?_⟩
          rw [upd_same, inN_succ, if_pos c, List.map_append]
          rfl
        · have c : inV (.int (0 + (i : Int))) (ns.map V.int) = false := c
          rw [inV_ints] at c
          refine ⟨sM, ?_⟩
          rw [inN_succ, if_neg (by rw [c]; decide), List.append_nil]
          exact eM
      rintro M2 ⟨sM2, eM2⟩
      have sW2 := Same.trans sM1 sM2
      rw [la] at eM2
      have shp : ∀ ms : List Int, ms.length ≤ 1000 → SeqAt.shaped (.list (ms.map PyData.int)) = true := fun ms _ => by
        unfold SeqAt.shaped
        rw [Bool.and_eq_true]
        refine ⟨can_ints ms, decide_eq_true ?_⟩
        have h := dep_ints ms
        show PyData.depthAll (ms.map PyData.int) + 1 ≤ 64
        omega
      have l2 := inN_len ps.length ns
      refine ⟨.list (ns.map PyData.int), .list ((inN ps.length ns).map PyData.int), .lst (SqL.of (sW2 _ _ er)) (dp_ints ns), .lst (SqL.of eM2) (dp_ints _), shp _ ln, shp _ (by omega), _, rfl, ite_b (fun c => ?_) (fun c => ?_)⟩
      · have c : (!PyData.eqvAll (ns.map PyData.int) ((inN ps.length ns).map PyData.int)) = true := c
        rw [eqv_ints] at c
        have e : decide (inN ps.length ns = ns) = false := by
          refine decide_eq_false fun e => ?_
          rw [decide_eq_true e.symm] at c
          exact absurd c (by decide)
        have z := kW _ sW2
        rw [e, Bool.false_and, Bool.false_and] at z
        exact z
      have c : (!PyData.eqvAll (ns.map PyData.int) ((inN ps.length ns).map PyData.int)) = false := c
      rw [eqv_ints] at c
      have e : ns = inN ps.length ns := of_decide_eq_true (by simpa using c)
      have w3 : ∀ x ∈ ns, 0 ≤ x ∧ x < (ps.length : Int) := fun x hx => by
        rw [e] at hx
        exact (inN_mem.mp hx).1
      rw [decide_eq_true e.symm, Bool.true_and] at kW
      refine ⟨_, rfl, lr, rfl, ⟨_, SqL.of (sW2 _ _ er)⟩, fun D3 hD3 => lc_list (K := K) (a := lr) (xs := ns.map V.int) (fun i M => Same M2 M ∧ M D3 = some (.lst (((ns.take i).map fun k => decide ((getP ps k).2 - (getP ps k).1 ≤ n)).map V.bl))) ⟨same_new hD3, upd_same⟩ (fun i M _ h => SqL.of (h.1 _ _ (sW2 _ _ er))) ?_ ?_⟩
      · rintro i x M hx ⟨sM, eM⟩
        have hil := (List.getElem?_eq_some_iff.mp hx).1
        rw [List.length_map] at hil
        obtain ⟨z, hz, rfl⟩ : ∃ z, ns[i]? = some z ∧ V.int z = x := by
          rw [List.getElem?_map] at hx
          exact Option.map_eq_some_iff.mp hx
        have hv := w3 z (List.mem_of_getElem? hz)
        have sW := Same.trans sW2 sM
        obtain ⟨tt, q1, q2⟩ := pairIx ra hv.1 hv.2
        have q2 := sqT_mono sW q2
        refine ⟨rfl, _, rfl, _, rfl, ta, xa, _, _, rfl, rfl, SqL.of (sW _ _ ea), q1, tt, _, 1, _, rfl, rfl, q2, rfl, _, rfl, _, rfl, ta, xa, _, _, rfl, rfl, SqL.of (sW _ _ ea), q1, tt, _, 0, _, rfl, rfl, q2, rfl, _, _, rfl, rfl, _, rfl, _, _, rfl, rfl, _, eM, by rw [List.length_map, List.length_map, sizeLine_eq]; have := List.length_take_le' i ns; omega, same_turn sM hD3, ?_⟩
        rw [upd_same, List.take_add_one, hz, List.map_append, List.map_append]
        rfl
      rintro M3 ⟨sM3, eM3⟩
      rw [List.length_map, List.take_length] at eM3
      have sW3 := Same.trans sW2 sM3
      refine ⟨D3, _, rfl, SqL.of eM3, _, rfl, ite_b (fun c => ?_) (fun c => ?_)⟩
      · have c : shortA ps n ns = true := c
        have z := kW _ sW3
        rw [c, Bool.not_true, Bool.false_and] at z
        exact z
      have c : shortA ps n ns = false := c
      rw [c, Bool.not_false, Bool.true_and] at kW
      refine ⟨_, rfl, tb, rfl, ⟨_, SqL.of (sW3 _ _ eb)⟩, fun D hD => lc_list (K := K) (a := tb) (xs := xb) (fun i M => Same M3 M ∧ ∃ zs, M D = some (.lst zs) ∧ zs.length = ((qs.take i).filter (anyN ps n ns)).length) ⟨same_new hD, [], upd_same, rfl⟩ (fun i M _ h => SqL.of (h.1 _ _ (sW3 _ _ eb))) ?_ ?_⟩
      · rintro i x M hx ⟨s1', zs, ez, lz⟩
        obtain ⟨tq, pq, hq, rfl, hpq⟩ := rb.2 i x hx
        refine ⟨rfl, ?_⟩
        have hil := (List.getElem?_eq_some_iff.mp hq).1
        have hsn : (qs.take (i + 1)).filter (anyN ps n ns) = (qs.take i).filter (anyN ps n ns) ++ (if anyN ps n ns pq = true then [pq] else []) := by
          rw [List.take_add_one, hq, List.filter_append]
          by_cases c : anyN ps n ns pq = true
          · rw [if_pos c]
            show _ ++ List.filter _ [pq] = _
            rw [List.filter_cons_of_pos c]
            rfl
          · rw [if_neg c]
            show _ ++ List.filter _ [pq] = _
            rw [List.filter_cons_of_neg c]
            rfl
        have sWM := Same.trans sW3 s1'
        refine ⟨_, rfl, lr, rfl, ⟨_, SqL.of (sWM _ _ er)⟩, fun D2 hD2 => lc_list (K := K) (a := lr) (xs := ns.map V.int) (fun j N => Same M N ∧ N D2 = some (.lst (((ns.take j).map fun i => nearP (getP ps i) pq n).map V.bl))) ⟨same_new hD2, upd_same⟩ (fun j N _ h => SqL.of (h.1 _ _ (sWM _ _ er))) ?_ ?_⟩
        · rintro j y N hy ⟨s2', e2'⟩
          obtain ⟨v, hv, rfl⟩ : ∃ z, ns[j]? = some z ∧ V.int z = y := by
            rw [List.getElem?_map] at hy
            exact Option.map_eq_some_iff.mp hy
          have hv3 := w3 v (List.mem_of_getElem? hv)
          have s12 := Same.trans sWM s2'
          obtain ⟨tt, q1, q2⟩ := pairIx ra hv3.1 hv3.2
          refine ⟨rfl, _, rfl, _, rfl, ta, _, _, _, rfl, rfl, SqL.of (s12 _ _ ea), q1, _, rfl, _, rfl, tt, tq, _, _, n, rfl, sqT_mono s12 q2, sqT_mono s12 hpq, _, e2', by rw [List.length_map, List.length_map, sizeLine_eq]; have := List.length_take_le' j ns; omega, same_turn s2' hD2, ?_⟩
          rw [upd_same, List.take_add_one, hv, List.map_append, List.map_append]
          rfl
        · rintro N ⟨s2', e2'⟩
          rw [List.length_map, List.take_length] at e2'
          refine ⟨D2, _, rfl, SqL.of e2', _, rfl, ite_b (fun c => ?_) (fun c => ?_)⟩
          · have c : anyN ps n ns pq = true := c
            rw [if_pos c] at hsn
            refine ⟨_, rfl, zs, s2' _ _ ez, ?_, same_turn (Same.trans s1' s2') hD, _, upd_same, by rw [hsn, List.length_append, List.length_append, lz]; rfl⟩
            rw [lz, sizeLine_eq]
            have h1 := List.length_filter_le (anyN ps n ns) (qs.take i)
            have h2 := List.length_take_le' i qs
            omega
          · have c : anyN ps n ns pq = false := c
            rw [if_neg (by rw [c]; exact Bool.false_ne_true), List.append_nil] at hsn
            exact ⟨Same.trans s1' s2', zs, s2' _ _ ez, by rw [hsn, lz]⟩
      · rintro M ⟨s1', zs, ez, lz⟩
        rw [lb, List.take_length] at lz
        have sWM := Same.trans sW3 s1'
        refine ⟨D, _, rfl, SqL.of ez, _, rfl, lr, _, rfl, SqL.of (sWM _ _ er), _, _, rfl, rfl, ?_⟩
        have z := kW _ sWM
        show Q (.bl (decide (((zs.length : Nat) : Int) < (((ns.map V.int).length : Nat) : Int)))) M
        rw [List.length_map, lz, show decide ((((qs.filter (anyN ps n ns)).length : Nat) : Int) < ((ns.length : Nat) : Int)) = decide (nearC ps qs n ns < ns.length) from by
          unfold nearC
          rw [Bool.eq_iff_iff, decide_eq_true_eq, decide_eq_true_eq]
          omega]
        exact z
end
end Lw
namespace Lw
open PySem PySem.Spec PyProof.Rows L2 XV TL XM DO
/-! faults as data that may be shown -/
structure FltD (d : PyData) : Prop where
  s : d.showable = true
  c : PyData.canLay0 d = true
  d0 : PyData.depth d = 0
  l : d.shown.length ≤ 40
  e : PyData.eqv d d = true
theorem shownAll_len : ∀ {ds : List PyData}, (∀ d ∈ ds, FltD d) → ((PyData.shownAll ds).map (·.length)).sum ≤ 40 * ds.length ∧ (PyData.shownAll ds).length = ds.length
  | [], _ => ⟨Nat.zero_le _, rfl⟩
  | d :: ds, h => by
    obtain ⟨a, b⟩ := shownAll_len (ds := ds) fun x hx => h x (by simp [hx])
    have c := (h d (by simp)).l
    refine ⟨?_, ?_⟩
    · show (PyData.shown d).length + ((PyData.shownAll ds).map (·.length)).sum ≤ _
      rw [List.length_cons]
      omega
    · show (PyData.shownAll ds).length + 1 = _
      rw [b, List.length_cons]
theorem shw_all : ∀ {ds : List PyData}, (∀ d ∈ ds, FltD d) → PyData.showableAll ds = true ∧ PyData.canLayAll0 ds = true ∧ PyData.depthAll ds = 0 ∧ PyData.eqvAll ds ds = true
  | [], _ => ⟨rfl, rfl, by simp [PyData.depthAll], rfl⟩
  | d :: ds, h => by
    obtain ⟨a, b, c, e⟩ := shw_all (ds := ds) fun x hx => h x (by simp [hx])
    have f := h d (by simp)
    refine ⟨?_, ?_, ?_, ?_⟩
    · show (PyData.showable d && PyData.showableAll ds) = true
      rw [f.s, a]; rfl
    · show (PyData.canLay0 d && PyData.canLayAll0 ds) = true
      rw [f.c, b]; rfl
    · show max (PyData.depth d) (PyData.depthAll ds) = 0
      rw [f.d0, c]; rfl
    · show (PyData.eqv d d && PyData.eqvAll ds ds) = true
      rw [f.e, e]; rfl
theorem shw_tup {ds : List PyData} (h : ∀ d ∈ ds, FltD d) (l : ds.length ≤ 10) : Shw (.tuple ds) := by
  obtain ⟨a, b, c, e⟩ := shw_all h
  obtain ⟨m, n⟩ := shownAll_len h
  refine ⟨a, ?_, ?_, e⟩
  · unfold SeqAt.shaped
    rw [Bool.and_eq_true]
    refine ⟨b, decide_eq_true ?_⟩
    show PyData.depthAll ds + 1 ≤ 64
    omega
  · have t := tupleText_len_le (PyData.shownAll ds)
    show (tupleText (PyData.shownAll ds)).length ≤ sizeLine
    rw [sizeLine_eq]
    omega
theorem flt_non : FltD .none := ⟨rfl, rfl, by simp [PyData.depth], by decide +kernel, by decide +kernel⟩
theorem flt_word {x : Str} (h : x ∈ (["M1", "M2", "M3", "hollows", "summits", "loose", "lowest", "highest", "BadValue", "Unlike", "n", "handles"] : List Str)) : FltD (.str x) := by
  simp only [List.mem_cons, List.not_mem_nil, or_false] at h
  rcases h with rfl | rfl | rfl | rfl | rfl | rfl | rfl | rfl | rfl | rfl | rfl | rfl <;> exact ⟨by decide +kernel, by decide +kernel, by simp [PyData.depth], by decide +kernel, by decide +kernel⟩
theorem len_ints : ∀ i : Fin 128, (PyData.shown (.int ((i : Nat) : Int))).length ≤ 40 ∧ (PyData.showable (.int ((i : Nat) : Int))) = true := by decide +kernel
theorem flt_int {i : Nat} (h : i < 128) : FltD (.int (i : Nat)) := by
  obtain ⟨a, b⟩ := len_ints ⟨i, h⟩
  exact ⟨b, rfl, by simp [PyData.depth], a, by show ((i : Int) == i) = true; rw [beq_self_eq_true]⟩
def ftD (t : Ft) : PyData := .tuple (match t with
  | .m1 k i => [.str "M1", .str (kindW k), .int i]
  | .m2 k w i => [.str "M2", .str (kindW k), .int (b2n w), .int i]
  | .m3 i => [.str "M3", .str "loose", .int i]
  | .lo => [.str "M3", .str "lowest", .none]
  | .hi => [.str "M3", .str "highest", .none])
/-- its numbers are small -/
def ftOk : Ft → Prop
  | .m1 _ i => i < 128
  | .m2 _ _ i => i < 128
  | .m3 i => i < 128
  | _ => True
theorem shw_ft {t : Ft} (h : ftOk t) : Shw (ftD t) := by
  have hk : ∀ k, FltD (.str (kindW k)) := fun k => by cases k <;> exact flt_word (by decide +kernel)
  have hb : ∀ w, FltD (.int (b2n w)) := fun w => by cases w <;> exact flt_int (by decide)
  cases t with
  | m1 k i =>
    refine shw_tup (fun d hd => ?_) (by show 3 ≤ 10; decide)
    simp only [List.mem_cons, List.not_mem_nil, or_false] at hd
    rcases hd with rfl | rfl | rfl
    · exact flt_word (by decide +kernel)
    · exact hk k
    · exact flt_int h
  | m2 k w i =>
    refine shw_tup (fun d hd => ?_) (by show 4 ≤ 10; decide)
    simp only [List.mem_cons, List.not_mem_nil, or_false] at hd
    rcases hd with rfl | rfl | rfl | rfl
    · exact flt_word (by decide +kernel)
    · exact hk k
    · exact hb w
    · exact flt_int h
  | m3 i =>
    refine shw_tup (fun d hd => ?_) (by show 3 ≤ 10; decide)
    simp only [List.mem_cons, List.not_mem_nil, or_false] at hd
    rcases hd with rfl | rfl | rfl
    · exact flt_word (by decide +kernel)
    · exact flt_word (by decide +kernel)
    · exact flt_int h
  | lo =>
    refine shw_tup (fun d hd => ?_) (by show 3 ≤ 10; decide)
    simp only [List.mem_cons, List.not_mem_nil, or_false] at hd
    rcases hd with rfl | rfl | rfl
    · exact flt_word (by decide +kernel)
    · exact flt_word (by decide +kernel)
    · exact flt_non
  | hi =>
    refine shw_tup (fun d hd => ?_) (by show 3 ≤ 10; decide)
    simp only [List.mem_cons, List.not_mem_nil, or_false] at hd
    rcases hd with rfl | rfl | rfl
    · exact flt_word (by decide +kernel)
    · exact flt_word (by decide +kernel)
    · exact flt_non
theorem dp_ft {K : PySem.W.Frag} {H : Hp} {a : Addr} {t : Ft} (e : H a = some (.tup (ftV t))) : Dp K H (.ref a) (ftD t) := by
  cases t with
  | m1 k i => exact .tup (SqT.of e) (.cons (.str _) (.cons (.str _) (.cons (.int _) .nil)))
  | m2 k w i => exact .tup (SqT.of e) (.cons (.str _) (.cons (.str _) (.cons (.int _) (.cons (.int _) .nil))))
  | m3 i => exact .tup (SqT.of e) (.cons (.str _) (.cons (.str _) (.cons (.int _) .nil)))
  | lo => exact .tup (SqT.of e) (.cons (.str _) (.cons (.str _) (.cons .non .nil)))
  | hi => exact .tup (SqT.of e) (.cons (.str _) (.cons (.str _) (.cons .non .nil)))
def otD : Option Ft → PyData
  | none => .none
  | some t => ftD t
theorem dp_ot {K : PySem.W.Frag} {H : Hp} {v : V} {o : Option Ft} (h : FtAt H v o) : Dp K H v (otD o) := by
  cases o with
  | none => cases h; exact .non
  | some t => obtain ⟨a, rfl, e⟩ := h; exact dp_ft e
theorem shw_ot {o : Option Ft} (h : ∀ t, o = some t → ftOk t) : Shw (otD o) := by
  cases o with
  | none => exact shw_non
  | some t => exact shw_ft (h t rfl)
/-- just: the same fault told twice -/
theorem just_ft {K : PySem.W.Frag} {H : Hp} {Q : VK} {E : XK} {a b : V} {o : Option Ft} (ho : ∀ t, o = some t → ftOk t) (ha : FtAt H a o) (hb : FtAt H b o) (k : Q (.bl true) H) : spJust K [a, b] H Q E :=
  ⟨a, b, otD o, rfl, dp_ot ha, dp_ot hb, shw_ot ho, k⟩
theorem just_bl {K : PySem.W.Frag} {H : Hp} {Q : VK} {E : XK} {b : Bool} (k : Q (.bl true) H) : spJust K [.bl b, .bl b] H Q E :=
  ⟨.bl b, .bl b, .bool b, rfl, .bl b, .bl b, shw_bl b, k⟩
theorem just_w3 {K : PySem.W.Frag} {H : Hp} {Q : VK} {E : XK} {a b : Addr} {x y z : Str} (hx : x ∈ (["M1", "M2", "M3", "hollows", "summits", "loose", "lowest", "highest", "BadValue", "Unlike", "n", "handles"] : List Str)) (hy : y ∈ (["M1", "M2", "M3", "hollows", "summits", "loose", "lowest", "highest", "BadValue", "Unlike", "n", "handles"] : List Str)) (hz : z ∈ (["M1", "M2", "M3", "hollows", "summits", "loose", "lowest", "highest", "BadValue", "Unlike", "n", "handles"] : List Str))
    (ha : H a = some (.tup [.str x, .str y, .str z])) (hb : H b = some (.tup [.str x, .str y, .str z])) (k : Q (.bl true) H) : spJust K [.ref a, .ref b] H Q E := by
  refine ⟨_, _, .tuple [.str x, .str y, .str z], rfl, .tup (SqT.of ha) (.cons (.str _) (.cons (.str _) (.cons (.str _) .nil))), .tup (SqT.of hb) (.cons (.str _) (.cons (.str _) (.cons (.str _) .nil))), shw_tup (fun d hd => ?_) (by show 3 ≤ 10; decide), k⟩
  simp only [List.mem_cons, List.not_mem_nil, or_false] at hd
  rcases hd with rfl | rfl | rfl
  · exact flt_word hx
  · exact flt_word hy
  · exact flt_word hz
/-! the numbers of a fault -/
theorem wrongF_lt (ps qs : List Pr) (n : Int) : ∀ (rs : List Pr) (k : Nat) (S T : Int → Bool) (i : Nat), wrongF ps qs n k S T rs = some i → i < k + rs.length
  | [], _, _, _, _, h => by cases h
  | r :: rs, k, S, T, i, h => by
    rw [wrongF] at h
    split at h
    · cases h
      rw [List.length_cons]
      omega
    · have := wrongF_lt ps qs n rs (k + 1) _ _ i h
      rw [List.length_cons]
      omega
theorem leftF_lt (n : Int) (U : Int → Bool) : ∀ (ps : List Pr) (k i : Nat), leftF n U k ps = some i → i < k + ps.length
  | [], _, _, h => by cases h
  | p :: ps, k, i, h => by
    rw [leftF] at h
    split at h
    · cases h
      rw [List.length_cons]
      omega
    · have := leftF_lt n U ps (k + 1) i h
      rw [List.length_cons]
      omega
theorem looseF_lt (n : Int) : ∀ (xs ys : List Int) (i j : Nat), j ∈ looseF n i xs ys → j < i + xs.length
  | [], _, i, j, h => by simp [looseF] at h
  | _ :: _, [], i, j, h => by simp [looseF] at h
  | x :: xs, y :: ys, i, j, h => by
    rw [looseF] at h
    rcases List.mem_append.mp h with h | h
    · split at h
      · cases h
      · cases List.mem_singleton.mp h
        rw [List.length_cons]
        omega
    · have := looseF_lt n xs ys (i + 1) j h
      rw [List.length_cons]
      omega
theorem fst_or {o o' : Option Ft} {t : Ft} (h : fst? o o' = some t) : o = some t ∨ o' = some t := by
  cases o with
  | none => exact .inr h
  | some u => exact .inl h
theorem fault_ok {A B : Fv} {n : Int} {r1 r2 : List Pr} {t : Ft} (l1 : r1.length ≤ 100) (l2 : r2.length ≤ 100) (hA : ∀ k, (A.kind k).length ≤ 5) (hB : ∀ k, (B.kind k).length ≤ 5) (hl : A.li.length ≤ 100) (h : faultF A B n r1 r2 = some t) : ftOk t := by
  have W : ∀ {k rs}, rs.length ≤ 100 → wrongAt A B n k rs = some t → ftOk t := fun {k rs} l e => by
    unfold wrongAt at e
    obtain ⟨i, h1, rfl⟩ := Option.map_eq_some_iff.mp e
    have := wrongF_lt _ _ _ _ _ _ _ _ h1
    show i < 128
    omega
  have L : ∀ {k w rs}, leftAt A B n k w rs = some t → ftOk t := fun {k w rs} e => by
    unfold leftAt at e
    obtain ⟨i, h1, rfl⟩ := Option.map_eq_some_iff.mp e
    have := leftF_lt _ _ _ _ _ h1
    have : ((if w = true then B else A).kind k).length ≤ 5 := by
      cases w
      · exact hA k
      · exact hB k
    show i < 128
    omega
  unfold faultF at h
  rcases fst_or h with h | h
  · exact W l1 h
  rcases fst_or h with h | h
  · exact W l2 h
  rcases fst_or h with h | h
  · exact L h
  rcases fst_or h with h | h
  · exact L h
  rcases fst_or h with h | h
  · exact L h
  rcases fst_or h with h | h
  · exact L h
  unfold farAt at h
  split at h
  · next i is e =>
    cases h
    have := looseF_lt n A.li B.li 0 i (by rw [e]; simp)
    show i < 128
    omega
  · split at h
    · split at h
      · cases h
      · cases h; exact True.intro
    · cases h; exact True.intro
/-! under draws -/
theorem Go.obj {B : Bx} {H H1 : Hp} {t : Addr} {u : HO} (g : Go B H H1) (hB : BoxAt B H) (n : ∀ zs, u ≠ .lst zs) (h : H t = some u) : H1 t = some u := by
  obtain ⟨i, m, c, h1, _⟩ := hB.ex
  obtain ⟨ns, h2, _⟩ := hB.ls
  exact g.keep (fun z => by rw [z, h1] at h; cases h; exact n _ rfl) (fun z => by rw [z, h2] at h; cases h; exact n _ rfl) h
theorem sqT_go {K : PySem.W.Frag} {B : Bx} {H H1 : Hp} {t : Addr} {xs : List V} (g : Go B H H1) (hB : BoxAt B H) (e : SqT K H t xs) : SqT K H1 t xs := by
  rcases e with (e | ⟨v, e⟩) | e
  · exact .inl (.inl (g.obj hB (by intro z h; cases h) e))
  · exact .inl (.inr ⟨v, g.obj hB (by intro z h; cases h) e⟩)
  · exact .inr e
theorem pairVs_go {K : PySem.W.Frag} {B : Bx} {H H1 : Hp} {xs : List V} {ps : List Pr} (h : PairVs K H xs ps) (g : Go B H H1) (hB : BoxAt B H) : PairVs K H1 xs ps := ⟨h.1, fun i x hx => by
  obtain ⟨t, p, a, b, c⟩ := h.2 i x hx
  exact ⟨t, p, a, b, sqT_go g hB c⟩⟩
theorem LvAt.go {K : PySem.W.Frag} {C : Addr} {B : Bx} {H H1 : Hp} {p : Addr} {A : Fv} (h : LvAt K C H p A) (hB : BoxAt B H) (g : Go B H H1) : LvAt K C H1 p A := by
  obtain ⟨dx, a, b, l, us, vs, h1, h2, h3, h4, h5, h6⟩ := h.ex
  exact ⟨dx, a, b, l, us, vs, g.obj hB (by intro z h; cases h) h1, g.obj hB (by intro z h; cases h) h2, g.obj hB (by intro z h; cases h) h3, g.obj hB (by intro z h; cases h) h4, pairVs_go h5 g hB, pairVs_go h6 g hB⟩
theorem LvAt.mono {K : PySem.W.Frag} {C : Addr} {H H1 : Hp} {p : Addr} {A : Fv} (h : LvAt K C H p A) (s : Same H H1) : LvAt K C H1 p A := LivesAt.mono h s
theorem SrtF.one {A A1 A2 : Fv} (h : SrtF A A1) (h' : SrtF A A2) : A1 = A2 := by
  have e1 := SortP.one h.hs h'.hs (List.Perm.refl _)
  have e2 := SortP.one h.ss h'.ss (List.Perm.refl _)
  have e3 := SortI.one h.li h'.li (List.Perm.refl _)
  obtain ⟨a, b, c, d, e⟩ := A1
  obtain ⟨a', b', c', d', e'⟩ := A2
  have h4 : d = d' := h.lo.trans h'.lo.symm
  have h5 : e = e' := h.hi.trans h'.hi.symm
  simp only at e1 e2 e3
  subst e1 e2 e3 h4 h5
  rfl
theorem SrtF.fvm {A A1 : Fv} (h : SrtF A A1) (f : FvM A) : FvM A1 :=
  ⟨fun z hz => f.hs z (h.hs.perm.mem_iff.mp hz), fun z hz => f.ss z (h.ss.perm.mem_iff.mp hz), fun z hz => f.li z (h.li.perm.mem_iff.mp hz), by rw [h.lo]; exact f.lo, by rw [h.hi]; exact f.hi⟩
theorem SrtF.len {A A1 : Fv} (h : SrtF A A1) : A1.li.length = A.li.length := h.li.perm.length_eq
theorem FiveB.kind5 {B : Bx} {H : Hp} {p : Addr} {A : Fv} (h : FiveB B H p A) (k : Bool) : (A.kind k).length ≤ 5 := by
  obtain ⟨a, b, l, _, ra, rb, _⟩ := h.ex
  cases k
  · exact ra.le
  · exact rb.le
end Lw
namespace Lw
open PySem PySem.Spec PyProof.Rows L2 XV TL XM DO
/-! dicts of numbers as rows of pairs -/
def getE : List Pr → Int → Option Int
  | [], _ => none
  | e :: es, k => if e.1 = k then some e.2 else getE es k
def hasE (es : List Pr) (k : Int) : Bool := (getE es k).isSome
def putE : List Pr → Int → Int → List Pr
  | [], k, v => [(k, v)]
  | e :: es, k, v => if e.1 = k then (k, v) :: es else e :: putE es k v
def dropE (es : List Pr) (k : Int) : List Pr := es.filter fun e => decide (e.1 ≠ k)
def entE (e : Pr) : L2.Key × V := (.inl e.1, .int e.2)
abbrev NdE (es : List Pr) : Prop := (es.map (·.1)).Nodup
theorem getE_put (es : List Pr) (k v x : Int) : getE (putE es k v) x = if x = k then some v else getE es x := by
  induction es with
  | nil =>
    show (if k = x then some v else none) = _
    by_cases h : x = k
    · rw [if_pos h, if_pos h.symm]
    · rw [if_neg h, if_neg (Ne.symm h)]
      rfl
  | cons e es ih =>
    rw [putE]
    by_cases h : e.1 = k
    · rw [if_pos h]
      show (if k = x then some v else getE es x) = _
      by_cases h2 : x = k
      · rw [if_pos h2, if_pos h2.symm]
      · rw [if_neg h2, if_neg (Ne.symm h2), getE, if_neg (by omega)]
    · rw [if_neg h]
      show (if e.1 = x then some e.2 else getE (putE es k v) x) = _
      rw [ih, getE]
      by_cases h2 : x = k
      · rw [if_pos h2, if_pos h2, if_neg (by omega)]
      · rw [if_neg h2, if_neg h2]
theorem getE_none {es : List Pr} {k : Int} : getE es k = none ↔ k ∉ es.map (·.1) := by
  induction es with
  | nil => simp [getE]
  | cons e es ih =>
    rw [getE, List.map_cons, List.mem_cons]
    by_cases h : e.1 = k
    · rw [if_pos h]
      simp [h]
    · rw [if_neg h, ih]
      constructor
      · intro a b
        rcases b with b | b
        · exact h b.symm
        · exact a b
      · exact fun a b => a (.inr b)
theorem getE_mem {es : List Pr} {k v : Int} (h : getE es k = some v) : (k, v) ∈ es := by
  induction es with
  | nil => cases h
  | cons e es ih =>
    rw [getE] at h
    by_cases c : e.1 = k
    · rw [if_pos c] at h
      cases h
      rw [← c]
      simp
    · rw [if_neg c] at h
      exact List.mem_cons_of_mem _ (ih h)
theorem getE_of_mem {es : List Pr} {k v : Int} (n : NdE es) (h : (k, v) ∈ es) : getE es k = some v := by
  induction es with
  | nil => cases h
  | cons e es ih =>
    have n : e.1 ∉ es.map (·.1) ∧ NdE es := List.nodup_cons.mp (show ((e :: es).map (·.1)).Nodup from n)
    rw [getE]
    rcases List.mem_cons.mp h with rfl | h
    · rw [if_pos rfl]
    · rw [if_neg fun z => n.1 (by rw [z]; exact List.mem_map.mpr ⟨_, h, rfl⟩)]
      exact ih n.2 h
theorem keys_put (es : List Pr) (k v : Int) : (putE es k v).map (·.1) = if k ∈ es.map (·.1) then es.map (·.1) else es.map (·.1) ++ [k] := by
  induction es with
  | nil => rfl
  | cons e es ih =>
    rw [putE]
    show _ = if k ∈ e.1 :: es.map (·.1) then e.1 :: es.map (·.1) else (e.1 :: es.map (·.1)) ++ [k]
    by_cases h : e.1 = k
    · rw [if_pos h, if_pos (by simp [h])]
      simp [h]
    · rw [if_neg h]
      show e.1 :: (putE es k v).map (·.1) = _
      rw [ih]
      by_cases h2 : k ∈ es.map (·.1)
      · rw [if_pos h2, if_pos (List.mem_cons_of_mem _ h2)]
      · rw [if_neg h2, if_neg (by rintro z; rcases List.mem_cons.mp z with z | z; exact h z.symm; exact h2 z)]
        rfl
theorem nd_put {es : List Pr} (n : NdE es) (k v : Int) : NdE (putE es k v) := by
  unfold NdE
  rw [keys_put]
  split
  · exact n
  · next h =>
    refine List.nodup_append.mpr ⟨n, by simp, fun a ha b hb => ?_⟩
    rw [List.mem_singleton] at hb
    rintro rfl
    exact h (hb ▸ ha)
theorem nd_drop {es : List Pr} (n : NdE es) (k : Int) : NdE (dropE es k) := n.sublist (List.Sublist.map _ List.filter_sublist)
theorem getE_drop (es : List Pr) (k x : Int) : getE (dropE es k) x = if x = k then none else getE es x := by
  induction es with
  | nil =>
    show none = _
    split <;> rfl
  | cons e es ih =>
    unfold dropE
    by_cases h : e.1 = k
    · rw [List.filter_cons_of_neg (by simp [h])]
      show getE (dropE es k) x = _
      rw [ih, getE]
      by_cases h2 : x = k
      · rw [if_pos h2, if_pos h2]
      · rw [if_neg h2, if_neg h2, if_neg (by omega)]
    · rw [List.filter_cons_of_pos (by simp [h])]
      show (if e.1 = x then some e.2 else getE (dropE es k) x) = _
      rw [ih, getE]
      by_cases h2 : x = k
      · rw [if_pos h2, if_pos h2, if_neg (by omega)]
      · rw [if_neg h2, if_neg h2]
theorem len_put (es : List Pr) (k v : Int) : (putE es k v).length ≤ es.length + 1 := by
  have h := congrArg List.length (keys_put es k v)
  rw [List.length_map] at h
  rw [h]
  split
  · rw [List.length_map]; omega
  · rw [List.length_append, List.length_map]
    exact Nat.le_refl _
theorem put_new {es : List Pr} {k v : Int} (h : getE es k = none) : putE es k v = es ++ [(k, v)] := by
  induction es with
  | nil => rfl
  | cons e es ih =>
    rw [getE] at h
    by_cases c : e.1 = k
    · rw [if_pos c] at h; cases h
    · rw [if_neg c] at h
      rw [putE, if_neg c, ih h]
      rfl
/-! as the machine has them -/
theorem valV_ent (es : List Pr) (k : Int) : valV (es.map entE) (.inl k) = (getE es k).map V.int := by
  induction es with
  | nil => rfl
  | cons e es ih =>
    rw [List.map_cons, getE]
    by_cases c : e.1 = k
    · rw [if_pos c, valV_pos (by show (Sum.inl e.1 : L2.Key) = .inl k; rw [c])]
      rfl
    · rw [if_neg c, valV_neg (by intro z; cases z; exact c rfl), ih]
theorem any_ent (es : List Pr) (k : Int) : ((es.map entE).any fun kv => decide (kv.1 = Sum.inl k)) = (getE es k).isSome := by
  rw [valV_any, valV_ent]
  cases getE es k <;> rfl
theorem map_same {es : List Pr} {k v : Int} (h : k ∉ es.map (·.1)) : (es.map entE).map (fun kv => if kv.1 = Sum.inl k then (kv.1, V.int v) else kv) = es.map entE := by
  rw [List.map_map]
  refine List.map_congr_left fun e he => ?_
  show (if (Sum.inl e.1 : L2.Key) = Sum.inl k then _ else _) = _
  rw [if_neg]
  · intro z
    cases z
    exact h (List.mem_map.mpr ⟨e, he, rfl⟩)
theorem put_map {es : List Pr} (n : NdE es) {k v : Int} (h : k ∈ es.map (·.1)) : (es.map entE).map (fun kv => if kv.1 = Sum.inl k then (kv.1, V.int v) else kv) = (putE es k v).map entE := by
  induction es with
  | nil => cases h
  | cons e es ih =>
    have n : e.1 ∉ es.map (·.1) ∧ NdE es := List.nodup_cons.mp (show ((e :: es).map (·.1)).Nodup from n)
    rw [putE]
    by_cases c : e.1 = k
    · rw [if_pos c, List.map_cons, List.map_cons, map_same (by rw [← c]; exact n.1)]
      show (if (Sum.inl e.1 : L2.Key) = Sum.inl k then _ else _) :: _ = _
      rw [if_pos (by rw [c]), ← c]
      rfl
    · rw [if_neg c, List.map_cons, List.map_cons]
      show (if (Sum.inl e.1 : L2.Key) = Sum.inl k then _ else _) :: _ = _
      rw [if_neg (by intro z; cases z; exact c rfl)]
      rcases List.mem_cons.mp (show k ∈ e.1 :: es.map (·.1) from h) with z | z
      · exact absurd z.symm c
      · rw [ih n.2 z]
        rfl
theorem putK_ent {es : List Pr} (n : NdE es) (k v : Int) : putK (es.map entE) (.inl k) (.int v) = (putE es k v).map entE := by
  unfold putK
  rw [any_ent]
  cases c : getE es k with
  | none =>
    rw [put_new c, List.map_append]
    rfl
  | some x =>
    show (if true = true then _ else _) = _
    rw [if_pos rfl, put_map n (List.mem_map.mpr ⟨_, getE_mem c, rfl⟩)]
theorem dropK_ent (es : List Pr) (k : Int) : dropK (es.map entE) (.inl k) = (dropE es k).map entE := by
  unfold dropK dropE
  rw [List.filter_map]
  congr 1
  refine List.filter_congr fun e _ => ?_
  show decide ((Sum.inl e.1 : L2.Key) ≠ .inl k) = decide (e.1 ≠ k)
  by_cases c : e.1 = k
  · rw [c]; simp
  · rw [decide_eq_true c, decide_eq_true]
    intro z
    cases z
    exact c rfl
end Lw
namespace Lw
open PySem PySem.Spec PyProof.Rows L2 XV TL XM DO
/-! leading back along the way that was found -/
def leadF : Nat → List Pr → Int → List Pr → List Pr → Option (List Pr × List Pr)
  | 0, _, _, _, _ => none
  | f + 1, c, t, m, p => match getE c t with
    | none => none
    | some h => match getE m h with
      | none => some (putE m h t, putE p t h)
      | some t2 => leadF f c t2 (putE m h t) (putE p t h)
theorem leadF_end {f : Nat} {c m p : List Pr} {t h : Int} (e : getE c t = some h) (e2 : getE m h = none) : leadF (f + 1) c t m p = some (putE m h t, putE p t h) := by
  simp only [leadF, e, e2]
theorem leadF_go {f : Nat} {c m p : List Pr} {t h t2 : Int} (e : getE c t = some h) (e2 : getE m h = some t2) : leadF (f + 1) c t m p = leadF f c t2 (putE m h t) (putE p t h) := by
  simp only [leadF, e, e2]
/-- two dicts, each the other's inverse -/
structure InvE (m p : List Pr) : Prop where
  nm : NdE m
  np : NdE p
  mp : ∀ h t, getE m h = some t → getE p t = some h
  pm : ∀ t h, getE p t = some h → getE m h = some t
/-- inverse, but at t -/
structure InvBut (m p : List Pr) (t : Int) : Prop where
  nm : NdE m
  np : NdE p
  mp : ∀ h t', getE m h = some t' → getE p t' = some h
  pm : ∀ t' h, t' ≠ t → getE p t' = some h → getE m h = some t'
  no : ∀ h, getE m h ≠ some t
def ChainE (c m : List Pr) (start : Int) : Prop := ∀ (k : Nat) (e : Pr), c[k]? = some e → e.2 = start ∨ ∃ j, j < k ∧ ∃ e', c[j]? = some e' ∧ getE m e.2 = some e'.1
structure LeadP (c m p m' p' : List Pr) (start t : Int) : Prop where
  inv : InvE m' p'
  ka : ∀ x, (getE m x).isSome = true → (getE m' x).isSome = true
  kb : (getE m' start).isSome = true
  kc : ∀ x, (getE m' x).isSome = true → (getE m x).isSome = true ∨ x = start
  kd : ∀ x, (getE p x).isSome = true → (getE p' x).isSome = true
  ke : ∀ x, (getE p' x).isSome = true → (getE p x).isSome = true ∨ x = t
  kf : ∀ x y, getE m' x = some y → getE m x = some y ∨ (y, x) ∈ c
theorem at_uniq {c : List Pr} (n : NdE c) {i j : Nat} {e e' : Pr} (h1 : c[i]? = some e) (h2 : c[j]? = some e') (h : e.1 = e'.1) : i = j := by
  obtain ⟨l1, e1⟩ := List.getElem?_eq_some_iff.mp h1
  obtain ⟨l2, e2⟩ := List.getElem?_eq_some_iff.mp h2
  have pw := List.pairwise_iff_getElem.mp (show (c.map (·.1)).Pairwise (· ≠ ·) from n)
  have q : ∀ {a b : Nat} (ha : a < c.length) (hb : b < c.length), a < b → c[a].1 ≠ c[b].1 := fun {a b} ha hb hab => by
    have := pw a b (by rw [List.length_map]; exact ha) (by rw [List.length_map]; exact hb) hab
    rw [List.getElem_map, List.getElem_map] at this
    exact this
  rcases Nat.lt_trichotomy i j with z | z | z
  · exact absurd (by rw [e1, e2]; exact h) (q l1 l2 z)
  · exact z
  · exact absurd (by rw [e1, e2]; exact h.symm) (q l2 l1 z)
theorem lead_ok {c m0 : List Pr} {start : Int} (nc : NdE c) (ch : ChainE c m0 start) (hs : getE m0 start = none) : ∀ (f k : Nat) (t h : Int) (m p : List Pr), k < f → c[k]? = some (t, h) → InvBut m p t →
    (∀ (j : Nat) (e : Pr), j ≤ k → c[j]? = some e → getE m e.2 = getE m0 e.2) → ∃ m' p', leadF f c t m p = some (m', p') ∧ LeadP c m p m' p' start t
  | 0, k, _, _, _, _, hk, _, _, _ => absurd hk (Nat.not_lt_zero _)
  | f + 1, k, t, h, m, p, hk, ek, I, same => by
    have et : getE c t = some h := getE_of_mem nc (List.mem_of_getElem? ek)
    have mem : (t, h) ∈ c := List.mem_of_getElem? ek
    have hm := same k _ (Nat.le_refl _) ek
    have pt : ∀ t' h', t' ≠ t → getE p t' = some h' → getE m h' = some t' := I.pm
    cases em : getE m h with
    | none =>
      have hst : h = start := by
        rcases ch k _ ek with z | ⟨j, _, e', _, z⟩
        · exact z
        · have hm : getE m h = getE m0 h := hm
          have z : getE m0 h = some e'.1 := z
          rw [em, z] at hm
          cases hm
      subst hst
      refine ⟨putE m h t, putE p t h, leadF_end et em, ⟨nd_put I.nm _ _, nd_put I.np _ _, fun x y hx => ?_, fun x y hx => ?_⟩, fun x hx => ?_, by rw [getE_put, if_pos rfl]; rfl, fun x hx => ?_, fun x hx => ?_, fun x hx => ?_, fun x y hx => ?_⟩
      · rw [getE_put] at hx
        rw [getE_put]
        split at hx
        · next c => cases hx; rw [if_pos rfl, c]
        · have := I.mp x y hx
          have ne : y ≠ t := fun z => I.no x (by rw [← z]; exact hx)
          rw [if_neg ne]
          exact this
      · rw [getE_put] at hx
        rw [getE_put]
        split at hx
        · next c => cases hx; rw [if_pos rfl, c]
        · next ne =>
          have q := pt x y ne hx
          rw [if_neg fun z => by rw [z, em] at q; cases q]
          exact q
      · rw [getE_put]
        split
        · rfl
        · exact hx
      · rw [getE_put] at hx
        split at hx
        · next c => exact .inr c
        · exact .inl hx
      · rw [getE_put]
        split
        · rfl
        · exact hx
      · rw [getE_put] at hx
        split at hx
        · next c => exact .inr c
        · exact .inl hx
      · rw [getE_put] at hx
        split at hx
        · next c => cases hx; rw [c]; exact .inr mem
        · exact .inl hx
    | some t2 =>
      have hm : getE m h = getE m0 h := hm
      have e0 : getE m0 h = some t2 := hm.symm.trans em
      have nst : h ≠ start := fun z => by rw [z, hs] at e0; cases e0
      obtain ⟨j, hj, e', ej, z⟩ := (ch k _ ek).resolve_left nst
      have z : getE m0 h = some e'.1 := z
      have e2 : e'.1 = t2 := by rw [z] at e0; cases e0; rfl
      obtain ⟨t2', h2⟩ := e'
      have e2 : t2' = t2 := e2
      subst e2
      have ne2 : t2' ≠ t := fun w => I.no h (by rw [← w]; exact em)
      have I2 : InvBut (putE m h t) (putE p t h) t2' := by
        refine ⟨nd_put I.nm _ _, nd_put I.np _ _, fun x y hx => ?_, fun x y hne hx => ?_, fun x hx => ?_⟩
        · rw [getE_put] at hx
          rw [getE_put]
          split at hx
          · next c => cases hx; rw [if_pos rfl, c]
          · have ne : y ≠ t := fun z => I.no x (by rw [← z]; exact hx)
            rw [if_neg ne]
            exact I.mp x y hx
        · rw [getE_put] at hx
          rw [getE_put]
          split at hx
          · next c => cases hx; rw [if_pos rfl, c]
          · next ne =>
            have q := pt x y ne hx
            rw [if_neg fun z => by rw [z, em] at q; cases q; exact hne rfl]
            exact q
        · rw [getE_put] at hx
          split at hx
          · next c => cases hx; exact ne2 rfl
          · next c =>
            have q1 := I.mp x _ hx
            have q2 := I.mp h _ em
            rw [q1] at q2
            cases q2
            exact c rfl
      obtain ⟨m', p', r, P⟩ := lead_ok nc ch hs f j t2' h2 (putE m h t) (putE p t h) (by omega) ej I2 fun i e hi hei => by
        rw [getE_put, if_neg]
        · exact same i e (by omega) hei
        · intro w
          rcases ch i e hei with z1 | ⟨i', hi', e'', ei', z1⟩
          · exact nst (w.symm.trans z1)
          · rw [w, e0] at z1
            cases z1
            have := at_uniq nc ei' ej rfl
            omega
      refine ⟨m', p', (leadF_go et em).trans r, P.inv, fun x hx => P.ka x ?_, P.kb, fun x hx => ?_, fun x hx => P.kd x ?_, fun x hx => ?_, fun x y hx => ?_⟩
      · rw [getE_put]
        split
        · rfl
        · exact hx
      · rcases P.kc x hx with q | q
        · rw [getE_put] at q
          split at q
          · next c => rw [c, em]; exact .inl rfl
          · exact .inl q
        · exact .inr q
      · rw [getE_put]
        split
        · rfl
        · exact hx
      · rcases P.ke x hx with q | q
        · rw [getE_put] at q
          split at q
          · next c => exact .inr c
          · exact .inl q
        · refine .inl ?_
          rw [q, I.mp h _ em]
          rfl
      · rcases P.kf x y hx with q | q
        · rw [getE_put] at q
          split at q
          · next c => cases q; rw [c]; exact .inr mem
          · exact .inl q
        · exact .inr q
/-! the search -/
abbrev Hit := Int × List Pr × Option Int
section
variable {m p : List Pr} {kept : Int → Bool} {near : Int → List Int} {start : Int}
structure SI (m p : List Pr) (kept : Int → Bool) (near : Int → List Int) (start : Int) (c : List Pr) (ms : List Int) : Prop where
  nc : NdE c
  hs : ∃ hs, ms = start :: hs ∧ hs.map some = c.map fun e => getE p e.1
  kp : ∀ x ∈ ms, x = start ∨ kept x = true
  edge : ∀ e ∈ c, e.1 ∈ near e.2
  ch : ChainE c m start
  own : ∀ e ∈ c, e.2 = start ∨ kept e.2 = true
structure HereE (m : List Pr) (kept : Int → Bool) (start : Int) (c : List Pr) (here : Int) : Prop where
  k : here = start ∨ kept here = true
  j : here = start ∨ ∃ (j : Nat) (e : Pr), c[j]? = some e ∧ getE m here = some e.1
structure Succ (m p : List Pr) (kept : Int → Bool) (near : Int → List Int) (start : Int) (r : Hit) : Prop where
  nc : NdE r.2.1
  edge : ∀ e ∈ r.2.1, e.1 ∈ near e.2
  ch : ChainE r.2.1 m start
  own : ∀ e ∈ r.2.1, e.2 = start ∨ kept e.2 = true
  last : ∃ h, r.2.1[r.2.1.length - 1]? = some (r.1, h)
  pos : 0 < r.2.1.length
  get : getE p r.1 = r.2.2
  free : ∀ h, r.2.2 = some h → kept h = false
theorem chain_snoc {c : List Pr} {t here : Int} (ch : ChainE c m start) (H : HereE m kept start c here) : ChainE (c ++ [(t, here)]) m start := by
  intro k e he
  by_cases hk : k < c.length
  · rw [List.getElem?_append_left hk] at he
    rcases ch k e he with z | ⟨j, hj, e', z1, z2⟩
    · exact .inl z
    · exact .inr ⟨j, hj, e', by rw [List.getElem?_append_left (by omega)]; exact z1, z2⟩
  · have hl := (List.getElem?_eq_some_iff.mp he).1
    rw [List.length_append] at hl
    have : k = c.length := by
      have : ([(t, here)] : List Pr).length = 1 := rfl
      omega
    subst this
    rw [List.getElem?_append_right (Nat.le_refl _), Nat.sub_self] at he
    cases he
    rcases H.j with z | ⟨j, e', z1, z2⟩
    · exact .inl z
    · have := (List.getElem?_eq_some_iff.mp z1).1
      exact .inr ⟨j, this, e', by rw [List.getElem?_append_left this]; exact z1, z2⟩
theorem succ_mk {c : List Pr} {ms : List Int} {t here : Int} (S : SI m p kept near start c ms) (H : HereE m kept start c here) (ht : t ∈ near here) (hc : getE c t = none) {o : Option Int} (ho : getE p t = o) (hf : ∀ h, o = some h → kept h = false) : Succ m p kept near start (t, putE c t here, o) := by
  rw [put_new hc]
  refine ⟨?_, ?_, chain_snoc S.ch H, ?_, ⟨here, ?_⟩, ?_, ho, hf⟩
  · have := nd_put S.nc t here
    rw [put_new hc] at this
    exact this
  · intro e he
    rcases List.mem_append.mp he with he | he
    · exact S.edge e he
    · cases List.mem_singleton.mp he
      exact ht
  · intro e he
    rcases List.mem_append.mp he with he | he
    · exact S.own e he
    · cases List.mem_singleton.mp he
      exact H.k
  · show (c ++ [(t, here)])[(c ++ [(t, here)]).length - 1]? = some (t, here)
    rw [List.length_append]
    show (c ++ [(t, here)])[c.length + 1 - 1]? = some (t, here)
    rw [Nat.add_sub_cancel, List.getElem?_append_right (Nat.le_refl _), Nat.sub_self]
    rfl
  · show 0 < (c ++ [(t, here)]).length
    rw [List.length_append]
    exact Nat.succ_pos _
theorem si_snoc {c : List Pr} {ms : List Int} {t here h : Int} (S : SI m p kept near start c ms) (H : HereE m kept start c here) (ht : t ∈ near here) (hc : getE c t = none) (hp : getE p t = some h) (hk : kept h = true) : SI m p kept near start (putE c t here) (ms ++ [h]) := by
  rw [put_new hc]
  refine ⟨?_, ?_, ?_, ?_, chain_snoc S.ch H, ?_⟩
  · have := nd_put S.nc t here
    rw [put_new hc] at this
    exact this
  · obtain ⟨hs, e1, e2⟩ := S.hs
    refine ⟨hs ++ [h], by rw [e1]; rfl, ?_⟩
    rw [List.map_append, List.map_append, e2]
    show _ ++ [some h] = _ ++ [getE p t]
    rw [hp]
  · intro x hx
    rcases List.mem_append.mp hx with hx | hx
    · exact S.kp x hx
    · cases List.mem_singleton.mp hx
      exact .inr hk
  · intro e he
    rcases List.mem_append.mp he with he | he
    · exact S.edge e he
    · cases List.mem_singleton.mp he
      exact ht
  · intro e he
    rcases List.mem_append.mp he with he | he
    · exact S.own e he
    · cases List.mem_singleton.mp he
      exact H.k
theorem here_snoc {c : List Pr} {e : Pr} {here : Int} (H : HereE m kept start c here) : HereE m kept start (c ++ [e]) here := ⟨H.k, by
  rcases H.j with z | ⟨j, e', z1, z2⟩
  · exact .inl z
  · exact .inr ⟨j, e', by rw [List.getElem?_append_left (List.getElem?_eq_some_iff.mp z1).1]; exact z1, z2⟩⟩
theorem nodup_sub_len : ∀ {xs ys : List Int}, xs.Nodup → (∀ x ∈ xs, x ∈ ys) → xs.length ≤ ys.length
  | [], _, _, _ => Nat.zero_le _
  | x :: xs, ys, n, h => by
    have n := List.nodup_cons.mp n
    have hx := h x (by simp)
    have := nodup_sub_len (xs := xs) (ys := ys.erase x) n.2 fun z hz => (List.mem_erase_of_ne fun w => n.1 (by rw [← w]; exact hz)).mpr (h z (List.mem_cons_of_mem _ hz))
    rw [List.length_erase_of_mem hx] at this
    have l := List.length_pos_of_mem hx
    rw [List.length_cons]
    omega
theorem SI.len {c : List Pr} {ms : List Int} (S : SI m p kept near start c ms) : ms.length = c.length + 1 ∧ c.length ≤ p.length := by
  obtain ⟨hs, e1, e2⟩ := S.hs
  have l := congrArg List.length e2
  rw [List.length_map, List.length_map] at l
  refine ⟨by rw [e1, List.length_cons, l], ?_⟩
  have := nodup_sub_len (xs := c.map (·.1)) (ys := p.map (·.1)) S.nc fun x hx => by
    obtain ⟨e, he, rfl⟩ := List.mem_map.mp hx
    have : getE p e.1 ∈ hs.map some := by rw [e2]; exact List.mem_map.mpr ⟨e, he, rfl⟩
    obtain ⟨v, _, hv⟩ := List.mem_map.mp this
    exact List.mem_map.mpr ⟨_, getE_mem hv.symm, rfl⟩
  rw [List.length_map, List.length_map] at this
  exact this
theorem SI.at {c : List Pr} {ms : List Int} (I : InvE m p) (S : SI m p kept near start c ms) {k : Nat} {here : Int} (h : ms[k]? = some here) : HereE m kept start c here := by
  refine ⟨S.kp _ (List.mem_of_getElem? h), ?_⟩
  obtain ⟨hs, e1, e2⟩ := S.hs
  subst e1
  cases k with
  | zero => cases h; exact .inl rfl
  | succ k =>
    have h : hs[k]? = some here := h
    have z : (hs.map some)[k]? = some (some here) := by rw [List.getElem?_map, h]; rfl
    rw [e2, List.getElem?_map] at z
    obtain ⟨e, he, hp⟩ := Option.map_eq_some_iff.mp z
    exact .inr ⟨k, e, he, I.pm _ _ hp⟩
theorem SI.nodup {c : List Pr} {ms : List Int} (I : InvE m p) (hs0 : getE m start = none) (S : SI m p kept near start c ms) : ms.Nodup := by
  obtain ⟨hs, e1, e2⟩ := S.hs
  subst e1
  have at_ : ∀ {k : Nat} {x : Int}, hs[k]? = some x → ∃ e, c[k]? = some e ∧ getE p e.1 = some x := fun {k x} h => by
    have z : (hs.map some)[k]? = some (some x) := by rw [List.getElem?_map, h]; rfl
    rw [e2, List.getElem?_map] at z
    exact Option.map_eq_some_iff.mp z
  refine List.nodup_cons.mpr ⟨fun h => ?_, ?_⟩
  · obtain ⟨k, hk⟩ := List.mem_iff_getElem?.mp h
    obtain ⟨e, _, hp⟩ := at_ hk
    rw [I.pm _ _ hp] at hs0
    cases hs0
  · show hs.Pairwise (· ≠ ·)
    rw [List.pairwise_iff_getElem]
    intro i j hi hj hij w
    have h1 := List.getElem?_eq_getElem hi
    have h2 := List.getElem?_eq_getElem hj
    obtain ⟨e, he, hp⟩ := at_ h1
    obtain ⟨e', he', hp'⟩ := at_ h2
    rw [w] at hp
    have a := I.pm _ _ hp
    rw [I.pm _ _ hp'] at a
    injection a with a
    have := at_uniq S.nc he he' a.symm
    omega
/-- no way further: more met than can be reached from them -/
structure Fail (kept : Int → Bool) (near : Int → List Int) (start : Int) (ms : List Int) : Prop where
  nd : ms.Nodup
  st : start ∈ ms
  kp : ∀ x ∈ ms, x = start ∨ kept x = true
  ks : ∃ ks : List Int, ks.Nodup ∧ ks.length + 1 = ms.length ∧ ∀ x ∈ ms, ∀ t ∈ near x, t ∈ ks
theorem fail_of (I : InvE m p) (hs0 : getE m start = none) {k : Nat} {c : List Pr} {ms : List Int} (S : SI m p kept near start c ms) (cov : ∀ (j : Nat) (x : Int), j < k → ms[j]? = some x → ∀ t ∈ near x, (getE c t).isSome = true) (hl : ms.length ≤ k) : Fail kept near start ms := by
  obtain ⟨l1, l2⟩ := S.len
  refine ⟨S.nodup I hs0, ?_, S.kp, c.map (·.1), S.nc, by rw [List.length_map]; omega, fun x hx t ht => ?_⟩
  · obtain ⟨hs, e1, _⟩ := S.hs
    rw [e1]
    simp
  · obtain ⟨j, hj⟩ := List.mem_iff_getElem?.mp hx
    have hjl := (List.getElem?_eq_some_iff.mp hj).1
    have z := cov j x (by omega) hj t ht
    cases w : getE c t with
    | none => rw [w] at z; cases z
    | some v => exact List.mem_map.mpr ⟨_, getE_mem w, rfl⟩
theorem si_start (start : Int) : SI m p kept near start [] [start] := ⟨List.nodup_nil, ⟨[], rfl, rfl⟩, fun x hx => .inl (List.mem_singleton.mp hx), (fun e he => nomatch he), (fun k e he => by simp at he), (fun e he => nomatch he)⟩
def unE (m : List Pr) : Option Int → List Pr
  | none => m
  | some h => dropE m h
structure Grown (m p m' p' : List Pr) (kept : Int → Bool) (near : Int → List Int) (start : Int) : Prop where
  inv : InvE m' p'
  st : (getE m' start).isSome = true
  keep : ∀ x, kept x = true → (getE m x).isSome = true → (getE m' x).isSome = true
  dom : ∀ x, (getE m' x).isSome = true → (getE m x).isSome = true ∨ x = start
  keepP : ∀ x, (getE p x).isSome = true → (getE p' x).isSome = true
  edge : ∀ x y, getE m' x = some y → getE m x = some y ∨ y ∈ near x
theorem grown_of (I : InvE m p) (hs0 : getE m start = none) {t : Int} {c : List Pr} {o : Option Int} (P : Succ m p kept near start (t, c, o)) : ∃ m' p', leadF c.length c t (unE m o) p = some (m', p') ∧ Grown m p m' p' kept near start := by
  obtain ⟨h, el⟩ := P.last
  have pos : 0 < c.length := P.pos
  have ins : ∀ e ∈ c, ∀ h', o = some h' → e.2 ≠ h' := fun e he h' ho w => by
    have f : kept h' = false := P.free h' ho
    rcases P.own e he with z | z
    · have g : getE p t = some h' := (P.get).trans ho
      have := I.pm _ _ g
      rw [← w, z, hs0] at this
      cases this
    · rw [w, f] at z
      cases z
  have both : ∃ m0, m0 = unE m o ∧ InvBut m0 p t ∧ (∀ e ∈ c, getE m0 e.2 = getE m e.2) ∧ (∀ x, kept x = true → (getE m x).isSome = true → (getE m0 x).isSome = true) ∧ (∀ x y, getE m0 x = some y → getE m x = some y) := by
    cases o with
    | none =>
      refine ⟨m, rfl, ⟨I.nm, I.np, I.mp, fun t' h _ => I.pm t' h, fun h z => ?_⟩, fun _ _ => rfl, fun _ _ h => h, fun _ _ h => h⟩
      have g : getE p t = none := P.get
      rw [I.mp _ _ z] at g
      cases g
    | some h' =>
      have g : getE p t = some h' := P.get
      refine ⟨dropE m h', rfl, ⟨nd_drop I.nm _, I.np, fun x y hx => ?_, fun t' x hne hx => ?_, fun x hx => ?_⟩, fun e he => ?_, fun x hx hm => ?_, fun x y hx => ?_⟩
      · rw [getE_drop] at hx
        split at hx
        · cases hx
        · exact I.mp x y hx
      · rw [getE_drop, if_neg]
        · exact I.pm t' x hx
        · intro z
          have a := I.pm t' x hx
          have b := I.pm t h' g
          rw [z, b] at a
          injection a with a
          exact hne a.symm
      · rw [getE_drop] at hx
        split at hx
        · cases hx
        · next c =>
          have := I.mp x t hx
          rw [g] at this
          injection this with this
          exact c this.symm
      · rw [getE_drop, if_neg (ins e he h' rfl)]
      · rw [getE_drop, if_neg]
        · exact hm
        · intro z
          have : kept h' = false := P.free h' rfl
          rw [z, this] at hx
          cases hx
      · rw [getE_drop] at hx
        split at hx
        · cases hx
        · exact hx
  obtain ⟨m0, em0, I0, same, kp, sub⟩ := both
  have hst : getE m0 start = none := by
    cases w : getE m0 start with
    | none => rfl
    | some y => rw [sub _ _ w] at hs0; cases hs0
  have ch0 : ChainE c m0 start := fun k e he => by
    rcases P.ch k e he with z | ⟨j, hj, e', z1, z2⟩
    · exact .inl z
    · exact .inr ⟨j, hj, e', z1, by rw [same e (List.mem_of_getElem? he)]; exact z2⟩
  obtain ⟨m', p', el2, L⟩ := lead_ok P.nc ch0 hst c.length (c.length - 1) t h m0 p (by omega) el I0 fun _ _ _ _ => rfl
  rw [em0] at el2
  refine ⟨m', p', el2, L.inv, L.kb, fun x hk hx => L.ka x (kp x hk hx), fun x hx => ?_, L.kd, fun x y hx => ?_⟩
  · rcases L.kc x hx with z | z
    · cases w : getE m0 x with
        | none => rw [w] at z; cases z
        | some y => rw [sub _ _ w]; exact .inl rfl
    · exact .inr z
  · rcases L.kf x y hx with z | z
    · exact .inl (sub _ _ z)
    · exact .inr (P.edge _ z)
end
end Lw
namespace Lw
open PySem PySem.Spec PyProof.Rows L2 XV TL XM DO
/-! who is near whom -/
def nearL (f : Pr → Bool) (qs : List Pr) (i : Nat) : List Int := ((List.range i).filter fun j => match qs[j]? with | some q => f q | none => false).map fun j : Nat => (j : Int)
theorem nearL_zero (f : Pr → Bool) (qs : List Pr) : nearL f qs 0 = [] := rfl
theorem nearL_succ {f : Pr → Bool} {qs : List Pr} {i : Nat} {q : Pr} (h : qs[i]? = some q) : nearL f qs (i + 1) = nearL f qs i ++ (if f q = true then [(i : Int)] else []) := by
  unfold nearL
  rw [List.range_succ, List.filter_append, List.map_append]
  congr 1
  by_cases c : f q = true
  · rw [if_pos c, List.filter_cons_of_pos (by rw [h]; exact c)]
    rfl
  · rw [if_neg c, List.filter_cons_of_neg (by rw [h]; exact c)]
    rfl
theorem mem_nearL {f : Pr → Bool} {qs : List Pr} {i : Nat} {x : Int} : x ∈ nearL f qs i ↔ ∃ (j : Nat) (q : Pr), j < i ∧ qs[j]? = some q ∧ f q = true ∧ x = (j : Int) := by
  unfold nearL
  rw [List.mem_map]
  constructor
  · rintro ⟨j, hj, rfl⟩
    obtain ⟨h1, h2⟩ := List.mem_filter.mp hj
    rw [List.mem_range] at h1
    cases e : qs[j]? with
    | none => rw [e] at h2; cases h2
    | some q => rw [e] at h2; exact ⟨j, q, h1, e, h2, rfl⟩
  · rintro ⟨j, q, h1, e, h2, rfl⟩
    exact ⟨j, List.mem_filter.mpr ⟨List.mem_range.mpr h1, by rw [e]; exact h2⟩, rfl⟩
theorem nearL_len (f : Pr → Bool) (qs : List Pr) (i : Nat) : (nearL f qs i).length ≤ i := by
  unfold nearL
  rw [List.length_map]
  have := List.length_filter_le (fun j => match qs[j]? with | some q => f q | none => false) (List.range i)
  rw [List.length_range] at this
  exact this
theorem nearL_nd (f : Pr → Bool) (qs : List Pr) (i : Nat) : (nearL f qs i).Nodup := by
  unfold nearL
  show List.Pairwise _ _
  rw [List.pairwise_map]
  refine (List.Pairwise.filter _ List.nodup_range).imp fun {a b} h z => h ?_
  omega
/-- the other ones near x -/
def nearX (ps qs : List Pr) (n x : Int) : List Int := nearL (fun q => nearP (getP ps x) q n) qs qs.length
theorem ab_swap (a b : Int) : ab (a - b) = ab (b - a) := by
  unfold ab
  split <;> split <;> omega
theorem near1_swap (a b n : Int) : near1 a b n = near1 b a n := by
  unfold near1
  rw [ab_swap]
theorem nearP_swap (p q : Pr) (n : Int) : nearP p q n = nearP q p n := by
  unfold nearP
  rw [near1_swap p.1, near1_swap p.2]
theorem mem_nearX {ps qs : List Pr} {n x y : Int} : y ∈ nearX ps qs n x ↔ (0 ≤ y ∧ y < qs.length) ∧ nearP (getP ps x) (getP qs y) n = true := by
  unfold nearX
  rw [mem_nearL]
  constructor
  · rintro ⟨j, q, h1, e, h2, rfl⟩
    refine ⟨⟨by omega, by omega⟩, ?_⟩
    have : getP qs (j : Int) = q := by
      unfold getP
      rw [Int.toNat_natCast, e]
      rfl
    rw [this]
    exact h2
  · rintro ⟨⟨h0, h1⟩, h2⟩
    have hl : y.toNat < qs.length := by omega
    refine ⟨y.toNat, qs[y.toNat], hl, List.getElem?_eq_getElem hl, ?_, by omega⟩
    have : getP qs y = qs[y.toNat] := by
      unfold getP
      rw [List.getElem?_eq_getElem hl]
      rfl
    rw [← this]
    exact h2
def longX (ps : List Pr) (n x : Int) : Bool := decide (n < (getP ps x).2 - (getP ps x).1)
/-- a bar of a kind -/
structure SetBar (ps qs : List Pr) (n : Int) (ns : List Int) : Prop where
  up : upF ps n (-1) ns = true
  few : nearC ps qs n ns < ns.length
theorem nearC_len (ps qs : List Pr) (n : Int) (ns : List Int) : nearC ps qs n ns = (nearL (anyN ps n ns) qs qs.length).length := by
  unfold nearC nearL
  rw [List.length_map]
  have q : ∀ (i : Nat), i ≤ qs.length → ((qs.take i).filter (anyN ps n ns)).length = ((List.range i).filter fun j => match qs[j]? with | some q => anyN ps n ns q | none => false).length := by
    intro i
    induction i with
    | zero => intro _; rfl
    | succ i ih =>
      intro hi
      have hl : i < qs.length := by omega
      have e := List.getElem?_eq_getElem hl
      rw [List.take_add_one, e, List.filter_append, List.length_append, ih (by omega), List.range_succ, List.filter_append, List.length_append]
      congr 1
      show (List.filter _ [qs[i]]).length = _
      by_cases c : anyN ps n ns qs[i] = true
      · rw [List.filter_cons_of_pos c, List.filter_cons_of_pos (by rw [e]; exact c)]
        rfl
      · rw [List.filter_cons_of_neg c, List.filter_cons_of_neg (by rw [e]; exact c)]
        rfl
  have z := q qs.length (Nat.le_refl _)
  rw [List.take_length] at z
  exact z
theorem few_of {ps qs : List Pr} {n : Int} {ns ks : List Int} (h : ∀ x ∈ ns, ∀ t ∈ nearX ps qs n x, t ∈ ks) : nearC ps qs n ns ≤ ks.length := by
  have e := nearC_len ps qs n ns
  rw [e]
  refine nodup_sub_len (nearL_nd _ _ _) fun x hx => ?_
  obtain ⟨j, q, h1, e2, h2, rfl⟩ := mem_nearL.mp hx
  unfold anyN at h2
  obtain ⟨b, hb, hb2⟩ := List.any_eq_true.mp h2
  obtain ⟨i, hi, rfl⟩ := List.mem_map.mp hb
  refine h i hi _ (mem_nearX.mpr ⟨⟨by omega, by omega⟩, ?_⟩)
  have : getP qs (j : Int) = q := by
    unfold getP
    rw [Int.toNat_natCast, e2]
    rfl
  rw [this]
  exact hb2
theorem asc_of {ns : List Int} (n : ns.Nodup) (s : ns.Pairwise (· ≤ ·)) : ns.Pairwise (· < ·) := by
  have := List.Pairwise.and s (show ns.Pairwise (· ≠ ·) from n)
  exact this.imp fun {a b} h => by omega
theorem bar_of {ps qs : List Pr} {n start : Int} {ms ns : List Int} (F : Fail (longX ps n) (nearX ps qs n) start ms) (hst : longX ps n start = true) (hr : ∀ x ∈ ms, 0 ≤ x ∧ x < (ps.length : Int)) (p : ns.Perm ms) (s : ns.Pairwise (· ≤ ·)) : SetBar ps qs n ns := by
  have nd : ns.Nodup := p.nodup_iff.mpr F.nd
  have mm : ∀ x, x ∈ ns ↔ x ∈ ms := fun x => p.mem_iff
  obtain ⟨ks, k1, k2, k3⟩ := F.ks
  refine ⟨(upF_iff ps n ns (-1)).mpr ⟨⟨fun i hi => by have := hr i ((mm i).mp hi); omega, asc_of nd s⟩, fun i hi => ⟨hr i ((mm i).mp hi), ?_⟩⟩, ?_⟩
  · have : longX ps n i = true := by
      rcases F.kp i ((mm i).mp hi) with rfl | z
      · exact hst
      · exact z
    have := of_decide_eq_true this
    omega
  · have := few_of (ps := ps) (qs := qs) (n := n) (ns := ns) (ks := ks) fun x hx => k3 x ((mm x).mp hx)
    rw [p.length_eq]
    omega
/-! a bar leaves no matching -/
theorem bar_no {ps qs : List Pr} {n : Int} {ns : List Int} (b : SetBar ps qs n ns) (f : Int → Option Int) (h1 : ∀ x : Int, 0 ≤ x → x < ps.length → longX ps n x = true → ∃ y, f x = some y ∧ y ∈ nearX ps qs n x) (h2 : ∀ x y z : Int, f x = some z → f y = some z → x = y) : False := by
  obtain ⟨⟨_, asc⟩, q⟩ := (upF_iff ps n ns (-1)).mp b.up
  have : ∀ x ∈ ns, ∃ y, f x = some y ∧ y ∈ nearX ps qs n x := fun x hx => by
    obtain ⟨⟨a, c⟩, d⟩ := q x hx
    exact h1 x a c (decide_eq_true (by omega))
  have inj : (ns.map fun x => (f x).getD 0).Nodup := by
    show List.Pairwise _ _
    rw [List.pairwise_map]
    refine List.Pairwise.imp_of_mem ?_ asc
    intro a c ha hc hac z
    obtain ⟨y, e1, _⟩ := this a ha
    obtain ⟨y', e2, _⟩ := this c hc
    rw [e1, e2] at z
    have z : y = y' := z
    subst z
    have := h2 a c y e1 e2
    omega
  have e := nearC_len ps qs n ns
  have l := nodup_sub_len (ys := nearL (anyN ps n ns) qs qs.length) inj fun y hy => by
    obtain ⟨x, hx, rfl⟩ := List.mem_map.mp hy
    obtain ⟨y, e1, m⟩ := this x hx
    rw [e1]
    show y ∈ _
    obtain ⟨⟨a, c⟩, d⟩ := mem_nearX.mp m
    have hl : y.toNat < qs.length := by omega
    refine mem_nearL.mpr ⟨y.toNat, qs[y.toNat], hl, List.getElem?_eq_getElem hl, ?_, by omega⟩
    have w : getP qs y = qs[y.toNat] := by
      unfold getP
      rw [List.getElem?_eq_getElem hl]
      rfl
    unfold anyN
    rw [List.any_eq_true]
    exact ⟨_, List.mem_map.mpr ⟨x, hx, rfl⟩, by rw [← w]; exact d⟩
  rw [List.length_map, ← e] at l
  have := b.few
  omega
end Lw
namespace Lw
open PySem PySem.Spec PyProof.Rows L2 XV TL XM DO
/-! the masks find a matching where there is one -/
/-- a matching as a function -/
structure FnM (one two : List Pr) (n : Int) (f : Int → Option Int) : Prop where
  rng : ∀ a y, f a = some y → (0 ≤ a ∧ a < one.length) ∧ (0 ≤ y ∧ y < two.length) ∧ nearP (getP one a) (getP two y) n = true
  inj : ∀ a b y, f a = some y → f b = some y → a = b
  l1 : ∀ a : Int, 0 ≤ a → a < one.length → n < lifeP (getP one a) → ∃ y, f a = some y
  l2 : ∀ b : Int, 0 ≤ b → b < two.length → n < lifeP (getP two b) → ∃ a, f a = some b
theorem near1_mono {a b m n : Int} (h : m ≤ n) (k : near1 a b m = true) : near1 a b n = true := by
  unfold near1 at k ⊢
  have := of_decide_eq_true k
  exact decide_eq_true (by omega)
theorem nearP_mono {p q : Pr} {m n : Int} (h : m ≤ n) (k : nearP p q m = true) : nearP p q n = true := by
  unfold nearP at k ⊢
  obtain ⟨a, b⟩ := Bool.and_eq_true_iff.mp k
  rw [near1_mono h a, near1_mono h b]
  rfl
theorem FnM.mono {one two : List Pr} {m n : Int} {f : Int → Option Int} (F : FnM one two m f) (h : m ≤ n) : FnM one two n f :=
  ⟨fun a y e => by obtain ⟨x, y, z⟩ := F.rng a y e; exact ⟨x, y, nearP_mono h z⟩, F.inj, fun a h0 h1 l => F.l1 a h0 h1 (by omega), fun b h0 h1 l => F.l2 b h0 h1 (by omega)⟩
theorem mem_putM {ms : Ms} {k : Int} {v : List Pr} : (∀ x ∈ ms.map (·.1), x ∈ (putM ms k v).map (·.1)) ∧ k ∈ (putM ms k v).map (·.1) := by
  unfold putM
  split
  · rename_i h
    have e : (ms.map fun e => if e.1 = k then (e.1, v) else e).map (·.1) = ms.map (·.1) := by
      rw [List.map_map]
      refine List.map_congr_left fun e _ => ?_
      show (if e.1 = k then (e.1, v) else e).1 = e.1
      split <;> rfl
    rw [e]
    refine ⟨fun x hx => hx, ?_⟩
    obtain ⟨e, he, hk⟩ := List.any_eq_true.mp h
    exact List.mem_map.mpr ⟨e, he, of_decide_eq_true hk⟩
  · rw [List.map_append]
    exact ⟨fun x hx => List.mem_append_left _ hx, List.mem_append_right _ (by simp)⟩
theorem inF_keys (p : Pr) (i : Nat) (n mask : Int) (rs : List Pr) : ∀ (qs : List Pr) (j : Nat) (f : Ms), (∀ x ∈ f.map (·.1), x ∈ (inF p i n mask rs j qs f).map (·.1)) ∧
    ∀ (k : Nat) (q : Pr), qs[k]? = some q → bitF mask (j + k) = 0 → nearP p q n = true → mask + 1 * 2 ^ (j + k) ∈ (inF p i n mask rs j qs f).map (·.1)
  | [], j, f => ⟨fun x hx => hx, fun k q h => by simp at h⟩
  | q :: qs, j, f => by
    rw [inF]
    obtain ⟨h1, h2⟩ := inF_keys p i n mask rs qs (j + 1) (if (decide (bitF mask j = 0) && nearP p q n) = true then putM f (mask + 1 * 2 ^ j) (rs ++ [((i : Int), (j : Int))]) else f)
    refine ⟨fun x hx => h1 x ?_, fun k q' hq hb hn => ?_⟩
    · split
      · exact mem_putM.1 x hx
      · exact hx
    · cases k with
      | zero =>
        cases hq
        refine h1 _ ?_
        rw [Nat.add_zero] at hb ⊢
        rw [if_pos (by rw [hb, hn]; rfl)]
        exact mem_putM.2
      | succ k =>
        have := h2 k q' hq (by rw [show j + 1 + k = j + (k + 1) by omega]; exact hb) hn
        rw [show j + 1 + k = j + (k + 1) by omega] at this
        exact this
theorem maskF_keys (p : Pr) (i : Nat) (n : Int) (two : List Pr) (all : Ms) : ∀ (ks : List Int) (f : Ms), (∀ x ∈ f.map (·.1), x ∈ (maskF p i n two all ks f).map (·.1)) ∧
    ∀ k ∈ ks, (lifeP p ≤ n → k ∈ (maskF p i n two all ks f).map (·.1)) ∧ ∀ (j : Nat) (q : Pr), two[j]? = some q → bitF k j = 0 → nearP p q n = true → k + 1 * 2 ^ j ∈ (maskF p i n two all ks f).map (·.1)
  | [], f => ⟨fun x hx => hx, fun k h => nomatch h⟩
  | k :: ks, f => by
    rw [maskF]
    obtain ⟨h1, h2⟩ := maskF_keys p i n two all ks (inF p i n k (valM all k) 0 two (if lifeP p ≤ n then putM f k (valM all k) else f))
    obtain ⟨g1, g2⟩ := inF_keys p i n k (valM all k) two 0 (if lifeP p ≤ n then putM f k (valM all k) else f)
    refine ⟨fun x hx => h1 x (g1 x ?_), fun k' hk => ?_⟩
    · split
      · exact mem_putM.1 x hx
      · exact hx
    · rcases List.mem_cons.mp hk with rfl | hk
      · refine ⟨fun hl => h1 _ (g1 _ ?_), fun j q hq hb hn => h1 _ ?_⟩
        · rw [if_pos hl]
          exact mem_putM.2
        · have := g2 j q hq (by rw [Nat.zero_add]; exact hb) hn
          rw [Nat.zero_add] at this
          exact this
      · exact h2 k' hk
/-- the mask of the first ones -/
def mskF (f : Int → Option Int) : Nat → Int
  | 0 => 0
  | i + 1 => match f (i : Int) with
    | none => mskF f i
    | some y => mskF f i + 1 * 2 ^ y.toNat
theorem msk_bits {one two : List Pr} {n : Int} {f : Int → Option Int} (F : FnM one two n f) (l5 : two.length ≤ 5) : ∀ i : Nat, ∃ m : Nat, mskF f i = m ∧ m < 32 ∧ ∀ j : Fin 5, m / (1 * 2 ^ j.val) % 2 = if ∃ a : Nat, a < i ∧ f a = some (j.val : Int) then 1 else 0
  | 0 => ⟨0, rfl, by decide, fun j => by
    rw [if_neg (by rintro ⟨a, h, _⟩; exact absurd h (Nat.not_lt_zero _)), Nat.zero_div]⟩
  | i + 1 => by
    obtain ⟨m, e, lt, b⟩ := msk_bits F l5 i
    cases h : f (i : Int) with
    | none =>
      refine ⟨m, by rw [mskF, h]; exact e, lt, fun j => ?_⟩
      rw [b j]
      congr 1
      refine propext ⟨fun ⟨a, ha, hf⟩ => ⟨a, by omega, hf⟩, fun ⟨a, ha, hf⟩ => ⟨a, ?_, hf⟩⟩
      have : a ≠ i := fun z => by rw [z, h] at hf; cases hf
      omega
    | some y =>
      obtain ⟨_, ⟨y0, y1⟩, _⟩ := F.rng _ _ h
      have hy : y.toNat < 5 := by omega
      have b0 : m / (1 * 2 ^ y.toNat) % 2 = 0 := by
        have := b ⟨y.toNat, hy⟩
        rw [if_neg] at this
        · exact this
        · rintro ⟨a, ha, hf⟩
          have : ((y.toNat : Nat) : Int) = y := by omega
          have hf : f a = some ((y.toNat : Nat) : Int) := hf
          rw [this] at hf
          have := F.inj _ _ _ hf h
          omega
      obtain ⟨c1, c2⟩ := bits_nat ⟨m, lt⟩ ⟨y.toNat, hy⟩ b0
      refine ⟨m + 1 * 2 ^ y.toNat, ?_, c1, fun j => ?_⟩
      · rw [mskF, h]
        show mskF f i + 1 * 2 ^ y.toNat = _
        rw [e, Int.natCast_add, Int.natCast_mul, Int.natCast_pow]
        rfl
      · have c2 : (m + 1 * 2 ^ y.toNat) / (1 * 2 ^ j.val) % 2 = if j = (⟨y.toNat, hy⟩ : Fin 5) then 1 else m / (1 * 2 ^ j.val) % 2 := c2 j
        rw [c2]
        by_cases z : j = (⟨y.toNat, hy⟩ : Fin 5)
        · rw [if_pos z, if_pos]
          refine ⟨i, by omega, ?_⟩
          rw [h, z]
          show some y = some ((y.toNat : Nat) : Int)
          congr 1
          omega
        · rw [if_neg z, b j]
          congr 1
          refine propext ⟨fun ⟨a, ha, hf⟩ => ⟨a, by omega, hf⟩, fun ⟨a, ha, hf⟩ => ⟨a, ?_, hf⟩⟩
          have : a ≠ i := fun w => by
            rw [w, h] at hf
            injection hf with hf
            refine z (Fin.ext ?_)
            show j.val = y.toNat
            omega
          omega
theorem allF_keys {one two : List Pr} {n : Int} {f : Int → Option Int} (F : FnM one two n f) (l5 : two.length ≤ 5) : ∀ (i : Nat) (ps : List Pr) (ms : Ms), one.drop i = ps → mskF f i ∈ ms.map (·.1) → mskF f one.length ∈ (allF n two i ps ms).map (·.1)
  | i, [], ms, hd, h => by
    have hl := congrArg List.length hd
    rw [List.length_drop] at hl
    have hl : one.length - i = 0 := hl
    by_cases c : i = one.length
    · rw [← c]
      exact h
    · have : ∀ d : Nat, mskF f (one.length + d) = mskF f one.length := fun d => by
        induction d with
        | zero => rfl
        | succ d ih =>
          rw [← Nat.add_assoc, mskF]
          cases w : f ((one.length + d : Nat) : Int) with
          | none => exact ih
          | some y =>
            have := (F.rng _ _ w).1.2
            omega
      have q := this (i - one.length)
      rw [show one.length + (i - one.length) = i by omega] at q
      rw [← q]
      exact h
  | i, p :: ps, ms, hd, h => by
    have hl := congrArg List.length hd
    rw [List.length_drop, List.length_cons] at hl
    have hi : i < one.length := by omega
    have hp : one[i]? = some p := by
      have : (one.drop i)[0]? = some p := by rw [hd]; rfl
      rw [List.getElem?_drop] at this
      exact this
    have hg : getP one (i : Int) = p := by
      unfold getP
      rw [Int.toNat_natCast, hp]
      rfl
    rw [allF]
    refine allF_keys F l5 (i + 1) ps _ ?_ ?_
    · have : (one.drop i).drop 1 = ps := by rw [hd]; rfl
      rw [List.drop_drop] at this
      exact this
    · obtain ⟨_, hk⟩ := maskF_keys p i n two ms (ms.map (·.1)) []
      obtain ⟨k1, k2⟩ := hk _ h
      cases w : f (i : Int) with
      | none =>
        rw [mskF, w]
        refine k1 ?_
        by_cases c : lifeP p ≤ n
        · exact c
        · obtain ⟨y, e⟩ := F.l1 i (by omega) (by omega) (by rw [hg]; omega)
          rw [w] at e
          cases e
      | some y =>
        rw [mskF, w]
        obtain ⟨_, ⟨y0, y1⟩, nr⟩ := F.rng _ _ w
        have hy : y.toNat < two.length := by omega
        obtain ⟨m, e, lt, b⟩ := msk_bits F l5 i
        refine k2 y.toNat two[y.toNat] (List.getElem?_eq_getElem hy) ?_ ?_
        · rw [e, bitF_nat]
          have q := b ⟨y.toNat, by omega⟩
          rw [if_neg] at q
          · have q : m / (1 * 2 ^ y.toNat) % 2 = 0 := q
            rw [q]
            rfl
          · rintro ⟨a, ha, hf⟩
            have : ((y.toNat : Nat) : Int) = y := by omega
            have hf : f a = some ((y.toNat : Nat) : Int) := hf
            rw [this] at hf
            have := F.inj _ _ _ hf w
            omega
        · rw [hg] at nr
          have : getP two y = two[y.toNat] := by
            unfold getP
            rw [List.getElem?_eq_getElem hy]
            rfl
          rw [← this]
          exact nr
theorem pickF_some {two : List Pr} {n : Int} {all : Ms} {k : Int} (g : goodM two n k = true) : ∀ {ks : List Int}, k ∈ ks → pickF two n all ks ≠ none
  | [], h => nomatch h
  | x :: ks, h => by
    rw [pickF]
    split
    · intro z; cases z
    · next c =>
      rcases List.mem_cons.mp h with rfl | h
      · exact absurd g c
      · exact pickF_some g h
theorem goodL_of {two : List Pr} {n mask : Int} : ∀ (k : Nat) (qs : List Pr), (∀ (j : Nat) (q : Pr), qs[j]? = some q → lifeP q ≤ n ∨ bitF mask (k + j) = 1) → (goodL two n mask k qs).all id = true
  | _, [], _ => rfl
  | k, q :: qs, h => by
    rw [goodL, List.all_cons, Bool.and_eq_true]
    refine ⟨?_, goodL_of (k + 1) qs fun j q' e => ?_⟩
    · rcases h 0 q rfl with z | z
      · exact Bool.or_eq_true_iff.mpr (.inl (decide_eq_true z))
      · exact Bool.or_eq_true_iff.mpr (.inr (decide_eq_true z))
    · have := h (j + 1) q' e
      rw [show k + 1 + j = k + (j + 1) by omega]
      exact this
theorem matchF_some {one two : List Pr} {n : Int} {f : Int → Option Int} (l5 : two.length ≤ 5) (F : FnM one two n f) : matchF one two n ≠ none := by
  unfold matchF
  have h := allF_keys F l5 0 one [(0, [])] rfl (by show mskF f 0 ∈ [(0 : Int)]; exact List.mem_singleton.mpr rfl)
  refine pickF_some (k := mskF f one.length) ?_ h
  unfold goodM
  refine goodL_of 0 two fun j q hq => ?_
  have hj := (List.getElem?_eq_some_iff.mp hq).1
  by_cases c : lifeP q ≤ n
  · exact .inl c
  · refine .inr ?_
    obtain ⟨a, ha⟩ := F.l2 (j : Int) (by omega) (by omega) (by
      have : getP two (j : Int) = q := by
        unfold getP
        rw [Int.toNat_natCast, hq]
        rfl
      rw [this]
      omega)
    obtain ⟨m, e, lt, b⟩ := msk_bits F l5 one.length
    rw [Nat.zero_add, e, bitF_nat]
    have q := b ⟨j, by omega⟩
    rw [if_pos] at q
    · have q : m / (1 * 2 ^ j) % 2 = 1 := q
      rw [q]
      rfl
    · obtain ⟨⟨a0, a1⟩, _⟩ := F.rng _ _ ha
      exact ⟨a.toNat, by omega, by rw [show ((a.toNat : Nat) : Int) = a by omega]; exact ha⟩
theorem matchF_fn {one two : List Pr} {n : Int} {rs : List Pr} (M : Mtch one two n rs) : FnM one two n (getE rs) := by
  refine ⟨fun a y e => ?_, fun a b y e1 e2 => ?_, fun a h0 h1 l => ?_, fun b h0 h1 l => ?_⟩
  · exact M.row _ (getE_mem e)
  · have m1 := getE_mem e1
    have m2 := getE_mem e2
    obtain ⟨i, hi⟩ := List.mem_iff_getElem?.mp m1
    obtain ⟨j, hj⟩ := List.mem_iff_getElem?.mp m2
    obtain ⟨l1, q1⟩ := List.getElem?_eq_some_iff.mp hi
    obtain ⟨l2, q2⟩ := List.getElem?_eq_some_iff.mp hj
    have pw := List.pairwise_iff_getElem.mp (show (rs.map (·.2)).Pairwise (· ≠ ·) from M.nd2)
    have q : ∀ {a b : Nat} (ha : a < rs.length) (hb : b < rs.length), a < b → rs[a].2 ≠ rs[b].2 := fun {a b} ha hb hab => by
      have := pw a b (by rw [List.length_map]; exact ha) (by rw [List.length_map]; exact hb) hab
      rw [List.getElem_map, List.getElem_map] at this
      exact this
    rcases Nat.lt_trichotomy i j with z | z | z
    · exact absurd (by rw [q1, q2]) (q l1 l2 z)
    · subst z
      rw [hi] at hj
      cases hj
      rfl
    · exact absurd (by rw [q1, q2]) (q l2 l1 z)
  · have hl : a.toNat < one.length := by omega
    have e : getP one a = one[a.toNat] := by
      unfold getP
      rw [List.getElem?_eq_getElem hl]
      rfl
    have := M.l1 a.toNat _ (List.getElem?_eq_getElem hl) (by rw [← e]; exact l)
    rw [show ((a.toNat : Nat) : Int) = a by omega] at this
    obtain ⟨r, hr, rfl⟩ := List.mem_map.mp this
    exact ⟨r.2, getE_of_mem M.nd1 hr⟩
  · have hl : b.toNat < two.length := by omega
    have e : getP two b = two[b.toNat] := by
      unfold getP
      rw [List.getElem?_eq_getElem hl]
      rfl
    have := M.l2 b.toNat _ (List.getElem?_eq_getElem hl) (by rw [← e]; exact l)
    rw [show ((b.toNat : Nat) : Int) = b by omega] at this
    obtain ⟨r, hr, rfl⟩ := List.mem_map.mp this
    exact ⟨r.1, getE_of_mem M.nd1 hr⟩
/-- what can be matched, as a proposition -/
def Can (A B : Fv) (n : Int) : Prop := endsB A B n = true ∧ ∀ k, ∃ f, FnM (A.kind k) (B.kind k) n f
theorem both_can {A B : Fv} {n : Int} (b1 : B.hs.length ≤ 5) (b2 : B.ss.length ≤ 5) : bothF A B n ≠ none ↔ Can A B n := by
  unfold bothF
  constructor
  · intro h
    split at h
    · next c =>
      refine ⟨c, fun k => ?_⟩
      cases e1 : matchF A.hs B.hs n with
      | none => rw [e1] at h; exact absurd rfl h
      | some r1 =>
        cases e2 : matchF A.ss B.ss n with
        | none => rw [e1, e2] at h; exact absurd rfl h
        | some r2 =>
          cases k
          · exact ⟨_, matchF_fn (matchF_ok b1 e1)⟩
          · exact ⟨_, matchF_fn (matchF_ok b2 e2)⟩
    · exact absurd rfl h
  · rintro ⟨c, h⟩
    rw [if_pos c]
    obtain ⟨f1, F1⟩ := h false
    obtain ⟨f2, F2⟩ := h true
    have m1 := matchF_some (one := A.hs) (two := B.hs) b1 F1
    have m2 := matchF_some (one := A.ss) (two := B.ss) b2 F2
    cases e1 : matchF A.hs B.hs n with
    | none => exact absurd e1 m1
    | some r1 =>
      cases e2 : matchF A.ss B.ss n with
      | none => exact absurd e2 m2
      | some r2 => simp
theorem ends_mono {A B : Fv} {m n : Int} (h : m ≤ n) (k : endsB A B m = true) : endsB A B n = true := by
  unfold endsB endsL at k ⊢
  rw [List.all_map, List.all_eq_true] at k ⊢
  intro z hz
  exact near1_mono h (k z hz)
theorem Can.mono {A B : Fv} {m n : Int} (c : Can A B m) (h : m ≤ n) : Can A B n := ⟨ends_mono h c.1, fun k => by obtain ⟨f, F⟩ := c.2 k; exact ⟨f, F.mono h⟩⟩
end Lw
namespace Lw
open PySem PySem.Spec PyProof.Rows L2 XV TL XM DO
/-- a dict of numbers -/
structure DctAt (H : Hp) (d : Addr) (es : List Pr) : Prop where
  at_ : H d = some (.dK (es.map entE))
  nd : NdE es
theorem DctAt.get {H : Hp} {d : Addr} {es : List Pr} (h : DctAt H d es) (k : Int) : DGet H d (.int k) ((getE es k).map V.int) := by
  have := DGet.k (k := (Sum.inl k : L2.Key)) h.at_
  rw [valV_ent] at this
  exact this
theorem DctAt.isD {H : Hp} {d : Addr} {es : List Pr} (h : DctAt H d es) : IsD H d := .inl ⟨_, .inl h.at_⟩
theorem DctAt.put {H : Hp} {d : Addr} {es : List Pr} (h : DctAt H d es) (k v : Int) (l : es.length < 100000) : DPut H d (.int k) (.int v) (upd H d (.dK ((putE es k v).map entE))) := by
  have := DPut.k (k := (Sum.inl k : L2.Key)) (v := V.int v) h.at_ (by rw [List.length_map, sizeLine_eq]; omega)
  rw [putK_ent h.nd] at this
  exact this
theorem DctAt.new {H : Hp} {d : Addr} {es : List Pr} (n : NdE es) : DctAt (upd H d (.dK (es.map entE))) d es := ⟨upd_same, n⟩
theorem DctAt.other {H : Hp} {d d' : Addr} {es : List Pr} {o : HO} (h : DctAt H d es) (n : d ≠ d') : DctAt (upd H d' o) d es := ⟨by rw [upd_ne n]; exact h.at_, h.nd⟩
/-- all but two stay -/
def Two (d e : Addr) (H H' : Hp) : Prop := ∀ a o, a ≠ d → a ≠ e → H a = some o → H' a = some o
theorem Two.refl {d e : Addr} {H : Hp} : Two d e H H := fun _ _ _ _ h => h
theorem Two.trans {d e : Addr} {H H1 H2 : Hp} (x : Two d e H H1) (y : Two d e H1 H2) : Two d e H H2 := fun a o n m h => y a o n m (x a o n m h)
theorem Two.l {d e : Addr} {H : Hp} {o : HO} : Two d e H (upd H d o) := fun a u n _ h => by rw [upd_ne n]; exact h
theorem Two.r {d e : Addr} {H : Hp} {o : HO} : Two d e H (upd H e o) := fun a u _ n h => by rw [upd_ne n]; exact h
theorem Two.of {d e : Addr} {H H' : Hp} (s : Same H H') : Two d e H H' := fun a o _ _ h => s _ _ h
theorem Two.new {d e p : Addr} {H H1 : Hp} {o : HO} (x : Two d e H H1) (hp : H1 p = none) : Two d e H (upd H1 p o) := x.trans (Two.of (same_new hp))
theorem Two.swap {d e : Addr} {H H1 : Hp} (x : Two d e H H1) : Two e d H H1 := fun a o n m h => x a o m n h
abbrev sLead : Stmt := topOf "lead"
abbrev NLead : List Str := ["end", "came", "mates", "partners", "there", "here", "before"]
theorem scLead : FnScope NLead ["end", "came", "mates", "partners"] (defScope sLead) := ⟨rfl, rfl, rfl, by decide +kernel, rfl, by decide +kernel, by decide +kernel⟩
def spLead : Sp := fun vs H Q _ => ∃ (d1 d2 d3 : Addr) (t : Int) (f : Nat) (c m p m' p' : List Pr), vs = [.int t, .ref d1, .ref d2, .ref d3] ∧ DctAt H d1 c ∧ DctAt H d2 m ∧ DctAt H d3 p ∧ d1 ≠ d2 ∧ d1 ≠ d3 ∧ d2 ≠ d3 ∧ leadF f c t m p = some (m', p') ∧ m.length + f < 1000 ∧ p.length + f < 1000 ∧
  ∀ H', Two d2 d3 H H' → DctAt H' d2 m' → DctAt H' d3 p' → Q .non H'
def WLead (d1 d2 d3 : Addr) (t : Int) (H : Hp) (c m' p' : List Pr) (n : Nat) (σ : L2.St) (H1 : Hp) : Prop := ∃ (x5 x6 : Option V) (t4 : V) (m1 p1 : List Pr), σ = [some (.int t), some (.ref d1), some (.ref d2), some (.ref d3), some t4, x5, x6] ∧ Two d2 d3 H H1 ∧ DctAt H1 d1 c ∧ DctAt H1 d2 m1 ∧ DctAt H1 d3 p1 ∧ ((t4 = .non ∧ n = 0 ∧ m1 = m' ∧ p1 = p') ∨ ∃ t', t4 = .int t' ∧ leadF n c t' m1 p1 = some (m', p') ∧ m1.length + n < 1000 ∧ p1.length + n < 1000)
section
variable {P : Program} {w : World} {K : PySem.W.Frag} {mg : Str → Option Value} {base : Heap}
theorem ok_lead {f : Addr} {fd : FuncData} (F : Fun K "lead" "lead" sLead f fd) (T : Bt mg) : FnOk P w K mg base CX0 1 f fd ["end", "came", "mates", "partners"] spLead := by
  refine F.ok scLead (fun vs H Q E h => ?_) (fun cdv A0 outer s0 H vs Q E hr h => ?_)
  · obtain ⟨d1, d2, d3, t, f, c, m, p, m', p', rfl, _⟩ := h
    rfl
  · obtain ⟨d1, d2, d3, t, fu, c, m, p, m', p', rfl, hc, hm, hp, n12, n13, n23, hl, lm, lp, k⟩ := h
    refine ⟨_, pss_cons (ps_set (i := 4) scLead.nd rfl (Or.inl rfl) (pv 0))
 (pss_one (ps_while PassesOwn.never (pt_cmpR op_notN (pv 4) (pe_non) (nomark _))
 (pss_cons (ps_set (i := 5) scLead.nd rfl (Or.inl rfl) (pe_dget (by exact un1 hr) (pv 1) (pv 4) (fun _ _ => rfl)))
 (pss_cons (ps_set (i := 6) scLead.nd rfl (Or.inl rfl) (pe_dget1 (by exact un1 hr) (pv 2) (pv 5) ⟨rfl, rfl, rfl, rfl⟩))
 (pss_cons (ps_dput (by exact un1 hr) (pv 2) (pv 5) (pv 4) (by rfl))
 (pss_cons (ps_dput (by exact un1 hr) (pv 3) (pv 4) (pv 5) (by rfl))
 (pss_one (ps_set (i := 4) scLead.nd rfl (Or.inl rfl) (pv 6))))))))), ?_⟩
    refine ⟨_, rfl, ?_⟩
    refine ⟨WLead d1 d2 d3 t H c m' p', ⟨fu, none, none, .int t, m, p, rfl, Two.refl, hc, hm, hp, .inr ⟨t, rfl, hl, lm, lp⟩⟩, ?_⟩
    rintro n σ H1 ⟨x5, x6, t4, m1, p1, rfl, tw, hc1, hm1, hp1, z⟩
    rcases z with ⟨rfl, rfl, rfl, rfl⟩ | ⟨t', rfl, hl1, lm1, lp1⟩
    · refine ⟨_, rfl, rfl, _, rfl, ite_b (fun c => absurd c (by decide)) (fun _ => ?_)⟩
      exact k H1 tw hm1 hp1
    · cases n with
      | zero => cases hl1
      | succ n =>
        refine ⟨_, rfl, rfl, _, rfl, ite_b (fun _ => ?_) (fun c => absurd c (by simp))⟩
        refine ⟨fun σ' H' => ∃ n', n' < n + 1 ∧ WLead d1 d2 d3 t H c m' p' n' σ' H', fun σ' H' z => z, ?_⟩
        cases e1 : getE c t' with
        | none => simp only [leadF, e1] at hl1; cases hl1
        | some h =>
          have g1 := hc1.get t'
          rw [e1] at g1
          have l1 : (putE m1 h t').length ≤ m1.length + 1 := len_put _ _ _
          have l2 : (putE p1 t' h).length ≤ p1.length + 1 := len_put _ _ _
          refine ⟨_, rfl, _, rfl, d1, _, rfl, g1, ?_⟩
          refine ⟨_, rfl, d2, rfl, hm1.isD, _, rfl, _, hm1.get h, ?_⟩
          refine ⟨_, rfl, _, rfl, _, rfl, d2, _, rfl, hm1.put h t' (by omega), ?_⟩
          have hp2 : DctAt (upd H1 d2 (.dK ((putE m1 h t').map entE))) d3 p1 := hp1.other n23.symm
          have hc2 : DctAt (upd H1 d2 (.dK ((putE m1 h t').map entE))) d1 c := hc1.other n12
          refine ⟨_, rfl, _, rfl, _, rfl, d3, _, rfl, hp2.put t' h (by omega), ?_⟩
          have hm3 : DctAt (upd (upd H1 d2 (.dK ((putE m1 h t').map entE))) d3 (.dK ((putE p1 t' h).map entE))) d2 (putE m1 h t') := (DctAt.new (nd_put hm1.nd _ _)).other n23
          have hp3 : DctAt (upd (upd H1 d2 (.dK ((putE m1 h t').map entE))) d3 (.dK ((putE p1 t' h).map entE))) d3 (putE p1 t' h) := DctAt.new (nd_put hp1.nd _ _)
          have hc3 := hc2.other (o := .dK ((putE p1 t' h).map entE)) n13
          have tw3 := (tw.trans Two.l).trans (Two.r (d := d2) (e := d3) (H := upd H1 d2 (.dK ((putE m1 h t').map entE))) (o := .dK ((putE p1 t' h).map entE)))
          refine ⟨_, rfl, ?_⟩
          cases e2 : getE m1 h with
          | none =>
            rw [leadF_end e1 e2] at hl1
            cases hl1
            exact ⟨0, Nat.succ_pos _, _, _, .non, _, _, rfl, tw3, hc3, hm3, hp3, .inl ⟨rfl, rfl, rfl, rfl⟩⟩
          | some t2 =>
            rw [leadF_go e1 e2] at hl1
            exact ⟨n, Nat.lt_succ_self _, _, _, .int t2, _, _, rfl, tw3, hc3, hm3, hp3, .inr ⟨t2, rfl, hl1, by omega, by omega⟩⟩
end
end Lw
namespace Lw
open PySem PySem.Spec PyProof.Rows L2 XV TL XM DO
def nearR (rows : List (List Int)) (x : Int) : List Int := (rows[x.toNat]?).getD []
def keptR (bs : List Bool) (x : Int) : Bool := (bs[x.toNat]?).getD false
/-- rows of numbers -/
structure RowsI (H : Hp) (a : Addr) (rows : List (List Int)) : Prop where
  ex : ∃ xs, H a = some (.lst xs) ∧ xs.length = rows.length ∧ ∀ (i : Nat) (x : V), xs[i]? = some x → ∃ t r, x = .ref t ∧ rows[i]? = some r ∧ H t = some (.lst (r.map V.int))
theorem RowsI.mono {H H' : Hp} {a : Addr} {rows : List (List Int)} (h : RowsI H a rows) (s : Same H H') : RowsI H' a rows := by
  obtain ⟨xs, e, l, r⟩ := h.ex
  refine ⟨xs, s _ _ e, l, fun i x hx => ?_⟩
  obtain ⟨t, q, a, b, c⟩ := r i x hx
  exact ⟨t, q, a, b, s _ _ c⟩
theorem RowsI.at {H : Hp} {a : Addr} {rows : List (List Int)} (h : RowsI H a rows) {x : Int} (h0 : 0 ≤ x) (h1 : x < rows.length) : ∃ xs t, H a = some (.lst xs) ∧ atI xs x = some (.ref t) ∧ H t = some (.lst ((nearR rows x).map V.int)) := by
  obtain ⟨xs, e, l, r⟩ := h.ex
  obtain ⟨v, a1, a2, _⟩ := at_pos (xs := xs) h0 (by omega)
  obtain ⟨t, q, rfl, b, c⟩ := r _ _ a2
  refine ⟨xs, t, e, a1, ?_⟩
  unfold nearR
  rw [b]
  exact c
theorem at_bls {bs : List Bool} {x : Int} (h0 : 0 ≤ x) (h1 : x < bs.length) : atI (bs.map V.bl) x = some (.bl (keptR bs x)) := by
  obtain ⟨v, a1, a2, _⟩ := at_pos (xs := bs.map V.bl) h0 (by rw [List.length_map]; exact h1)
  rw [a1, ← a2, List.getElem?_map]
  unfold keptR
  have hl : x.toNat < bs.length := by omega
  rw [List.getElem?_eq_getElem hl]
  rfl
theorem at_int2 {ns : List Int} {m : Nat} {z : Int} (h : ns[m]? = some z) : atI (ns.map V.int) (m : Int) = some (.int z) := by
  have hl := (List.getElem?_eq_some_iff.mp h).1
  obtain ⟨v, a1, a2, a3⟩ := at_pos (xs := ns.map V.int) (i := (m : Int)) (by omega) (by rw [List.length_map]; omega)
  rw [a1]
  rw [List.getElem?_map, show ((m : Int)).toNat = m from rfl, h] at a2
  exact a2.symm
theorem turn_new {H M : Hp} {D : Addr} {o : HO} (s : Same H M) (hD : H D = none) : Same H (upd M D o) := fun b u h => by
  rw [upd_ne (ne_of_none h hD)]
  exact s _ _ h
abbrev sLen : Stmt := topOf "lengthen"
abbrev NLen : List Str := ["start", "near", "mates", "partners", "kept", "came", "met", "at", "here", "there", "holder"]
theorem scLen : FnScope NLen ["start", "near", "mates", "partners", "kept"] (defScope sLen) := ⟨rfl, rfl, rfl, by decide +kernel, rfl, by decide +kernel, by decide +kernel⟩
def spLen : Sp := fun vs H Q _ => ∃ (dn d2 d3 dk : Addr) (start : Int) (rows : List (List Int)) (bs : List Bool) (m p : List Pr), vs = [.int start, .ref dn, .ref d2, .ref d3, .ref dk] ∧ RowsI H dn rows ∧ DctAt H d2 m ∧ DctAt H d3 p ∧ d2 ≠ d3 ∧ H dk = some (.lst (bs.map V.bl)) ∧ bs.length = rows.length ∧ InvE m p ∧ getE m start = none ∧ (0 ≤ start ∧ start < rows.length) ∧
  (∀ x : Int, (getE m x).isSome = true → 0 ≤ x ∧ x < rows.length) ∧ m.length ≤ 100 ∧ p.length ≤ 100 ∧
  (∀ m' p' H', Grown m p m' p' (keptR bs) (nearR rows) start → Two d2 d3 H H' → DctAt H' d2 m' → DctAt H' d3 p' → Q .non H') ∧
  ∀ (t : Addr) (ms ns : List Int) H', Fail (keptR bs) (nearR rows) start ms → ns.Perm ms → ns.Pairwise (· ≤ ·) → (∀ x ∈ ms, 0 ≤ x ∧ x < (rows.length : Int)) → Same H H' → H' t = some (.tup (ns.map V.int)) → Q (.ref t) H'
def WLen (H : Hp) (dn d2 d3 dk d5 d6 : Addr) (start : Int) (rows : List (List Int)) (bs : List Bool) (m p : List Pr) (n : Nat) (σ : L2.St) (M : Hp) : Prop := ∃ (k : Nat) (c : List Pr) (ms : List Int) (x8 x9 x10 : Option V), σ = [some (.int start), some (.ref dn), some (.ref d2), some (.ref d3), some (.ref dk), some (.ref d5), some (.ref d6), some (.int (k : Nat)), x8, x9, x10] ∧ Same H M ∧ DctAt M d5 c ∧ M d6 = some (.lst (ms.map V.int)) ∧ SI m p (keptR bs) (nearR rows) start c ms ∧
  (∀ (j : Nat) (x : Int), j < k → ms[j]? = some x → ∀ t ∈ nearR rows x, (getE c t).isSome = true) ∧ k ≤ ms.length ∧ n + k = p.length + 2
section
variable {P : Program} {w : World} {K : PySem.W.Frag} {mg : Str → Option Value} {base : Heap}
theorem ok_len {f : Addr} {fd : FuncData} (F : Fun K "lengthen" "lengthen" sLen f fd) (T : Bt mg) (N : Cl P w K mg base 1 "lead" sLead ["end", "came", "mates", "partners"] spLead) : FnOk P w K mg base CX0 2 f fd ["start", "near", "mates", "partners", "kept"] spLen := by
  refine F.ok scLen (fun vs H Q E h => ?_) (fun cdv A0 outer s0 H vs Q E hr h => ?_)
  · obtain ⟨dn, d2, d3, dk, start, rows, bs, m, p, rfl, _⟩ := h
    rfl
  · obtain ⟨dn, d2, d3, dk, start, rows, bs, m, p, rfl, hn, hm, hp, n23, ek, lk, I, hs0, hst, rng, lm, lp, k1, k2⟩ := h
    refine ⟨_, pss_cons (ps_set (i := 5) scLen.nd rfl (Or.inl rfl) pe_dnewK)
 (pss_cons (ps_set (i := 6) scLen.nd rfl (Or.inl rfl) (pe_lst (pa_cons (pv 0) pa_nil)))
 (pss_cons (ps_set (i := 7) scLen.nd rfl (Or.inl rfl) pe_int)
 (pss_cons (ps_while PassesOwn.never (pt_cmpR op_lt (pv 7) (pe_callB call_lenL (by rfl) T.len (by decide +kernel) (pa_cons (pv 6) pa_nil)) (nomark _))
 (pss_cons (ps_set (i := 8) scLen.nd rfl (Or.inl rfl) (pe_ix ix_list (pv 6) (pv 7) (fun _ _ => rfl)))
 (pss_cons (ps_aug (i := 7) scLen.nd rfl (Or.inl rfl) pe_int ip_add)
 (pss_one (ps_for PassesOwn.never rfl (pi_list (pe_ix ix_list (pv 1) (pv 8) (fun _ _ => rfl))) (pg_name (i := 9) scLen.nd rfl (Or.inl rfl))
 (pss_cons (ps_if (pt_cmp (pc_din (by exact un1 hr) (pv 9) (pv 5))) (pss_one ps_continue) pss_nil)
 (pss_cons (ps_dput (by exact un1 hr) (pv 5) (pv 9) (pv 8) (by rfl))
 (pss_cons (ps_set (i := 10) scLen.nd rfl (Or.inl rfl) (pe_dget1 (by exact un1 hr) (pv 3) (pv 9) ⟨rfl, rfl, rfl, rfl⟩))
 (pss_cons (ps_if (PW.pt (pw_or (pt_cmpR op_isN (pv 10) (pe_non) (nomark _)) (pw_or1 (pt_not (pt_val (pe_ix ix_list (pv 4) (pv 10) (fun _ _ => rfl)))))))
 (pss_cons (ps_if (pt_cmpR op_notN (pv 10) (pe_non) (nomark _)) (pss_one (ps_ddel (pv 2) (pv 10))) pss_nil)
 (pss_cons (ps_expr (calC N (hr.mono (by decide)) (pa_cons (pv 9) (pa_cons (pv 5) (pa_cons (pv 2) (pa_cons (pv 3) pa_nil))))))
 (pss_one (ps_ret (pe_non)))))
 (pss_nil))
 (pss_one (ps_expr (pe_bm PySem.F.plainAttrs_list PySem.F.slot_list_append PySem.F.type_list_append mt_append (pv 6) (pa_cons (pv 10) pa_nil)))))))))))))
 (pss_one (ps_ret (pe_callTy call_tuple_of (by rfl) T.tuple (by decide +kernel) (pa_cons (pe_callB cr_sortedI (by rfl) T.sorted (by decide +kernel) (pa_cons (pv 6) pa_nil)) pa_nil))))))), ?_⟩
    refine fun d5 h5 => ?_
    refine ⟨_, rfl, (by show 1 ≤ sizeLine; decide), fun d6 h6 => ?_⟩
    have n56 : d5 ≠ d6 := ne_of_none upd_same h6
    have h60 : H d6 = none := sN (same_new h5) h6
    have sM : Same H (upd (upd H d5 (.dK [])) d6 (.lst [.int start])) := Same.trans (same_new h5) (same_new h6)
    have hc0 : DctAt (upd (upd H d5 (.dK [])) d6 (.lst [.int start])) d5 [] := (DctAt.new (es := []) (H := H) (d := d5) List.nodup_nil).other n56
    have e60 : (upd (upd H d5 (.dK [])) d6 (.lst [.int start])) d6 = some (.lst ([start].map V.int)) := upd_same
    generalize upd (upd H d5 (.dK [])) d6 (.lst [.int start]) = M0 at sM hc0 e60 ⊢
    have rngS : ∀ {c ms}, SI m p (keptR bs) (nearR rows) start c ms → ∀ x ∈ ms, 0 ≤ x ∧ x < (rows.length : Int) := fun {c ms} S x hx => by
      obtain ⟨j, hj⟩ := List.mem_iff_getElem?.mp hx
      rcases (S.at I hj).j with z | ⟨_, e, _, z⟩
      · rw [z]; exact hst
      · exact rng x (by rw [z]; rfl)
    refine ⟨WLen H dn d2 d3 dk d5 d6 start rows bs m p, ⟨p.length + 2, 0, [], [start], none, none, none, rfl, sM, hc0, e60, si_start start, fun j x hj => absurd hj (Nat.not_lt_zero _), Nat.zero_le _, by omega⟩, ?_⟩
    rintro n σ M ⟨k, c, ms, x8, x9, x10, rfl, sH, hc, e6, S, cov, kl, nk⟩
    obtain ⟨ml, cl⟩ := S.len
    refine ⟨_, rfl, _, rfl, d6, _, rfl, SqL.of e6, _, _, rfl, rfl, _, rfl, ite_b (fun c1 => ?_) (fun c1 => ?_)⟩
    · have c1 := of_decide_eq_true c1
      rw [List.length_map] at c1
      have hk : k < ms.length := by omega
      have hx := List.getElem?_eq_getElem hk
      generalize ms[k] = here at hx
      have HE := S.at I hx
      obtain ⟨h0, h1⟩ := rngS S here (List.mem_of_getElem? hx)
      obtain ⟨xs, tr, en, ea, er⟩ := hn.at h0 h1
      refine ⟨fun σ' M' => ∃ n', n' < n ∧ WLen H dn d2 d3 dk d5 d6 start rows bs m p n' σ' M', fun σ' H' z => z, ?_⟩
      refine ⟨_, rfl, _, rfl, d6, _, _, _, rfl, rfl, SqL.of e6, at_int2 hx, ?_⟩
      refine ⟨_, rfl, _, _, rfl, rfl, ?_⟩
      refine ⟨_, rfl, _, rfl, dn, xs, _, _, rfl, rfl, SqL.of (sH _ _ en), ea, tr, rfl, ⟨_, SqL.of (sH _ _ er)⟩, for_list (K := K) (a := tr) (xs := (nearR rows here).map V.int) (fun j σ M' => ∃ (c1 : List Pr) (ms1 : List Int) (x9 x10 : Option V), σ = [some (.int start), some (.ref dn), some (.ref d2), some (.ref d3), some (.ref dk), some (.ref d5), some (.ref d6), some (.int ((k : Nat) + 1)), some (.int here), x9, x10] ∧ Same H M' ∧ DctAt M' d5 c1 ∧ M' d6 = some (.lst (ms1.map V.int)) ∧ SI m p (keptR bs) (nearR rows) start c1 ms1 ∧
        (∀ x, (getE c x).isSome = true → (getE c1 x).isSome = true) ∧ (∀ t ∈ (nearR rows here).take j, (getE c1 t).isSome = true) ∧ (∀ (i : Nat) (x : Int), ms[i]? = some x → ms1[i]? = some x) ∧ HereE m (keptR bs) start c1 here)
        ⟨c, ms, x9, x10, rfl, sH, hc, e6, S, fun _ h => h, fun t h => by simp at h, fun _ _ h => h, HE⟩ (fun i σ M' _ h => ?_) ?_ ?_⟩
      · obtain ⟨_, _, _, _, _, sM', _⟩ := h
        exact SqL.of (sM' _ _ er)
      · rintro j y σ M' hy ⟨c1, ms1, y9, y10, rfl, sM', hc1, e61, S1, g1, g2, g3, H1⟩
        obtain ⟨t, ht, rfl⟩ : ∃ z, (nearR rows here)[j]? = some z ∧ V.int z = y := by
          rw [List.getElem?_map] at hy
          exact Option.map_eq_some_iff.mp hy
        have htm : t ∈ nearR rows here := List.mem_of_getElem? ht
        obtain ⟨ml1, cl1⟩ := S1.len
        refine ⟨_, rfl, _, rfl, d5, _, rfl, hc1.get t, _, rfl, ite_b (fun c2 => ?_) (fun c2 => ?_)⟩
        · have c2 : (getE c1 t).isSome = true := by
            have c2 : ((getE c1 t).map V.int).isSome = true := c2
            rw [Option.isSome_map] at c2
            exact c2
          refine ⟨c1, ms1, _, _, rfl, sM', hc1, e61, S1, g1, fun x hx' => ?_, g3, H1⟩
          rw [List.take_add_one, ht] at hx'
          rcases List.mem_append.mp hx' with z | z
          · exact g2 x z
          · cases List.mem_singleton.mp z
            exact c2
        have ec : getE c1 t = none := by
          have c2 : ((getE c1 t).map V.int).isSome = false := c2
          rw [Option.isSome_map] at c2
          cases w : getE c1 t with
          | none => rfl
          | some v => rw [w] at c2; cases c2
        refine ⟨_, rfl, _, rfl, _, rfl, d5, _, rfl, hc1.put t here (by omega), ?_⟩
        have sM2 : Same H (upd M' d5 (.dK ((putE c1 t here).map entE))) := turn_new sM' h5
        have hc2 : DctAt (upd M' d5 (.dK ((putE c1 t here).map entE))) d5 (putE c1 t here) := DctAt.new (nd_put hc1.nd _ _)
        have e62 : (upd M' d5 (.dK ((putE c1 t here).map entE))) d6 = some (.lst (ms1.map V.int)) := by rw [upd_ne n56.symm]; exact e61
        generalize upd M' d5 (.dK ((putE c1 t here).map entE)) = M2 at sM2 hc2 e62 ⊢
        have hm2 : DctAt M2 d2 m := ⟨sM2 _ _ hm.at_, hm.nd⟩
        have hp2 : DctAt M2 d3 p := ⟨sM2 _ _ hp.at_, hp.nd⟩
        have n52 : d5 ≠ d2 := (ne_of_none hm.at_ h5).symm
        have n53 : d5 ≠ d3 := (ne_of_none hp.at_ h5).symm
        have lc2 : (putE c1 t here).length ≤ c1.length + 1 := len_put _ _ _
        refine ⟨_, rfl, d3, rfl, hp2.isD, _, rfl, _, hp2.get t, ?_⟩
        cases gp : getE p t with
        | none =>
          obtain ⟨m', p', el, G⟩ := grown_of I hs0 (succ_mk S1 H1 htm ec gp fun h z => nomatch z)
          refine ⟨_, rfl, rfl, _, rfl, ite_b (fun _ => iteT ?_) (fun c3 => absurd c3 (by decide))⟩
          refine ⟨_, rfl, rfl, _, rfl, ite_b (fun c3 => absurd c3 (by decide)) (fun _ => ?_)⟩
          refine ⟨_, rfl, _, rfl, _, rfl, _, rfl, d5, d2, d3, t, _, _, m, p, m', p', rfl, hc2, hm2, hp2, n52, n53, n23, el, by omega, by omega, fun H' tw hm' hp' => ?_⟩
          exact k1 m' p' H' G ((Two.of sM2).trans tw) hm' hp'
        | some h =>
          have mh := I.pm t h gp
          obtain ⟨r0, r1⟩ := rng h (by rw [mh]; rfl)
          refine ⟨_, rfl, rfl, _, rfl, ite_b (fun c3 => absurd c3 (by simp)) (fun _ => ?_)⟩
          refine ⟨_, rfl, _, rfl, dk, _, _, _, rfl, rfl, SqL.of (sM2 _ _ ek), at_bls r0 (by rw [lk]; exact r1), _, rfl, ite_b (fun c3 => ?_) (fun c3 => ?_)⟩
          · have c3 : keptR bs h = false := by simpa using c3
            obtain ⟨m', p', el, G⟩ := grown_of I hs0 (succ_mk S1 H1 htm ec gp fun h' z => by cases z; exact c3)
            refine ⟨_, rfl, rfl, _, rfl, ite_b (fun _ => ?_) (fun c4 => absurd c4 (by simp))⟩
            refine ⟨_, rfl, _, rfl, d2, _, .inl h, rfl, hm2.at_, rfl, by rw [valV_ent, mh]; rfl, ?_⟩
            rw [dropK_ent]
            have ld : (dropE m h).length ≤ m.length := List.length_filter_le _ _
            have tw1 : Two d2 d3 M2 (upd M2 d2 (.dK ((dropE m h).map entE))) := Two.l
            have hm3 : DctAt (upd M2 d2 (.dK ((dropE m h).map entE))) d2 (dropE m h) := DctAt.new (nd_drop hm.nd _)
            have hp3 : DctAt (upd M2 d2 (.dK ((dropE m h).map entE))) d3 p := hp2.other n23.symm
            have hc3 : DctAt (upd M2 d2 (.dK ((dropE m h).map entE))) d5 (putE c1 t here) := hc2.other n52
            generalize upd M2 d2 (.dK ((dropE m h).map entE)) = M3 at tw1 hm3 hp3 hc3 ⊢
            refine ⟨_, rfl, _, rfl, _, rfl, _, rfl, d5, d2, d3, t, _, _, dropE m h, p, m', p', rfl, hc3, hm3, hp3, n52, n53, n23, el, by omega, by omega, fun H' tw hm' hp' => ?_⟩
            exact k1 m' p' H' G (((Two.of sM2).trans tw1).trans tw) hm' hp'
          · have c3 : keptR bs h = true := by simpa using c3
            refine ⟨_, rfl, tyL e62, _, rfl, d6, _, _, rfl, rfl, e62, by rw [List.length_map, sizeLine_eq]; omega, ?_⟩
            refine ⟨putE c1 t here, ms1 ++ [h], _, _, rfl, turn_new sM2 h60, hc2.other n56, ?_, si_snoc S1 H1 htm ec gp c3, fun x hx' => ?_, fun x hx' => ?_, fun i x hx' => ?_, ?_⟩
            · rw [upd_same, List.map_append]
              rfl
            · rw [getE_put]
              split
              · rfl
              · exact g1 x hx'
            · rw [getE_put]
              split
              · rfl
              · next ne =>
                rw [List.take_add_one, ht] at hx'
                rcases List.mem_append.mp hx' with z | z
                · exact g2 x z
                · exact absurd (List.mem_singleton.mp z) ne
            · have := g3 i x hx'
              rw [List.getElem?_append_left (List.getElem?_eq_some_iff.mp this).1]
              exact this
            · rw [put_new ec]
              exact here_snoc H1
      · rintro σ M' ⟨c1, ms1, y9, y10, rfl, sM', hc1, e61, S1, g1, g2, g3, H1⟩
        rw [List.length_map, List.take_length] at g2
        obtain ⟨n', rfl⟩ : ∃ n', n = n' + 1 := ⟨n - 1, by omega⟩
        refine ⟨n', Nat.lt_succ_self _, k + 1, c1, ms1, _, _, _, rfl, sM', hc1, e61, S1, fun j x hj hx' t ht => ?_, (List.getElem?_eq_some_iff.mp (g3 k here hx)).1, by omega⟩
        by_cases hjk : j = k
        · subst hjk
          rw [g3 j here hx] at hx'
          cases hx'
          exact g2 t ht
        · have hjl : j < ms.length := by omega
          have z := g3 j _ (List.getElem?_eq_getElem hjl)
          rw [z] at hx'
          cases hx'
          exact g1 t (cov j _ (by omega) (List.getElem?_eq_getElem hjl) t ht)
    · have c1 := of_decide_eq_false c1
      rw [List.length_map] at c1
      have Fl := fail_of I hs0 S cov (by omega)
      refine ⟨_, rfl, d6, ms, rfl, SqL.of e6, fun ns q pm ps hq => ⟨q, _, rfl, .inl ⟨SqL.of upd_same, fun tt htt => ?_⟩⟩⟩
      exact k2 tt ms ns _ Fl pm ps (rngS S) (Same.trans (Same.trans sH (same_new hq)) (same_new htt)) upd_same
end
end Lw
namespace Lw
open PySem PySem.Spec PyProof.Rows L2 XV TL XM DO
abbrev sGapR : Stmt := topOf "gap_rows"
abbrev NGapR : List Str := ["first", "second", "other", "pair"]
theorem scGapR : FnScope NGapR ["first", "second"] (defScope sGapR) := ⟨rfl, rfl, rfl, by decide +kernel, rfl, by decide +kernel, by decide +kernel⟩
def spGapR (K : PySem.W.Frag) : Sp := fun vs H Q _ => ∃ (a b : Addr) (xs ys : List V) (ps qs : List Pr), vs = [.ref a, .ref b] ∧ SqT K H a xs ∧ PairVs K H xs ps ∧ SqT K H b ys ∧ PairVs K H ys qs ∧ ps.length ≤ 1000 ∧ qs.length ≤ 1000 ∧
  ∀ (t : Addr) H', Same H H' → RowsI H' t (ps.map fun p => qs.map (gapP p)) → Q (.ref t) H'
abbrev sExch : Stmt := topOf "exchanged"
abbrev NExch : List Str := ["near", "count", "rows", "item", "place", "items"]
theorem scExch : FnScope NExch ["near", "count"] (defScope sExch) := ⟨rfl, rfl, rfl, by decide +kernel, rfl, by decide +kernel, by decide +kernel⟩
section
variable {P : Program} {w : World} {K : PySem.W.Frag} {mg : Str → Option Value} {base : Heap}
theorem ok_gapR {f : Addr} {fd : FuncData} (F : Fun K "gap_rows" "gap_rows" sGapR f fd) (T : Bt mg) (N : Cl P w K mg base 1 "pair_gap" sGap ["pair", "other"] (spGap K)) : FnOk P w K mg base CX0 2 f fd ["first", "second"] (spGapR K) := by
  refine F.ok scGapR (fun vs H Q E h => ?_) (fun cdv A0 outer s0 H vs Q E hr h => ?_)
  · obtain ⟨a, b, xs, ys, ps, qs, rfl, _⟩ := h
    rfl
  · obtain ⟨a, b, xs, ys, ps, qs, rfl, ha, hx, hb, hy, lp, lq, k⟩ := h
    refine ⟨_, pss_one (ps_ret (pe_lc (own := [("pair", 3)]) (g := gName 3) (tt := tYes) (te := tLc (iTup K (tVar 1)) (gName 2) tYes (tCall (spGap K) [] E0 (tCons (tVar 3) (tCons (tVar 2) tNil))) [2]) rfl scGapR.nd (pi_tup (pv 0)) (blkOk_by (N := NGapR) (sc := defScope sGapR) (by decide +kernel)) (fun _ _ _ _ _ => pg_name (i := 3) scGapR.nd rfl (by first | exact Or.inl rfl | exact Or.inr rfl)) (fun _ _ _ _ _ => pts_nil) (fun _ _ _ _ _ => pe_lc (own := [("other", 2)]) (g := gName 2) (tt := tYes) (te := tCall (spGap K) [] E0 (tCons (tVar 3) (tCons (tVar 2) tNil))) rfl scGapR.nd (pi_tup (pv 1)) (blkOk_by (N := NGapR) (sc := ⟨.function, [(".0", .local), ("pair", .cell), ("second", .cell)], false, false, []⟩) (by decide +kernel)) (fun _ _ _ _ _ => pg_name (i := 2) scGapR.nd rfl (by first | exact Or.inl rfl | exact Or.inr rfl)) (fun _ _ _ _ _ => pts_nil) (fun _ _ _ _ _ => calC N (hr.mono (by decide)) (pa_cons (pv 3) (pa_cons (pv 2) pa_nil)))))), ?_⟩
    refine ⟨_, rfl, a, rfl, ⟨_, ha⟩, fun D hD => lc_tup (K := K) (a := a) (xs := xs) (fun i M => Same H M ∧ ∃ zs : List V, M D = some (.lst zs) ∧ zs.length = i ∧ ∀ (j : Nat) (z : V), zs[j]? = some z → ∃ t p, z = .ref t ∧ ps[j]? = some p ∧ t ≠ D ∧ M t = some (.lst ((qs.map (gapP p)).map V.int))) ⟨same_new hD, [], upd_same, rfl, fun j z h => by simp at h⟩ (fun i M _ h => sqT_mono h.1 ha) ?_ ?_⟩
    · rintro i x M hxi ⟨sM, zs, eM, lz, hz⟩
      obtain ⟨tx, px, hp, rfl, htx⟩ := hx.2 i x hxi
      have hil := (List.getElem?_eq_some_iff.mp hp).1
      refine ⟨rfl, _, rfl, b, rfl, ⟨_, sqT_mono sM hb⟩, fun D2 hD2 => lc_tup (K := K) (a := b) (xs := ys) (fun j N => Same M N ∧ N D2 = some (.lst (((qs.take j).map (gapP px)).map V.int))) ⟨same_new hD2, upd_same⟩ (fun j N _ h => sqT_mono (Same.trans sM h.1) hb) ?_ ?_⟩
      · rintro j y N hyj ⟨sN, eN⟩
        obtain ⟨ty, py, hq, rfl, hty⟩ := hy.2 j y hyj
        have sMN := Same.trans sM sN
        refine ⟨rfl, _, rfl, _, rfl, tx, ty, _, _, rfl, sqT_mono sMN htx, sqT_mono sMN hty, _, eN, by rw [List.length_map, List.length_map, sizeLine_eq]; have := List.length_take_le' j qs; omega, turn_new sN hD2, ?_⟩
        rw [upd_same, List.take_add_one, hq, List.map_append, List.map_append]
        rfl
      · rintro N ⟨sN, eN⟩
        rw [hy.1, List.take_length] at eN
        have nD : D2 ≠ D := fun z => by rw [z, eM] at hD2; cases hD2
        refine ⟨zs, sN _ _ eM, by rw [lz, sizeLine_eq]; omega, turn_new (Same.trans sM sN) hD, zs ++ [.ref D2], upd_same, by rw [List.length_append, lz]; rfl, fun j z hj => ?_⟩
        by_cases hjl : j < zs.length
        · rw [List.getElem?_append_left hjl] at hj
          obtain ⟨t, p, a1, a2, a3, a4⟩ := hz j z hj
          exact ⟨t, p, a1, a2, a3, by rw [upd_ne a3]; exact sN _ _ a4⟩
        · have hjl2 := (List.getElem?_eq_some_iff.mp hj).1
          rw [List.length_append] at hjl2
          have : j = zs.length := by
            have : ([V.ref D2] : List V).length = 1 := rfl
            omega
          subst this
          rw [List.getElem?_append_right (Nat.le_refl _), Nat.sub_self] at hj
          cases hj
          exact ⟨D2, px, rfl, by rw [lz]; exact hp, nD, by rw [upd_ne nD]; exact eN⟩
    · rintro M ⟨sM, zs, eM, lz, hz⟩
      rw [hx.1] at lz
      refine k D M sM ⟨zs, eM, by rw [lz, List.length_map], fun i z hi => ?_⟩
      obtain ⟨t, p, a1, a2, a3, a4⟩ := hz i z hi
      exact ⟨t, _, a1, by rw [List.getElem?_map, a2]; rfl, a4⟩
end
end Lw
namespace Lw
open PySem PySem.Spec PyProof.Rows L2 XV TL XM DO
def colF (rows : List (List Int)) (j i : Nat) : List Int := ((List.range i).filter fun p : Nat => decide ((j : Int) ∈ nearR rows (p : Int))).map fun p : Nat => (p : Int)
theorem colF_succ (rows : List (List Int)) (j i : Nat) : colF rows j (i + 1) = colF rows j i ++ (if (j : Int) ∈ nearR rows (i : Int) then [(i : Int)] else []) := by
  unfold colF
  rw [List.range_succ, List.filter_append, List.map_append]
  congr 1
  by_cases c : (j : Int) ∈ nearR rows (i : Int)
  · rw [if_pos c, List.filter_cons_of_pos (by exact decide_eq_true c)]
    rfl
  · rw [if_neg c, List.filter_cons_of_neg (by rw [decide_eq_true_eq]; exact c)]
    rfl
theorem colF_len (rows : List (List Int)) (j i : Nat) : (colF rows j i).length ≤ i := by
  unfold colF
  rw [List.length_map]
  have := List.length_filter_le (fun p : Nat => decide ((j : Int) ∈ nearR rows (p : Int))) (List.range i)
  rw [List.length_range] at this
  exact this
theorem mem_colF {rows : List (List Int)} {j i : Nat} {x : Int} : x ∈ colF rows j i ↔ ∃ p : Nat, p < i ∧ (j : Int) ∈ nearR rows (p : Int) ∧ x = (p : Int) := by
  unfold colF
  rw [List.mem_map]
  constructor
  · rintro ⟨p, hp, rfl⟩
    obtain ⟨h1, h2⟩ := List.mem_filter.mp hp
    exact ⟨p, List.mem_range.mp h1, of_decide_eq_true h2, rfl⟩
  · rintro ⟨p, h1, h2, rfl⟩
    exact ⟨p, List.mem_filter.mpr ⟨List.mem_range.mpr h1, decide_eq_true h2⟩, rfl⟩
/-- the rows read the other way -/
def exF (rows : List (List Int)) (C : Nat) : List (List Int) := (List.range C).map fun j => colF rows j rows.length
/-- columns under way -/
structure ColsAt (G M : Hp) (D : Addr) (cols : List Addr) (f : Nat → List Int) : Prop where
  e : M D = some (.lst (cols.map V.ref))
  nd : cols.Nodup
  fr : ∀ t ∈ cols, G t = none
  nD : D ∉ cols
  at_ : ∀ (j : Nat) (t : Addr), cols[j]? = some t → M t = some (.lst ((f j).map V.int))
theorem ColsAt.same {G M M' : Hp} {D : Addr} {cols : List Addr} {f : Nat → List Int} (h : ColsAt G M D cols f) (s : Same M M') : ColsAt G M' D cols f := ⟨s _ _ h.e, h.nd, h.fr, h.nD, fun j t ht => s _ _ (h.at_ j t ht)⟩
theorem ColsAt.app {G M : Hp} {D : Addr} {cols : List Addr} {f g : Nat → List Int} {z : Nat} {t : Addr} (h : ColsAt G M D cols f) (hz : cols[z]? = some t) (e1 : ∀ j, j ≠ z → g j = f j) {o : HO} (e2 : o = .lst ((g z).map V.int)) : ColsAt G (upd M t o) D cols g := by
  have nt : D ≠ t := fun w => h.nD (by rw [w]; exact List.mem_of_getElem? hz)
  refine ⟨by rw [upd_ne nt]; exact h.e, h.nd, h.fr, h.nD, fun j t' ht => ?_⟩
  by_cases c : j = z
  · subst c
    rw [hz] at ht
    cases ht
    rw [upd_same, e2]
  · have ne : t' ≠ t := fun w => by
      subst w
      obtain ⟨l1, q1⟩ := List.getElem?_eq_some_iff.mp hz
      obtain ⟨l2, q2⟩ := List.getElem?_eq_some_iff.mp ht
      have pw := List.pairwise_iff_getElem.mp (show cols.Pairwise (· ≠ ·) from h.nd)
      rcases Nat.lt_trichotomy j z with w | w | w
      · exact pw j z l2 l1 w (by rw [q1, q2])
      · exact c w
      · exact pw z j l1 l2 w (by rw [q1, q2])
    rw [upd_ne ne, e1 j c]
    exact h.at_ j t' ht
theorem ColsAt.rowsI {G M : Hp} {D : Addr} {cols : List Addr} {rows : List (List Int)} {C : Nat} (h : ColsAt G M D cols fun j => colF rows j rows.length) (l : cols.length = C) : RowsI M D (exF rows C) := by
  refine ⟨⟨_, h.e, by rw [List.length_map, l]; unfold exF; rw [List.length_map, List.length_range], fun i x hx => ?_⟩⟩
  rw [List.getElem?_map] at hx
  obtain ⟨t, ht, rfl⟩ := Option.map_eq_some_iff.mp hx
  have hl := (List.getElem?_eq_some_iff.mp ht).1
  refine ⟨t, _, rfl, ?_, h.at_ i t ht⟩
  unfold exF
  rw [List.getElem?_map, List.getElem?_range (by omega)]
  rfl
def spExch : Sp := fun vs H Q _ => ∃ (a : Addr) (C : Nat) (rows : List (List Int)), vs = [.ref a, .int (C : Nat)] ∧ RowsI H a rows ∧ C ≤ 1000 ∧ rows.length ≤ 1000 ∧ (∀ r ∈ rows, r.Nodup ∧ ∀ x ∈ r, 0 ≤ x ∧ x < (C : Int)) ∧
  ∀ (t : Addr) H', Same H H' → RowsI H' t (exF rows C) → Q (.ref t) H'
section
variable {P : Program} {w : World} {K : PySem.W.Frag} {mg : Str → Option Value} {base : Heap}
theorem ok_exch {f : Addr} {fd : FuncData} (F : Fun K "exchanged" "exchanged" sExch f fd) (T : Bt mg) : FnOk P w K mg base CX0 1 f fd ["near", "count"] spExch := by
  refine F.ok scExch (fun vs H Q E h => ?_) (fun cdv A0 outer s0 H vs Q E hr h => ?_)
  · obtain ⟨a, C, rows, rfl, _⟩ := h
    rfl
  · obtain ⟨a, C, rows, rfl, ha, lC, lR, ok, k⟩ := h
    refine ⟨_, pss_cons (ps_setLc (i := 2) (own := [("item", 3)]) (g := gName 3) (tt := tYes) (te := tLst tNil) rfl scExch.nd rfl rfl (sw_true rfl rfl rfl (by decide +kernel)) (pi_range1 rfl T.range (pa_cons (pv 1) pa_nil)) (blkOk_by (N := NExch) (sc := defScope sExch) (by decide +kernel)) (fun _ _ _ _ _ => pg_name (i := 3) scExch.nd rfl (by first | exact Or.inl rfl | exact Or.inr rfl)) (fun _ _ _ _ _ => pts_nil) (fun _ _ _ _ _ => pe_lst (pa_nil)))
 (pss_cons (ps_for PassesOwn.never rfl (pi_enum rfl T.enumerate (pa_cons (pv 0) pa_nil)) (pg_tup rfl (pgs_cons (pg_name (i := 4) scExch.nd rfl (by first | exact Or.inl rfl | exact Or.inr rfl)) (pgs_cons (pg_name (i := 5) scExch.nd rfl (by first | exact Or.inl rfl | exact Or.inr rfl)) (pgs_nil))))
 (pss_one (ps_for PassesOwn.never rfl (pi_list (pv 5)) (pg_name (i := 3) scExch.nd rfl (by first | exact Or.inl rfl | exact Or.inr rfl))
 (pss_one (ps_expr (pe_bm PySem.F.plainAttrs_list PySem.F.slot_list_append PySem.F.type_list_append mt_append (pe_ix ix_list (pv 2) (pv 3) (fun _ _ => rfl)) (pa_cons (pv 4) pa_nil)))))))
 (pss_one (ps_ret (pv 2)))), ?_⟩
    refine ⟨_, rfl, _, rfl, by omega, by omega, fun D hD => lc_range (lo := 0) (n := C) (fun i M => Same H M ∧ ∃ cols : List Addr, cols.length = i ∧ ColsAt H M D cols fun _ => []) ⟨same_new hD, [], rfl, upd_same, List.nodup_nil, (fun t h => nomatch h), (fun h => nomatch h), fun j t h => by simp at h⟩ ?_ ?_⟩
    · rintro i M hi ⟨sM, cols, lc, cA⟩
      refine ⟨rfl, Nat.zero_le _, fun u hu => ?_⟩
      have nu : u ≠ D := fun z => by rw [z, cA.e] at hu; cases hu
      have s1 := same_new (o := .lst []) hu
      have eu := upd_same (H := M) (a := u) (o := .lst [])
      have cA1 := cA.same s1
      refine ⟨_, cA1.e, by rw [List.length_map, lc, sizeLine_eq]; omega, turn_new (Same.trans sM s1) hD, cols ++ [u], by rw [List.length_append, lc]; rfl, ?_⟩
      refine ⟨?_, ?_, fun t ht => ?_, fun ht => ?_, fun j t ht => ?_⟩
      · rw [upd_same, List.map_append]
        rfl
      · refine List.nodup_append.mpr ⟨cA.nd, by simp, fun x hx y hy => ?_⟩
        cases List.mem_singleton.mp hy
        rintro rfl
        obtain ⟨j, hj⟩ := List.mem_iff_getElem?.mp hx
        rw [cA.at_ j _ hj] at hu
        cases hu
      · rcases List.mem_append.mp ht with h | h
        · exact cA.fr t h
        · cases List.mem_singleton.mp h
          exact sN sM hu
      · rcases List.mem_append.mp ht with h | h
        · exact cA.nD h
        · exact nu (List.mem_singleton.mp h).symm
      · have nt : t ≠ D := fun z => by
          have : D ∈ cols ++ [u] := by rw [← z]; exact List.mem_of_getElem? ht
          rcases List.mem_append.mp this with h | h
          · exact cA.nD h
          · exact nu (List.mem_singleton.mp h).symm
        rw [upd_ne nt]
        by_cases hj : j < cols.length
        · rw [List.getElem?_append_left hj] at ht
          exact cA1.at_ j t ht
        · have hjl := (List.getElem?_eq_some_iff.mp ht).1
          rw [List.length_append] at hjl
          have : j = cols.length := by
            have : ([u] : List Addr).length = 1 := rfl
            omega
          subst this
          rw [List.getElem?_append_right (Nat.le_refl _), Nat.sub_self] at ht
          cases ht
          exact eu
    · rintro M ⟨sM, cols, lc, cA⟩
      obtain ⟨xs, ea, la, rA⟩ := ha.ex
      refine ⟨_, rfl, a, xs, rfl, SqL.of (sM _ _ ea), for_enumL (K := K) (xs := xs) (fun i σ L => ∃ (x3 x4 x5 : Option V), σ = [some (.ref a), some (.int (C : Nat)), some (.ref D), x3, x4, x5] ∧ Same H L ∧ ColsAt H L D cols fun j => colF rows j i)
        ⟨none, none, none, rfl, sM, cA⟩ (fun i σ L h => ?_) ?_ ?_⟩
      · obtain ⟨_, _, _, _, sL, _⟩ := h
        exact SqL.of (sL _ _ ea)
      · rintro i x T' σ L hx ⟨x3, x4, x5, rfl, sL, cL⟩ hT'
        obtain ⟨tr, r, rfl, hr', er⟩ := rA i x hx
        have hil := (List.getElem?_eq_some_iff.mp hx).1
        have enr : nearR rows (i : Int) = r := by
          unfold nearR
          rw [Int.toNat_natCast, hr']
          rfl
        obtain ⟨rnd, rin⟩ := ok r (List.mem_of_getElem? hr')
        have s6 := same_new (o := .tup [.int (i : Nat), .ref tr]) hT'
        have eT := upd_same (H := L) (a := T') (o := .tup [.int (i : Nat), .ref tr])
        have sL6 := Same.trans sL s6
        have cL6 := cL.same s6
        generalize upd L T' (.tup [.int (i : Nat), .ref tr]) = L6 at s6 eT sL6 cL6 ⊢
        refine ⟨T', _, rfl, SqT.of eT, rfl, _, _, rfl, _, _, rfl, rfl, ?_⟩
        refine ⟨_, rfl, tr, rfl, ⟨_, SqL.of (sL6 _ _ er)⟩, for_list (K := K) (a := tr) (xs := r.map V.int) (fun q σ N => ∃ (x3 : Option V), σ = [some (.ref a), some (.int (C : Nat)), some (.ref D), x3, some (.int (i : Nat)), some (.ref tr)] ∧ Same H N ∧ ColsAt H N D cols fun j => colF rows j i ++ (if (j : Int) ∈ r.take q then [(i : Int)] else []))
          ⟨x3, rfl, sL6, ?_⟩ (fun q σ N _ h => ?_) ?_ ?_⟩
        · refine ⟨cL6.e, cL6.nd, cL6.fr, cL6.nD, fun j t ht => ?_⟩
          rw [List.take_zero, if_neg (by simp), List.append_nil]
          exact cL6.at_ j t ht
        · obtain ⟨_, _, sN', _⟩ := h
          exact SqL.of (sN' _ _ er)
        · rintro q y σ N hy ⟨x3, rfl, sN', cN⟩
          obtain ⟨z, hz, rfl⟩ : ∃ z, r[q]? = some z ∧ V.int z = y := by
            rw [List.getElem?_map] at hy
            exact Option.map_eq_some_iff.mp hy
          obtain ⟨z0, z1⟩ := rin z (List.mem_of_getElem? hz)
          obtain ⟨zn, rfl⟩ := Int.eq_ofNat_of_zero_le z0
          have hzl : zn < cols.length := by rw [lc]; omega
          have hcz := List.getElem?_eq_getElem hzl
          generalize cols[zn] = t at hcz
          have et := cN.at_ zn t hcz
          have nin : ((zn : Nat) : Int) ∉ r.take q := fun hm => by
            obtain ⟨q', hq'⟩ := List.mem_iff_getElem?.mp hm
            have hql := (List.getElem?_eq_some_iff.mp hq').1
            rw [List.length_take] at hql
            rw [List.getElem?_take, if_pos (by omega)] at hq'
            obtain ⟨l1, e1⟩ := List.getElem?_eq_some_iff.mp hq'
            obtain ⟨l2, e2⟩ := List.getElem?_eq_some_iff.mp hz
            exact List.pairwise_iff_getElem.mp (show r.Pairwise (· ≠ ·) from rnd) q' q l1 l2 (by omega) (by rw [e1, e2])
          rw [if_neg nin, List.append_nil] at et
          have lcol := colF_len rows zn i
          have aD : atI (cols.map V.ref) ((zn : Nat) : Int) = some (.ref t) := by
            obtain ⟨v, a1, a2, _⟩ := at_pos (xs := cols.map V.ref) (i := ((zn : Nat) : Int)) (by omega) (by rw [List.length_map]; omega)
            rw [a1, ← a2, List.getElem?_map, Int.toNat_natCast, hcz]
            rfl
          refine ⟨_, rfl, _, rfl, D, _, _, _, rfl, rfl, SqL.of cN.e, aD, tyL et, _, rfl, t, _, _, rfl, rfl, et, by rw [List.length_map, sizeLine_eq]; omega, ?_⟩
          refine ⟨_, rfl, turn_new sN' (cN.fr t (List.mem_of_getElem? hcz)), cN.app hcz (fun j hj => ?_) ?_⟩
          · have : ((j : Nat) : Int) ∈ r.take (q + 1) ↔ ((j : Nat) : Int) ∈ r.take q := by
              rw [List.take_add_one, hz, List.mem_append]
              constructor
              · rintro (h | h)
                · exact h
                · exfalso
                  have h := List.mem_singleton.mp (show ((j : Nat) : Int) ∈ [((zn : Nat) : Int)] from h)
                  omega
              · exact .inl
            by_cases c : ((j : Nat) : Int) ∈ r.take q
            · rw [if_pos (this.mpr c), if_pos c]
            · rw [if_neg fun w => c (this.mp w), if_neg c]
          · rw [if_pos (by rw [List.take_add_one, hz]; exact List.mem_append_right _ (by simp)), List.map_append]
            rfl
        · rintro σ N ⟨x3, rfl, sN', cN⟩
          refine ⟨_, _, _, rfl, sN', cN.e, cN.nd, cN.fr, cN.nD, fun j t ht => ?_⟩
          rw [colF_succ, enr]
          have := cN.at_ j t ht
          rw [List.length_map, List.take_length] at this
          exact this
      · rintro σ L ⟨x3, x4, x5, rfl, sL, cL⟩
        rw [la] at cL
        exact ⟨_, rfl, k D L sL (cL.rowsI lc)⟩
end
end Lw
namespace Lw
open PySem PySem.Spec PyProof.Rows L2 XV TL XM DO
/-! sorted(d.items()) of a dict of numbers -/
theorem pairs_at {P : Program} {w : World} : ∀ {es : List DictEntry} {vs : List (L2.Key × Value)}, Pairs (mixKind P w) es vs → ∀ (j : Nat) (e : DictEntry), es[j]? = some e → ∃ kv, vs[j]? = some kv ∧ (mixKind P w).is kv.1 e.key = true ∧ e.val = kv.2
  | _, _, .nil, j, e, h => by simp at h
  | _, _, .cons h1 h2 r, 0, e, h => by
    cases h
    exact ⟨_, rfl, h1, h2⟩
  | _, _, .cons h1 h2 r, j + 1, e, h => pairs_at r j e h
theorem kv_ent : ∀ {es : List Pr} {vs : List (L2.Key × Value)}, KV (es.map entE) vs → ∀ (j : Nat) (kv : L2.Key × Value), vs[j]? = some kv → ∃ e : Pr, es[j]? = some e ∧ kv.1 = .inl e.1 ∧ ∃ t, kv.2 = .int e.2 t
  | [], _, .nil, j, kv, h => by simp at h
  | e :: es, _, .cons r rr, 0, kv, h => by
    cases h
    obtain ⟨a, t, b⟩ := r
    exact ⟨e, rfl, a.symm, t, b⟩
  | e :: es, _, .cons r rr, j + 1, kv, h => kv_ent rr j kv h
/-- the two numbers that a tuple of the heap holds -/
def intOf : Option Value → Int
  | some (.int i _) => i
  | _ => 0
def pairH (h : Heap) (b : Addr) : Pr := match h.get? b with
  | some o => match o.data with
    | .seq its _ => (intOf its[0]?, intOf its[1]?)
    | _ => (0, 0)
  | none => (0, 0)
def Hpair (h : Heap) : Hp := fun b => some (.tup [.int (pairH h b).1, .int (pairH h b).2])
theorem keyIn_pair (h : Heap) (b : Addr) : keyIn (Hpair h) (.ref b) = pairH h b := keyIn_of rfl
def rItemsK : V → List V → Hp → VK → Prop := fun x xs H Q => ∃ (a : Addr) (es : List Pr), x = .ref a ∧ xs = [] ∧ H a = some (.dK (es.map entE)) ∧ ∀ p, H p = none → Q (.ref p) (upd H p (DX.itemsO p a))
theorem mt_itemsK {X : Cx} : MtR X "dict.items" rItemsK := by
  intro pins s σ H x xs v us Q I rx rxs h
  obtain ⟨a, es, rfl, rfl, ha, q⟩ := h
  cases rx
  cases rxs
  obtain ⟨z, hd, vs, rel, o, es', ep, ho, hx, hdat, _⟩ := dk_of I.hok ha
  refine DT.callItems (es := es') (ep := ep) hd ⟨o, ho, hx, hdat⟩ ?_
  have hf : H s.heap.objs.size = none := I.hok.fresh (Nat.le_refl _)
  exact ⟨.ref s.heap.objs.size, upd H s.heap.objs.size (DX.itemsO s.heap.objs.size a), I.laid (t' := s.toks) (fun b u e => Heap.get?_push_of_some _ e) (Nat.le_refl _) (DX.itemsO_ok (Heap.get?_push_size _ rfl)), rfl, q _ hf⟩
def rSortItK : List V → Hp → VK → Prop := fun us H Q => ∃ (p a : Addr) (es : List Pr), us = [.ref p] ∧ H p = some (DX.itemsO p a) ∧ H a = some (.dK (es.map entE)) ∧ es.length ≤ 1000 ∧
  ∀ (H' : Hp) (l : Addr) (zs : List V) (es' : List Pr), Same H H' → H l = none → SortP es es' → H' l = some (.lst zs) → RawVs H' zs es' → Q (.ref l) H'
theorem cr_sortItK {X : Cx} (hc : X.calm = true) : CallR X (.builtin "sorted") rSortItK := by
  intro pins s σ H xs us Q I r h
  obtain ⟨p, a, es, rfl, hp, ha, lE, q⟩ := h
  obtain rfl := Vals.ref1 r
  have view : s.heap.IsItemsView p a := (show ObjOk X.prog X.w H s.heap p (DX.itemsO p a) from I.hok p _ hp).1
  obtain ⟨z, hd, vs, rel, o, ds, ep, ho, hx, hdat, hko, hpr, hn⟩ := dk_of I.hok ha
  have l1 : (es.map entE).length = vs.length := rel.length
  rw [List.length_map] at l1
  have l2 : ds.size = vs.length := by
    rw [← Array.length_toList]
    exact hpr.length
  have hh : X.A.handled = none := I.ok.hd hc
  refine DT.sortedI (es := ds) (ep := ep) hh view ⟨o, ho, hx, hdat⟩ (by rw [sizeLine_eq]; omega) fun h' tk as hk hlt hl hG => ?_
  have lak : as.length = es.length := by omega
  have nd : as.Nodup := List.Pairwise.imp (fun h => Nat.ne_of_lt h) hG.rise
  have pr : ∀ (j : Nat) (b : Addr), as[j]? = some b → ∃ (e : Pr) (t u : Nat), es[j]? = some e ∧ h'.get? b = some { cls := .type "tuple", data := .seq #[Value.int e.1 t, Value.int e.2 u] } := by
    intro j b hj
    obtain ⟨en, he, hg⟩ := hG.pairs j b hj
    have he : ds.toList[j]? = some en := by rw [Array.getElem?_toList]; exact he
    obtain ⟨kv, k1, k2, k3⟩ := pairs_at hpr j en he
    obtain ⟨e, e1, e2, u, e3⟩ := kv_ent rel j kv k1
    rw [e2] at k2
    obtain ⟨t, k4⟩ := Value.isInt_shape (k := e.1) (v := en.key) k2
    refine ⟨e, t, u, e1, ?_⟩
    rw [hg, k4, k3, e3]
  have pH : ∀ (j : Nat) (b : Addr) (e : Pr), as[j]? = some b → es[j]? = some e → pairH h' b = e := by
    intro j b e hj he
    obtain ⟨e', t, u, h1, h2⟩ := pr j b hj
    rw [he] at h1
    cases h1
    unfold pairH
    rw [h2]
    rfl
  have at_ : ∀ v ∈ as.map Value.ref, ∃ (j : Nat) (b : Addr) (e : Pr), v = .ref b ∧ as[j]? = some b ∧ es[j]? = some e := by
    intro v hv'
    obtain ⟨b, hb, rfl⟩ := List.mem_map.mp hv'
    obtain ⟨j, hj⟩ := List.mem_iff_getElem?.mp hb
    obtain ⟨e, _, _, he, _⟩ := pr j b hj
    exact ⟨j, b, e, rfl, hj, he⟩
  have hob : (h'.push { cls := .type "list", data := .seq (as.map Value.ref).toArray }).get? h'.objs.size = some (seqObj "list" (as.map Value.ref).toArray 0) := Heap.get?_push_size _ rfl
  have kb : ∀ b o, s.heap.get? b = some o → (h'.push { cls := .type "list", data := .seq (as.map Value.ref).toArray }).get? b = some o := fun b o e => Heap.get?_push_of_some _ (hk b o e)
  have ne0 : ∀ b o, h'.get? b = some o → b ≠ h'.objs.size := fun b o e => Nat.ne_of_lt (Heap.lt_size e)
  generalize hh2 : h'.push { cls := .type "list", data := .seq (as.map Value.ref).toArray } = h2 at hob kb ⊢
  have ka : ∀ b o, h'.get? b = some o → h2.get? b = some o := fun b o e => by rw [← hh2]; exact Heap.get?_push_of_some _ e
  have hz : (as.map Value.ref).length ≤ sizeLine := by rw [List.length_map, sizeLine_eq]; omega
  have isP : ∀ v ∈ as.map Value.ref, Srt.IsPair h2 v (keyIn (Hpair h') (backV v)).1 (keyIn (Hpair h') (backV v)).2 := by
    intro v hv
    obtain ⟨j, b, e, rfl, hj, he⟩ := at_ v hv
    obtain ⟨e', t, u, h1, h3⟩ := pr j b hj
    rw [he] at h1
    cases h1
    have : keyIn (Hpair h') (backV (Value.ref b)) = e := by
      show keyIn (Hpair h') (.ref b) = e
      rw [keyIn_pair]
      exact pH j b e hj he
    rw [this]
    exact ⟨b, _, t, u, 0, rfl, ka _ _ h3, rfl, rfl⟩
  refine wpAny_call_entry PyProof.Rows.slot_list_sort ⟨_, hob, rfl⟩ PyProof.Rows.entry_list_sort
    (SrtO.list_sort_ord (s := { s with heap := h2, toks := tk }) (SrtO.swo_lex fun u => keyIn (Hpair h') (backV u)) hob hz (fun h2' => SrtO.pairs_sortableO (by omega) isP fun o e => ?_) fun out o1 o2 => ⟨_, rfl, ?_⟩) (PyProof.Rows.args_list_sort _)
  · have e' : some o = some (seqObj "list" (as.map Value.ref).toArray 0) := e.symm.trans hob
    cases e'
    intro c
    exact absurd (Value.type.inj c) (by decide)
  · show EP X pins σ Q (.ref h'.objs.size) { s with heap := sortedHeap h2 h'.objs.size (as.map Value.ref) out.toArray, toks := tk }
    have mem : ∀ v ∈ out, v ∈ as.map Value.ref := fun v hv => o2.perm.mem_iff.mp hv
    have refs : ∀ u ∈ out, ∃ a, u = Value.ref a := fun u hu => by
      obtain ⟨_, b, _, rfl, _⟩ := at_ u (mem u hu)
      exact ⟨b, rfl⟩
    have kF : ∀ b o, b ≠ h'.objs.size → h2.get? b = some o → (sortedHeap h2 h'.objs.size (as.map Value.ref) out.toArray).get? b = some o := fun b o hb e => (PyProof.Rows.sortedHeap_old hb (Heap.lt_size e)).trans e
    have kS : ∀ b o, s.heap.get? b = some o → (sortedHeap h2 h'.objs.size (as.map Value.ref) out.toArray).get? b = some o := fun b o e => kF b o (ne0 _ _ (hk b o e)) (kb b o e)
    obtain ⟨eF, heF⟩ := PyProof.Rows.sortedHeap_at (vs := as.map Value.ref) (out := out.toArray) hob
    have I1 : Inv X pins σ H { s with heap := sortedHeap h2 h'.objs.size (as.map Value.ref) out.toArray, toks := tk } := I.kept (t' := tk) kS
    have hn0 : H h'.objs.size = none := I.hok.fresh (Nat.le_of_lt hlt)
    have hlen : (out.map backV).length ≤ sizeLine := by
      rw [List.length_map, o2.len]
      exact hz
    have I2 : Inv X pins σ (upd H h'.objs.size (.lst (out.map backV))) { s with heap := sortedHeap h2 h'.objs.size (as.map Value.ref) out.toArray, toks := tk } :=
      I1.take (h' := sortedHeap h2 h'.objs.size (as.map Value.ref) out.toArray) (t' := tk) (fun b ob _ e => e) (I.fpOk (Nat.le_of_lt hlt) hn0) ⟨hlen, out, eF, vals_back refs, heF⟩
    obtain ⟨H2, I3, g, qt⟩ := DX.takeT (P := fun b vs => ∃ (j : Nat) (e : Pr), as[j]? = some b ∧ es[j]? = some e ∧ vs = [.int e.1, .int e.2]) I as _ I2 nd fun b hb => by
      obtain ⟨j, hj⟩ := List.mem_iff_getElem?.mp hb
      obtain ⟨e, t, u, he, hg⟩ := pr j b hj
      have hbl : s.heap.objs.size ≤ b := Nat.le_of_lt (hG.above b hb)
      refine ⟨hbl, ?_, [.int e.1, .int e.2], ⟨j, e, hj, he, rfl⟩, fun H3 => ⟨(by rw [sizeLine_eq]; show 2 ≤ 16777216; omega), [Value.int e.1 t, Value.int e.2 u], .cons ⟨t, rfl⟩ (.cons ⟨u, rfl⟩ .nil), ⟨_, kF _ _ (ne0 _ _ hg) (ka _ _ hg), rfl, 0, rfl⟩⟩⟩
      rw [upd_ne (ne0 _ _ hg)]
      exact I.hok.fresh hbl
    have gr : Same H H2 := fun b o e => g b o (by rw [upd_ne (ne_of_none e hn0)]; exact e)
    have xsE : (as.map V.ref).map (keyIn (Hpair h')) = es := by
      refine List.ext_getElem? fun i => ?_
      rw [List.getElem?_map, List.getElem?_map]
      cases ei : as[i]? with
      | none =>
        have : as.length ≤ i := List.getElem?_eq_none_iff.mp ei
        rw [List.getElem?_eq_none_iff.mpr (by omega)]
        rfl
      | some b =>
        obtain ⟨e, _, _, he, _⟩ := pr i b ei
        show some (keyIn (Hpair h') (.ref b)) = _
        rw [keyIn_pair, pH i b e ei he, he]
    have so : SortP es ((out.map backV).map (keyIn (Hpair h'))) := by
      refine sort_keys xsE (SrtO.srtd_map o1) ?_
      have := SrtO.Stb.map (ltP_swo (keyIn (Hpair h'))) backV o2
      rw [List.map_map] at this
      exact this
    refine ⟨.ref h'.objs.size, H2, I3, rfl, q H2 h'.objs.size (out.map backV) _ gr hn0 so (g _ _ upd_same) ⟨by rw [List.length_map, List.length_map, List.length_map], fun i x hi => ?_⟩⟩
    rw [List.getElem?_map] at hi
    obtain ⟨v, hv, rfl⟩ := Option.map_eq_some_iff.mp hi
    obtain ⟨j, b, e, rfl, hj, he⟩ := at_ v (mem v (List.mem_of_getElem? hv))
    obtain ⟨ws, ⟨j', e', j1, j2, rfl⟩, hH⟩ := qt b (List.mem_of_getElem? hj)
    have eij : j = j' := (List.getElem?_inj (List.getElem?_eq_some_iff.mp hj).1 nd).mp (hj.trans j1.symm)
    subst eij
    rw [he] at j2
    cases j2
    refine ⟨b, e, ?_, rfl, hH⟩
    rw [List.getElem?_map, List.getElem?_map, hv]
    show some (keyIn (Hpair h') (.ref b)) = _
    rw [keyIn_pair, pH j b e hj he]
end Lw
namespace Lw
open PySem PySem.Spec PyProof.Rows L2 XV TL XM DO
/-! what the cover has, in plain words -/
theorem InvE.swap {m p : List Pr} (I : InvE m p) : InvE p m := ⟨I.np, I.nm, I.pm, I.mp⟩
theorem len_rng {es : List Pr} {N : Nat} (n : NdE es) (h : ∀ k : Int, (getE es k).isSome = true → 0 ≤ k ∧ k < N) : es.length ≤ N := by
  have := nodup_sub_len (xs := es.map (·.1)) (ys := (List.range N).map fun i : Nat => (i : Int)) n fun x hx => by
    obtain ⟨e, he, rfl⟩ := List.mem_map.mp hx
    obtain ⟨a, b⟩ := h e.1 (by rw [getE_of_mem n (show (e.1, e.2) ∈ es from he)]; rfl)
    exact List.mem_map.mpr ⟨e.1.toNat, List.mem_range.mpr (by omega), by omega⟩
  rw [List.length_map, List.length_map, List.length_range] at this
  exact this
theorem Fail.congr {kept kept' : Int → Bool} {near near' : Int → List Int} {start : Int} {ms : List Int} (F : Fail kept near start ms) (hk : ∀ x ∈ ms, kept x = kept' x) (hn : ∀ x ∈ ms, ∀ t, t ∈ near' x → t ∈ near x) : Fail kept' near' start ms := by
  obtain ⟨ks, a, b, c⟩ := F.ks
  exact ⟨F.nd, F.st, fun x hx => by rw [← hk x hx]; exact F.kp x hx, ks, a, b, fun x hx t ht => c x hx t (hn x hx t ht)⟩
theorem mtch_of {ps qs : List Pr} {n : Int} {m p rs : List Pr} (I : InvE m p) (E : ∀ x y : Int, getE m x = some y → (0 ≤ x ∧ x < ps.length) ∧ y ∈ nearX ps qs n x) (c1 : ∀ x : Int, 0 ≤ x → x < ps.length → longX ps n x = true → (getE m x).isSome = true) (c2 : ∀ y : Int, 0 ≤ y → y < qs.length → longX qs n y = true → (getE p y).isSome = true) (so : SortP m rs) : Mtch ps qs n rs := by
  have mm : ∀ r, r ∈ rs ↔ r ∈ m := fun r => so.perm.mem_iff
  refine ⟨fun r hr => ?_, ?_, ?_, fun a p' ha hl => ?_, fun a p' ha hl => ?_⟩
  · obtain ⟨x, y⟩ := r
    obtain ⟨a, b⟩ := E x y (getE_of_mem I.nm ((mm _).mp hr))
    obtain ⟨c, d⟩ := mem_nearX.mp b
    exact ⟨a, c, d⟩
  · exact (so.perm.map (·.1)).nodup_iff.mpr I.nm
  · refine (so.perm.map (·.2)).nodup_iff.mpr ?_
    show (m.map (·.2)).Pairwise (· ≠ ·)
    rw [List.pairwise_map]
    have nm : m.Pairwise fun a b => a.1 ≠ b.1 := by
      have := I.nm
      unfold NdE at this
      have : (m.map (·.1)).Pairwise (· ≠ ·) := this
      rw [List.pairwise_map] at this
      exact this
    refine List.Pairwise.imp_of_mem ?_ nm
    intro a b ha hb hne he
    have e1 := I.mp a.1 a.2 (getE_of_mem I.nm ha)
    have e2 := I.mp b.1 b.2 (getE_of_mem I.nm hb)
    rw [he, e2] at e1
    injection e1 with e1
    exact hne e1.symm
  · have hl' := (List.getElem?_eq_some_iff.mp ha).1
    have g : getP ps (a : Int) = p' := getP_nat ha
    have := c1 (a : Int) (by omega) (by omega) (decide_eq_true (by rw [g]; exact hl))
    cases e : getE m (a : Int) with
    | none => rw [e] at this; cases this
    | some y => exact List.mem_map.mpr ⟨_, (mm _).mpr (getE_mem e), rfl⟩
  · have hl' := (List.getElem?_eq_some_iff.mp ha).1
    have g : getP qs (a : Int) = p' := getP_nat ha
    have := c2 (a : Int) (by omega) (by omega) (decide_eq_true (by rw [g]; exact hl))
    cases e : getE p (a : Int) with
    | none => rw [e] at this; cases this
    | some x => exact List.mem_map.mpr ⟨_, (mm _).mpr (getE_mem (I.pm _ _ e)), rfl⟩
/-- the near ones, row by row -/
def rowsN (ps qs : List Pr) (n : Int) : List (List Int) := ps.map fun p => nearL (fun q => nearP p q n) qs qs.length
theorem rowsN_at {ps qs : List Pr} {n x : Int} (h0 : 0 ≤ x) (h1 : x < ps.length) : nearR (rowsN ps qs n) x = nearX ps qs n x := by
  have hl : x.toNat < ps.length := by omega
  unfold nearR rowsN nearX getP
  rw [List.getElem?_map, List.getElem?_eq_getElem hl]
  rfl
theorem rowsN_len (ps qs : List Pr) (n : Int) : (rowsN ps qs n).length = ps.length := List.length_map _
theorem back_at {ps qs : List Pr} {n y x : Int} (h0 : 0 ≤ y) (h1 : y < qs.length) : x ∈ nearR (exF (rowsN ps qs n) qs.length) y ↔ x ∈ nearX qs ps n y := by
  have hl : y.toNat < qs.length := by omega
  have e : nearR (exF (rowsN ps qs n) qs.length) y = colF (rowsN ps qs n) y.toNat (rowsN ps qs n).length := by
    unfold nearR exF
    rw [List.getElem?_map, List.getElem?_range hl]
    rfl
  rw [e, mem_colF, mem_nearX, rowsN_len]
  have ey : ((y.toNat : Nat) : Int) = y := by omega
  constructor
  · rintro ⟨p, hp, hm, rfl⟩
    rw [ey, rowsN_at (by omega) (by omega)] at hm
    obtain ⟨_, d⟩ := mem_nearX.mp hm
    exact ⟨⟨by omega, by omega⟩, by rw [nearP_swap]; exact d⟩
  · rintro ⟨⟨a, b⟩, d⟩
    refine ⟨x.toNat, by omega, ?_, by omega⟩
    rw [ey, show ((x.toNat : Nat) : Int) = x by omega, rowsN_at a b]
    exact mem_nearX.mpr ⟨⟨h0, h1⟩, by rw [nearP_swap]; exact d⟩
def longs (ps : List Pr) (n : Int) : List Bool := ps.map fun p => decide (p.2 - p.1 > n)
theorem longs_at {ps : List Pr} {n x : Int} (h0 : 0 ≤ x) (h1 : x < ps.length) : keptR (longs ps n) x = longX ps n x := by
  have hl : x.toNat < ps.length := by omega
  unfold keptR longs longX getP
  rw [List.getElem?_map, List.getElem?_eq_getElem hl]
  rfl
theorem longs_len (ps : List Pr) (n : Int) : (longs ps n).length = ps.length := List.length_map _
/-- phase one under way -/
structure Ph1 (ps qs : List Pr) (n : Int) (i : Nat) (m p : List Pr) : Prop where
  I : InvE m p
  E : ∀ x y : Int, getE m x = some y → (0 ≤ x ∧ x < (i : Int)) ∧ y ∈ nearX ps qs n x
  c : ∀ x : Int, 0 ≤ x → x < (i : Int) → longX ps n x = true → (getE m x).isSome = true
theorem Ph1.start (ps qs : List Pr) (n : Int) : Ph1 ps qs n 0 [] [] := ⟨⟨List.nodup_nil, List.nodup_nil, (fun _ _ h => nomatch h), (fun _ _ h => nomatch h)⟩, (fun _ _ h => nomatch h), fun x h0 h1 => by omega⟩
theorem Ph1.skip {ps qs : List Pr} {n : Int} {i : Nat} {m p : List Pr} (P : Ph1 ps qs n i m p) (h : longX ps n (i : Int) = false) : Ph1 ps qs n (i + 1) m p :=
  ⟨P.I, fun x y e => by obtain ⟨⟨a, b⟩, c⟩ := P.E x y e; exact ⟨⟨a, by omega⟩, c⟩, fun x h0 h1 hl => P.c x h0 (by
    have : x ≠ (i : Int) := fun z => by rw [z, h] at hl; cases hl
    omega) hl⟩
theorem Ph1.free {ps qs : List Pr} {n : Int} {i : Nat} {m p : List Pr} (P : Ph1 ps qs n i m p) : getE m (i : Int) = none := by
  cases e : getE m (i : Int) with
  | none => rfl
  | some y =>
    have := (P.E _ _ e).1.2
    omega
theorem Ph1.lens {ps qs : List Pr} {n : Int} {i : Nat} {m p : List Pr} (P : Ph1 ps qs n i m p) (hi : i ≤ ps.length) : m.length ≤ ps.length ∧ p.length ≤ qs.length := by
  refine ⟨len_rng P.I.nm fun k hk => ?_, len_rng P.I.np fun k hk => ?_⟩
  · cases e : getE m k with
    | none => rw [e] at hk; cases hk
    | some y => have := (P.E k y e).1; omega
  · cases e : getE p k with
    | none => rw [e] at hk; cases hk
    | some x => exact (mem_nearX.mp (P.E x k (P.I.pm _ _ e)).2).1
theorem Ph1.grow {ps qs : List Pr} {n : Int} {i : Nat} {m p m' p' : List Pr} (P : Ph1 ps qs n i m p) (hi : i < ps.length) (G : Grown m p m' p' (keptR (longs ps n)) (nearR (rowsN ps qs n)) (i : Int)) : Ph1 ps qs n (i + 1) m' p' := by
  have dom : ∀ x : Int, (getE m' x).isSome = true → 0 ≤ x ∧ x < ((i + 1 : Nat) : Int) := fun x hx => by
    rcases G.dom x hx with z | z
    · cases e : getE m x with
      | none => rw [e] at z; cases z
      | some y => have := (P.E x y e).1; omega
    · omega
  refine ⟨G.inv, fun x y e => ?_, fun x h0 h1 hl => ?_⟩
  · obtain ⟨a, b⟩ := dom x (by rw [e]; rfl)
    refine ⟨⟨a, b⟩, ?_⟩
    rcases G.edge x y e with z | z
    · exact (P.E x y z).2
    · rw [rowsN_at a (by omega)] at z
      exact z
  · by_cases c : x = (i : Int)
    · rw [c]
      exact G.st
    · exact G.keep x (by rw [longs_at h0 (by omega)]; exact hl) (P.c x h0 (by omega) hl)
/-- phase two under way -/
structure Ph2 (ps qs : List Pr) (n : Int) (i : Nat) (m p : List Pr) : Prop where
  I : InvE m p
  E : ∀ x y : Int, getE m x = some y → (0 ≤ x ∧ x < (ps.length : Int)) ∧ y ∈ nearX ps qs n x
  c1 : ∀ x : Int, 0 ≤ x → x < (ps.length : Int) → longX ps n x = true → (getE m x).isSome = true
  c2 : ∀ y : Int, 0 ≤ y → y < (i : Int) → longX qs n y = true → (getE p y).isSome = true
theorem Ph2.start {ps qs : List Pr} {n : Int} {m p : List Pr} (P : Ph1 ps qs n ps.length m p) : Ph2 ps qs n 0 m p := ⟨P.I, P.E, P.c, fun y h0 h1 => by omega⟩
theorem Ph2.skip {ps qs : List Pr} {n : Int} {i : Nat} {m p : List Pr} (P : Ph2 ps qs n i m p) (h : longX qs n (i : Int) = true → (getE p (i : Int)).isSome = true) : Ph2 ps qs n (i + 1) m p :=
  ⟨P.I, P.E, P.c1, fun y h0 h1 hl => by
    by_cases c : y = (i : Int)
    · rw [c] at hl ⊢
      exact h hl
    · exact P.c2 y h0 (by omega) hl⟩
theorem Ph2.lens {ps qs : List Pr} {n : Int} {i : Nat} {m p : List Pr} (P : Ph2 ps qs n i m p) : m.length ≤ ps.length ∧ p.length ≤ qs.length ∧ ∀ k : Int, (getE p k).isSome = true → 0 ≤ k ∧ k < qs.length := by
  have h2 : ∀ k : Int, (getE p k).isSome = true → 0 ≤ k ∧ k < qs.length := fun k hk => by
    cases e : getE p k with
    | none => rw [e] at hk; cases hk
    | some x => exact (mem_nearX.mp (P.E x k (P.I.pm _ _ e)).2).1
  refine ⟨len_rng P.I.nm fun k hk => ?_, len_rng P.I.np h2, h2⟩
  cases e : getE m k with
  | none => rw [e] at hk; cases hk
  | some y => exact (P.E k y e).1
theorem Ph2.grow {ps qs : List Pr} {n : Int} {i : Nat} {m p m' p' : List Pr} (P : Ph2 ps qs n i m p) (hi : i < qs.length) (G : Grown p m p' m' (keptR (longs qs n)) (nearR (exF (rowsN ps qs n) qs.length)) (i : Int)) : Ph2 ps qs n (i + 1) m' p' := by
  have I := G.inv.swap
  have dom : ∀ y : Int, (getE p' y).isSome = true → 0 ≤ y ∧ y < (qs.length : Int) := fun y hy => by
    rcases G.dom y hy with z | z
    · exact P.lens.2.2 y z
    · omega
  refine ⟨I, fun x y e => ?_, fun x h0 h1 hl => G.keepP x (P.c1 x h0 h1 hl), fun y h0 h1 hl => ?_⟩
  · have e2 := I.mp _ _ e
    rcases G.edge y x e2 with z | z
    · exact P.E x y (P.I.pm _ _ z)
    · obtain ⟨a, b⟩ := dom y (by rw [e2]; rfl)
      rw [back_at a b] at z
      obtain ⟨c, d⟩ := mem_nearX.mp z
      exact ⟨c, mem_nearX.mpr ⟨⟨a, b⟩, by rw [nearP_swap]; exact d⟩⟩
  · by_cases c : y = (i : Int)
    · rw [c]
      exact G.st
    · exact G.keep y (by rw [longs_at h0 (by omega)]; exact hl) (P.c2 y h0 (by omega) hl)
theorem bar1 {ps qs : List Pr} {n : Int} {i : Nat} {ms ns : List Int} (hi : i < ps.length) (hl : longX ps n (i : Int) = true) (F : Fail (keptR (longs ps n)) (nearR (rowsN ps qs n)) (i : Int) ms) (hr : ∀ x ∈ ms, 0 ≤ x ∧ x < (ps.length : Int)) (p : ns.Perm ms) (s : ns.Pairwise (· ≤ ·)) : SetBar ps qs n ns :=
  bar_of (F.congr (fun x hx => longs_at (hr x hx).1 (hr x hx).2) fun x hx t ht => by rw [rowsN_at (hr x hx).1 (hr x hx).2]; exact ht) hl hr p s
theorem bar2 {ps qs : List Pr} {n : Int} {i : Nat} {ms ns : List Int} (hi : i < qs.length) (hl : longX qs n (i : Int) = true) (F : Fail (keptR (longs qs n)) (nearR (exF (rowsN ps qs n) qs.length)) (i : Int) ms) (hr : ∀ x ∈ ms, 0 ≤ x ∧ x < (qs.length : Int)) (p : ns.Perm ms) (s : ns.Pairwise (· ≤ ·)) : SetBar qs ps n ns :=
  bar_of (F.congr (fun x hx => longs_at (hr x hx).1 (hr x hx).2) fun x hx t ht => (back_at (hr x hx).1 (hr x hx).2).mpr ht) hl hr p s
end Lw
namespace Lw
open PySem PySem.Spec PyProof.Rows L2 XV TL XM DO
theorem Two.lst {d e a : Addr} {H H' : Hp} {x y : List (L2.Key × V)} {xs : List V} (tw : Two d e H H') (hd : H d = some (.dK x)) (he : H e = some (.dK y)) (h : H a = some (.lst xs)) : H' a = some (.lst xs) :=
  tw a _ (fun z => by rw [z, hd] at h; cases h) (fun z => by rw [z, he] at h; cases h) h
theorem Two.tup {d e a : Addr} {H H' : Hp} {x y : List (L2.Key × V)} {xs : List V} (tw : Two d e H H') (hd : H d = some (.dK x)) (he : H e = some (.dK y)) (h : H a = some (.tup xs)) : H' a = some (.tup xs) :=
  tw a _ (fun z => by rw [z, hd] at h; cases h) (fun z => by rw [z, he] at h; cases h) h
theorem RowsI.two {d e a : Addr} {H H' : Hp} {x y : List (L2.Key × V)} {rows : List (List Int)} (h : RowsI H a rows) (tw : Two d e H H') (hd : H d = some (.dK x)) (he : H e = some (.dK y)) : RowsI H' a rows := by
  obtain ⟨xs, e1, l, r⟩ := h.ex
  refine ⟨xs, tw.lst hd he e1, l, fun i z hz => ?_⟩
  obtain ⟨t, q, a, b, c⟩ := r i z hz
  exact ⟨t, q, a, b, tw.lst hd he c⟩
/-- what the cover answers -/
def CovAt (ps qs : List Pr) (n : Int) (G H : Hp) (t : Addr) : Prop :=
  (∃ (l : Addr) (zs : List V) (rs : List Pr), G l = none ∧ H t = some (.tup [.ref l, .non]) ∧ H l = some (.lst zs) ∧ RawVs H zs rs ∧ Mtch ps qs n rs ∧ rs.Pairwise leP) ∨
  ∃ (u w : Addr) (wh : Bool) (ns : List Int), H t = some (.tup [.non, .ref u]) ∧ H u = some (.tup [.int ((if wh = true then 1 else 0 : Nat) : Int), .ref w]) ∧ H w = some (.tup (ns.map V.int)) ∧ SetBar (if wh = true then qs else ps) (if wh = true then ps else qs) n ns ∧ ns.length ≤ 90
theorem CovAt.weak {ps qs : List Pr} {n : Int} {G G' H : Hp} {t : Addr} (h : CovAt ps qs n G' H t) (s : Same G G') : CovAt ps qs n G H t := by
  rcases h with ⟨l, zs, rs, a, b⟩ | h
  · exact .inl ⟨l, zs, rs, sN s a, b⟩
  · exact .inr h
abbrev sCov : Stmt := topOf "cover"
abbrev NCov : List Str := ["first", "second", "gaps", "n", "near", "place", "gap", "row", "long_first", "pair", "long_second", "mates", "partners", "start", "met", "back"]
theorem scCov : FnScope NCov ["first", "second", "gaps", "n"] (defScope sCov) := ⟨rfl, rfl, rfl, by decide +kernel, rfl, by decide +kernel, by decide +kernel⟩
def spCov (K : PySem.W.Frag) : Sp := fun vs H Q _ => ∃ (a b g : Addr) (n : Int) (xs ys : List V) (ps qs : List Pr), vs = [.ref a, .ref b, .ref g, .int n] ∧ SqT K H a xs ∧ PairVs K H xs ps ∧ SqT K H b ys ∧ PairVs K H ys qs ∧ RowsI H g (ps.map fun p => qs.map (gapP p)) ∧ ps.length ≤ 90 ∧ qs.length ≤ 90 ∧
  ∀ (t : Addr) H', Same H H' → CovAt ps qs n H H' t → Q (.ref t) H'
section
variable {P : Program} {w : World} {K : PySem.W.Frag} {mg : Str → Option Value} {base : Heap}
theorem ok_cov {f : Addr} {fd : FuncData} (F : Fun K "cover" "cover" sCov f fd) (T : Bt mg) (N1 : Cl P w K mg base 1 "life_of" sLife ["pair"] (spLife K)) (N2 : Cl P w K mg base 2 "lengthen" sLen ["start", "near", "mates", "partners", "kept"] spLen) (N3 : Cl P w K mg base 1 "exchanged" sExch ["near", "count"] spExch) : FnOk P w K mg base CX0 3 f fd ["first", "second", "gaps", "n"] (spCov K) := by
  refine F.ok scCov (fun vs H Q E h => ?_) (fun cdv A0 outer s0 H vs Q E hr h => ?_)
  · obtain ⟨a, b, g, n, xs, ys, ps, qs, rfl, _⟩ := h
    rfl
  · obtain ⟨a, b, g, n, xs, ys, ps, qs, rfl, ha, hx, hb, hy, hg, lp, lq, k⟩ := h
    refine ⟨_, pss_cons (ps_setLc (i := 4) (own := [("row", 7)]) (g := gName 7) (tt := tYes) (te := tLc (iEnum K (tCons (tVar 7) tNil)) (gTup K 2 (gCons (gName 5) (gCons (gName 6) gNil))) (tTest (tOp (rI0 fun i j => .bl (decide (i ≤ j))) (tVar 6) (tVar 3))) (tVar 5) [5, 6]) rfl scCov.nd rfl rfl (sw_true rfl rfl rfl (by decide +kernel)) (pi_list (pv 2)) (blkOk_by (N := NCov) (sc := defScope sCov) (by decide +kernel)) (fun _ _ _ _ _ => pg_name (i := 7) scCov.nd rfl (by first | exact Or.inl rfl | exact Or.inr rfl)) (fun _ _ _ _ _ => pts_nil) (fun _ _ _ _ _ => pe_lc (own := [("place", 5), ("gap", 6)]) (g := gTup K 2 (gCons (gName 5) (gCons (gName 6) gNil))) (tt := tTest (tOp (rI0 fun i j => .bl (decide (i ≤ j))) (tVar 6) (tVar 3))) (te := tVar 5) rfl scCov.nd (pi_enum rfl T.enumerate (pa_cons (pv 7) pa_nil)) (blkOk_by (N := NCov) (sc := ⟨.function, [(".0", .local), ("row", .local), ("enumerate", .globalImplicit), ("n", .cell)], false, false, []⟩) (by decide +kernel)) (fun _ _ _ _ _ => pg_tup rfl (pgs_cons (pg_name (i := 5) scCov.nd rfl (by first | exact Or.inl rfl | exact Or.inr rfl)) (pgs_cons (pg_name (i := 6) scCov.nd rfl (by first | exact Or.inl rfl | exact Or.inr rfl)) (pgs_nil)))) (fun _ _ _ _ _ => pts_one (pt_cmpR op_le (pv 6) (pv 3) (nomark _))) (fun _ _ _ _ _ => pv 5)))
 (pss_cons (ps_setLc (i := 8) (own := [("pair", 9)]) (g := gName 9) (tt := tYes) (te := tOp (rI0 fun i j => .bl (decide (j < i))) (tCall (spLife K) [] E0 (tCons (tVar 9) tNil)) (tVar 3)) rfl scCov.nd rfl rfl (sw_true rfl rfl rfl (by decide +kernel)) (pi_tup (pv 0)) (blkOk_by (N := NCov) (sc := defScope sCov) (by decide +kernel)) (fun _ _ _ _ _ => pg_name (i := 9) scCov.nd rfl (by first | exact Or.inl rfl | exact Or.inr rfl)) (fun _ _ _ _ _ => pts_nil) (fun _ _ _ _ _ => pe_cmpR op_gt (calC N1 (hr.mono (by decide)) (pa_cons (pv 9) pa_nil)) (pv 3) (nomark _)))
 (pss_cons (ps_setLc (i := 10) (own := [("pair", 9)]) (g := gName 9) (tt := tYes) (te := tOp (rI0 fun i j => .bl (decide (j < i))) (tCall (spLife K) [] E0 (tCons (tVar 9) tNil)) (tVar 3)) rfl scCov.nd rfl rfl (sw_true rfl rfl rfl (by decide +kernel)) (pi_tup (pv 1)) (blkOk_by (N := NCov) (sc := defScope sCov) (by decide +kernel)) (fun _ _ _ _ _ => pg_name (i := 9) scCov.nd rfl (by first | exact Or.inl rfl | exact Or.inr rfl)) (fun _ _ _ _ _ => pts_nil) (fun _ _ _ _ _ => pe_cmpR op_gt (calC N1 (hr.mono (by decide)) (pa_cons (pv 9) pa_nil)) (pv 3) (nomark _)))
 (pss_cons (ps_set (i := 11) scCov.nd rfl (by first | exact Or.inl rfl | exact Or.inr rfl) (pe_dnewK))
 (pss_cons (ps_set (i := 12) scCov.nd rfl (by first | exact Or.inl rfl | exact Or.inr rfl) (pe_dnewK))
 (pss_cons (ps_for PassesOwn.never rfl (pi_range1 rfl T.range (pa_cons (pe_callB call_len (by rfl) T.len (by decide +kernel) (pa_cons (pv 0) pa_nil)) pa_nil)) (pg_name (i := 13) scCov.nd rfl (by first | exact Or.inl rfl | exact Or.inr rfl))
 (pss_one (ps_if (pt_val (pe_ix ix_list (pv 8) (pv 13) (fun _ _ => rfl)))
 (pss_cons (ps_set (i := 14) scCov.nd rfl (by first | exact Or.inl rfl | exact Or.inr rfl) (calC N2 (hr.mono (by decide)) (pa_cons (pv 13) (pa_cons (pv 4) (pa_cons (pv 11) (pa_cons (pv 12) (pa_cons (pv 8) pa_nil)))))))
 (pss_one (ps_if (pt_cmpR op_notN (pv 14) (pe_non) (nomark _))
 (pss_one (ps_ret (pe_tup (pa_cons (pe_non) (pa_cons (pe_tup (pa_cons (pe_int) (pa_cons (pv 14) pa_nil))) pa_nil)))))
 (pss_nil))))
 (pss_nil))))
 (pss_cons (ps_set (i := 15) scCov.nd rfl (by first | exact Or.inl rfl | exact Or.inr rfl) (calC N3 (hr.mono (by decide)) (pa_cons (pv 4) (pa_cons (pe_callB call_len (by rfl) T.len (by decide +kernel) (pa_cons (pv 1) pa_nil)) pa_nil))))
 (pss_cons (ps_for PassesOwn.never rfl (pi_range1 rfl T.range (pa_cons (pe_callB call_len (by rfl) T.len (by decide +kernel) (pa_cons (pv 1) pa_nil)) pa_nil)) (pg_name (i := 13) scCov.nd rfl (by first | exact Or.inl rfl | exact Or.inr rfl))
 (pss_one (ps_if (PW.pt (pw_and (pt_val (pe_ix ix_list (pv 10) (pv 13) (fun _ _ => rfl))) (pw_and1 (pt_cmp (pc_dnotin (by exact un1 hr) (pv 13) (pv 12))))))
 (pss_cons (ps_set (i := 14) scCov.nd rfl (by first | exact Or.inl rfl | exact Or.inr rfl) (calC N2 (hr.mono (by decide)) (pa_cons (pv 13) (pa_cons (pv 15) (pa_cons (pv 12) (pa_cons (pv 11) (pa_cons (pv 10) pa_nil)))))))
 (pss_one (ps_if (pt_cmpR op_notN (pv 14) (pe_non) (nomark _))
 (pss_one (ps_ret (pe_tup (pa_cons (pe_non) (pa_cons (pe_tup (pa_cons (pe_int) (pa_cons (pv 14) pa_nil))) pa_nil)))))
 (pss_nil))))
 (pss_nil))))
 (pss_one (ps_ret (pe_tup (pa_cons (pe_callB (cr_sortItK rfl) (by rfl) T.sorted (by decide +kernel) (pa_cons (pe_bm0 PySem.F.plainAttrs_dict PySem.F.slot_dict_items PySem.F.type_dict_items mt_itemsK (pv 11)) pa_nil)) (pa_cons (pe_non) pa_nil)))))))))))), ?_⟩
    obtain ⟨gs, eg, lg, rg⟩ := hg.ex
    rw [List.length_map] at lg
    refine ⟨_, rfl, g, rfl, ⟨_, SqL.of eg⟩, fun dn hdn => lc_list (K := K) (a := g) (xs := gs) (fun i M => Same H M ∧ ∃ zs : List V, M dn = some (.lst zs) ∧ zs.length = i ∧ ∀ (j : Nat) (z : V), zs[j]? = some z → ∃ t r, z = .ref t ∧ (rowsN ps qs n)[j]? = some r ∧ t ≠ dn ∧ M t = some (.lst (r.map V.int))) ⟨same_new hdn, [], upd_same, rfl, fun j z h => by simp at h⟩ (fun i M _ h => SqL.of (h.1 _ _ eg)) ?_ ?_⟩
    · rintro i x M hxi ⟨sM, zs, eM, lz, hz⟩
      obtain ⟨tr, r0, rfl, hr0, er⟩ := rg i x hxi
      rw [List.getElem?_map] at hr0
      obtain ⟨px, hp, rfl⟩ := Option.map_eq_some_iff.mp hr0
      have hil := (List.getElem?_eq_some_iff.mp hp).1
      refine ⟨rfl, _, rfl, tr, _, rfl, SqL.of (sM _ _ er), fun D2 hD2 => lc_enumL (K := K) (a := tr) (xs := (qs.map (gapP px)).map V.int) (fun j N => Same M N ∧ N D2 = some (.lst ((nearL (fun q => nearP px q n) qs j).map V.int))) ⟨same_new hD2, upd_same⟩ (fun j N h => SqL.of (h.1 _ _ (sM _ _ er))) ?_ ?_⟩
      · rintro j y T' N hyj ⟨sN', eN⟩ hT'
        rw [List.getElem?_map, List.getElem?_map] at hyj
        cases hq : qs[j]? with
        | none => rw [hq] at hyj; cases hyj
        | some q =>
          rw [hq] at hyj
          cases hyj
          have s6 := same_new (o := .tup [.int (j : Nat), .int (gapP px q)]) hT'
          have s56 := Same.trans sN' s6
          have eT := upd_same (H := N) (a := T') (o := .tup [.int (j : Nat), .int (gapP px q)])
          have eD6 := s6 _ _ eN
          generalize upd N T' (.tup [.int (j : Nat), .int (gapP px q)]) = N6 at s6 s56 eT eD6 ⊢
          have hjl := (List.getElem?_eq_some_iff.mp hq).1
          have ln := nearL_len (fun q => nearP px q n) qs j
          refine ⟨T', _, rfl, SqT.of eT, rfl, _, _, rfl, _, _, rfl, rfl, rfl, ?_⟩
          refine ⟨_, rfl, _, rfl, _, _, rfl, rfl, _, rfl, ite_b (fun c => ?_) (fun c => ?_)⟩
          · have c : decide (gapP px q ≤ n) = true := c
            rw [gap_near] at c
            refine ⟨_, rfl, _, eD6, by rw [List.length_map, sizeLine_eq]; omega, turn_new s56 hD2, ?_⟩
            rw [upd_same, nearL_succ hq, if_pos c, List.map_append]
            rfl
          · have c : decide (gapP px q ≤ n) = false := c
            rw [gap_near] at c
            refine ⟨s56, ?_⟩
            rw [nearL_succ hq, if_neg (by rw [c]; decide), List.append_nil]
            exact eD6
      · rintro N ⟨sN', eN⟩
        rw [List.length_map, List.length_map] at eN
        have nD : D2 ≠ dn := fun z => by rw [z, eM] at hD2; cases hD2
        refine ⟨zs, sN' _ _ eM, by rw [lz, sizeLine_eq]; omega, turn_new (Same.trans sM sN') hdn, zs ++ [.ref D2], upd_same, by rw [List.length_append, lz]; rfl, fun j z hj => ?_⟩
        by_cases hjl : j < zs.length
        · rw [List.getElem?_append_left hjl] at hj
          obtain ⟨t, p, a1, a2, a3, a4⟩ := hz j z hj
          exact ⟨t, p, a1, a2, a3, by rw [upd_ne a3]; exact sN' _ _ a4⟩
        · have hjl2 := (List.getElem?_eq_some_iff.mp hj).1
          rw [List.length_append] at hjl2
          have : j = zs.length := by
            have : ([V.ref D2] : List V).length = 1 := rfl
            omega
          subst this
          rw [List.getElem?_append_right (Nat.le_refl _), Nat.sub_self] at hj
          cases hj
          refine ⟨D2, nearL (fun q => nearP px q n) qs qs.length, rfl, ?_, nD, by rw [upd_ne nD]; exact eN⟩
          unfold rowsN
          rw [lz, List.getElem?_map, hp]
          rfl
    rintro M1 ⟨s1, zs1, e1, l1, z1⟩
    have rN : RowsI M1 dn (rowsN ps qs n) := ⟨zs1, e1, by rw [l1, rowsN_len, lg], fun i x hxi => by obtain ⟨t, r, a, b, _, c⟩ := z1 i x hxi; exact ⟨t, r, a, b, c⟩⟩
    refine ⟨_, rfl, a, rfl, ⟨_, sqT_mono s1 ha⟩, fun d8 hd8 => lc_tup (K := K) (a := a) (xs := xs) (fun i M => Same M1 M ∧ M d8 = some (.lst (((longs ps n).take i).map V.bl))) ⟨same_new hd8, upd_same⟩ (fun i M _ h => sqT_mono (Same.trans s1 h.1) ha) ?_ ?_⟩
    · rintro i x M hxi ⟨sM, eM⟩
      obtain ⟨tx, px, hp, rfl, htx⟩ := hx.2 i x hxi
      have hil := (List.getElem?_eq_some_iff.mp hp).1
      refine ⟨rfl, _, rfl, tx, _, rfl, sqT_mono (Same.trans s1 sM) htx, _, rfl, _, _, rfl, rfl, _, eM, by rw [List.length_map, sizeLine_eq]; have := List.length_take_le' i (longs ps n); have := longs_len ps n; omega, turn_new sM hd8, ?_⟩
      rw [upd_same, List.take_add_one, show (longs ps n)[i]? = some (decide (px.2 - px.1 > n)) from by unfold longs; rw [List.getElem?_map, hp]; rfl, List.map_append]
      rfl
    rintro M2 ⟨s2, e8⟩
    rw [hx.1, ← longs_len ps n, List.take_length] at e8
    have s12 := Same.trans s1 s2
    refine ⟨_, rfl, b, rfl, ⟨_, sqT_mono s12 hb⟩, fun d10 hd10 => lc_tup (K := K) (a := b) (xs := ys) (fun i M => Same M2 M ∧ M d10 = some (.lst (((longs qs n).take i).map V.bl))) ⟨same_new hd10, upd_same⟩ (fun i M _ h => sqT_mono (Same.trans s12 h.1) hb) ?_ ?_⟩
    · rintro i x M hxi ⟨sM, eM⟩
      obtain ⟨tx, px, hp, rfl, htx⟩ := hy.2 i x hxi
      have hil := (List.getElem?_eq_some_iff.mp hp).1
      refine ⟨rfl, _, rfl, tx, _, rfl, sqT_mono (Same.trans s12 sM) htx, _, rfl, _, _, rfl, rfl, _, eM, by rw [List.length_map, sizeLine_eq]; have := List.length_take_le' i (longs qs n); have := longs_len qs n; omega, turn_new sM hd10, ?_⟩
      rw [upd_same, List.take_add_one, show (longs qs n)[i]? = some (decide (px.2 - px.1 > n)) from by unfold longs; rw [List.getElem?_map, hp]; rfl, List.map_append]
      rfl
    rintro M3 ⟨s3, e10⟩
    rw [hy.1, ← longs_len qs n, List.take_length] at e10
    have s13 := Same.trans s12 s3
    refine fun d11 h11 => fun d12 h12 => ?_
    have n12 : d11 ≠ d12 := ne_of_none upd_same h12
    have h12' : M3 d12 = none := sN (same_new h11) h12
    have sB : Same M3 (upd (upd M3 d11 (.dK [])) d12 (.dK [])) := Same.trans (same_new h11) (same_new h12)
    have m0 : DctAt (upd (upd M3 d11 (.dK [])) d12 (.dK [])) d11 [] := (DctAt.new (es := []) (H := M3) (d := d11) List.nodup_nil).other n12
    have p0 : DctAt (upd (upd M3 d11 (.dK [])) d12 (.dK [])) d12 [] := DctAt.new (es := []) List.nodup_nil
    generalize upd (upd M3 d11 (.dK [])) d12 (.dK []) = B1 at sB m0 p0 ⊢
    have sH : Same H B1 := Same.trans s13 sB
    have rB : RowsI B1 dn (rowsN ps qs n) := rN.mono (Same.trans (Same.trans s2 s3) sB)
    have e8 := sB _ _ (s3 _ _ e8)
    have e10 := sB _ _ e10
    have H11 : H d11 = none := sN s13 h11
    have H12 : H d12 = none := sN s13 h12'
    have same2 : ∀ {M}, Two d11 d12 B1 M → Same H M := fun {M} tw c o h => tw c o (ne_of_none h H11) (ne_of_none h H12) (sH _ _ h)
    have hB11 := m0.at_
    have hB12 := p0.at_
    refine ⟨_, rfl, _, xs.length, rfl, .inr ⟨_, sqT_mono sH ha, rfl⟩, _, rfl, by omega, by have := hx.1; omega, for_range (lo := 0) (n := xs.length) (fun i σ M => ∃ (m p : List Pr) (x13 x14 : Option V), σ = [some (.ref a), some (.ref b), some (.ref g), some (.int n), some (.ref dn), none, none, none, some (.ref d8), none, some (.ref d10), some (.ref d11), some (.ref d12), x13, x14, none] ∧ Two d11 d12 B1 M ∧ DctAt M d11 m ∧ DctAt M d12 p ∧ Ph1 ps qs n i m p)
      ⟨[], [], none, none, rfl, Two.refl, m0, p0, Ph1.start ps qs n⟩ ?_ ?_⟩
    · rintro i σ M hi ⟨m, p, x13, x14, rfl, tw, hm, hp, P1⟩
      rw [hx.1] at hi
      have z0 : (0 + (i : Int)) = (i : Int) := Int.zero_add _
      rw [z0]
      have e8M := tw.lst hB11 hB12 e8
      have rM := rB.two tw hB11 hB12
      have la := longs_at (ps := ps) (n := n) (x := (i : Int)) (by omega) (by omega)
      refine ⟨_, rfl, _, rfl, d8, _, _, _, rfl, rfl, SqL.of e8M, at_bls (by omega) (by rw [longs_len]; omega), _, rfl, ite_b (fun c => ?_) (fun c => ?_)⟩
      · rw [la] at c
        obtain ⟨lm, lp'⟩ := P1.lens (by omega)
        refine ⟨_, rfl, _, rfl, _, rfl, _, rfl, _, rfl, dn, d11, d12, d8, (i : Int), rowsN ps qs n, longs ps n, m, p, rfl, rM, hm, hp, n12, e8M, by rw [longs_len, rowsN_len], P1.I, P1.free, ⟨by omega, by rw [rowsN_len]; omega⟩, fun x hx' => ?_, by omega, by omega, fun m' p' H' G tw' hm' hp' => ?_, fun t ms ns H' Fl pm so rg' s' et => ?_⟩
        · rw [rowsN_len]
          cases e : getE m x with
          | none => rw [e] at hx'; cases hx'
          | some y => have := (P1.E x y e).1; omega
        · refine ⟨_, rfl, rfl, _, rfl, ite_b (fun c4 => absurd c4 (by decide)) (fun _ => ?_)⟩
          exact ⟨m', p', _, _, rfl, tw.trans tw', hm', hp', P1.grow hi G⟩
        · refine ⟨_, rfl, rfl, _, rfl, ite_b (fun _ => ?_) (fun c4 => absurd c4 (by simp))⟩
          have bar := bar1 hi c Fl (fun x hx' => by have := rg' x hx'; rw [rowsN_len] at this; exact this) pm so
          refine ⟨_, rfl, (by show 2 ≤ sizeLine; decide), fun u hu => ⟨(by show 2 ≤ sizeLine; decide), fun v hv => ?_⟩⟩
          have sH' := Same.trans (same2 tw) s'
          have s7 := same_new (o := .tup [.int 0, .ref t]) hu
          have s8 := same_new (o := .tup [.non, .ref u]) hv
          have lns : ns.length ≤ 90 := by
            rw [pm.length_eq]
            have := nodup_sub_len (ys := (List.range ps.length).map fun i : Nat => (i : Int)) Fl.nd fun x hx' => by
              have := rg' x hx'
              rw [rowsN_len] at this
              exact List.mem_map.mpr ⟨x.toNat, List.mem_range.mpr (by omega), by omega⟩
            rw [List.length_map, List.length_range] at this
            omega
          exact k v _ (Same.trans sH' (Same.trans s7 s8)) (.inr ⟨u, t, false, ns, upd_same, s8 _ _ upd_same, s8 _ _ (s7 _ _ et), bar, lns⟩)
      · rw [la] at c
        exact ⟨m, p, _, _, rfl, tw, hm, hp, P1.skip c⟩
    rintro σ M ⟨m, p, x13, x14, rfl, tw, hm, hp, P1⟩
    rw [hx.1] at P1
    have P2 := Ph2.start P1
    have rM := rB.two tw hB11 hB12
    refine ⟨_, rfl, _, rfl, _, ys.length, rfl, .inr ⟨_, sqT_mono (same2 tw) hb, rfl⟩, dn, ys.length, rowsN ps qs n, rfl, rM, by have := hy.1; omega, by rw [rowsN_len]; omega, fun r hr' => ?_, fun t15 N sN' r15 => ?_⟩
    · unfold rowsN at hr'
      obtain ⟨px, _, rfl⟩ := List.mem_map.mp hr'
      refine ⟨nearL_nd _ _ _, fun x hx' => ?_⟩
      obtain ⟨j, q, hj, _, _, rfl⟩ := mem_nearL.mp hx'
      have := hy.1
      omega
    rw [hy.1] at r15
    have twN : Two d11 d12 B1 N := tw.trans (Two.of sN')
    have hmN : DctAt N d11 m := ⟨sN' _ _ hm.at_, hm.nd⟩
    have hpN : DctAt N d12 p := ⟨sN' _ _ hp.at_, hp.nd⟩
    have e10N := twN.lst hB11 hB12 e10
    have hN11 := hmN.at_
    have hN12 := hpN.at_
    clear tw hm hp rM P1
    refine ⟨_, rfl, _, ys.length, rfl, .inr ⟨_, sqT_mono (same2 twN) hb, rfl⟩, _, rfl, by omega, by have := hy.1; omega, for_range (lo := 0) (n := ys.length) (fun i σ M => ∃ (m p : List Pr) (x13 x14 : Option V), σ = [some (.ref a), some (.ref b), some (.ref g), some (.int n), some (.ref dn), none, none, none, some (.ref d8), none, some (.ref d10), some (.ref d11), some (.ref d12), x13, x14, some (.ref t15)] ∧ Two d11 d12 N M ∧ DctAt M d11 m ∧ DctAt M d12 p ∧ Ph2 ps qs n i m p)
      ⟨m, p, _, _, rfl, Two.refl, hmN, hpN, P2⟩ ?_ ?_⟩
    · rintro i σ M hi ⟨m, p, x13, x14, rfl, tw, hm, hp, P2⟩
      rw [hy.1] at hi
      have z0 : (0 + (i : Int)) = (i : Int) := Int.zero_add _
      rw [z0]
      have e10M := tw.lst hN11 hN12 e10N
      have rM := r15.two tw hN11 hN12
      have la := longs_at (ps := qs) (n := n) (x := (i : Int)) (by omega) (by omega)
      refine ⟨_, rfl, _, rfl, d10, _, _, _, rfl, rfl, SqL.of e10M, at_bls (by omega) (by rw [longs_len]; omega), _, rfl, ite_b (fun c => ?_) (fun c => ?_)⟩
      · rw [la] at c
        refine ⟨_, rfl, _, rfl, d12, _, rfl, hp.get (i : Int), _, rfl, ite_b (fun c2 => ?_) (fun c2 => ?_)⟩
        · have fr : getE p (i : Int) = none := by
            have c2 : (!((getE p (i : Int)).map V.int).isSome) = true := c2
            rw [Option.isSome_map] at c2
            cases e : getE p (i : Int) with
            | none => rfl
            | some x => rw [e] at c2; cases c2
          obtain ⟨lm, lp', dm⟩ := P2.lens
          have lx : (exF (rowsN ps qs n) qs.length).length = qs.length := by
            unfold exF
            rw [List.length_map, List.length_range]
          refine ⟨_, rfl, _, rfl, _, rfl, _, rfl, _, rfl, t15, d12, d11, d10, (i : Int), exF (rowsN ps qs n) qs.length, longs qs n, p, m, rfl, rM, hp, hm, n12.symm, e10M, by rw [longs_len, lx], P2.I.swap, fr, ⟨by omega, by rw [lx]; omega⟩, fun x hx' => by rw [lx]; exact dm x hx', by omega, by omega, fun p' m' H' G tw' hp' hm' => ?_, fun t ms ns H' Fl pm so rg' s' et => ?_⟩
          · refine ⟨_, rfl, rfl, _, rfl, ite_b (fun c4 => absurd c4 (by decide)) (fun _ => ?_)⟩
            exact ⟨m', p', _, _, rfl, tw.trans tw'.swap, hm', hp', P2.grow hi G⟩
          · refine ⟨_, rfl, rfl, _, rfl, ite_b (fun _ => ?_) (fun c4 => absurd c4 (by simp))⟩
            have bar := bar2 (ps := ps) hi c Fl (fun x hx' => by have := rg' x hx'; rw [lx] at this; exact this) pm so
            refine ⟨_, rfl, (by show 2 ≤ sizeLine; decide), fun u hu => ⟨(by show 2 ≤ sizeLine; decide), fun v hv => ?_⟩⟩
            have sH' := Same.trans (same2 (twN.trans tw)) s'
            have s7 := same_new (o := .tup [.int 1, .ref t]) hu
            have s8 := same_new (o := .tup [.non, .ref u]) hv
            have lns : ns.length ≤ 90 := by
              rw [pm.length_eq]
              have := nodup_sub_len (ys := (List.range qs.length).map fun i : Nat => (i : Int)) Fl.nd fun x hx' => by
                have := rg' x hx'
                rw [lx] at this
                exact List.mem_map.mpr ⟨x.toNat, List.mem_range.mpr (by omega), by omega⟩
              rw [List.length_map, List.length_range] at this
              omega
            exact k v _ (Same.trans sH' (Same.trans s7 s8)) (.inr ⟨u, t, true, ns, upd_same, s8 _ _ upd_same, s8 _ _ (s7 _ _ et), bar, lns⟩)
        · refine ⟨m, p, _, _, rfl, tw, hm, hp, P2.skip fun _ => ?_⟩
          have c2 : (!((getE p (i : Int)).map V.int).isSome) = false := c2
          rw [Option.isSome_map] at c2
          simpa using c2
      · rw [la] at c
        exact ⟨m, p, _, _, rfl, tw, hm, hp, P2.skip fun z => by rw [c] at z; cases z⟩
    rintro σ M ⟨m, p, x13, x14, rfl, tw, hm, hp, P2⟩
    rw [hy.1] at P2
    obtain ⟨lm, _, _⟩ := P2.lens
    have sM : Same H M := same2 (twN.trans tw)
    refine ⟨_, rfl, .inr (.inr (.inl ⟨rfl, .inl ⟨_, hm.at_⟩⟩)), d11, m, rfl, rfl, hm.at_, fun it hit => ⟨it, d11, m, rfl, upd_same, ?_, by omega, fun H' l zs rs s' nl so el rz => ⟨(by show 2 ≤ sizeLine; decide), fun t ht => ?_⟩⟩⟩
    · rw [upd_ne (ne_of_none hm.at_ hit)]
      exact hm.at_
    · have s9 := same_new (o := .tup [.ref l, .non]) ht
      have M0 := mtch_of P2.I P2.E P2.c1 P2.c2 so
      exact k t _ (Same.trans sM (Same.trans (Same.trans (same_new hit) s') s9)) (.inl ⟨l, zs, rs, sN (Same.trans sM (same_new hit)) nl, upd_same, s9 _ _ el, rz.turn fun t us z => s9 _ _ z, M0, so.sorted⟩)
end
end Lw
namespace Lw
open PySem PySem.Spec PyProof.Rows L2 XV TL XM DO
abbrev sKC : Stmt := topOf "kind_cover"
theorem scKC : FnScope ["lives", "other", "n", "kind", "first", "second"] ["lives", "other", "n", "kind"] (defScope sKC) := ⟨rfl, rfl, rfl, by decide +kernel, rfl, by decide +kernel, by decide +kernel⟩
def spKC (K : PySem.W.Frag) (C : Addr) : Sp := fun vs H Q _ => ∃ (p q : Addr) (A B : Fv) (n : Int) (kd : Bool), vs = [.ref p, .ref q, .int n, .str (kindW kd)] ∧ LvAt K C H p A ∧ LvAt K C H q B ∧ (A.kind kd).length ≤ 90 ∧ (B.kind kd).length ≤ 90 ∧
  ∀ (t : Addr) H', Same H H' → CovAt (A.kind kd) (B.kind kd) n H H' t → Q (.ref t) H'
/-- what matching answers -/
def MatAt (A B : Fv) (n : Int) (G H : Hp) (v : V) : Prop :=
  (v = .non ∧ (farsV A B n ≠ [] ∨ ∃ (kd wh : Bool) (ns : List Int), SetBar ((if wh = true then B else A).kind kd) ((if wh = true then A else B).kind kd) n ns)) ∨
  ∃ (t l1 l2 : Addr) (z1 z2 : List V) (r1 r2 : List Pr), v = .ref t ∧ (G l1 = none ∧ G l2 = none) ∧ H t = some (.tup [.ref l1, .ref l2]) ∧ (H l1 = some (.lst z1) ∧ RawVs H z1 r1 ∧ Mtch A.hs B.hs n r1 ∧ r1.Pairwise leP) ∧ (H l2 = some (.lst z2) ∧ RawVs H z2 r2 ∧ Mtch A.ss B.ss n r2 ∧ r2.Pairwise leP) ∧ farsV A B n = []
/-- what bar answers -/
def BarRt (A B : Fv) (n : Int) (H : Hp) (v : V) : Prop :=
  (∃ (t : Addr) (br : Bar), v = .ref t ∧ BarAt H t br ∧ barB A B n br = true) ∨ (v = .non ∧ farsV A B n = [] ∧ ∀ kd, ∃ rs, Mtch (A.kind kd) (B.kind kd) n rs)
abbrev sMat : Stmt := topOf "matching"
theorem scMat : FnScope ["lives", "other", "n", "hollows", "fault", "summits"] ["lives", "other", "n"] (defScope sMat) := ⟨rfl, rfl, rfl, by decide +kernel, rfl, by decide +kernel, by decide +kernel⟩
def spMat (K : PySem.W.Frag) (c : CA) (C : Addr) : Sp := fun vs H Q E => ∃ (p q : Addr) (A B : Fv) (n : Int), vs = [.ref p, .ref q, .int n] ∧ LvAt K C H p A ∧ LvAt K C H q B ∧ (A.li.length ≠ B.li.length → UnlE c H E "handles") ∧ (A.li.length = B.li.length → n < 0 → BadVE c H E "n") ∧
  (A.li.length = B.li.length → 0 ≤ n → A.li.length ≤ 1000 ∧ (∀ kd, (A.kind kd).length ≤ 90 ∧ (B.kind kd).length ≤ 90) ∧ ∀ v H', Same H H' → MatAt A B n H H' v → Q v H')
abbrev sBarF : Stmt := topOf "bar"
theorem scBarF : FnScope ["lives", "other", "n", "kind", "pairs", "fault", "found"] ["lives", "other", "n"] (defScope sBarF) := ⟨rfl, rfl, rfl, by decide +kernel, rfl, by decide +kernel, by decide +kernel⟩
def spBarF (K : PySem.W.Frag) (c : CA) (C : Addr) : Sp := fun vs H Q E => ∃ (p q : Addr) (A B : Fv) (n : Int), vs = [.ref p, .ref q, .int n] ∧ LvAt K C H p A ∧ LvAt K C H q B ∧ (A.li.length ≠ B.li.length → UnlE c H E "handles") ∧ (A.li.length = B.li.length → n < 0 → BadVE c H E "n") ∧
  (A.li.length = B.li.length → 0 ≤ n → A.li.length ≤ 1000 ∧ (∀ kd, (A.kind kd).length ≤ 90 ∧ (B.kind kd).length ≤ 90) ∧ ∀ v H', Same H H' → BarRt A B n H' v → Q v H')
theorem setbar_barB {A B : Fv} {n : Int} {kd wh : Bool} {ns : List Int} (b : SetBar ((if wh = true then B else A).kind kd) ((if wh = true then A else B).kind kd) n ns) : barB A B n (.set kd ((if wh = true then 1 else 0 : Nat) : Int) ns) = true := by
  show setB A B n kd _ ns = true
  unfold setB
  have up := b.up
  have fw := b.few
  cases wh
  · have up : upF (A.kind kd) n (-1) ns = true := up
    have fw : nearC (A.kind kd) (B.kind kd) n ns < ns.length := fw
    show (ixB 0 2 && (upF (A.kind kd) n (-1) ns && decide (nearC (A.kind kd) (B.kind kd) n ns < ns.length))) = true
    rw [up, decide_eq_true fw]
    rfl
  · have up : upF (B.kind kd) n (-1) ns = true := up
    have fw : nearC (B.kind kd) (A.kind kd) n ns < ns.length := fw
    show (ixB 1 2 && (upF (B.kind kd) n (-1) ns && decide (nearC (B.kind kd) (A.kind kd) n ns < ns.length))) = true
    rw [up, decide_eq_true fw]
    rfl
/-- the first far one is a bar -/
theorem far_bar {A B : Fv} {n : Int} {c : List V} {H : Hp} {t : Addr} (hl : A.li.length = B.li.length) (hc : c ∈ farsV A B n) (e : H t = some (.tup c)) : ∃ br, BarAt H t br ∧ barB A B n br = true := by
  unfold farsV at hc
  rcases List.mem_append.mp hc with h | h
  · obtain ⟨j, hj, rfl⟩ := List.mem_map.mp h
    refine ⟨.loose (j : Int), e, ?_⟩
    show (ixB (j : Int) A.li.length && (looseF n 0 A.li B.li).any fun i => decide ((i : Int) = (j : Int))) = true
    have lt := looseF_lt n A.li B.li 0 j hj
    have e1 : ixB (j : Int) A.li.length = true := by
      unfold ixB
      rw [decide_eq_true (p := (0 : Int) ≤ _) (by omega), decide_eq_true (by omega)]
      rfl
    rw [e1, Bool.true_and, List.any_eq_true]
    exact ⟨j, hj, decide_eq_true rfl⟩
  · rcases List.mem_append.mp h with h | h
    · split at h
      · cases h
      · next c =>
        cases List.mem_singleton.mp h
        refine ⟨.low, e, ?_⟩
        show (!near1 A.lo B.lo n) = true
        rw [(Bool.not_eq_true _).mp c]
        rfl
    · split at h
      · cases h
      · next c =>
        cases List.mem_singleton.mp h
        refine ⟨.high, e, ?_⟩
        show (!near1 A.hi B.hi n) = true
        rw [(Bool.not_eq_true _).mp c]
        rfl
section
variable {P : Program} {w : World} {K : PySem.W.Frag} {mg : Str → Option Value} {base : Heap}
theorem ok_KC {f C : Addr} {fd : FuncData} (F : Fun K "kind_cover" "kind_cover" sKC f fd) (T : Bt mg) (N1 : Cl P w K mg base 1 "pairs_of" sPof ["lives", "kind"] (spPof K C)) (N2 : Cl P w K mg base 3 "cover" sCov ["first", "second", "gaps", "n"] (spCov K)) (N3 : Cl P w K mg base 2 "gap_rows" sGapR ["first", "second"] (spGapR K)) : FnOk P w K mg base CX0 4 f fd ["lives", "other", "n", "kind"] (spKC K C) := by
  refine F.ok scKC (fun vs H Q E h => ?_) (fun cdv A0 outer s0 H vs Q E hr h => ?_)
  · obtain ⟨p, q, A, B, n, kd, rfl, _⟩ := h
    rfl
  · obtain ⟨p, q, A, B, n, kd, rfl, hA, hB, l1, l2, k⟩ := h
    refine ⟨_, pss_cons (ps_set (i := 4) scKC.nd rfl (Or.inl rfl) (calC N1 (hr.mono (by decide)) (pa_cons (pv 0) (pa_cons (pv 3) pa_nil))))
 (pss_cons (ps_set (i := 5) scKC.nd rfl (Or.inl rfl) (calC N1 (hr.mono (by decide)) (pa_cons (pv 1) (pa_cons (pv 3) pa_nil))))
 (pss_one (ps_ret (calC N2 (hr.mono (by decide)) (pa_cons (pv 4) (pa_cons (pv 5) (pa_cons (calC N3 (hr.mono (by decide)) (pa_cons (pv 4) (pa_cons (pv 5) pa_nil))) (pa_cons (pv 2) pa_nil)))))))), ?_⟩
    refine ⟨_, rfl, _, rfl, p, A, kd, rfl, hA, fun a xs ea ra => ?_⟩
    refine ⟨_, rfl, _, rfl, q, B, kd, rfl, hB, fun b ys eb rb => ?_⟩
    refine ⟨_, rfl, _, rfl, _, rfl, _, rfl, a, b, xs, ys, _, _, rfl, SqT.of ea, ra, SqT.of eb, rb, by omega, by omega, fun g H1 s1 rg => ?_⟩
    exact ⟨_, rfl, a, b, g, n, xs, ys, _, _, rfl, SqT.of (s1 _ _ ea), ra.mono s1, SqT.of (s1 _ _ eb), rb.mono s1, rg, l1, l2, fun t H2 s2 c => k t H2 (Same.trans s1 s2) (c.weak s1)⟩
theorem ok_mat {f C : Addr} {fd : FuncData} {c : CA} (F : Fun K "matching" "matching" sMat f fd) (T : Bt mg) (N1 : ClX P w K mg base 4 "check_call" sChC ["lives", "other", "n"] (spChC K c C)) (N2 : Cl P w K mg base 1 "far_bars" sFar ["lives", "other", "n"] (spFar K C)) (N3 : Cl P w K mg base 4 "kind_cover" sKC ["lives", "other", "n", "kind"] (spKC K C)) : FnOk P w K mg base (L2.CX P w) 5 f fd ["lives", "other", "n"] (spMat K c C) := by
  refine F.okX scMat (fun vs H Q E h => ?_) (fun cdv A0 outer s0 H vs Q E hr h => ?_)
  · obtain ⟨p, q, A, B, n, rfl, _⟩ := h
    rfl
  · obtain ⟨p, q, A, B, n, rfl, hA, hB, k1, k2, k3⟩ := h
    refine ⟨_, pss_cons (ps_expr (by exact (calX N1 (hr.mono (by decide)) (fun σ => passAt (takes_of rfl rfl rfl rfl) σ) (by exact (pa_cons (pv 0) (pa_cons (pv 1) (pa_cons (pv 2) pa_nil)))))))
 (pss_cons (ps_if (pt_truth (calC N2 (hr.mono (by decide)) (pa_cons (pv 0) (pa_cons (pv 1) (pa_cons (pv 2) pa_nil)))) (fun _ => rfl))
 (pss_one (ps_ret (pe_non)))
 (pss_nil))
 (pss_cons (ps_asg (calC N3 (hr.mono (by decide)) (pa_cons (pv 0) (pa_cons (pv 1) (pa_cons (pv 2) (pa_cons (pe_str) pa_nil))))) (pg_tup rfl (pgs_cons (pg_name (i := 3) scMat.nd rfl (Or.inl rfl)) (pgs_cons (pg_name (i := 4) scMat.nd rfl (Or.inl rfl)) (pgs_nil)))))
 (pss_cons (ps_if (pt_cmpR op_notN (pv 4) (pe_non) (nomark _))
 (pss_one (ps_ret (pe_non)))
 (pss_nil))
 (pss_cons (ps_asg (calC N3 (hr.mono (by decide)) (pa_cons (pv 0) (pa_cons (pv 1) (pa_cons (pv 2) (pa_cons (pe_str) pa_nil))))) (pg_tup rfl (pgs_cons (pg_name (i := 5) scMat.nd rfl (Or.inl rfl)) (pgs_cons (pg_name (i := 4) scMat.nd rfl (Or.inl rfl)) (pgs_nil)))))
 (pss_cons (ps_if (pt_cmpR op_notN (pv 4) (pe_non) (nomark _))
 (pss_one (ps_ret (pe_non)))
 (pss_nil))
 (pss_one (ps_ret (pe_tup (pa_cons (pv 3) (pa_cons (pv 5) pa_nil)))))))))), ?_⟩
    refine ⟨_, rfl, _, rfl, _, rfl, p, q, A, B, n, rfl, hA, hB, k1, k2, fun el n0 H1 s1 => ?_⟩
    obtain ⟨lle, lk, k⟩ := k3 el n0
    have hA1 := hA.mono s1
    have hB1 := hB.mono s1
    refine ⟨_, rfl, _, rfl, _, rfl, p, q, A, B, n, rfl, hA1, hB1, el, lle, fun l ys H2 s2 nl el2 tz => ⟨!ys.isEmpty, .inl ⟨ys, SqL.of el2, rfl⟩, ite_b (fun cc => ?_) (fun cc => ?_)⟩⟩
    · refine k .non H2 (Same.trans s1 s2) (.inl ⟨rfl, .inl fun z => ?_⟩)
      rw [z] at tz
      have : ys = [] := List.eq_nil_of_length_eq_zero tz.1
      rw [this] at cc
      cases cc
    have fn : farsV A B n = [] := by
      have : ys = [] := by
        cases ys with
        | nil => rfl
        | cons y ys => cases cc
      rw [this] at tz
      exact List.eq_nil_of_length_eq_zero tz.1.symm
    have s12 := Same.trans s1 s2
    refine ⟨_, rfl, _, rfl, _, rfl, p, q, A, B, n, false, rfl, hA1.mono s2, hB1.mono s2, (lk false).1, (lk false).2, fun t H3 s3 cv => ?_⟩
    have s13 := Same.trans s12 s3
    rcases cv with ⟨l1, z1, r1, nl1, et, e1, w1, M1, o1⟩ | ⟨u, ww, wh, ns, et, _, _, sb, _⟩
    · refine ⟨t, _, rfl, SqT.of et, rfl, _, _, rfl, _, _, rfl, rfl, ?_⟩
      refine ⟨_, rfl, rfl, _, rfl, ite_b (fun c4 => absurd c4 (by decide)) (fun _ => ?_)⟩
      refine ⟨_, rfl, _, rfl, _, rfl, p, q, A, B, n, true, rfl, (hA1.mono s2).mono s3, (hB1.mono s2).mono s3, (lk true).1, (lk true).2, fun t2 H4 s4 cv2 => ?_⟩
      have s14 := Same.trans s13 s4
      rcases cv2 with ⟨l2, z2, r2, nl2, et2, e2, w2, M2, o2⟩ | ⟨u, ww, wh, ns, et2, _, _, sb, _⟩
      · refine ⟨t2, _, rfl, SqT.of et2, rfl, _, _, rfl, _, _, rfl, rfl, ?_⟩
        refine ⟨_, rfl, rfl, _, rfl, ite_b (fun c4 => absurd c4 (by decide)) (fun _ => ?_)⟩
        refine ⟨_, rfl, _, rfl, (by show 2 ≤ sizeLine; decide), fun v hv => ?_⟩
        have s5 := same_new (o := .tup [.ref l1, .ref l2]) hv
        have s45 := Same.trans s4 s5
        exact k (.ref v) _ (Same.trans s14 s5) (.inr ⟨v, l1, l2, z1, z2, r1, r2, rfl, ⟨sN s12 nl1, sN s13 nl2⟩, upd_same, ⟨s45 _ _ e1, w1.turn fun t us z => s45 _ _ z, M1, o1⟩, ⟨s5 _ _ e2, w2.turn fun t us z => s5 _ _ z, M2, o2⟩, fn⟩)
      · refine ⟨t2, _, rfl, SqT.of et2, rfl, _, _, rfl, _, _, rfl, rfl, ?_⟩
        refine ⟨_, rfl, rfl, _, rfl, ite_b (fun _ => ?_) (fun c4 => absurd c4 (by simp))⟩
        exact k .non H4 s14 (.inl ⟨rfl, .inr ⟨true, wh, ns, by cases wh <;> exact sb⟩⟩)
    · refine ⟨t, _, rfl, SqT.of et, rfl, _, _, rfl, _, _, rfl, rfl, ?_⟩
      refine ⟨_, rfl, rfl, _, rfl, ite_b (fun _ => ?_) (fun c4 => absurd c4 (by simp))⟩
      exact k .non H3 s13 (.inl ⟨rfl, .inr ⟨false, wh, ns, by cases wh <;> exact sb⟩⟩)
end
end Lw
namespace Lw
open PySem PySem.Spec PyProof.Rows L2 XV TL XM DO
section
variable {P : Program} {w : World} {K : PySem.W.Frag} {mg : Str → Option Value} {base : Heap}
theorem ok_barF {f C : Addr} {fd : FuncData} {c : CA} (F : Fun K "bar" "bar" sBarF f fd) (T : Bt mg) (N1 : ClX P w K mg base 4 "check_call" sChC ["lives", "other", "n"] (spChC K c C)) (N2 : Cl P w K mg base 1 "far_bars" sFar ["lives", "other", "n"] (spFar K C)) (N3 : Cl P w K mg base 4 "kind_cover" sKC ["lives", "other", "n", "kind"] (spKC K C)) : FnOk P w K mg base (L2.CX P w) 5 f fd ["lives", "other", "n"] (spBarF K c C) := by
  refine F.okX scBarF (fun vs H Q E h => ?_) (fun cdv A0 outer s0 H vs Q E hr h => ?_)
  · obtain ⟨p, q, A, B, n, rfl, _⟩ := h
    rfl
  · obtain ⟨p, q, A, B, n, rfl, hA, hB, k1, k2, k3⟩ := h
    refine ⟨_, pss_cons (ps_expr (by exact (calX N1 (hr.mono (by decide)) (fun σ => passAt (takes_of rfl rfl rfl rfl) σ) (by exact (pa_cons (pv 0) (pa_cons (pv 1) (pa_cons (pv 2) pa_nil)))))))
 (pss_cons (ps_for (passes_of rfl) rfl (pi_tup (pe_tup (pa_cons (pe_str) (pa_cons (pe_str) pa_nil)))) (pg_name (i := 3) scBarF.nd rfl (Or.inl rfl))
 (pss_cons (ps_asg (calC N3 (hr.mono (by decide)) (pa_cons (pv 0) (pa_cons (pv 1) (pa_cons (pv 2) (pa_cons (pv 3) pa_nil))))) (pg_tup rfl (pgs_cons (pg_name (i := 4) scBarF.nd rfl (Or.inl rfl)) (pgs_cons (pg_name (i := 5) scBarF.nd rfl (Or.inl rfl)) (pgs_nil)))))
 (pss_one (ps_if (pt_cmpR op_notN (pv 5) (pe_non) (nomark _))
 (pss_one (ps_ret (pe_tup (pa_cons (pv 3) (pa_cons (pe_ix ix_tup (pv 5) (pe_int) (fun _ _ => rfl)) (pa_cons (pe_ix ix_tup (pv 5) (pe_int) (fun _ _ => rfl)) pa_nil))))))
 (pss_nil)))))
 (pss_cons (ps_set (i := 6) scBarF.nd rfl (Or.inl rfl) (calC N2 (hr.mono (by decide)) (pa_cons (pv 0) (pa_cons (pv 1) (pa_cons (pv 2) pa_nil)))))
 (pss_one (ps_ret (pe_ifExp (pt_truth (pv 6) (fun _ => rfl)) (pe_ix ix_list (pv 6) (pe_int) (fun _ _ => rfl)) (pe_non)))))), ?_⟩
    refine ⟨_, rfl, _, rfl, _, rfl, p, q, A, B, n, rfl, hA, hB, k1, k2, fun el n0 H1 s1 => ?_⟩
    obtain ⟨lle, lk, k⟩ := k3 el n0
    refine ⟨(by show 2 ≤ sizeLine; decide), fun tt htt => ?_⟩
    have s2 := Same.trans s1 (same_new (o := .tup [.str "hollows", .str "summits"]) htt)
    have ett := upd_same (H := H1) (a := tt) (o := .tup [.str "hollows", .str "summits"])
    generalize upd H1 tt (.tup [.str "hollows", .str "summits"]) = H2 at s2 ett ⊢
    refine ⟨tt, rfl, ⟨_, SqT.of ett⟩, for_tup (K := K) (xs := [.str "hollows", .str "summits"]) (fun i σ M => ∃ (x3 x4 x5 : Option V), σ = [some (.ref p), some (.ref q), some (.int n), x3, x4, x5, none] ∧ Same H2 M ∧ ∀ kd : Bool, (if kd = true then 1 else 0) < i → ∃ rs, Mtch (A.kind kd) (B.kind kd) n rs)
      ⟨none, none, none, rfl, Same.refl _, fun kd h => absurd h (Nat.not_lt_zero _)⟩ (fun i σ M _ h => ?_) ?_ ?_⟩
    · obtain ⟨_, _, _, _, sM, _⟩ := h
      exact SqT.of (sM _ _ ett)
    · rintro i x σ M hx ⟨x3, x4, x5, rfl, sM, hm⟩
      obtain ⟨kd, rfl, rfl⟩ : ∃ kd : Bool, i = (if kd = true then 1 else 0) ∧ x = .str (kindW kd) := by
        match i, hx with
        | 0, hx => cases hx; exact ⟨false, rfl, rfl⟩
        | 1, hx => cases hx; exact ⟨true, rfl, rfl⟩
      have sHM := Same.trans s2 sM
      refine ⟨_, rfl, _, rfl, _, rfl, _, rfl, p, q, A, B, n, kd, rfl, hA.mono sHM, hB.mono sHM, (lk kd).1, (lk kd).2, fun t H3 s3 cv => ?_⟩
      rcases cv with ⟨l1, z1, r1, _, et, e1, w1, M1, o1⟩ | ⟨u, ww, wh, ns, et, eu, ew, sb, ln⟩
      · refine ⟨t, _, rfl, SqT.of et, rfl, _, _, rfl, _, _, rfl, rfl, ?_⟩
        refine ⟨_, rfl, rfl, _, rfl, ite_b (fun c4 => absurd c4 (by decide)) (fun _ => ?_)⟩
        refine ⟨_, _, _, rfl, Same.trans sM s3, fun kd' hk => ?_⟩
        by_cases e : kd' = kd
        · subst e
          exact ⟨r1, M1⟩
        · refine hm kd' ?_
          cases kd <;> cases kd'
          · exact absurd rfl e
          · exact absurd hk (by decide)
          · decide
          · exact absurd rfl e
      · refine ⟨t, _, rfl, SqT.of et, rfl, _, _, rfl, _, _, rfl, rfl, ?_⟩
        refine ⟨_, rfl, rfl, _, rfl, ite_b (fun _ => ?_) (fun c4 => absurd c4 (by simp))⟩
        refine ⟨_, rfl, _, rfl, u, _, 0, _, rfl, rfl, SqT.of eu, rfl, _, rfl, u, _, 1, _, rfl, rfl, SqT.of eu, rfl, (by show 3 ≤ sizeLine; decide), fun v hv => ?_⟩
        have s5 := same_new (o := .tup [.str (kindW kd), .int ((if wh = true then 1 else 0 : Nat) : Int), .ref ww]) hv
        have sb2 : SetBar ((if wh = true then B else A).kind kd) ((if wh = true then A else B).kind kd) n ns := by cases wh <;> exact sb
        exact k (.ref v) _ (Same.trans (Same.trans sHM s3) s5) (.inl ⟨v, .set kd _ ns, rfl, ⟨by omega, ww, upd_same, s5 _ _ ew⟩, setbar_barB sb2⟩)
    · rintro σ M ⟨x3, x4, x5, rfl, sM, hm⟩
      have sHM := Same.trans s2 sM
      have hm' : ∀ kd : Bool, ∃ rs, Mtch (A.kind kd) (B.kind kd) n rs := fun kd => hm kd (by cases kd <;> decide)
      refine ⟨_, rfl, _, rfl, _, rfl, p, q, A, B, n, rfl, hA.mono sHM, hB.mono sHM, el, lle, fun l ys H3 s3 nl el2 tz => ⟨_, rfl, !ys.isEmpty, .inl ⟨ys, SqL.of el2, rfl⟩, ite_b (fun cc => ?_) (fun cc => ?_)⟩⟩
      · cases ys with
        | nil => cases cc
        | cons y ys =>
          obtain ⟨t, c', rfl, hc, et⟩ := tz.2 0 y rfl
          obtain ⟨br, b1, b2⟩ := far_bar el (List.mem_of_getElem? hc) et
          exact ⟨_, rfl, l, _, 0, _, rfl, rfl, SqL.of el2, at0 _ _, k (.ref t) H3 (Same.trans sHM s3) (.inl ⟨t, br, rfl, b1, b2⟩)⟩
      · have fn : farsV A B n = [] := by
          have : ys = [] := by
            cases ys with
            | nil => rfl
            | cons y ys => cases cc
          rw [this] at tz
          exact List.eq_nil_of_length_eq_zero tz.1.symm
        exact k .non H3 (Same.trans sHM s3) (.inr ⟨rfl, fn, hm'⟩)
end
end Lw
namespace Lw
open PySem PySem.Spec PyProof.Rows L2 XV TL XM DO
/-! ranges as values: of one number, not in -/
theorem cr_range1 {X : Cx} : CallR X (.type "range") (fun vs H Q => ∃ j, vs = [V.int j] ∧ ∀ p, H p = none → Q (.ref p) (upd H p (.rng 0 j))) := by
  intro pins s σ H vs us Q I r h
  obtain ⟨j, rfl, q⟩ := h
  obtain ⟨u1, rfl, rj⟩ := vals1 r
  obtain ⟨u, rfl⟩ := rj
  exact call_range_1 ⟨.ref s.heap.objs.size, upd H s.heap.objs.size (.rng 0 j), I.laid (t' := s.toks + 1 + 1) (fun b o e => Heap.get?_push_of_some _ e) (Nat.le_refl _) ⟨_, u, _, Heap.get?_push_size _ rfl⟩, rfl, q _ (I.hok.fresh (Nat.le_refl _))⟩
def rNotRng : R2 := fun x y H Q => ∃ i a lo hi, x = V.int i ∧ y = V.ref a ∧ H a = some (.rng lo hi) ∧ Q (.bl (!decide (lo ≤ i ∧ i < hi))) H
theorem op_notIn_rng {X : Cx} : OpR X (compareOp .NotIn) rNotRng := by
  intro pins s σ H x y v u Q I rx ry h
  obtain ⟨i, a, lo, hi, rfl, rfl, ha, q⟩ := h
  obtain ⟨k, rfl⟩ := rx
  obtain rfl : u = Value.ref a := ry
  obtain ⟨t1, t2, t3, ho⟩ := I.hok a _ ha
  show wpAny _ _ (do return Value.bool (!(← contains (Value.ref a) (Value.int i k)))) _ _ s
  refine wpAny_bind (wpAny_contains_slot (T := "range") ⟨_, ho, rfl⟩ F.slot_range_contains (call_meets F.slot_range_contains ⟨_, ho, rfl⟩ F.entry_range_contains (F.args_range_contains_2 _ _) (q_contains a lo hi i t1 t2 t3 k)
    ⟨ho, wpAny_truthy_bool (wpAny_pure ⟨.bl _, H, I, rfl, ?_⟩)⟩))
  rw [place1]
  exact q
abbrev sIsM : Stmt := topOf "_law_is_matching"
abbrev NIsM : List Str := ["a", "b", "halves", "told", "kind", "x"]
theorem scIsM : FnScope NIsM ["a", "b", "halves", "told"] (defScope sIsM) := ⟨rfl, rfl, rfl, by decide +kernel, rfl, by decide +kernel, by decide +kernel⟩
def spIsM : Sp := fun vs H Q _ => ∃ (p q t l1 l2 : Addr) (z1 z2 : List V) (A B : Fv) (n : Int) (r1 r2 : List Pr), vs = [.ref p, .ref q, .int n, .ref t] ∧ FiveAt H p A ∧ FiveAt H q B ∧ A.li.length = B.li.length ∧ H t = some (.tup [.ref l1, .ref l2]) ∧ (H l1 = some (.lst z1) ∧ RawVs H z1 r1 ∧ Mtch A.hs B.hs n r1 ∧ r1.Pairwise leP) ∧ (H l2 = some (.lst z2) ∧ RawVs H z2 r2 ∧ Mtch A.ss B.ss n r2 ∧ r2.Pairwise leP) ∧ endsB A B n = true ∧
  ∀ H', Same H H' → Q (.bl true) H'
section
variable {P : Program} {w : World} {K : PySem.W.Frag} {mg : Str → Option Value} {base : Heap}
theorem ok_isM {f : Addr} {fd : FuncData} (F : Fun K "_law_is_matching" "_law_is_matching" sIsM f fd) (T : Bt mg) (N1 : Cl P w K mg base 1 "_law_plain" sPlain ["x"] spPlain) (N2 : Cl P w K mg base 3 "_law_first_fault" sFirst ["a", "b", "halves", "one", "two"] (spFirst K)) : FnOk P w K mg base CX0 4 f fd ["a", "b", "halves", "told"] spIsM := by
  refine F.ok scIsM (fun vs H Q E h => ?_) (fun cdv A0 outer s0 H vs Q E hr h => ?_)
  · obtain ⟨p, q, t, l1, l2, z1, z2, A, B, n, r1, r2, rfl, _⟩ := h
    rfl
  · obtain ⟨p, q, t, l1, l2, z1, z2, A, B, n, r1, r2, rfl, hA, hB, el, et, h1, h2, he, k⟩ := h
    refine ⟨_, pss_cons (ps_if (PW.pt (pw_or (pt_not (pt_val (pe_callB call_isi (by rfl) T.isinstance (by decide +kernel) (pa_cons (pv 3) (pa_cons (pe_bltn (v := .ty "tuple") (by rfl) T.tuple (by decide +kernel) rfl) pa_nil))))) (pw_or (pt_cmpR op_ne (pe_callB call_len (by rfl) T.len (by decide +kernel) (pa_cons (pv 3) pa_nil)) (pe_int) (nomark _)) (pw_or (pt_not (pt_val (pe_callB call_isi (by rfl) T.isinstance (by decide +kernel) (pa_cons (pe_ix ix_tup (pv 3) (pe_int) (fun _ _ => rfl)) (pa_cons (pe_bltn (v := .ty "list") (by rfl) T.list (by decide +kernel) rfl) pa_nil))))) (pw_or1 (pt_not (pt_val (pe_callB call_isi (by rfl) T.isinstance (by decide +kernel) (pa_cons (pe_ix ix_tup (pv 3) (pe_int) (fun _ _ => rfl)) (pa_cons (pe_bltn (v := .ty "list") (by rfl) T.list (by decide +kernel) rfl) pa_nil))))))))))
 (pss_one (ps_ret (pe_bl)))
 (pss_nil))
 (pss_cons (ps_for PassesOwn.never rfl (pi_range1 rfl T.range (pa_cons (pe_int) pa_nil)) (pg_name (i := 4) scIsM.nd rfl (Or.inl rfl))
 (pss_cons (ps_for PassesOwn.never rfl (pi_list (pe_ix ix_tup (pv 3) (pv 4) (fun _ _ => rfl))) (pg_name (i := 5) scIsM.nd rfl (Or.inl rfl))
 (pss_cons (ps_if (PW.pt (pw_or (pt_not (pt_val (pe_callB call_isi (by rfl) T.isinstance (by decide +kernel) (pa_cons (pv 5) (pa_cons (pe_bltn (v := .ty "tuple") (by rfl) T.tuple (by decide +kernel) rfl) pa_nil))))) (pw_or (pt_cmpR op_ne (pe_callB call_len (by rfl) T.len (by decide +kernel) (pa_cons (pv 5) pa_nil)) (pe_int) (nomark _)) (pw_or (pt_not (pt_val (calC N1 (hr.mono (by decide)) (pa_cons (pe_ix ix_tup (pv 5) (pe_int) (fun _ _ => rfl)) pa_nil)))) (pw_or1 (pt_not (pt_val (calC N1 (hr.mono (by decide)) (pa_cons (pe_ix ix_tup (pv 5) (pe_int) (fun _ _ => rfl)) pa_nil)))))))))
 (pss_one (ps_ret (pe_bl)))
 (pss_nil))
 (pss_one (ps_if (PW.pt (pw_or (pt_cmpR op_notIn_rng (pe_ix ix_tup (pv 5) (pe_int) (fun _ _ => rfl)) (pe_callTy cr_range1 (by rfl) T.range (by decide +kernel) (pa_cons (pe_callB call_lenL (by rfl) T.len (by decide +kernel) (pa_cons (pe_ix ix_list (pv 0) (pv 4) (fun _ _ => rfl)) pa_nil)) pa_nil)) (by rfl)) (pw_or1 (pt_cmpR op_notIn_rng (pe_ix ix_tup (pv 5) (pe_int) (fun _ _ => rfl)) (pe_callTy cr_range1 (by rfl) T.range (by decide +kernel) (pa_cons (pe_callB call_lenL (by rfl) T.len (by decide +kernel) (pa_cons (pe_ix ix_list (pv 1) (pv 4) (fun _ _ => rfl)) pa_nil)) pa_nil)) (by rfl)))))
 (pss_one (ps_ret (pe_bl)))
 (pss_nil)))))
 (pss_one (ps_if (pt_cmpR (op_neD (by exact un64 hr)) (pe_ix ix_tup (pv 3) (pv 4) (fun _ _ => rfl)) (pe_callB cr_sortedPO (by rfl) T.sorted (by decide +kernel) (pa_cons (pe_ix ix_tup (pv 3) (pv 4) (fun _ _ => rfl)) pa_nil)) (nomark _))
 (pss_one (ps_ret (pe_bl)))
 (pss_nil)))))
 (pss_one (ps_ret (pe_cmpR op_isN (calC N2 (hr.mono (by decide)) (pa_cons (pv 0) (pa_cons (pv 1) (pa_cons (pv 2) (pa_cons (pe_ix ix_tup (pv 3) (pe_int) (fun _ _ => rfl)) (pa_cons (pe_ix ix_tup (pv 3) (pe_int) (fun _ _ => rfl)) pa_nil)))))) (pe_non) (nomark _))))), ?_⟩
    obtain ⟨e1, w1, M1, o1⟩ := h1
    obtain ⟨e2, w2, M2, o2⟩ := h2
    refine ⟨_, rfl, _, _, _, _, _, rfl, .ty _, .base (.tup et), kit_ty (by decide +kernel : kitB "tuple" "tuple" = some true), _, rfl, iteF ?_⟩
    refine ⟨_, rfl, _, 2, rfl, .inr ⟨_, SqT.of et, rfl⟩, rfl, _, rfl, ite_b (fun c => absurd c (by decide +kernel)) (fun _ => ?_)⟩
    refine ⟨_, rfl, t, _, 0, _, rfl, rfl, SqT.of et, rfl, _, _, _, _, _, rfl, .ty _, .base (.lst e1), kit_ty (by decide +kernel : kitB "list" "list" = some true), _, rfl, iteF ?_⟩
    refine ⟨_, rfl, t, _, 1, _, rfl, rfl, SqT.of et, rfl, _, _, _, _, _, rfl, .ty _, .base (.lst e2), kit_ty (by decide +kernel : kitB "list" "list" = some true), _, rfl, iteF ?_⟩
    refine ⟨2, rfl, by decide, by decide, for_range (lo := 0) (n := 2) (fun i σ M => ∃ (x4 x5 : Option V), σ = [some (.ref p), some (.ref q), some (.int n), some (.ref t), x4, x5] ∧ Same H M) ⟨none, none, rfl, Same.refl H⟩ ?_ ?_⟩
    · rintro i σ M hi ⟨x4, x5, rfl, sM⟩
      obtain ⟨kd, rfl⟩ : ∃ kd : Bool, i = if kd = true then 1 else 0 := by
        match i, hi with
        | 0, _ => exact ⟨false, rfl⟩
        | 1, _ => exact ⟨true, rfl⟩
      obtain ⟨l, zs, rs, al, el', wl, Ml, ol⟩ : ∃ l zs rs, atI ([.ref l1, .ref l2] : List V) (0 + ((if kd = true then 1 else 0 : Nat) : Int)) = some (.ref l) ∧ H l = some (.lst zs) ∧ RawVs H zs rs ∧ Mtch (A.kind kd) (B.kind kd) n rs ∧ rs.Pairwise leP := by
        cases kd
        · exact ⟨l1, z1, r1, rfl, e1, w1, M1, o1⟩
        · exact ⟨l2, z2, r2, rfl, e2, w2, M2, o2⟩
      have z0 := row_at hA kd
      refine ⟨_, rfl, _, rfl, t, _, _, _, rfl, rfl, SqT.of (sM _ _ et), al, l, rfl, ⟨_, SqL.of (sM _ _ el')⟩, for_list (K := K) (a := l) (xs := zs) (fun j σ N => ∃ (x5 : Option V), σ = [some (.ref p), some (.ref q), some (.int n), some (.ref t), some (.int (0 + ((if kd = true then 1 else 0 : Nat) : Int))), x5] ∧ Same H N) ⟨x5, rfl, sM⟩ (fun j σ N _ h => ?_) ?_ ?_⟩
      · obtain ⟨_, _, sN'⟩ := h
        exact SqL.of (sN' _ _ el')
      · rintro j x σ N hx ⟨x5, rfl, sN'⟩
        obtain ⟨tx, pr, hp, rfl, htx⟩ := wl.2 j x hx
        have htx := sN' _ _ htx
        obtain ⟨b1, b2, _⟩ := Ml.row pr (List.mem_of_getElem? hp)
        obtain ⟨xa0, ta, xa, ea0, ea1, ea2, ea3, _, _⟩ := row_at (hA.mono sN') kd
        have la : xa.length = (A.kind kd).length := ea3.1
        refine ⟨_, rfl, _, _, _, _, _, rfl, .ty _, .base (.tup htx), kit_ty (by decide +kernel : kitB "tuple" "tuple" = some true), _, rfl, iteF ?_⟩
        refine ⟨_, rfl, _, 2, rfl, .inr ⟨_, SqT.of htx, rfl⟩, rfl, _, rfl, ite_b (fun c => absurd c (by decide +kernel)) (fun _ => ?_)⟩
        refine ⟨_, rfl, tx, _, 0, _, rfl, rfl, SqT.of htx, rfl, pr.1, rfl, _, rfl, iteF ?_⟩
        refine ⟨_, rfl, tx, _, 1, _, rfl, rfl, SqT.of htx, rfl, pr.2, rfl, _, rfl, iteF ?_⟩
        refine ⟨_, rfl, tx, _, 0, _, rfl, rfl, SqT.of htx, rfl, _, rfl, _, rfl, p, xa0, _, _, rfl, rfl, SqL.of ea0, ea1, ta, _, rfl, SqL.of ea2, _, rfl, fun rp hrp => ⟨_, rp, _, _, rfl, rfl, upd_same, _, rfl, ite_b (fun c => ?_) (fun _ => ?_)⟩⟩
        · have c : (!decide (0 ≤ pr.1 ∧ pr.1 < (xa.length : Int))) = true := c
          rw [decide_eq_true ⟨b1.1, by rw [la]; exact b1.2⟩] at c
          cases c
        have s6 := same_new (o := .rng 0 (xa.length : Nat)) hrp
        have sN6 := Same.trans sN' s6
        have htx6 := s6 _ _ htx
        generalize upd N rp (.rng 0 (xa.length : Nat)) = N6 at s6 sN6 htx6 ⊢
        obtain ⟨xb0, tb, xb, eb0, eb1, eb2, eb3, _, _⟩ := row_at (hB.mono sN6) kd
        have lb : xb.length = (B.kind kd).length := eb3.1
        refine ⟨_, rfl, tx, _, 1, _, rfl, rfl, SqT.of htx6, rfl, _, rfl, _, rfl, q, xb0, _, _, rfl, rfl, SqL.of eb0, eb1, tb, _, rfl, SqL.of eb2, _, rfl, fun rq hrq => ⟨_, rq, _, _, rfl, rfl, upd_same, _, rfl, ite_b (fun c => ?_) (fun _ => ?_)⟩⟩
        · have c : (!decide (0 ≤ pr.2 ∧ pr.2 < (xb.length : Int))) = true := c
          rw [decide_eq_true ⟨b2.1, by rw [lb]; exact b2.2⟩] at c
          cases c
        exact ⟨_, rfl, Same.trans sN6 (same_new hrq)⟩
      · rintro σ N ⟨x5, rfl, sN'⟩
        have wN := wl.turn fun t us z => sN' _ _ z
        refine ⟨_, rfl, _, rfl, t, _, _, _, rfl, rfl, SqT.of (sN' _ _ et), al, _, rfl, _, rfl, t, _, _, _, rfl, rfl, SqT.of (sN' _ _ et), al, l, zs, keyIn N, rfl, SqL.of (sN' _ _ el'), fun x hx => wN.mem hx, fun ys pp srt stb hpp => ?_⟩
        have s6 := same_new (o := .lst ys) hpp
        have e6 := upd_same (H := N) (a := pp) (o := .lst ys)
        have so := sort_keys wN.keys srt stb
        have ey : ys.map (keyIn N) = rs := SortP.one so ⟨List.Perm.refl _, ol⟩ (List.Perm.refl _)
        have wy := RawVs.perm wN stb.perm
        rw [ey] at wy
        have sN6 := Same.trans sN' s6
        have wy6 := wy.turn fun t us z => s6 _ _ z
        have wN6 := wN.turn fun t us z => s6 _ _ z
        have el6 := sN6 _ _ el'
        generalize upd N pp (.lst ys) = N6 at s6 e6 sN6 wy6 wN6 el6 ⊢
        refine ⟨.list (rs.map pD), .list (rs.map pD), .lst (SqL.of el6) (dp_pairs wN6.pairs), .lst (SqL.of e6) (dp_pairs wy6.pairs), shaped_pairs rs, shaped_pairs rs, _, rfl, ite_b (fun c => ?_) (fun _ => ?_)⟩
        · have c : (!PyData.eqvAll (rs.map pD) (rs.map pD)) = true := c
          rw [eqv_pairs, decide_eq_true rfl] at c
          cases c
        · exact ⟨_, _, rfl, sN6⟩
    · rintro σ M ⟨x4, x5, rfl, sM⟩
      have fn := fault_none el he M1 M2
      have w1' := w1.turn fun t us z => sM _ _ z
      have w2' := w2.turn fun t us z => sM _ _ z
      have k5 : ∀ kd, (A.kind kd).length ≤ 5 := fun kd => by obtain ⟨_, _, _, _, _, _, _, h, _⟩ := row_at hA kd; exact h
      have kin : ∀ k, (rowK r1 r2 k).length ≤ 100 ∧ ∀ z ∈ rowK r1 r2 k, InR (A.kind k) (B.kind k) z := fun k => by
        cases k
        · have := M1.len
          have : A.hs.length ≤ 5 := k5 false
          exact ⟨by show r1.length ≤ 100; omega, fun z hz => ⟨(M1.row z hz).1, (M1.row z hz).2.1⟩⟩
        · have := M2.len
          have : A.ss.length ≤ 5 := k5 true
          exact ⟨by show r2.length ≤ 100; omega, fun z hz => ⟨(M2.row z hz).1, (M2.row z hz).2.1⟩⟩
      refine ⟨_, rfl, _, rfl, _, rfl, _, rfl, t, _, 0, _, rfl, rfl, SqT.of (sM _ _ et), rfl, _, rfl, t, _, 1, _, rfl, rfl, SqT.of (sM _ _ et), rfl, p, q, l1, l2, A, B, n, r1, r2, rfl, hA.mono sM, hB.mono sM, ⟨⟨z1, SqL.of (sM _ _ e1), w1'.pairs⟩⟩, ⟨⟨z2, SqL.of (sM _ _ e2), w2'.pairs⟩⟩, el, kin, fun v H' s' ft => ?_⟩
      rw [fn] at ft
      cases (show v = .non from ft)
      exact ⟨rfl, k H' (Same.trans sM s')⟩
end
end Lw
namespace XM
open PySem PySem.Spec PyProof.Rows L2 XV
/-- e.f in the suite that holds e -/
def tXs (K : PySem.W.Frag) (a : Addr) (oe : Obj) (f : Str) (te : TE) : TE := fun σ H Q => te σ H fun x H1 => ∃ (C d : Addr) (fs : List (Str × V)) (newId : String) (tl : List Value) (v : V), x = .ref a ∧ oe.cls = .ref C ∧ oe.dict = some d ∧ (∃ vs, oe.data = .fields vs) ∧ ExCls K C newId tl ∧ PySem.W.findIn K (.ref C) f = some none ∧
  H1 d = some (.xd fs) ∧ fs.lookup f = some v ∧ Q v H1
theorem pe_xs {X : Cx} {a : Addr} {oe : Obj} {pn : List (Addr × Obj)} {e : Expr} {te : TE} {f : Str} {pos : Pos} (he : PE (X.suite a ((a, oe) :: pn)) e te) (hb : attributeBase e f X.env (eval e X.env) = eval e X.env := by rfl) : PE (X.suite a ((a, oe) :: pn)) (.Attribute e f pos) (tXs X.K a oe f te) := by
  refine ⟨fun pins s σ H Q I h => attr_of hb (thn (he.run pins s σ H _ I h) fun u s1 hh => ?_)⟩
  obtain ⟨x, H1, I1, rx, C, d, fs, newId, tl, v, rfl, h2, h3, ⟨vs, h4⟩, T, hno, h5, l, q⟩ := hh
  cases rx
  obtain ⟨pa, na, nL, nF, nc⟩ := I1.pin (a, oe) (List.mem_append_left _ List.mem_cons_self)
  obtain ⟨mA, hn, hr⟩ : ∃ mA, s1.heap.Ns1 d mA ∧ ∀ f, RelO (fs.lookup f) (mA f) := I1.hok d _ h5
  obtain ⟨od, ho, hl⟩ := lookIn_ns hn
  have J : PySem.W.InstAt s1.heap a oe C (some od) := by
    refine ⟨pa, h2, ?_, ?_⟩
    · unfold PySem.W.notCls
      rw [h4]
    · rw [h3]
      exact ho
  obtain ⟨u, hu, ru⟩ := RelO.some_of (v := v) (o := mA f) (by rw [← l]; exact hr f)
  exact HandSPX.exc_get I1.kIn J T.ga T.gg T.exC (PySem.W.findObj_own T.dic hno rfl (by rw [hl, hu])) (handed_of ru) ⟨v, H1, I1.tok _, ru, q⟩
end XM
namespace Lw
open PySem PySem.Spec PyProof.Rows L2 XV TL XM DO
abbrev sAsk : Stmt := topOf "_law_asked"
abbrev NAsk : List Str := ["first", "second", "halves", "way", "e"]
theorem scAsk : FnScope NAsk ["first", "second", "halves", "way"] (defScope sAsk) := ⟨rfl, rfl, rfl, by decide +kernel, rfl, by decide +kernel, by decide +kernel⟩
/-- the clauses take what they name -/
structure Es2 (K : PySem.W.Frag) (c : CA) : Prop where
  v : PySem.W.exmOne K (.ref c.V) (.ref c.V) = some true
  uv : PySem.W.exmOne K (.ref c.U) (.ref c.V) = some false
  u : PySem.W.exmOne K (.ref c.U) (.ref c.U) = some true
def Told (H : Hp) (Q : VK) (w x y : Str) : Prop := ∀ (t : Addr) (H' : Hp), Same H H' → H t = none → H' t = some (.tup [.str w, .str x, .str y]) → Q (.ref t) H'
def spAsk (K : PySem.W.Frag) (C : Addr) : Sp := fun vs H Q _ => ∃ (p q : Addr) (A B : Fv) (n way : Int), vs = [.ref p, .ref q, .int n, .int way] ∧ LvAt K C H p A ∧ LvAt K C H q B ∧ (0 ≤ way ∧ way < 5) ∧
  (A.li.length ≠ B.li.length → Told H Q "Unlike" "Unlike" "handles") ∧ (A.li.length = B.li.length → way < 4 ∧ (n < 0 → Told H Q "BadValue" "BadValue" "n") ∧
  (0 ≤ n → A.li.length ≤ 1000 ∧ (∀ kd, (A.kind kd).length ≤ 90 ∧ (B.kind kd).length ≤ 90) ∧ ((way = 0 ∨ way = 2) → ∀ v H', Same H H' → MatAt A B n H H' v → Q v H') ∧ ((way = 1 ∨ way = 3) → ∀ v H', Same H H' → BarRt A B n H' v → Q v H')))
def tSu (K : PySem.W.Frag) (x : Str) : Sui := fun a oe _ _ => tRet (tTup (tCons (tC (.str x)) (tCons (tXs K a oe "code" (tVar 4)) (tCons (tXs K a oe "what" (tVar 4)) tNil))))
theorem fl1 {x y : Str} : (flds ["what"] x [.str y]).lookup ("code" : Str) = some (.str x) ∧ (flds ["what"] x [.str y]).lookup ("what" : Str) = some (.str y) := by
  have e : flds ["what"] x [.str y] = ([("code", .str x), ("what", .str y)] : List (Str × V)) := rfl
  rw [e]
  refine ⟨lk_hit, ?_⟩
  rw [lk_miss (f := "what") (g := "code") (by decide +kernel), lk_hit]
def rot3 {α : Type} : List α → List α → List α
  | [], [a, b, c] => [c, a, b]
  | _, _ => []
def rev3 {α : Type} : List α → List α → List α
  | [], [a, b, c] => [c, b, a]
  | _, _ => []
theorem rot3_rel {us vs : List V} {as bs : List Value} (h : Vals us as) (k : Vals vs bs) : Vals (rot3 us vs) (rot3 as bs) := by
  match us, as, h with
  | [], _, .nil =>
    match vs, bs, k with
    | [], _, .nil => exact .nil
    | [_], _, .cons _ .nil => exact .nil
    | [_, _], _, .cons _ (.cons _ .nil) => exact .nil
    | [_, _, _], _, .cons a (.cons b (.cons c .nil)) => exact .cons c (.cons a (.cons b .nil))
    | _ :: _ :: _ :: _ :: _, _, .cons _ (.cons _ (.cons _ (.cons _ _))) => exact .nil
  | _ :: _, _, .cons _ _ => exact .nil
theorem rev3_rel {us vs : List V} {as bs : List Value} (h : Vals us as) (k : Vals vs bs) : Vals (rev3 us vs) (rev3 as bs) := by
  match us, as, h with
  | [], _, .nil =>
    match vs, bs, k with
    | [], _, .nil => exact .nil
    | [_], _, .cons _ .nil => exact .nil
    | [_, _], _, .cons _ (.cons _ .nil) => exact .nil
    | [_, _, _], _, .cons a (.cons b (.cons c .nil)) => exact .cons c (.cons b (.cons a .nil))
    | _ :: _ :: _ :: _ :: _, _, .cons _ (.cons _ (.cons _ (.cons _ _))) => exact .nil
  | _ :: _, _, .cons _ _ => exact .nil
section
variable {P : Program} {w : World} {K : PySem.W.Frag} {mg : Str → Option Value} {base : Heap}
theorem kb_mat {f : Addr} {fd : FuncData} (F : Fun K "matching" "matching" sMat f fd) : KBinds K fd ["lives", "other", "n"] ["other", "n", "lives"] rot3 rot3 := by
  obtain ⟨oc, od, kV, doc, pm, an, cdv, ct, osl, rfl, lk, hcd⟩ := F.ex
  refine ⟨fun s us ws _ hl => ?_, rot3_rel⟩
  match us, ws, hl with
  | [], [_, _, _], _ => exact .of_eq rfl
theorem kb_barF {f : Addr} {fd : FuncData} (F : Fun K "bar" "bar" sBarF f fd) : KBinds K fd ["lives", "other", "n"] ["n", "other", "lives"] rev3 rev3 := by
  obtain ⟨oc, od, kV, doc, pm, an, cdv, ct, osl, rfl, lk, hcd⟩ := F.ex
  refine ⟨fun s us ws _ hl => ?_, rev3_rel⟩
  match us, ws, hl with
  | [], [_, _, _], _ => exact .of_eq rfl
end
end Lw
namespace Lw
open PySem PySem.Spec PyProof.Rows L2 XV TL XM DO
section
variable {P : Program} {w : World} {K : PySem.W.Frag} {mg : Str → Option Value} {base : Heap}
theorem su_do {x : Str} {C : Addr} {newId : String} {tl : List Value} (T : ExCls K C newId tl) (no : PySem.W.findIn K (.ref C) "code" = some none ∧ PySem.W.findIn K (.ref C) "what" = some none) {Dn : Ends} {H : Hp} {u0 u1 u2 u3 : Option V} {y : Str} {a d : Addr} {oe : Obj} {cls : Value} (zc : Zc (.ref C) (some d) oe) (hf : ∃ vs, oe.data = .fields vs) (hd : H d = some (.xd (flds ["what"] x [.str y])))
    (k : ∀ t, H t = none → Dn.rt (.ref t) (upd H t (.tup [.str x, .str x, .str y]))) : tSu K x a oe cls (some d) Dn [u0, u1, u2, u3, some (.ref a)] H := by
  have l := fl1 (x := x) (y := y)
  exact ⟨_, rfl, C, d, _, _, _, _, rfl, zc.1, zc.2, hf, T, no.1, hd, l.1, _, rfl, C, d, _, _, _, _, rfl, zc.1, zc.2, hf, T, no.2, hd, l.2, (by show 3 ≤ sizeLine; decide), k⟩
abbrev rMax2' : List V → Hp → VK → Prop := fun xs H Q => ∃ i j, xs = [.int i, .int j] ∧ Q (.int (if j > i then j else i)) H
abbrev tAsk (K : PySem.W.Frag) (c : CA) (C : Addr) (W : WX) : TS := tSeq (tIfS (tTest (tOp rEq (tVar 3) (tC (.int 0)))) (tRet (tCallS (spMat K c C) (fun σ => WE W σ) (tCons (tVar 0) (tCons (tVar 1) (tCons (tVar 2) tNil))))) tNext)
  (tSeq (tIfS (tTest (tOp rEq (tVar 3) (tC (.int 1)))) (tRet (tCallS (spBarF K c C) (fun σ => WE W σ) (tCons (tVar 0) (tCons (tVar 1) (tCons (tVar 2) tNil))))) tNext)
  (tSeq (tIfS (tTest (tOp rEq (tVar 3) (tC (.int 2)))) (tRet (tCallKO (spMat K c C) rot3 (fun σ => WE W σ) (tCons (tVar 1) (tCons (tVar 2) (tCons (tVar 0) tNil))))) tNext)
  (tSeq (tIfS (tTest (tOp rEq (tVar 3) (tC (.int 3)))) (tRet (tCallKO (spBarF K c C) rev3 (fun σ => WE W σ) (tCons (tVar 2) (tCons (tVar 1) (tCons (tVar 0) tNil))))) tNext)
  (tRet (tCallS (spBarH K c C) (fun σ => WE W σ) (tCons (tVar 0) (tCons (tVar 1) (tCons (tCB rMax2' (tCons (tC (.int 0)) (tCons (tVar 2) tNil))) (tCons (tTup (tCons (tC (.str "lowest")) tNil)) tNil)))))))))
theorem ok_ask {f C : Addr} {fd : FuncData} {c : CA} (F : Fun K "_law_asked" "_law_asked" sAsk f fd) (T : Bt mg) (D : Xs K mg c) (S : Es2 K c) (N1 : ClX P w K mg base 5 "matching" sMat ["lives", "other", "n"] (spMat K c C)) (N2 : ClX P w K mg base 5 "bar" sBarF ["lives", "other", "n"] (spBarF K c C)) (N3 : ClX P w K mg base 4 "bar_holds" sBarH ["lives", "other", "n", "value"] (spBarH K c C)) : FnOk P w K mg base CX0 6 f fd ["first", "second", "halves", "way"] (spAsk K C) := by
  obtain ⟨fm, fdm, dm, gm⟩ := N1.ex
  obtain ⟨fb, fdb, db, gb⟩ := N2.ex
  obtain ⟨fh, fdh, dh, gh⟩ := N3.ex
  refine F.ok scAsk (fun vs H Q E h => ?_) (fun cdv A0 outer s0 H vs Q E hr h => ?_)
  · obtain ⟨p, q, A, B, n, way, rfl, _⟩ := h
    rfl
  · obtain ⟨p, q, A, B, n, way, rfl, hA, hB, hw, kU, kE⟩ := h
    apply Exists.intro
    apply And.intro
    · apply pss_one
      apply ps_try_all (l := [(.ref c.V, 4, tSu K "BadValue"), (.ref c.U, 4, tSu K "Unlike")]) (Wo := fun _ _ _ _ => False) (tb := fun W => tAsk K c C W)
      case hb =>
        intro W pn xe tk _
        exact pss_cons (ps_if (pt_cmpR op_eq (pv 3) (pe_int) (nomark _)) (pss_one (ps_ret (by exact (calS dm gm (hr.mono (by decide)) (fun σ => passAt tk σ) (pa_cons (pv 0) (pa_cons (pv 1) (pa_cons (pv 2) pa_nil))))))) pss_nil)
          (pss_cons (ps_if (pt_cmpR op_eq (pv 3) (pe_int) (nomark _)) (pss_one (ps_ret (by exact (calS db gb (hr.mono (by decide)) (fun σ => passAt tk σ) (pa_cons (pv 0) (pa_cons (pv 1) (pa_cons (pv 2) pa_nil))))))) pss_nil)
          (pss_cons (ps_if (pt_cmpR op_eq (pv 3) (pe_int) (nomark _)) (pss_one (ps_ret (by exact (pe_callKO gm (hr.mono (by decide)) rfl dm.g dm.fn.kp (kb_mat dm.fn) (fun σ => passAt tk σ) (pk_cons (pv 1) (pk_cons (pv 2) (pk_cons (pv 0) pk_nil))))))) pss_nil)
          (pss_cons (ps_if (pt_cmpR op_eq (pv 3) (pe_int) (nomark _)) (pss_one (ps_ret (by exact (pe_callKO gb (hr.mono (by decide)) rfl db.g db.fn.kp (kb_barF db.fn) (fun σ => passAt tk σ) (pk_cons (pv 2) (pk_cons (pv 1) (pk_cons (pv 0) pk_nil))))))) pss_nil)
          (pss_one (ps_ret (by exact (calS dh gh (hr.mono (by decide)) (fun σ => passAt tk σ) (pa_cons (pv 0) (pa_cons (pv 1) (pa_cons (pe_callB (call_max2 rfl) (by rfl) T.max (by decide +kernel) (pa_cons (pe_int) (pa_cons (pv 2) pa_nil))) (pa_cons (pe_tup (pa_cons (pe_str) pa_nil)) pa_nil)))))))))))
      case hs => rfl
      case hf => rfl
      case hN => exact scAsk.nd
      case tk => exact takes0
      · refine .cons ?_ ?_ ?_ ?_ (.cons ?_ ?_ ?_ ?_ .nil)
        · exact ⟨rfl, by decide, .inl D.v.g⟩
        · rfl
        · rfl
        · exact fun a oe cls d pn hz hf hba => pss_one (ps_ret (pe_tup (pa_cons pe_str (pa_cons (pe_xs (pv 4)) (pa_cons (pe_xs (pv 4)) pa_nil)))))
        · exact ⟨rfl, by decide, .inl D.u.g⟩
        · rfl
        · rfl
        · exact fun a oe cls d pn hz hf hba => pss_one (ps_ret (pe_tup (pa_cons pe_str (pa_cons (pe_xs (pv 4)) (pa_cons (pe_xs (pv 4)) pa_nil)))))
    have exU : ∀ (W : WX), W = wAll K (fun _ _ _ _ => False) { nx := fun _ H' => Q .non H', rt := Q } [(.ref c.V, 4, tSu K "BadValue"), (.ref c.U, 4, tSu K "Unlike")] → ∀ H1, Same H H1 → A.li.length ≠ B.li.length → UnlE c H1 (WE W (L2.start NAsk [.ref p, .ref q, .int n, .int way])) "handles" := fun W eW H1 s1 ne d H' h1 h2 h3 => by
      subst eW
      exact ⟨_, S.uv, fun e => absurd e (by decide), fun _ => ⟨_, S.u, fun _ a oe ha zc hf => su_do (x := "Unlike") D.u.T ⟨D.u.no, D.u.no⟩ zc hf h3 fun t ht => kU ne t _ (Same.trans s1 (Same.trans h2 (same_new ht))) (sN s1 (sN h2 ht)) upd_same, fun e => absurd e (by decide)⟩⟩
    have exV : ∀ (W : WX), W = wAll K (fun _ _ _ _ => False) { nx := fun _ H' => Q .non H', rt := Q } [(.ref c.V, 4, tSu K "BadValue"), (.ref c.U, 4, tSu K "Unlike")] → A.li.length = B.li.length → n < 0 → BadVE c H (WE W (L2.start NAsk [.ref p, .ref q, .int n, .int way])) "n" := fun W eW el n0 d H' h1 h2 h3 => by
      subst eW
      exact ⟨_, S.v, fun _ a oe ha zc hf => su_do (x := "BadValue") D.v.T ⟨D.v.no, D.v.no⟩ zc hf h3 fun t ht => (kE el).2.1 n0 t _ (Same.trans h2 (same_new ht)) (sN h2 ht) upd_same, fun e => absurd e (by decide)⟩
    have mMat : ∀ W : WX, W = wAll K (fun _ _ _ _ => False) { nx := fun _ H' => Q .non H', rt := Q } [(.ref c.V, 4, tSu K "BadValue"), (.ref c.U, 4, tSu K "Unlike")] → (way = 0 ∨ way = 2) → spMat K c C [.ref p, .ref q, .int n] H Q (WE W (L2.start NAsk [.ref p, .ref q, .int n, .int way])) := fun W eW hw' =>
      ⟨p, q, A, B, n, rfl, hA, hB, exU W eW H (Same.refl H), exV W eW, fun el n0 => by
        obtain ⟨a, b, c, _⟩ := (kE el).2.2 n0
        exact ⟨a, b, c hw'⟩⟩
    have mBar : ∀ W : WX, W = wAll K (fun _ _ _ _ => False) { nx := fun _ H' => Q .non H', rt := Q } [(.ref c.V, 4, tSu K "BadValue"), (.ref c.U, 4, tSu K "Unlike")] → (way = 1 ∨ way = 3) → spBarF K c C [.ref p, .ref q, .int n] H Q (WE W (L2.start NAsk [.ref p, .ref q, .int n, .int way])) := fun W eW hw' =>
      ⟨p, q, A, B, n, rfl, hA, hB, exU W eW H (Same.refl H), exV W eW, fun el n0 => by
        obtain ⟨a, b, _, c⟩ := (kE el).2.2 n0
        exact ⟨a, b, c hw'⟩⟩
    obtain rfl | rfl | rfl | rfl | rfl : way = 0 ∨ way = 1 ∨ way = 2 ∨ way = 3 ∨ way = 4 := by omega
    · refine ⟨_, rfl, rfl, _, rfl, ite_b (fun _ => ?_) (fun c => absurd c (by decide))⟩
      exact ⟨_, rfl, _, rfl, _, rfl, mMat _ rfl (.inl rfl)⟩
    · refine ⟨_, rfl, rfl, _, rfl, ite_b (fun c => absurd c (by decide)) (fun _ => ?_)⟩
      refine ⟨_, rfl, rfl, _, rfl, ite_b (fun _ => ?_) (fun c => absurd c (by decide))⟩
      exact ⟨_, rfl, _, rfl, _, rfl, mBar _ rfl (.inl rfl)⟩
    · refine ⟨_, rfl, rfl, _, rfl, ite_b (fun c => absurd c (by decide)) (fun _ => ?_)⟩
      refine ⟨_, rfl, rfl, _, rfl, ite_b (fun c => absurd c (by decide)) (fun _ => ?_)⟩
      refine ⟨_, rfl, rfl, _, rfl, ite_b (fun _ => ?_) (fun c => absurd c (by decide))⟩
      exact ⟨_, rfl, _, rfl, _, rfl, mMat _ rfl (.inr rfl)⟩
    · refine ⟨_, rfl, rfl, _, rfl, ite_b (fun c => absurd c (by decide)) (fun _ => ?_)⟩
      refine ⟨_, rfl, rfl, _, rfl, ite_b (fun c => absurd c (by decide)) (fun _ => ?_)⟩
      refine ⟨_, rfl, rfl, _, rfl, ite_b (fun c => absurd c (by decide)) (fun _ => ?_)⟩
      refine ⟨_, rfl, rfl, _, rfl, ite_b (fun _ => ?_) (fun c => absurd c (by decide))⟩
      exact ⟨_, rfl, _, rfl, _, rfl, mBar _ rfl (.inr rfl)⟩
    · refine ⟨_, rfl, rfl, _, rfl, ite_b (fun c => absurd c (by decide)) (fun _ => ?_)⟩
      refine ⟨_, rfl, rfl, _, rfl, ite_b (fun c => absurd c (by decide)) (fun _ => ?_)⟩
      refine ⟨_, rfl, rfl, _, rfl, ite_b (fun c => absurd c (by decide)) (fun _ => ?_)⟩
      refine ⟨_, rfl, rfl, _, rfl, ite_b (fun c => absurd c (by decide)) (fun _ => ?_)⟩
      refine ⟨_, rfl, _, rfl, _, rfl, _, _, rfl, (by show 1 ≤ sizeLine; decide), fun t ht => ?_⟩
      have s1 := same_new (o := .tup [.str "lowest"]) ht
      exact ⟨p, q, .ref t, A, B, _, some .low, rfl, hA.mono s1, hB.mono s1, exU _ rfl _ s1, fun el => absurd (kE el).1 (by decide)⟩
end
end Lw
namespace Lw
open PySem PySem.Spec PyProof.Rows L2 XV TL XM DO
structure NdM (A B : Fv) (i di : Nat) (M : List Int) : Prop where
  ok : okM M
  z : (0 : Int) ∈ M
  e : ∀ m ∈ needE A B, m ∈ M
  l : ∀ k : Bool, (if k = true then 1 else 0) < i → (∀ r ∈ A.kind k, lifeP r ∈ M) ∧ ∀ r ∈ B.kind k, lifeP r ∈ M
  d : ∀ k : Bool, (if k = true then 1 else 0) < di → ∀ r ∈ A.kind k, ∀ s ∈ B.kind k, 2 * ab (r.1 - s.1) ∈ M ∧ 2 * ab (r.2 - s.2) ∈ M
/-- the distances of the first ones of a kind -/
def PdM (A B : Fv) (kd : Bool) (j : Nat) (M : List Int) : Prop := ∀ r ∈ (A.kind kd).take j, ∀ s ∈ B.kind kd, 2 * ab (r.1 - s.1) ∈ M ∧ 2 * ab (r.2 - s.2) ∈ M
theorem PdM.app {A B : Fv} {kd : Bool} {j : Nat} {M N : List Int} (h : PdM A B kd j M) : PdM A B kd j (M ++ N) := fun r hr s hs => ⟨List.mem_append_left _ (h r hr s hs).1, List.mem_append_left _ (h r hr s hs).2⟩
theorem NdM.app {A B : Fv} {i e : Nat} {M N : List Int} (h : NdM A B i e M) (k : okM N) : NdM A B i e (M ++ N) :=
  ⟨h.ok.app k, List.mem_append_left _ h.z, fun m hm => List.mem_append_left _ (h.e m hm), fun b hb => ⟨fun r hr => List.mem_append_left _ ((h.l b hb).1 r hr), fun r hr => List.mem_append_left _ ((h.l b hb).2 r hr)⟩, fun b hb r hr s hs => ⟨List.mem_append_left _ (h.d b hb r hr s hs).1, List.mem_append_left _ (h.d b hb r hr s hs).2⟩⟩
theorem needE_ok {A B : Fv} (mA : FvM A) (mB : FvM B) (hl : A.li.length = B.li.length) : okM (needE A B) := by
  intro m hm
  unfold needE endsF at hm
  rw [List.zip_append hl, List.map_append] at hm
  rcases List.mem_append.mp hm with h | h
  · obtain ⟨z, hz, rfl⟩ := List.mem_map.mp h
    have h1 := mA.li z.1 (List.of_mem_zip hz).1
    have h2 := mB.li z.2 (List.of_mem_zip hz).2
    have := ab_le h1.1 h1.2 h2.1 h2.2
    omega
  · have h : m ∈ [2 * ab (A.lo - B.lo), 2 * ab (A.hi - B.hi)] := h
    have l1 := ab_le mA.lo.1 mA.lo.2 mB.lo.1 mB.lo.2
    have l2 := ab_le mA.hi.1 mA.hi.2 mB.hi.1 mB.hi.2
    rcases List.mem_cons.mp h with h | h
    · subst h; omega
    · cases List.mem_singleton.mp h; omega
/-- the greatest mark is enough -/
theorem top_mark {A B : Fv} {ns ks : List Int} (nd : NdM A B 2 2 ns) (mem : ∀ k, k ∈ ks ↔ k ∈ ns) (pw : ks.Pairwise (· < ·)) : ks ≠ [] ∧ ∀ m, ks[ks.length - 1]? = some m → bothF A B m ≠ none := by
  have ne : ks ≠ [] := fun h => by
    have := (mem 0).mpr nd.z
    rw [h] at this
    cases this
  refine ⟨ne, fun m hm => ?_⟩
  have hmax : ∀ x ∈ ns, x ≤ m := fun x hx => by
    obtain ⟨i, hi⟩ := List.mem_iff_getElem?.mp ((mem x).mpr hx)
    obtain ⟨h1, e1⟩ := List.getElem?_eq_some_iff.mp hi
    obtain ⟨h2, e2⟩ := List.getElem?_eq_some_iff.mp hm
    by_cases c : i = ks.length - 1
    · subst c
      rw [← e1, ← e2]
      exact Int.le_refl _
    · have := List.pairwise_iff_getElem.mp pw i (ks.length - 1) h1 h2 (by omega)
      rw [e1, e2] at this
      omega
  exact both_top A B m (fun x hx => hmax x (nd.e x hx)) (fun r hr => hmax _ ((nd.l false (by decide)).1 r hr)) (fun r hr => hmax _ ((nd.l false (by decide)).2 r hr)) (fun r hr => hmax _ ((nd.l true (by decide)).1 r hr)) (fun r hr => hmax _ ((nd.l true (by decide)).2 r hr))
theorem max_le {k : Int} : ∀ {ns : List Int}, (∃ x ∈ ns, x ≤ k) → ∃ m ∈ ns, m ≤ k ∧ ∀ x ∈ ns, x ≤ k → x ≤ m
  | [], ⟨x, h, _⟩ => nomatch h
  | a :: ns, h => by
    by_cases c : ∃ x ∈ ns, x ≤ k
    · obtain ⟨m, m1, m2, m3⟩ := max_le c
      by_cases d : a ≤ k ∧ m < a
      · refine ⟨a, by simp, d.1, fun x hx hk => ?_⟩
        rcases List.mem_cons.mp hx with rfl | hx
        · exact Int.le_refl _
        · have := m3 x hx hk
          omega
      · refine ⟨m, List.mem_cons_of_mem _ m1, m2, fun x hx hk => ?_⟩
        rcases List.mem_cons.mp hx with rfl | hx
        · omega
        · exact m3 x hx hk
    · obtain ⟨x, hx, hk⟩ := h
      rcases List.mem_cons.mp hx with rfl | hx
      · refine ⟨x, by simp, hk, fun y hy hyk => ?_⟩
        rcases List.mem_cons.mp hy with rfl | hy
        · exact Int.le_refl _
        · exact absurd ⟨y, hy, hyk⟩ c
      · exact absurd ⟨x, hx, hk⟩ c
theorem getP_mem {ps : List Pr} {x : Int} (h0 : 0 ≤ x) (h1 : x < ps.length) : getP ps x ∈ ps := by
  have hl : x.toNat < ps.length := by omega
  unfold getP
  rw [List.getElem?_eq_getElem hl]
  exact List.getElem_mem hl
/-- what can be matched can be matched at a mark below -/
theorem can_mark {A B : Fv} {ns : List Int} {k : Int} (nd : NdM A B 2 2 ns) (k0 : 0 ≤ k) (c : Can A B k) : ∃ m ∈ ns, m ≤ k ∧ Can A B m := by
  obtain ⟨m, m1, m2, m3⟩ := max_le (ns := ns) (k := k) ⟨0, nd.z, k0⟩
  have n1 : ∀ {a b : Int}, 2 * ab (a - b) ∈ ns → near1 a b k = true → near1 a b m = true := fun {a b} hm h => by
    unfold near1 at h ⊢
    exact decide_eq_true (m3 _ hm (of_decide_eq_true h))
  refine ⟨m, m1, m2, ?_, fun kd => ?_⟩
  · have e := c.1
    unfold endsB endsL at e ⊢
    rw [List.all_map, List.all_eq_true] at e ⊢
    intro z hz
    exact n1 (nd.e _ (List.mem_map.mpr ⟨z, hz, rfl⟩)) (e z hz)
  · obtain ⟨f, F⟩ := c.2 kd
    have kd2 : (if kd = true then 1 else 0) < 2 := by cases kd <;> decide
    refine ⟨f, fun a y e => ?_, F.inj, fun a h0 h1 l => F.l1 a h0 h1 ?_, fun b h0 h1 l => F.l2 b h0 h1 ?_⟩
    · obtain ⟨a1, a2, a3⟩ := F.rng a y e
      refine ⟨a1, a2, ?_⟩
      obtain ⟨d1, d2⟩ := nd.d kd kd2 _ (getP_mem a1.1 a1.2) _ (getP_mem a2.1 a2.2)
      unfold nearP at a3 ⊢
      obtain ⟨b1, b2⟩ := Bool.and_eq_true_iff.mp a3
      rw [n1 d1 b1, n1 d2 b2]
      rfl
    · have hm := (nd.l kd kd2).1 _ (getP_mem h0 h1)
      by_cases z : lifeP (getP (A.kind kd) a) ≤ k
      · have := m3 _ hm z
        omega
      · omega
    · have hm := (nd.l kd kd2).2 _ (getP_mem h0 h1)
      by_cases z : lifeP (getP (B.kind kd) b) ≤ k
      · have := m3 _ hm z
        omega
      · omega
theorem none_below {A B : Fv} {ks : List Int} {md j : Nat} {m m' : Int} (b5 : ∀ kd, (B.kind kd).length ≤ 5) (pw : ks.Pairwise (· < ·)) (hm : ks[md]? = some m) (hb : bothF A B m = none) (hj : j ≤ md) (hm' : ks[j]? = some m') : bothF A B m' = none := by
  cases e : bothF A B m' with
  | none => rfl
  | some r =>
    exfalso
    have c : Can A B m' := (both_can (b5 false) (b5 true)).mp (by rw [e]; simp)
    have le : m' ≤ m := by
      obtain ⟨l1, q1⟩ := List.getElem?_eq_some_iff.mp hm
      obtain ⟨l2, q2⟩ := List.getElem?_eq_some_iff.mp hm'
      by_cases z : j = md
      · subst z
        rw [hm] at hm'
        cases hm'
        exact Int.le_refl _
      · have := List.pairwise_iff_getElem.mp pw j md l2 l1 (by omega)
        rw [q1, q2] at this
        omega
    exact (both_can (b5 false) (b5 true)).mpr (c.mono le) hb
theorem low_none {A B : Fv} {ns ks : List Int} {un : Nat} {m : Int} (nd : NdM A B 2 2 ns) (mem : ∀ k, k ∈ ks ↔ k ∈ ns) (pw : ks.Pairwise (· < ·)) (b5 : ∀ kd, (B.kind kd).length ≤ 5) (hm : ks[un]? = some m) (h : ∀ (j : Nat) (m : Int), j < un → ks[j]? = some m → bothF A B m = none) : ∀ k, 0 ≤ k → k < m → bothF A B k = none := by
  intro k k0 km
  cases e : bothF A B k with
  | none => rfl
  | some r =>
    exfalso
    have c : Can A B k := (both_can (b5 false) (b5 true)).mp (by rw [e]; simp)
    obtain ⟨m', h1, h2, h3⟩ := can_mark nd k0 c
    obtain ⟨j, hj⟩ := List.mem_iff_getElem?.mp ((mem m').mpr h1)
    have ju : j < un := by
      obtain ⟨l1, q1⟩ := List.getElem?_eq_some_iff.mp hm
      obtain ⟨l2, q2⟩ := List.getElem?_eq_some_iff.mp hj
      rcases Nat.lt_trichotomy j un with z | z | z
      · exact z
      · subst z
        rw [hm] at hj
        cases hj
        omega
      · have := List.pairwise_iff_getElem.mp pw un j l1 l2 z
        rw [q1, q2] at this
        omega
    exact (both_can (b5 false) (b5 true)).mpr h3 (h j m' ju hj)
theorem MkAt.app {H : Hp} {u : Addr} {M N : List Int} (h : H u = some (.lst (M.map V.int ++ N.map V.int))) : MkAt H u (M ++ N) := by
  unfold MkAt
  rw [List.map_append]
  exact h
section
variable {P : Program} {w : World} {K : PySem.W.Frag} {mg : Str → Option Value} {base : Heap}
theorem ok_ness {f : Addr} {fd : FuncData} (F : Fun K "_law_nearness" "_law_nearness" sNess f fd) (T : Bt mg) (N : Cl P w K mg base 4 "_law_both_matched" sBoth ["a", "b", "halves"] spBoth) : FnOk P w K mg base CX0 5 f fd ["a", "b"] spNess := by
  refine F.ok scNess (fun vs H Q E h => ?_) (fun cdv A0 outer s0 H vs Q E hr h => ?_)
  · obtain ⟨p, q, A, B, rfl, _⟩ := h
    rfl
  · obtain ⟨p, q, A, B, rfl, hA, hB, mA, mB, hl, k⟩ := h
    refine ⟨_, pss_cons (ps_set (i := 2) scNess.nd rfl (Or.inl rfl) (pe_op op_cat (pe_lst (pa_cons (pe_int) pa_nil)) (pe_lc (own := [("x", 3), ("y", 4)]) (g := gTup K 2 (gCons (gName 3) (gCons (gName 4) gNil))) (tt := tYes) (te := tOp (rI CMul fun i j => .int (i * j)) (tC (.int 2)) (tCB (fun xs H Q => ∃ i, xs = [.int i] ∧ Q (.int (if i < 0 then -i else i)) H) (tCons (tOp (rI0 fun i j => .int (i - j)) (tVar 3) (tVar 4)) tNil))) rfl scNess.nd (pi_zip rfl T.zip (pa_cons (pe_op op_cat (pe_ix ix_list (pv 0) (pe_int) (fun _ _ => rfl)) (pe_slice sl_list (pv 0) (po_some (pe_int)) (po_none))) (pa_cons (pe_op op_cat (pe_ix ix_list (pv 1) (pe_int) (fun _ _ => rfl)) (pe_slice sl_list (pv 1) (po_some (pe_int)) (po_none))) pa_nil))) (blkOk_by (N := NNess) (sc := defScope sNess) (by decide +kernel)) (fun _ _ _ _ _ => pg_tup rfl (pgs_cons (pg_name (i := 3) scNess.nd rfl (Or.inl rfl)) (pgs_cons (pg_name (i := 4) scNess.nd rfl (Or.inl rfl)) (pgs_nil)))) (fun _ _ _ _ _ => pts_nil) (fun _ _ _ _ _ => pe_op op_mul (pe_int) (pe_callB call_abs (by rfl) T.abs (by decide +kernel) (pa_cons (pe_op op_sub (pv 3) (pv 4)) pa_nil))))))
 (pss_cons (ps_for PassesOwn.never rfl (pi_range1 rfl T.range (pa_cons (pe_int) pa_nil)) (pg_name (i := 5) scNess.nd rfl (Or.inl rfl))
 (pss_cons (ps_set (i := 2) scNess.nd rfl (Or.inl rfl) (pe_op op_cat (pe_op op_cat (pv 2) (pe_lc (own := [("x", 3), ("y", 4)]) (g := gTup K 2 (gCons (gName 3) (gCons (gName 4) gNil))) (tt := tYes) (te := tOp (rI0 fun i j => .int (i - j)) (tVar 4) (tVar 3)) rfl scNess.nd (pi_list (pe_ix ix_list (pv 0) (pv 5) (fun _ _ => rfl))) (blkOk_by (N := NNess) (sc := defScope sNess) (by decide +kernel)) (fun _ _ _ _ _ => pg_tup rfl (pgs_cons (pg_name (i := 3) scNess.nd rfl (Or.inl rfl)) (pgs_cons (pg_name (i := 4) scNess.nd rfl (Or.inl rfl)) (pgs_nil)))) (fun _ _ _ _ _ => pts_nil) (fun _ _ _ _ _ => pe_op op_sub (pv 4) (pv 3)))) (pe_lc (own := [("x", 3), ("y", 4)]) (g := gTup K 2 (gCons (gName 3) (gCons (gName 4) gNil))) (tt := tYes) (te := tOp (rI0 fun i j => .int (i - j)) (tVar 4) (tVar 3)) rfl scNess.nd (pi_list (pe_ix ix_list (pv 1) (pv 5) (fun _ _ => rfl))) (blkOk_by (N := NNess) (sc := defScope sNess) (by decide +kernel)) (fun _ _ _ _ _ => pg_tup rfl (pgs_cons (pg_name (i := 3) scNess.nd rfl (Or.inl rfl)) (pgs_cons (pg_name (i := 4) scNess.nd rfl (Or.inl rfl)) (pgs_nil)))) (fun _ _ _ _ _ => pts_nil) (fun _ _ _ _ _ => pe_op op_sub (pv 4) (pv 3)))))
 (pss_one (ps_for PassesOwn.never rfl (pi_list (pe_ix ix_list (pv 0) (pv 5) (fun _ _ => rfl))) (pg_tup rfl (pgs_cons (pg_name (i := 3) scNess.nd rfl (Or.inl rfl)) (pgs_cons (pg_name (i := 4) scNess.nd rfl (Or.inl rfl)) (pgs_nil))))
 (pss_one (ps_for PassesOwn.never rfl (pi_list (pe_ix ix_list (pv 1) (pv 5) (fun _ _ => rfl))) (pg_tup rfl (pgs_cons (pg_name (i := 6) scNess.nd rfl (Or.inl rfl)) (pgs_cons (pg_name (i := 7) scNess.nd rfl (Or.inl rfl)) (pgs_nil))))
 (pss_one (ps_set (i := 2) scNess.nd rfl (Or.inl rfl) (pe_op op_cat (pv 2) (pe_lst (pa_cons (pe_op op_mul (pe_int) (pe_callB call_abs (by rfl) T.abs (by decide +kernel) (pa_cons (pe_op op_sub (pv 3) (pv 6)) pa_nil))) (pa_cons (pe_op op_mul (pe_int) (pe_callB call_abs (by rfl) T.abs (by decide +kernel) (pa_cons (pe_op op_sub (pv 4) (pv 7)) pa_nil))) pa_nil))))))))))))
 (pss_cons (ps_set (i := 2) scNess.nd rfl (Or.inl rfl) (pe_callB (cr_sortedSet rfl) (by rfl) T.sorted (by decide +kernel) (pa_cons (pe_callTy (cr_setLb rfl) (by rfl) T.set (by decide +kernel) (pa_cons (pv 2) pa_nil)) pa_nil)))
 (pss_cons (ps_par (i := 8) (j := 9) rfl scNess.nd rfl rfl (by decide) rfl rfl (pa_cons (pe_int) (pa_cons (pe_op op_sub (pe_callB call_lenL (by rfl) T.len (by decide +kernel) (pa_cons (pv 2) pa_nil)) (pe_int)) pa_nil)) (by rfl))
 (pss_cons (ps_for PassesOwn.never rfl (pi_range1 rfl T.range (pa_cons (pe_int) pa_nil)) (pg_name (i := 10) scNess.nd rfl (Or.inl rfl))
 (pss_cons (ps_if (pt_cmpR op_ge (pv 8) (pv 9) (nomark _))
 (pss_one (ps_break))
 (pss_nil))
 (pss_cons (ps_set (i := 11) scNess.nd rfl (Or.inl rfl) (pe_op op_fdiv (pe_op op_add (pv 8) (pv 9)) (pe_int)))
 (pss_one (ps_if (pt_cmpR op_isN (calC N (hr.mono (by decide)) (pa_cons (pv 0) (pa_cons (pv 1) (pa_cons (pe_ix ix_list (pv 2) (pv 11) (fun _ _ => rfl)) pa_nil)))) (pe_non) (nomark _))
 (pss_one (ps_set (i := 8) scNess.nd rfl (Or.inl rfl) (pe_op op_add (pv 11) (pe_int))))
 (pss_one (ps_set (i := 9) scNess.nd rfl (Or.inl rfl) (pv 11))))))))
 (pss_one (ps_ret (pe_ix ix_list (pv 2) (pv 8) (fun _ _ => rfl)))))))), ?_⟩
    refine ⟨(by show 1 ≤ sizeLine; decide), fun u0 hu0 => ?_⟩
    have s0 := same_new (o := .lst [.int 0]) hu0
    have e0 := upd_same (H := H) (a := u0) (o := .lst [.int 0])
    generalize upd H u0 (.lst [.int 0]) = H0 at s0 e0 ⊢
    refine ends_do (A := A) rfl (hA.mono s0) fun u H1 s1 hu eu => ?_
    refine ends_do (A := B) rfl ((hB.mono s0).mono s1) fun v H2 s2 hv ev => ?_
    have s02 := Same.trans (Same.trans s0 s1) s2
    have eu2 := s2 _ _ eu
    refine ⟨u, v, _, _, rfl, SqL.of eu2, SqL.of ev, fun D hD => lc_zipL (K := K) (a := u) (b := v) (xs := (endsF A).map V.int) (ys := (endsF B).map V.int) (by rw [List.length_map, List.length_map, endsF_len, endsF_len, hl]) (fun i M => Same H2 M ∧ M D = some (.lst (((needE A B).take i).map V.int))) ⟨same_new hD, upd_same⟩ (fun i M h => ⟨SqL.of (h.1 _ _ eu2), SqL.of (h.1 _ _ ev)⟩) ?_ ?_⟩
    · rintro i x y T' M hx hy ⟨s3, e3⟩ hT
      obtain ⟨x, hx', rfl⟩ : ∃ z, (endsF A)[i]? = some z ∧ V.int z = x := by
        rw [List.getElem?_map] at hx
        exact Option.map_eq_some_iff.mp hx
      obtain ⟨y, hy', rfl⟩ : ∃ z, (endsF B)[i]? = some z ∧ V.int z = y := by
        rw [List.getElem?_map] at hy
        exact Option.map_eq_some_iff.mp hy
      have s4 := same_new (o := .tup [.int x, .int y]) hT
      have eT := upd_same (H := M) (a := T') (o := .tup [.int x, .int y])
      have hz : (needE A B)[i]? = some (2 * ab (x - y)) := by
        unfold needE
        rw [List.getElem?_map, List.getElem?_zip_eq_some (z := (x, y)) |>.mpr ⟨hx', hy'⟩]
        rfl
      have hil := (List.getElem?_eq_some_iff.mp hx').1
      have hle := hA.le
      rw [endsF_len] at hil
      refine ⟨T', _, rfl, SqT.of eT, rfl, _, _, rfl, _, _, rfl, rfl, rfl, _, rfl, _, rfl, _, _, rfl, rfl, _, rfl, _, _, rfl, rfl, .inl ⟨by decide, by decide⟩, _, s4 _ _ e3, by rw [List.length_map, List.length_take, sizeLine_eq]; omega, fun b o hb => ?_, ?_⟩
      · rw [upd_ne (ne_of_none hb hD)]
        exact s4 _ _ (s3 _ _ hb)
      · rw [upd_same, List.take_add_one, hz, List.map_append]
        rfl
    · rintro M ⟨s3, e3⟩
      have lE : (needE A B).length ≤ 6 := by
        unfold needE
        rw [List.length_map, List.length_zip, endsF_len]
        have := hA.le
        omega
      rw [List.take_of_length_le (by unfold needE; rw [List.length_map, List.length_map, List.length_zip]; exact Nat.min_le_left _ _)] at e3
      have sM := Same.trans s02 s3
      have e0M := s3 _ _ (s2 _ _ (s1 _ _ e0))
      refine ⟨u0, D, _, _, rfl, rfl, e0M, e3, by rw [List.length_map, sizeLine_eq]; show 1 + _ ≤ _; omega, fun r hr0 => ?_⟩
      have s5 := Same.trans sM (same_new (o := .lst ([.int 0] ++ (needE A B).map V.int)) hr0)
      have er : MkAt (upd M r (.lst ([.int 0] ++ (needE A B).map V.int))) r (0 :: needE A B) := upd_same
      generalize upd M r (.lst ([.int 0] ++ (needE A B).map V.int)) = H5 at s5 er ⊢
      have nd0 : NdM A B 0 0 (0 :: needE A B) := ⟨fun m hm => by
        rcases List.mem_cons.mp hm with h | h
        · subst h; exact ⟨by decide, by decide⟩
        · exact needE_ok mA mB hl m h, List.mem_cons_self, fun m hm => List.mem_cons_of_mem _ hm, fun k hk => absurd hk (Nat.not_lt_zero _), fun k hk => absurd hk (Nat.not_lt_zero _)⟩
      refine ⟨_, rfl, by omega, by omega, for_range (lo := 0) (n := 2) (fun i σ M => ∃ (dr : Addr) (ns : List Int) (x3 x4 x5 x6 x7 : Option V), σ = [some (.ref p), some (.ref q), some (.ref dr), x3, x4, x5, x6, x7, none, none, none, none] ∧ Same H M ∧ MkAt M dr ns ∧ NdM A B i i ns ∧ ns.length ≤ 10 + 100 * i)
        ⟨r, _, none, none, none, none, none, rfl, s5, er, nd0, by rw [List.length_cons]; omega⟩ ?_ ?_⟩
      · rintro i σ N hi ⟨dr, ns, x3, x4, x5, x6, x7, rfl, sN, eN, nd, ln⟩
        obtain ⟨kd, rfl⟩ : ∃ kd : Bool, i = if kd = true then 1 else 0 := by
          match i, hi with
          | 0, _ => exact ⟨false, rfl⟩
          | 1, _ => exact ⟨true, rfl⟩
        refine ⟨_, rfl, lives_do (k := kd) (A := A) rfl rfl (hA.mono sN) fun c1 N1 s1 hc1 e1 => ?_⟩
        have lkA : (A.kind kd).length ≤ 5 := by obtain ⟨_, _, _, _, _, _, _, h, _⟩ := row_at hA kd; exact h
        have lkB : (B.kind kd).length ≤ 5 := by obtain ⟨_, _, _, _, _, _, _, h, _⟩ := row_at hB kd; exact h
        have okA : ∀ r ∈ A.kind kd, wrongP r = false := by obtain ⟨_, _, _, _, _, _, _, _, h⟩ := row_at hA kd; exact h
        have okB : ∀ r ∈ B.kind kd, wrongP r = false := by obtain ⟨_, _, _, _, _, _, _, _, h⟩ := row_at hB kd; exact h
        have eN1 : MkAt N1 dr ns := s1 _ _ eN
        have i1 : (if kd = true then 1 else 0) ≤ 1 := by cases kd <;> decide
        refine ⟨dr, c1, _, _, rfl, rfl, eN1, e1, by rw [List.length_map, List.length_map, List.length_map, sizeLine_eq]; omega, fun c2 hc2 => ?_⟩
        have sN1 := Same.trans sN s1
        have s2' := same_new (o := .lst (ns.map V.int ++ ((A.kind kd).map lifeP).map V.int)) hc2
        have e2 : MkAt (upd N1 c2 (.lst (ns.map V.int ++ ((A.kind kd).map lifeP).map V.int))) c2 (ns ++ (A.kind kd).map lifeP) := MkAt.app upd_same
        have sN2 := Same.trans sN1 s2'
        generalize upd N1 c2 (.lst (ns.map V.int ++ ((A.kind kd).map lifeP).map V.int)) = N2 at s2' e2 sN2 ⊢
        refine lives_do (k := kd) (A := B) rfl rfl (hB.mono sN2) fun c3 N3 s3 hc3 e3 => ?_
        have sN3 := Same.trans sN2 s3
        have e23 : MkAt N3 c2 (ns ++ (A.kind kd).map lifeP) := s3 _ _ e2
        refine ⟨c2, c3, _, _, rfl, rfl, e23, e3, by rw [List.length_map, List.length_map, List.length_map, List.length_append, List.length_map, sizeLine_eq]; omega, fun c4 hc4 => ?_⟩
        have e4 : MkAt (upd N3 c4 (.lst ((ns ++ (A.kind kd).map lifeP).map V.int ++ ((B.kind kd).map lifeP).map V.int))) c4 ((ns ++ (A.kind kd).map lifeP) ++ (B.kind kd).map lifeP) := MkAt.app upd_same
        have sN4 := Same.trans sN3 (same_new (o := .lst ((ns ++ (A.kind kd).map lifeP).map V.int ++ ((B.kind kd).map lifeP).map V.int)) hc4)
        generalize upd N3 c4 (.lst ((ns ++ (A.kind kd).map lifeP).map V.int ++ ((B.kind kd).map lifeP).map V.int)) = N4 at e4 sN4 ⊢
        have okL : ∀ {C : Fv}, FvM C → (∀ r ∈ C.kind kd, wrongP r = false) → okM ((C.kind kd).map lifeP) := fun mC okC m hm => by
          obtain ⟨r, hr, rfl⟩ := List.mem_map.mp hm
          exact life_ok (mC.row kd r hr) (okC r hr)
        have nd4 : NdM A B ((if kd = true then 1 else 0) + 1) (if kd = true then 1 else 0) ((ns ++ (A.kind kd).map lifeP) ++ (B.kind kd).map lifeP) := by
          have h := (nd.app (okL mA okA)).app (okL mB okB)
          refine ⟨h.ok, h.z, h.e, fun k' hk' => ?_, h.d⟩
          by_cases c : k' = kd
          · subst c
            exact ⟨fun r hr => List.mem_append_left _ (List.mem_append_right _ (List.mem_map.mpr ⟨r, hr, rfl⟩)), fun r hr => List.mem_append_right _ (List.mem_map.mpr ⟨r, hr, rfl⟩)⟩
          · refine h.l k' ?_
            revert c hk'
            cases k' <;> cases kd <;> simp
        have ln4 : ((ns ++ (A.kind kd).map lifeP) ++ (B.kind kd).map lifeP).length ≤ 20 + 100 * (if kd = true then 1 else 0) := by
          rw [List.length_append, List.length_append, List.length_map, List.length_map]
          omega
        generalize (ns ++ (A.kind kd).map lifeP) ++ (B.kind kd).map lifeP = ns4 at e4 nd4 ln4
        obtain ⟨xs0, ta, xa, ea0, ea1, ea2, ea3, _, _⟩ := row_at (hA.mono sN4) kd
        obtain ⟨ys0, tb, xb, eb0, eb1, eb2, eb3, _, _⟩ := row_at (hB.mono sN4) kd
        refine ⟨_, rfl, _, rfl, p, xs0, _, _, rfl, rfl, SqL.of ea0, ea1, ta, rfl, ⟨_, SqL.of ea2⟩, for_list (K := K) (a := ta) (xs := xa) (fun j σ M => ∃ (dr : Addr) (ns : List Int) (x3 x4 x6 x7 : Option V), σ = [some (.ref p), some (.ref q), some (.ref dr), x3, x4, some (.int (0 + ((if kd = true then 1 else 0 : Nat) : Int))), x6, x7, none, none, none, none] ∧ Same N4 M ∧ MkAt M dr ns ∧ NdM A B ((if kd = true then 1 else 0) + 1) (if kd = true then 1 else 0) ns ∧ PdM A B kd j ns ∧ ns.length ≤ 20 + 100 * (if kd = true then 1 else 0) + 10 * j)
          ⟨c4, ns4, x3, x4, x6, x7, rfl, Same.refl _, e4, nd4, fun r hr => by simp at hr, by omega⟩ (fun j σ M _ h => ?_) ?_ ?_⟩
        · obtain ⟨_, _, _, _, _, _, _, s6, _⟩ := h
          exact SqL.of (s6 _ _ ea2)
        · rintro j x σ M hx ⟨dr5, ns5, y3, y4, y6, y7, rfl, s6, e6, nd6, pd6, ln6⟩
          obtain ⟨tx, pa', hpa, rfl, htx⟩ := ea3.2 j x hx
          have hjl := (List.getElem?_eq_some_iff.mp hpa).1
          have bA := mA.row kd pa' (List.mem_of_getElem? hpa)
          refine ⟨tx, _, rfl, SqT.of (s6 _ _ htx), rfl, _, _, rfl, _, _, rfl, rfl, ?_⟩
          refine ⟨_, rfl, _, rfl, q, ys0, _, _, rfl, rfl, SqL.of (s6 _ _ eb0), eb1, tb, rfl, ⟨_, SqL.of (s6 _ _ eb2)⟩, for_list (K := K) (a := tb) (xs := xb) (fun l σ L => ∃ (dr : Addr) (ns : List Int) (x6 x7 : Option V), σ = [some (.ref p), some (.ref q), some (.ref dr), some (.int pa'.1), some (.int pa'.2), some (.int (0 + ((if kd = true then 1 else 0 : Nat) : Int))), x6, x7, none, none, none, none] ∧ Same N4 L ∧ MkAt L dr ns ∧ NdM A B ((if kd = true then 1 else 0) + 1) (if kd = true then 1 else 0) ns ∧ PdM A B kd j ns ∧ (∀ s ∈ (B.kind kd).take l, 2 * ab (pa'.1 - s.1) ∈ ns ∧ 2 * ab (pa'.2 - s.2) ∈ ns) ∧ ns.length ≤ 20 + 100 * (if kd = true then 1 else 0) + 10 * j + 2 * l)
            ⟨dr5, ns5, y6, y7, rfl, s6, e6, nd6, pd6, fun s hs => by simp at hs, by omega⟩ (fun l σ L _ h => ?_) ?_ ?_⟩
          · obtain ⟨_, _, _, _, _, s7, _⟩ := h
            exact SqL.of (s7 _ _ eb2)
          · rintro l x σ L hx2 ⟨dr7, ns7, z6, z7, rfl, s7, e7, nd7, pd7, q7, ln7⟩
            obtain ⟨ty, pb, hpb, rfl, hty⟩ := eb3.2 l x hx2
            have hll := (List.getElem?_eq_some_iff.mp hpb).1
            have bB := mB.row kd pb (List.mem_of_getElem? hpb)
            refine ⟨ty, _, rfl, SqT.of (s7 _ _ hty), rfl, _, _, rfl, _, _, rfl, rfl, ?_⟩
            refine ⟨_, rfl, _, rfl, _, rfl, _, _, rfl, rfl, _, rfl, _, _, rfl, rfl, .inl ⟨by decide, by decide⟩, _, rfl, _, rfl, _, _, rfl, rfl, _, rfl, _, _, rfl, rfl, .inl ⟨by decide, by decide⟩, (by show 2 ≤ sizeLine; decide), fun d1 hd1 => ?_⟩
            have s8 := same_new (o := .lst [.int (2 * ab (pa'.1 - pb.1)), .int (2 * ab (pa'.2 - pb.2))]) hd1
            have e8 := upd_same (H := L) (a := d1) (o := .lst [.int (2 * ab (pa'.1 - pb.1)), .int (2 * ab (pa'.2 - pb.2))])
            have e78 : MkAt (upd L d1 (.lst [.int (2 * ab (pa'.1 - pb.1)), .int (2 * ab (pa'.2 - pb.2))])) dr7 ns7 := s8 _ _ e7
            refine ⟨dr7, d1, _, _, rfl, rfl, e78, e8, by rw [List.length_map, sizeLine_eq]; show _ + 2 ≤ _; omega, fun d2 hd2 => ?_⟩
            refine ⟨d2, ns7 ++ [2 * ab (pa'.1 - pb.1), 2 * ab (pa'.2 - pb.2)], _, _, rfl, Same.trans (Same.trans s7 s8) (same_new hd2), MkAt.app upd_same, nd7.app (fun m hm => ?_), pd7.app, fun s hs => ?_, by rw [List.length_append]; show _ + 2 ≤ _; omega⟩
            · obtain ⟨a1, a2, a3, a4⟩ := bA
              obtain ⟨b1, b2, b3, b4⟩ := bB
              have h1 := ab_le a1 a2 b1 b2
              have h2 := ab_le a3 a4 b3 b4
              rcases List.mem_cons.mp hm with h | h
              · subst h; omega
              · cases List.mem_singleton.mp h; omega
            · rw [List.take_add_one, hpb] at hs
              rcases List.mem_append.mp hs with h | h
              · exact ⟨List.mem_append_left _ (q7 s h).1, List.mem_append_left _ (q7 s h).2⟩
              · cases List.mem_singleton.mp h
                exact ⟨List.mem_append_right _ (by simp), List.mem_append_right _ (by simp)⟩
          · rintro σ L ⟨dr7, ns7, z6, z7, rfl, s7, e7, nd7, pd7, q7, ln7⟩
            rw [eb3.1] at ln7 q7
            rw [List.take_length] at q7
            refine ⟨dr7, ns7, _, _, _, _, rfl, s7, e7, nd7, fun r hr s hs => ?_, by omega⟩
            rw [List.take_add_one, hpa] at hr
            rcases List.mem_append.mp hr with h | h
            · exact pd7 r h s hs
            · cases List.mem_singleton.mp h
              exact q7 s hs
        · rintro σ M ⟨dr5, ns5, y3, y4, y6, y7, rfl, s6, e6, nd6, pd6, ln6⟩
          rw [ea3.1] at ln6 pd6
          refine ⟨dr5, ns5, _, _, _, _, _, rfl, Same.trans sN4 s6, e6, ⟨nd6.ok, nd6.z, nd6.e, nd6.l, fun k' hk' => ?_⟩, by omega⟩
          by_cases c : k' = kd
          · subst c
            unfold PdM at pd6
            rw [List.take_length] at pd6
            exact pd6
          · refine nd6.d k' ?_
            revert c hk'
            cases k' <;> cases kd <;> simp
      · rintro σ N ⟨dr, ns, x3, x4, x5, x6, x7, rfl, sN, eN, nd, ln⟩
        refine ⟨_, rfl, dr, ns, rfl, SqL.of eN, by omega, nd.ok, fun st c hst hc => ?_⟩
        refine ⟨st, _, c, rfl, upd_same, hc, fun ks t pw mem lk ht => ?_⟩
        have mem' : ∀ k, k ∈ ks ↔ k ∈ ns := fun k => (mem k).trans (by rw [decide_eq_true_eq])
        obtain ⟨ne, top⟩ := top_mark nd mem' pw
        have b5 : ∀ kd, (B.kind kd).length ≤ 5 := fun kd => by obtain ⟨_, _, _, _, _, _, _, h, _⟩ := row_at hB kd; exact h
        have kl : 0 < ks.length := List.length_pos_iff.mpr ne
        have st1 : Same N (upd N st (SetO w st (fun j => decide (j ∈ ns)) c)) := same_new hst
        have sT := Same.trans (Same.trans sN st1) (same_new (o := .lst (ks.map V.int)) ht)
        have eT : (upd (upd N st (SetO w st (fun j => decide (j ∈ ns)) c)) t (.lst (ks.map V.int))) t = some (.lst (ks.map V.int)) := upd_same
        refine ⟨_, rfl, t, _, rfl, SqL.of upd_same, _, _, rfl, rfl, _, _, rfl, ?_⟩
        rw [List.length_map]
        refine ⟨_, rfl, by omega, by omega, for_range (lo := 0) (n := 20) (fun i σ M => ∃ (x10 x11 : Option V) (un ov : Nat), σ = [some (.ref p), some (.ref q), some (.ref t), x3, x4, x5, x6, x7, some (.int (un : Nat)), some (.int (ov : Nat)), x10, x11] ∧ Same H M ∧ M t = some (.lst (ks.map V.int)) ∧ un ≤ ov ∧ ov < ks.length ∧ ov - un < 2 ^ (20 - i) ∧ (∀ m, ks[ov]? = some m → bothF A B m ≠ none) ∧ (∀ (j : Nat) (m : Int), j < un → ks[j]? = some m → bothF A B m = none) ∧ i ≤ 20)
          ⟨none, none, 0, ks.length - 1, ?_, sT, eT, Nat.zero_le _, by omega, ?_, top, fun j m hj => absurd hj (Nat.not_lt_zero _), Nat.zero_le _⟩ ?_ ?_⟩
        · have : (ks.length : Int) - 1 = ((ks.length - 1 : Nat) : Int) := by omega
          show [_, _, _, _, _, _, _, _, _, some (V.int ((ks.length : Int) - 1)), _, _] = _
          rw [this]
          rfl
        · show ks.length - 1 - 0 < 2 ^ 20
          have : (2:Nat) ^ 20 = 1048576 := by decide
          omega
        · rintro i σ M hi ⟨x10, x11, un, ov, rfl, s6, e6, h1, h2, h3, h4, h6, h5⟩
          refine ⟨_, rfl, _, rfl, _, _, rfl, rfl, _, rfl, ite_b (fun c1 => ?_) (fun c1 => ?_)⟩
          · have c1 := of_decide_eq_true c1
            have e : un = ov := by omega
            subst e
            obtain ⟨v, a1, a2, _⟩ := at_pos (xs := ks.map V.int) (i := ((un : Nat) : Int)) (by omega) (by rw [List.length_map]; omega)
            obtain ⟨m, hm, rfl⟩ : ∃ z, ks[un]? = some z ∧ V.int z = v := by
              rw [Int.toNat_natCast, List.getElem?_map] at a2
              exact Option.map_eq_some_iff.mp a2
            refine ⟨_, rfl, _, rfl, t, _, _, _, rfl, rfl, SqL.of e6, a1, k m M s6 (nd.ok m ((mem' m).mp (List.mem_of_getElem? hm))).1 (h4 m hm) (low_none nd mem' pw b5 hm h6)⟩
          · have c1 := of_decide_eq_false c1
            have lt : un < ov := by omega
            refine ⟨_, rfl, _, rfl, _, _, rfl, rfl, _, _, rfl, rfl, ⟨by decide, by decide⟩, ?_⟩
            have em : (((un : Nat) : Int) + ((ov : Nat) : Int)) / 2 = (((un + ov) / 2 : Nat) : Int) := by omega
            obtain ⟨md, hmd⟩ : ∃ md, md = (un + ov) / 2 := ⟨_, rfl⟩
            have m1 : un ≤ md := by omega
            have m2 : md < ov := by omega
            have pw2 : 2 ^ (20 - i) = 2 * 2 ^ (20 - (i + 1)) := by
              have e : 20 - i = (20 - (i + 1)) + 1 := by omega
              rw [e, Nat.pow_succ]
              omega
            obtain ⟨v, a1, a2, _⟩ := at_pos (xs := ks.map V.int) (i := ((md : Nat) : Int)) (by omega) (by rw [List.length_map]; omega)
            obtain ⟨m, hm, rfl⟩ : ∃ z, ks[md]? = some z ∧ V.int z = v := by
              rw [Int.toNat_natCast, List.getElem?_map] at a2
              exact Option.map_eq_some_iff.mp a2
            have zz : (((un : Nat) : Int) + ((ov : Nat) : Int)) / 2 = ((md : Nat) : Int) := by rw [hmd]; exact em
            have z1 : (((un : Nat) : Int) + ((ov : Nat) : Int)) / 2 + 1 = ((md + 1 : Nat) : Int) := by rw [zz]; rfl
            rw [← zz] at a1
            refine ⟨_, rfl, _, rfl, _, rfl, _, rfl, t, _, _, _, rfl, rfl, SqL.of e6, a1, p, q, A, B, m, rfl, hA.mono s6, hB.mono s6, hl, fun v' M' s7 hv => ⟨rfl, _, rfl, ?_⟩⟩
            have s67 := Same.trans s6 s7
            cases hb : bothF A B m with
            | none =>
              rw [hb] at hv
              have hv : v' = .non := hv
              subst hv
              refine iteT ⟨_, rfl, _, _, rfl, rfl, some (.int (0 + ((i : Nat) : Int))), some (.int ((((un : Nat) : Int) + ((ov : Nat) : Int)) / 2)), md + 1, ov, ?_, s67, s7 _ _ e6, by omega, h2, by omega, h4, fun j m' hj hm' => none_below b5 pw hm hb (by omega) hm', by omega⟩
              show [_, _, _, _, _, _, _, _, some (V.int ((((un : Nat) : Int) + ((ov : Nat) : Int)) / 2 + 1)), _, _, _] = _
              rw [z1]
            | some rr =>
              rw [hb] at hv
              obtain ⟨qq, t1, t2, rfl, _⟩ := hv
              refine iteF ⟨_, rfl, some (.int (0 + ((i : Nat) : Int))), some (.int ((((un : Nat) : Int) + ((ov : Nat) : Int)) / 2)), un, md, ?_, s67, s7 _ _ e6, m1, by omega, by omega, ?_, h6, by omega⟩
              · show [_, _, _, _, _, _, _, _, _, some (V.int ((((un : Nat) : Int) + ((ov : Nat) : Int)) / 2)), _, some (V.int ((((un : Nat) : Int) + ((ov : Nat) : Int)) / 2))] = _
                rw [zz]
              · intro m' hm'
                cases hm'.symm.trans hm
                rw [hb]
                simp
        · rintro σ M ⟨x10, x11, un, ov, rfl, s6, e6, h1, h2, h3, h4, h6, h5⟩
          have e : un = ov := by
            rw [Nat.sub_self, Nat.pow_zero] at h3
            omega
          subst e
          obtain ⟨v, a1, a2, _⟩ := at_pos (xs := ks.map V.int) (i := ((un : Nat) : Int)) (by omega) (by rw [List.length_map]; omega)
          obtain ⟨m, hm, rfl⟩ : ∃ z, ks[un]? = some z ∧ V.int z = v := by
            rw [Int.toNat_natCast, List.getElem?_map] at a2
            exact Option.map_eq_some_iff.mp a2
          refine ⟨_, rfl, _, rfl, t, _, _, _, rfl, rfl, SqL.of e6, a1, k m M s6 (nd.ok m ((mem' m).mp (List.mem_of_getElem? hm))).1 (h4 m hm) (low_none nd mem' pw b5 hm h6)⟩
end
end Lw
namespace Lw
open PySem PySem.Spec PyProof.Rows L2 XV TL XM DO
/-! where a matching can be there is no bar -/
theorem loose_nil {n : Int} : ∀ {xs ys : List Int} {i : Nat}, looseF n i xs ys = [] ↔ ∀ z ∈ xs.zip ys, near1 z.1 z.2 n = true
  | [], ys, i => ⟨fun _ z hz => by simp at hz, fun _ => by simp [looseF]⟩
  | x :: xs, [], i => ⟨fun _ z hz => by simp at hz, fun _ => by simp [looseF]⟩
  | x :: xs, y :: ys, i => by
    rw [looseF, List.append_eq_nil_iff, loose_nil (xs := xs) (ys := ys) (i := i + 1), List.zip_cons_cons]
    constructor
    · rintro ⟨a, b⟩ z hz
      rcases List.mem_cons.mp hz with rfl | hz
      · by_cases c : near1 x y n = true
        · exact c
        · rw [if_neg c] at a
          cases a
      · exact b z hz
    · intro h
      refine ⟨by rw [if_pos (h (x, y) (by simp))], fun z hz => h z (List.mem_cons_of_mem _ hz)⟩
theorem fars_ends {A B : Fv} {n : Int} (hl : A.li.length = B.li.length) : farsV A B n = [] ↔ endsB A B n = true := by
  unfold farsV endsB endsL endsF
  rw [List.append_eq_nil_iff, List.append_eq_nil_iff, List.map_eq_nil_iff, loose_nil, List.zip_append hl, List.map_append, List.all_append, Bool.and_eq_true]
  have e : ((([A.lo, A.hi].zip [B.lo, B.hi]).map fun z => near1 z.1 z.2 n).all id) = (near1 A.lo B.lo n && (near1 A.hi B.hi n && true)) := rfl
  rw [e, Bool.and_true, Bool.and_eq_true, List.all_map, List.all_eq_true]
  constructor
  · rintro ⟨a, b, c⟩
    refine ⟨fun z hz => a z hz, ?_, ?_⟩
    · by_cases d : near1 A.lo B.lo n = true
      · exact d
      · rw [if_neg d] at b
        cases b
    · by_cases d : near1 A.hi B.hi n = true
      · exact d
      · rw [if_neg d] at c
        cases c
  · rintro ⟨a, b, c⟩
    exact ⟨fun z hz => a z hz, by rw [if_pos b], by rw [if_pos c]⟩
/-- the other way round -/
theorem fn_back {one two : List Pr} {n : Int} {f : Int → Option Int} (F : FnM one two n f) : ∃ g : Int → Option Int, FnM two one n g := by
  refine ⟨fun y => (by classical exact if h : ∃ a, f a = some y then some h.choose else none), fun y a e => ?_, fun y y' a e1 e2 => ?_, fun y h0 h1 l => ?_, fun a h0 h1 l => ?_⟩
  · have e : (by classical exact if h : ∃ a, f a = some y then some h.choose else none : Option Int) = some a := e
    split at e
    · next h =>
      injection e with e
      have := h.choose_spec
      rw [e] at this
      obtain ⟨x1, x2, x3⟩ := F.rng _ _ this
      exact ⟨x2, x1, by rw [nearP_swap]; exact x3⟩
    · cases e
  · have e1 : (by classical exact if h : ∃ a, f a = some y then some h.choose else none : Option Int) = some a := e1
    have e2 : (by classical exact if h : ∃ a, f a = some y' then some h.choose else none : Option Int) = some a := e2
    split at e1
    · next h =>
      split at e2
      · next h' =>
        injection e1 with e1
        injection e2 with e2
        have a1 := h.choose_spec
        have a2 := h'.choose_spec
        rw [e1] at a1
        rw [e2, a1] at a2
        injection a2
      · cases e2
    · cases e1
  · obtain ⟨a, ha⟩ := F.l2 y h0 h1 l
    exact ⟨_, dif_pos ⟨a, ha⟩⟩
  · obtain ⟨y, hy⟩ := F.l1 a h0 h1 l
    refine ⟨y, ?_⟩
    have h : ∃ a', f a' = some y := ⟨a, hy⟩
    show (by classical exact if h : ∃ a, f a = some y then some h.choose else none : Option Int) = some a
    rw [dif_pos h]
    congr 1
    exact F.inj _ _ _ h.choose_spec hy
theorem set_no {A B : Fv} {n : Int} (c : Can A B n) {kd wh : Bool} {ns : List Int} (b : SetBar ((if wh = true then B else A).kind kd) ((if wh = true then A else B).kind kd) n ns) : False := by
  obtain ⟨f, F⟩ := c.2 kd
  have go : ∀ {ps qs : List Pr} {g : Int → Option Int}, FnM ps qs n g → SetBar ps qs n ns → False := fun {ps qs g} G b' => bar_no b' g (fun x h0 h1 l => by
    obtain ⟨y, e⟩ := G.l1 x h0 h1 (of_decide_eq_true l)
    obtain ⟨_, x2, x3⟩ := G.rng _ _ e
    exact ⟨y, e, mem_nearX.mpr ⟨x2, x3⟩⟩) G.inj
  cases wh
  · exact go F b
  · obtain ⟨g, G⟩ := fn_back F
    exact go G b
theorem can_no {A B : Fv} {n : Int} (hl : A.li.length = B.li.length) (c : Can A B n) (br : Bar) : barB A B n br = false := by
  have fn := (fars_ends hl).mpr c.1
  unfold farsV at fn
  obtain ⟨f1, f2⟩ := List.append_eq_nil_iff.mp fn
  obtain ⟨f2, f3⟩ := List.append_eq_nil_iff.mp f2
  have f1 := List.map_eq_nil_iff.mp f1
  cases br with
  | odd w m => rfl
  | loose k =>
    show (ixB k A.li.length && (looseF n 0 A.li B.li).any fun j => decide ((j : Int) = k)) = false
    rw [f1]
    exact Bool.and_false _
  | low =>
    show (!near1 A.lo B.lo n) = false
    by_cases d : near1 A.lo B.lo n = true
    · rw [d]; rfl
    · rw [if_neg d] at f2
      cases f2
  | high =>
    show (!near1 A.hi B.hi n) = false
    by_cases d : near1 A.hi B.hi n = true
    · rw [d]; rfl
    · rw [if_neg d] at f3
      cases f3
  | set k wh ns =>
    show setB A B n k wh ns = false
    cases e : setB A B n k wh ns with
    | false => rfl
    | true =>
      exfalso
      unfold setB at e
      obtain ⟨e1, e2⟩ := Bool.and_eq_true_iff.mp e
      obtain ⟨e2, e3⟩ := Bool.and_eq_true_iff.mp e2
      obtain ⟨i1, i2⟩ := Bool.and_eq_true_iff.mp (show (decide (0 ≤ wh) && decide (wh < 2)) = true from e1)
      have i1 := of_decide_eq_true i1
      have i2 := of_decide_eq_true i2
      have e3 := of_decide_eq_true e3
      have : wh = 0 ∨ wh = 1 := by omega
      rcases this with rfl | rfl
      · exact set_no c (kd := k) (wh := false) ⟨e2, e3⟩
      · exact set_no c (kd := k) (wh := true) ⟨e2, e3⟩
theorem mat_can {A B : Fv} {n : Int} {G H : Hp} {v : V} (hl : A.li.length = B.li.length) (c : Can A B n) (h : MatAt A B n G H v) : v ≠ .non := by
  rcases h with ⟨rfl, h | ⟨kd, wh, ns, b⟩⟩ | ⟨t, _, _, _, _, _, _, rfl, _⟩
  · exact absurd ((fars_ends hl).mpr c.1) h
  · exact (set_no c b).elim
  · intro z
    cases z
theorem can_of {A B : Fv} {n : Int} (hl : A.li.length = B.li.length) (f : farsV A B n = []) (h : ∀ kd, ∃ rs, Mtch (A.kind kd) (B.kind kd) n rs) : Can A B n := ⟨(fars_ends hl).mp f, fun kd => by
  obtain ⟨rs, M⟩ := h kd
  exact ⟨_, matchF_fn M⟩⟩
end Lw
namespace Lw
open PySem PySem.Spec PyProof.Rows L2 XV TL XM DO
abbrev sLaw : Stmt := topOf "law"
abbrev Nlaw : List Str := ["script", "box", "far", "one", "two", "a", "b", "first", "second", "halves", "k", "good", "bad", "odd", "more", "way", "less"]
theorem scLaw : FnScope Nlaw ["script"] (defScope sLaw) := ⟨rfl, rfl, rfl, by decide +kernel, rfl, by decide +kernel, by decide +kernel⟩
def spLaw (K : PySem.W.Frag) : Sp := fun vs H Q _ => ∃ (a : Addr) (ns : List Int), vs = [.ref a] ∧ SqL K H a (ns.map V.int) ∧ ns.length ≤ 63 ∧ ∀ H', Q (.bl true) H'
/-- where the law stands -/
abbrev XL (P : Program) (w : World) (K : PySem.W.Frag) (mg : Str → Option Value) (base : Heap) (f : Addr) (cdv : Value) (A : Around) (outer : List Env) (s : Shared) (H : Hp) (E : XK) : Cx := (cxOf CX0 P w K mg base Nlaw "law" (defScope sLaw) f cdv A outer s H E).nox
/-- the law's answer -/
def RtL : VK := fun v _ => v = .bl true
/-- all that the law calls -/
structure LEnv (P : Program) (w : World) (K : PySem.W.Frag) (mg : Str → Option Value) (base : Heap) (c : CA) (C : Addr) : Prop where
  T : Bt mg
  L : LCls K C
  box : Cl P w K mg base 1 "_law_box" sBox ["script"] (spBox K)
  take : Cl P w K mg base 1 "_law_take" sTake ["box", "limit"] spTake
  drawn : Cl P w K mg base 3 "_law_drawn_lives" sDrawn ["box", "far"] spDrawn
  moved : Cl P w K mg base 4 "_law_moved_lives" sMoved ["box", "five", "far"] spMoved
  sorted : Cl P w K mg base 1 "_law_sorted_lives" sSorted ["five"] spSorted
  made : Cl P w K mg base 6 "_law_made_lives" sMadeL ["five"] (spMadeL K C)
  ness : Cl P w K mg base 5 "_law_nearness" sNess ["a", "b"] spNess
  both : Cl P w K mg base 4 "_law_both_matched" sBoth ["a", "b", "halves"] spBoth
  ask : Cl P w K mg base 6 "_law_asked" sAsk ["first", "second", "halves", "way"] (spAsk K C)
  just : ClG P w K mg base 1 "_law_just" sJust ["told", "due"] (spJust K)
  isM : Cl P w K mg base 4 "_law_is_matching" sIsM ["a", "b", "halves", "told"] spIsM
  isB : Cl P w K mg base 3 "_law_is_bar" sIsB ["a", "b", "halves", "told"] spIsB
  barH : ClX P w K mg base 4 "bar_holds" sBarH ["lives", "other", "n", "value"] (spBarH K c C)
/-- what the law has drawn -/
structure LawAt (K : PySem.W.Frag) (C : Addr) (B : Bx) (H : Hp) (pT pA pB pF pS : Addr) (A1 A A' : Fv) (h : Int) : Prop where
  bx : BoxAt B H
  two : FiveB B H pT A1
  a : FiveB B H pA A
  b : FiveB B H pB A'
  fi : LvAt K C H pF A
  se : LvAt K C H pS A'
  el : A.li.length = A'.li.length
  el1 : A1.li.length = A.li.length
  l3 : A1.li.length ≤ 3
  h0 : 0 ≤ h
  top : bothF A A' h ≠ none
  low : ∀ k, 0 ≤ k → k < h → bothF A A' k = none
theorem LawAt.go {K : PySem.W.Frag} {C : Addr} {B : Bx} {H H' : Hp} {pT pA pB pF pS : Addr} {A1 A A' : Fv} {h : Int} (L : LawAt K C B H pT pA pB pF pS A1 A A' h) (g : Go B H H') : LawAt K C B H' pT pA pB pF pS A1 A A' h :=
  ⟨g.bag, L.two.go L.bx g, L.a.go L.bx g, L.b.go L.bx g, L.fi.go L.bx g, L.se.go L.bx g, L.el, L.el1, L.l3, L.h0, L.top, L.low⟩
theorem LawAt.same {K : PySem.W.Frag} {C : Addr} {B : Bx} {H H' : Hp} {pT pA pB pF pS : Addr} {A1 A A' : Fv} {h : Int} (L : LawAt K C B H pT pA pB pF pS A1 A A' h) (s : Same H H') : LawAt K C B H' pT pA pB pF pS A1 A A' h := L.go ((Go.refl L.bx).same s)
/-- the law's places -/
abbrev stL (sc : Addr) (B : Bx) (far : Int) (pO pT pA pB pF pS : Addr) (h : Int) (rest : List (Option V)) : L2.St := some (.ref sc) :: some (.ref B.b) :: some (.int far) :: some (.ref pO) :: some (.ref pT) :: some (.ref pA) :: some (.ref pB) :: some (.ref pF) :: some (.ref pS) :: some (.int h) :: rest
def preA (K : PySem.W.Frag) : L2.St → Hp → Prop := fun σ H => ∃ (sc : Addr) (zs : List Int), σ = L2.start Nlaw [.ref sc] ∧ SqL K H sc (zs.map V.int) ∧ zs.length ≤ 63
def posL (K : PySem.W.Frag) (C : Addr) : L2.St → Hp → Prop := fun σ H => ∃ (sc : Addr) (B : Bx) (far : Int) (pO pT pA pB pF pS : Addr) (A1 A A' : Fv) (h : Int) (x10 x11 x12 x13 x14 x15 x16 : Option V), (0 ≤ far ∧ far ≤ 4) ∧ LawAt K C B H pT pA pB pF pS A1 A A' h ∧ σ = stL sc B far pO pT pA pB pF pS h [x10, x11, x12, x13, x14, x15, x16]
theorem far_at {k : Int} (h0 : 0 ≤ k) (h1 : k < 3) : ∃ f : Int, atI ([.int 1, .int 2, .int 4] : List V) k = some (.int f) ∧ 0 ≤ f ∧ f ≤ 4 := by
  have : k = 0 ∨ k = 1 ∨ k = 2 := by omega
  rcases this with rfl | rfl | rfl
  · exact ⟨1, rfl, by decide, by decide⟩
  · exact ⟨2, rfl, by decide, by decide⟩
  · exact ⟨4, rfl, by decide, by decide⟩
section
variable {P : Program} {w : World} {K : PySem.W.Frag} {mg : Str → Option Value} {base : Heap} {f : Addr} {cdv : Value} {A : Around} {outer : List Env} {s : Shared} {H0 : Hp} {E : XK} {c : CA} {C : Addr}
theorem blkA (N : LEnv P w K mg base c C) (hr : Room 7 (XL P w K mg base f cdv A outer s H0 E).A) : Does (XL P w K mg base f cdv A outer s H0 E) ((defBody sLaw).take 7) (preA K) (posL K C) RtL := by
  have T := N.T
  refine Does.of (pss_cons (ps_set (i := 1) scLaw.nd rfl (Or.inl rfl) (calC N.box (hr.mono (by decide)) (pa_cons (pv 0) pa_nil)))
 (pss_cons (ps_set (i := 2) scLaw.nd rfl (Or.inl rfl) (pe_ix ix_list (pe_lst (pa_cons (pe_int) (pa_cons (pe_int) (pa_cons (pe_int) pa_nil)))) (calC N.take (hr.mono (by decide)) (pa_cons (pv 1) (pa_cons (pe_int) pa_nil))) (fun _ _ => rfl)))
 (pss_cons (ps_set (i := 3) scLaw.nd rfl (Or.inl rfl) (calC N.drawn (hr.mono (by decide)) (pa_cons (pv 1) (pa_cons (pv 2) pa_nil))))
 (pss_cons (ps_set (i := 4) scLaw.nd rfl (Or.inl rfl) (calC N.moved (hr.mono (by decide)) (pa_cons (pv 1) (pa_cons (pv 3) (pa_cons (pv 2) pa_nil)))))
 (pss_cons (ps_par (i := 5) (j := 6) rfl scLaw.nd rfl rfl (by decide) rfl rfl (pa_cons (calC N.sorted (hr.mono (by decide)) (pa_cons (pv 3) pa_nil)) (pa_cons (calC N.sorted (hr.mono (by decide)) (pa_cons (pv 4) pa_nil)) pa_nil)) (by rfl))
 (pss_cons (ps_par (i := 7) (j := 8) rfl scLaw.nd rfl rfl (by decide) rfl rfl (pa_cons (calC N.made (hr.mono (by decide)) (pa_cons (pv 3) pa_nil)) (pa_cons (calC N.made (hr.mono (by decide)) (pa_cons (pv 4) pa_nil)) pa_nil)) (by rfl))
 (pss_one (ps_set (i := 9) scLaw.nd rfl (Or.inl rfl) (calC N.ness (hr.mono (by decide)) (pa_cons (pv 5) (pa_cons (pv 6) pa_nil))))))))))) ?_
  rintro σ H ⟨sc, zs, rfl, hS, hzl⟩ D nx rt
  refine ⟨_, rfl, sc, zs, rfl, hS, hzl, fun B H1 s1 hB nb nl => ?_⟩
  refine ⟨(by show 3 ≤ sizeLine; decide), fun u hu => ?_⟩
  have g2 := (Go.refl hB).new (o := .lst [.int 1, .int 2, .int 4]) hu
  have nu := hB.away hu
  have eu := upd_same (H := H1) (a := u) (o := .lst [.int 1, .int 2, .int 4])
  generalize upd H1 u (.lst [.int 1, .int 2, .int 4]) = H2 at g2 eu ⊢
  refine ⟨_, rfl, B, 3, rfl, g2.bag, by decide, by decide, fun ka H3 a0 a1 g3 => ?_⟩
  obtain ⟨fr, ef, f0, f4⟩ := far_at a0 a1
  refine ⟨u, _, _, _, rfl, rfl, SqL.of (g3.keep nu.1 nu.2 eu), ef, ?_⟩
  refine ⟨_, rfl, _, rfl, B, fr, rfl, g3.bag, f0, f4, fun pO A0 H4 g4 no hO l3 fD => ?_⟩
  refine ⟨_, rfl, _, rfl, _, rfl, B, pO, A0, fr, rfl, g4.bag, hO, fD, f0, f4, fun pT A1 H5 g5 nt hT el fM => ?_⟩
  have hO5 := hO.go g4.bag g5
  refine ⟨_, rfl, B, pO, A0, rfl, g5.bag, hO5.at, fun pA A H6 s6 na so hA => ?_⟩
  have g6 := (Go.refl g5.bag).same s6
  refine ⟨_, rfl, B, pT, A1, rfl, g6.bag, hT.at.mono s6, fun pB A' H7 s7 nb' so' hA' => ⟨_, _, rfl, ?_⟩⟩
  have s67 := Same.trans s6 s7
  have hA7 := hA.mono s7
  refine ⟨_, rfl, pO, A0, rfl, hO5.at.mono s67, fun pF A2 H8 s8 nf so2 lvF => ?_⟩
  cases so2.one so
  refine ⟨_, rfl, pT, A1, rfl, hT.at.mono (Same.trans s67 s8), fun pS A3 H9 s9 ns' so3 lvS => ⟨_, _, rfl, ?_⟩⟩
  cases so3.one so'
  have s89 := Same.trans s8 s9
  have s69 := Same.trans s67 s89
  have g9 := (Go.refl g5.bag).same s69
  have hA9 := hA7.mono s89
  have hA9' := hA'.mono s89
  have el' : A.li.length = A'.li.length := by rw [so.len, so'.len]; exact el.symm
  refine ⟨_, rfl, _, rfl, pA, pB, A, A', rfl, hA9.at, hA9'.at, so.fvm fD.m, so'.fvm fM, el', fun h H10 s10 h0 nb0 low => ?_⟩
  have g10 := g9.same s10
  refine nx _ _ ⟨sc, B, fr, pO, pT, pA, pB, pF, pS, A1, A, A', h, none, none, none, none, none, none, none, ⟨f0, f4⟩, ⟨g10.bag, hT.mono (Same.trans s69 s10), hA9.mono s10, hA9'.mono s10, (lvF.mono s9).mono s10, lvS.mono s10, el', by rw [so.len, el], by rw [el]; exact l3, h0, nb0, low⟩, rfl⟩
end
end Lw
namespace Lw
open PySem PySem.Spec PyProof.Rows L2 XV TL XM DO
theorem BarO.mono {H H' : Hp} {v : V} {bo : Option Bar} (h : BarO H v bo) (s : Same H H') : BarO H' v bo := by
  cases bo with
  | none =>
    rcases h with h | h | ⟨t, a, b⟩
    · exact .inl h
    · exact .inr (.inl h)
    · exact .inr (.inr ⟨t, a, s _ _ b⟩)
  | some br =>
    obtain ⟨t, a, b⟩ := h
    exact ⟨t, a, b.mono s⟩
section
variable {P : Program} {w : World} {K : PySem.W.Frag} {mg : Str → Option Value} {base : Heap} {f : Addr} {cdv : Value} {A : Around} {outer : List Env} {s : Shared} {H0 : Hp} {E : XK} {c : CA} {C : Addr}
theorem blkB (N : LEnv P w K mg base c C) (hg : (XL P w K mg base f cdv A outer s H0 E).A.guards = some []) (hr : Room 7 (XL P w K mg base f cdv A outer s H0 E).A) : Does (XL P w K mg base f cdv A outer s H0 E) (((defBody sLaw).drop 7).take 1) (posL K C) (posL K C) RtL := by
  have T := N.T
  refine Does.of (pss_one (ps_for PassesOwn.never rfl (pi_list (pe_lst (pa_cons (pv 9) (pa_cons (pe_op op_sub (pv 9) (pe_int)) (pa_cons (pe_op op_add (pv 9) (pe_int)) (pa_cons (calC N.take (hr.mono (by decide)) (pa_cons (pv 1) (pa_cons (pe_op op_add (pe_int) (pe_op op_mul (pe_int) (pv 2))) pa_nil))) (pa_cons (pe_op op_fdiv (pv 9) (pe_int)) pa_nil))))))) (pg_name (i := 10) scLaw.nd rfl (Or.inl rfl))
 (pss_cons (ps_if (pt_cmpR op_lt (pv 10) (pe_int) (nomark _))
 (pss_one ps_continue)
 (pss_nil))
 (pss_cons (ps_par (i := 11) (j := 12) rfl scLaw.nd rfl rfl (by decide) rfl rfl (pa_cons (calC N.ask (hr.mono (by decide)) (pa_cons (pv 7) (pa_cons (pv 8) (pa_cons (pv 10) (pa_cons (pe_op op_mul (pe_int) (calC N.take (hr.mono (by decide)) (pa_cons (pv 1) (pa_cons (pe_int) pa_nil)))) pa_nil))))) (pa_cons (calC N.ask (hr.mono (by decide)) (pa_cons (pv 7) (pa_cons (pv 8) (pa_cons (pv 10) (pa_cons (pe_op op_add (pe_int) (pe_op op_mul (pe_int) (calC N.take (hr.mono (by decide)) (pa_cons (pv 1) (pa_cons (pe_int) pa_nil))))) pa_nil))))) pa_nil)) (by rfl))
 (pss_cons (ps_if (pt_cmpR op_ne (pe_cmpR op_isN (calC N.both (hr.mono (by decide)) (pa_cons (pv 5) (pa_cons (pv 6) (pa_cons (pv 10) pa_nil)))) (pe_non) (nomark _)) (pe_cmpR op_lt (pv 10) (pv 9) (nomark _)) (nomark _))
 (pss_one (ps_ret (pe_bl)))
 (pss_nil))
 (pss_one (ps_if (pt_cmpR op_ge (pv 10) (pv 9) (nomark _))
 (pss_cons (ps_if (PW.pt (pw_or (pt_cmpR op_notN (pv 12) (pe_non) (nomark _)) (pw_or1 (pt_not (pt_val (calC N.isM (hr.mono (by decide)) (pa_cons (pv 5) (pa_cons (pv 6) (pa_cons (pv 10) (pa_cons (pv 11) pa_nil))))))))))
 (pss_one (ps_ret (pe_bl)))
 (pss_nil))
 (pss_one (ps_for PassesOwn.never rfl (pi_list (pe_lst (pa_cons (pe_non) (pa_cons (pe_tup (pa_nil)) (pa_cons (pe_tup (pa_cons (pe_str) pa_nil)) (pa_cons (pe_tup (pa_cons (pe_str) (pa_cons (pe_int) (pa_cons (pe_tup (pa_nil)) pa_nil)))) (pa_cons (pe_tup (pa_cons (pe_str) (pa_cons (pe_int) (pa_cons (pe_tup (pa_cons (pe_un un_neg (pe_int)) pa_nil)) pa_nil)))) (pa_cons (pe_tup (pa_cons (pe_str) (pa_cons (pe_un un_neg (pe_int)) pa_nil))) (pa_cons (pe_str) (pa_cons (pe_tup (pa_cons (pe_str) pa_nil)) pa_nil)))))))))) (pg_name (i := 13) scLaw.nd rfl (Or.inl rfl))
 (pss_one (ps_if (pt_not (pt_val (calG N.just hg (hr.mono (by decide)) (pa_cons (by exact (calX (E := fun _ => E0) N.barH (hr.mono (by decide)) (fun σ pins H s e s' I c => passE pins σ H s e s' I c) (by exact (pa_cons (pv 7) (pa_cons (pv 8) (pa_cons (pv 10) (pa_cons (pv 13) pa_nil))))))) (pa_cons (calC N.isB (hr.mono (by decide)) (pa_cons (pv 5) (pa_cons (pv 6) (pa_cons (pv 10) (pa_cons (pv 13) pa_nil))))) pa_nil)))))
 (pss_one (ps_ret (pe_bl)))
 (pss_nil))))))
 (pss_cons (ps_if (PW.pt (pw_or (pt_cmpR op_notN (pv 11) (pe_non) (nomark _)) (pw_or1 (pt_not (pt_val (calC N.isB (hr.mono (by decide)) (pa_cons (pv 5) (pa_cons (pv 6) (pa_cons (pv 10) (pa_cons (pv 12) pa_nil))))))))))
 (pss_one (ps_ret (pe_bl)))
 (pss_nil))
 (pss_cons (ps_if (pt_not (pt_val (calG N.just hg (hr.mono (by decide)) (pa_cons (by exact (calX (E := fun _ => E0) N.barH (hr.mono (by decide)) (fun σ pins H s e s' I c => passE pins σ H s e s' I c) (by exact (pa_cons (pv 7) (pa_cons (pv 8) (pa_cons (pv 10) (pa_cons (pv 12) pa_nil))))))) (pa_cons (pe_bl) pa_nil)))))
 (pss_one (ps_ret (pe_bl)))
 (pss_nil))
 (pss_one (ps_for PassesOwn.never rfl (pi_list (pe_lst (pa_cons (pe_op op_add (pv 10) (pe_int)) (pa_cons (pe_op op_add (pv 10) (pe_int)) pa_nil)))) (pg_name (i := 14) scLaw.nd rfl (Or.inl rfl))
 (pss_one (ps_if (pt_not (pt_val (calG N.just hg (hr.mono (by decide)) (pa_cons (by exact (calX (E := fun _ => E0) N.barH (hr.mono (by decide)) (fun σ pins H s e s' I c => passE pins σ H s e s' I c) (by exact (pa_cons (pv 7) (pa_cons (pv 8) (pa_cons (pv 14) (pa_cons (pv 12) pa_nil))))))) (pa_cons (calC N.isB (hr.mono (by decide)) (pa_cons (pv 5) (pa_cons (pv 6) (pa_cons (pv 14) (pa_cons (pv 12) pa_nil))))) pa_nil)))))
 (pss_one (ps_ret (pe_bl)))
 (pss_nil)))))))))))))) ?_
  rintro σ H ⟨sc, B, far, pO, pT, pA, pB, pF, pS, A1, A, A', h, x10, x11, x12, x13, x14, x15, x16, ⟨f0, f4⟩, L, rfl⟩ D nx rt
  refine ⟨_, rfl, _, rfl, _, _, rfl, rfl, _, rfl, _, _, rfl, rfl, _, rfl, _, rfl, _, _, rfl, rfl, .inl ⟨by decide, by decide⟩, _, _, rfl, rfl, B, _, rfl, L.bx, by omega, by omega, fun d H1 d0 d1 g1 => ⟨_, rfl, _, _, rfl, rfl, ⟨by decide, by decide⟩, (by show 5 ≤ sizeLine; decide), fun u hu => ?_⟩⟩
  have g2 := g1.new (o := .lst [.int h, .int (h - 1), .int (h + 1), .int d, .int (h / 2)]) hu
  have nu := g1.bag.away hu
  have eu := upd_same (H := H1) (a := u) (o := .lst [.int h, .int (h - 1), .int (h + 1), .int d, .int (h / 2)])
  have L2 := L.go g2
  generalize upd H1 u (.lst [.int h, .int (h - 1), .int (h + 1), .int d, .int (h / 2)]) = H2 at g2 eu L2 ⊢
  have b5 : ∀ kd, (A'.kind kd).length ≤ 5 := L.b.kind5
  have a5 : ∀ kd, (A.kind kd).length ≤ 5 := L.a.kind5
  have lk : ∀ kd, (A.kind kd).length ≤ 90 ∧ (A'.kind kd).length ≤ 90 := fun kd => ⟨Nat.le_trans (a5 kd) (by decide), Nat.le_trans (b5 kd) (by decide)⟩
  have lk2 : ∀ kd, (A.kind kd).length ≤ 1000 ∧ (A'.kind kd).length ≤ 1000 := fun kd => ⟨Nat.le_trans (a5 kd) (by decide), Nat.le_trans (b5 kd) (by decide)⟩
  have lle : A.li.length ≤ 1000 := by have := L.a.le; omega
  have el := L.el
  have bc : ∀ {n : Int}, bothF A A' n ≠ none ↔ Can A A' n := fun {n} => both_can (b5 false) (b5 true)
  refine ⟨u, rfl, ⟨_, SqL.of eu⟩, for_list (K := K) (a := u) (xs := [.int h, .int (h - 1), .int (h + 1), .int d, .int (h / 2)]) (fun i σ M => ∃ (x10 x11 x12 x13 x14 : Option V), σ = stL sc B far pO pT pA pB pF pS h [x10, x11, x12, x13, x14, x15, x16] ∧ Go B H2 M) ⟨x10, x11, x12, x13, x14, rfl, Go.refl g2.bag⟩ (fun i σ M _ h => ?_) ?_ ?_⟩
  · obtain ⟨_, _, _, _, _, _, g⟩ := h
    exact SqL.of (g.keep nu.1 nu.2 eu)
  rotate_left
  · rintro σ M ⟨x10, x11, x12, x13, x14, rfl, g⟩
    exact nx _ _ ⟨sc, B, far, pO, pT, pA, pB, pF, pS, A1, A, A', h, _, _, _, _, _, _, _, ⟨f0, f4⟩, L2.go g, rfl⟩
  rintro i x σ M hx ⟨x10, x11, x12, x13, x14, rfl, gM⟩
  obtain ⟨k, rfl⟩ : ∃ k : Int, x = .int k := by
    have hm := List.mem_of_getElem? hx
    simp only [List.mem_cons, List.not_mem_nil, or_false] at hm
    rcases hm with rfl | rfl | rfl | rfl | rfl <;> exact ⟨_, rfl⟩
  have LM := L2.go gM
  refine ⟨_, rfl, _, _, rfl, rfl, _, rfl, ite_b (fun _ => ?_) (fun ck => ?_)⟩
  · exact ⟨_, _, _, _, _, rfl, gM⟩
  have k0 : 0 ≤ k := by have := of_decide_eq_false ck; omega
  refine ⟨_, rfl, _, rfl, _, rfl, _, rfl, B, 2, rfl, LM.bx, by decide, by decide, fun w1 H3 w10 w11 g3 => ⟨_, _, rfl, rfl, .inl ⟨by decide, by decide⟩, ?_⟩⟩
  have L3 := LM.go g3
  refine ⟨pF, pS, A, A', k, 2 * w1, rfl, L3.fi, L3.se, ⟨by omega, by omega⟩, fun ne => absurd el ne, fun _ => ⟨by omega, fun z => absurd z (by omega), fun _ => ⟨lle, lk, fun _ v H4 s4 hm => ?_, fun z => absurd z (by omega)⟩⟩⟩
  have L4 := L3.same s4
  refine ⟨_, rfl, _, rfl, _, rfl, _, rfl, B, 2, rfl, L4.bx, by decide, by decide, fun w2 H5 w20 w21 g5 => ⟨_, _, rfl, rfl, .inl ⟨by decide, by decide⟩, _, _, rfl, rfl, ?_⟩⟩
  have L5 := L4.go g5
  refine ⟨pF, pS, A, A', k, 1 + 2 * w2, rfl, L5.fi, L5.se, ⟨by omega, by omega⟩, fun ne => absurd el ne, fun _ => ⟨by omega, fun z => absurd z (by omega), fun _ => ⟨lle, lk, fun z => absurd z (by omega), fun _ v2 H6 s6 hb => ⟨_, _, rfl, ?_⟩⟩⟩⟩
  have L6 := L5.same s6
  have gM6 : Go B H2 H6 := (((gM.trans g3).same s4).trans g5).same s6
  refine ⟨_, rfl, _, rfl, _, rfl, pA, pB, A, A', k, rfl, L6.a.at, L6.b.at, el, fun v7 H7 s7 bo => ?_⟩
  have L7 := L6.same s7
  have gM7 := gM6.same s7
  have e12 : decide (v7 = V.non) = decide (k < h) := by
    by_cases c : k < h
    · rw [L.low k k0 c] at bo
      rw [show v7 = V.non from bo, decide_eq_true c]
      rfl
    · have ca := (bc.mp L.top).mono (show h ≤ k by omega)
      cases e : bothF A A' k with
      | none => exact absurd e (bc.mpr ca)
      | some r =>
        rw [e] at bo
        obtain ⟨q, _, _, rfl, _⟩ := bo
        rw [decide_eq_false c]
        rfl
  refine ⟨rfl, _, rfl, _, rfl, _, _, rfl, rfl, rfl, _, rfl, ite_b (fun c => ?_) (fun _ => ?_)⟩
  · exfalso
    have c : (!decide (V.bl (decide (v7 = V.non)) = V.bl (decide (k < h)))) = true := c
    rw [e12] at c
    simp at c
  refine ⟨_, rfl, _, rfl, _, _, rfl, rfl, _, rfl, ite_b (fun ch => ?_) (fun ch => ?_)⟩
  · have ch := of_decide_eq_true ch
    have ca : Can A A' k := (bc.mp L.top).mono (show h ≤ k by omega)
    have ev2 : v2 = .non := by
      rcases hb with ⟨t, br, rfl, _, z⟩ | ⟨z, _⟩
      · rw [can_no el ca br] at z
        cases z
      · exact z
    subst ev2
    rcases hm with ⟨rfl, hh⟩ | ⟨t, l1, l2, z1, z2, r1, r2, rfl, ⟨n1, n2⟩, et, ⟨e1, q1, M1, o1⟩, ⟨e2, q2, M2, o2⟩, fn⟩
    · exact absurd rfl (mat_can (G := H3) (H := H4) el ca (.inl ⟨rfl, hh⟩))
    have m1 := L3.bx.away n1
    have m2 := L3.bx.away n2
    have s67 := Same.trans s6 s7
    have g57 : Go B H4 H7 := (g5.same s6).same s7
    refine ⟨_, rfl, rfl, _, rfl, ite_b (fun c => absurd c (by decide)) (fun _ => ?_)⟩
    refine ⟨_, rfl, _, rfl, _, rfl, _, rfl, pA, pB, t, l1, l2, z1, z2, A, A', k, r1, r2, rfl, L7.a.at, L7.b.at, el, g57.tup L4.bx et, ⟨g57.keep m1.1 m1.2 e1, q1.go L4.bx g57, M1, o1⟩, ⟨g57.keep m2.1 m2.2 e2, q2.go L4.bx g57, M2, o2⟩, ca.1, fun H8 s8 => ⟨_, rfl, iteF ?_⟩⟩
    have L8 := L7.same s8
    have gM8 := gM7.same s8
    refine ⟨Nat.zero_le _, fun t1 ht1 => ?_⟩
    have st1 := same_new (o := .tup []) ht1
    have et1 := upd_same (H := H8) (a := t1) (o := .tup [])
    have sst1 := st1
    generalize upd H8 t1 (.tup []) = Wt1 at st1 sst1 et1 ⊢
    refine ⟨(by show 1 ≤ sizeLine; decide), fun t2 ht2 => ?_⟩
    have st2 := same_new (o := .tup [.str "hollows"]) ht2
    have et2 := upd_same (H := Wt1) (a := t2) (o := .tup [.str "hollows"])
    replace et1 := st2 _ _ et1
    have sst2 := Same.trans sst1 st2
    generalize upd Wt1 t2 (.tup [.str "hollows"]) = Wt2 at st2 sst2 et1 et2 ⊢
    refine ⟨Nat.zero_le _, fun t3 ht3 => ?_⟩
    have st3 := same_new (o := .tup []) ht3
    have et3 := upd_same (H := Wt2) (a := t3) (o := .tup [])
    replace et1 := st3 _ _ et1
    replace et2 := st3 _ _ et2
    have sst3 := Same.trans sst2 st3
    generalize upd Wt2 t3 (.tup []) = Wt3 at st3 sst3 et1 et2 et3 ⊢
    refine ⟨(by show 3 ≤ sizeLine; decide), fun t4 ht4 => ?_⟩
    have st4 := same_new (o := .tup [.str "hollows", .int 0, .ref t3]) ht4
    have et4 := upd_same (H := Wt3) (a := t4) (o := .tup [.str "hollows", .int 0, .ref t3])
    replace et1 := st4 _ _ et1
    replace et2 := st4 _ _ et2
    replace et3 := st4 _ _ et3
    have sst4 := Same.trans sst3 st4
    generalize upd Wt3 t4 (.tup [.str "hollows", .int 0, .ref t3]) = Wt4 at st4 sst4 et1 et2 et3 et4 ⊢
    refine ⟨_, rfl, (by show 1 ≤ sizeLine; decide), fun t5 ht5 => ?_⟩
    have st5 := same_new (o := .tup [.int (-1)]) ht5
    have et5 := upd_same (H := Wt4) (a := t5) (o := .tup [.int (-1)])
    replace et1 := st5 _ _ et1
    replace et2 := st5 _ _ et2
    replace et3 := st5 _ _ et3
    replace et4 := st5 _ _ et4
    have sst5 := Same.trans sst4 st5
    generalize upd Wt4 t5 (.tup [.int (-1)]) = Wt5 at st5 sst5 et1 et2 et3 et4 et5 ⊢
    refine ⟨(by show 3 ≤ sizeLine; decide), fun t6 ht6 => ?_⟩
    have st6 := same_new (o := .tup [.str "summits", .int 1, .ref t5]) ht6
    have et6 := upd_same (H := Wt5) (a := t6) (o := .tup [.str "summits", .int 1, .ref t5])
    replace et1 := st6 _ _ et1
    replace et2 := st6 _ _ et2
    replace et3 := st6 _ _ et3
    replace et4 := st6 _ _ et4
    replace et5 := st6 _ _ et5
    have sst6 := Same.trans sst5 st6
    generalize upd Wt5 t6 (.tup [.str "summits", .int 1, .ref t5]) = Wt6 at st6 sst6 et1 et2 et3 et4 et5 et6 ⊢
    refine ⟨_, rfl, (by show 2 ≤ sizeLine; decide), fun t7 ht7 => ?_⟩
    have st7 := same_new (o := .tup [.str "loose", .int (-1)]) ht7
    have et7 := upd_same (H := Wt6) (a := t7) (o := .tup [.str "loose", .int (-1)])
    replace et1 := st7 _ _ et1
    replace et2 := st7 _ _ et2
    replace et3 := st7 _ _ et3
    replace et4 := st7 _ _ et4
    replace et5 := st7 _ _ et5
    replace et6 := st7 _ _ et6
    have sst7 := Same.trans sst6 st7
    generalize upd Wt6 t7 (.tup [.str "loose", .int (-1)]) = Wt7 at st7 sst7 et1 et2 et3 et4 et5 et6 et7 ⊢
    refine ⟨(by show 1 ≤ sizeLine; decide), fun t8 ht8 => ?_⟩
    have st8 := same_new (o := .tup [.str "lowest"]) ht8
    have et8 := upd_same (H := Wt7) (a := t8) (o := .tup [.str "lowest"])
    replace et1 := st8 _ _ et1
    replace et2 := st8 _ _ et2
    replace et3 := st8 _ _ et3
    replace et4 := st8 _ _ et4
    replace et5 := st8 _ _ et5
    replace et6 := st8 _ _ et6
    replace et7 := st8 _ _ et7
    have sst8 := Same.trans sst7 st8
    generalize upd Wt7 t8 (.tup [.str "lowest"]) = Wt8 at st8 sst8 et1 et2 et3 et4 et5 et6 et7 et8 ⊢
    refine ⟨(by show 8 ≤ sizeLine; decide), fun ll hll => ?_⟩
    have sll := same_new (o := .lst [.non, .ref t1, .ref t2, .ref t4, .ref t6, .ref t7, .str "lowest", .ref t8]) hll
    have ell := upd_same (H := Wt8) (a := ll) (o := .lst [.non, .ref t1, .ref t2, .ref t4, .ref t6, .ref t7, .str "lowest", .ref t8])
    replace et1 := sll _ _ et1
    replace et2 := sll _ _ et2
    replace et3 := sll _ _ et3
    replace et4 := sll _ _ et4
    replace et5 := sll _ _ et5
    replace et6 := sll _ _ et6
    replace et7 := sll _ _ et7
    replace et8 := sll _ _ et8
    have ssll := Same.trans sst8 sll
    generalize upd Wt8 ll (.lst [.non, .ref t1, .ref t2, .ref t4, .ref t6, .ref t7, .str "lowest", .ref t8]) = Wll at sll ssll et1 et2 et3 et4 et5 et6 et7 et8 ell ⊢
    have L9 := L8.same ssll
    have gM9 := gM8.same ssll
    have bars : ∀ x ∈ ([.non, .ref t1, .ref t2, .ref t4, .ref t6, .ref t7, .str "lowest", .ref t8] : List V), ∃ bo, BarO Wll x bo := fun x hx => by
      simp only [List.mem_cons, List.not_mem_nil, or_false] at hx
      rcases hx with rfl | rfl | rfl | rfl | rfl | rfl | rfl | rfl
      · exact ⟨none, .inl rfl⟩
      · exact ⟨none, .inr (.inr ⟨t1, rfl, et1⟩)⟩
      · exact ⟨some (.odd "hollows" 0), t2, rfl, .inl ⟨false, rfl, by decide⟩, [], rfl, (fun v hv => nomatch hv), et2⟩
      · exact ⟨some (.set false 0 []), t4, rfl, Nat.zero_le _, t3, et4, et3⟩
      · exact ⟨some (.set true 1 [-1]), t6, rfl, by decide, t5, et6, et5⟩
      · exact ⟨some (.loose (-1)), t7, rfl, et7⟩
      · exact ⟨none, .inr (.inl rfl)⟩
      · exact ⟨some .low, t8, rfl, et8⟩
    refine ⟨ll, rfl, ⟨_, SqL.of ell⟩, for_list (K := K) (a := ll) (xs := [.non, .ref t1, .ref t2, .ref t4, .ref t6, .ref t7, .str "lowest", .ref t8]) (fun j σ N => ∃ (x13 : Option V), σ = stL sc B far pO pT pA pB pF pS h [some (.int k), some (.ref t), some .non, x13, x14, x15, x16] ∧ Same Wll N) ⟨x13, rfl, Same.refl _⟩ (fun j σ N _ h => ?_) ?_ ?_⟩
    · obtain ⟨_, _, sN'⟩ := h
      exact SqL.of (sN' _ _ ell)
    · rintro j x σ N hx' ⟨x13, rfl, sN'⟩
      obtain ⟨bo, hbo⟩ := bars x (List.mem_of_getElem? hx')
      have LN := L9.same sN'
      refine ⟨_, rfl, _, rfl, _, rfl, _, rfl, pF, pS, x, A, A', k, bo, rfl, LN.fi, LN.se, fun ne => absurd el ne, fun _ => ⟨lle, lk2, hbo.mono sN', fun N1 sN1 => ?_⟩⟩
      have LN1 := LN.same sN1
      refine ⟨_, rfl, _, rfl, _, rfl, _, rfl, pA, pB, x, A, A', k, bo, rfl, LN1.a.at, LN1.b.at, el, (hbo.mono sN').mono sN1, fun N2 sN2 => ?_⟩
      delta tNil
      refine just_bl ⟨_, rfl, iteF ?_⟩
      exact ⟨_, rfl, Same.trans sN' (Same.trans sN1 sN2)⟩
    · rintro σ N ⟨x13, rfl, sN'⟩
      exact ⟨_, _, _, _, _, rfl, gM9.same sN'⟩
  · have ch := of_decide_eq_false ch
    have kh : k < h := by omega
    have nb := L.low k k0 kh
    have nca : ¬ Can A A' k := fun z => bc.mpr z nb
    have ev : v = .non := by
      rcases hm with ⟨z, _⟩ | ⟨t, l1, l2, z1, z2, r1, r2, _, _, _, ⟨_, _, M1, _⟩, ⟨_, _, M2, _⟩, fn⟩
      · exact z
      · exact absurd (can_of el fn fun kd => by cases kd; exact ⟨_, M1⟩; exact ⟨_, M2⟩) nca
    subst ev
    obtain ⟨t, br, rfl, hbr, eb⟩ : ∃ t br, v2 = .ref t ∧ BarAt H6 t br ∧ barB A A' k br = true := by
      rcases hb with z | ⟨_, fn, hM⟩
      · exact z
      · exact absurd (can_of el fn hM) nca
    have hb7 : BarO H7 (.ref t) (some br) := ⟨t, rfl, hbr.mono s7⟩
    have ebo : barO A A' k (some br) = true := eb
    refine ⟨_, rfl, rfl, _, rfl, ite_b (fun c => absurd c (by decide)) (fun _ => ?_)⟩
    refine ⟨_, rfl, _, rfl, _, rfl, _, rfl, pA, pB, .ref t, A, A', k, some br, rfl, L7.a.at, L7.b.at, el, hb7, fun H8 s8 => ?_⟩
    rw [ebo]
    refine ⟨_, rfl, iteF ?_⟩
    have L8 := L7.same s8
    refine ⟨_, rfl, _, rfl, _, rfl, _, rfl, pF, pS, .ref t, A, A', k, some br, rfl, L8.fi, L8.se, fun ne => absurd el ne, fun _ => ⟨lle, lk2, hb7.mono s8, fun H9 s9 => ?_⟩⟩
    rw [ebo]
    delta tCons tC tNil
    refine just_bl ⟨_, rfl, iteF ?_⟩
    have L9 := L8.same s9
    refine ⟨_, rfl, _, _, rfl, rfl, _, rfl, _, _, rfl, rfl, (by show 2 ≤ sizeLine; decide), fun ll hll => ?_⟩
    have s10 := same_new (o := .lst [.int (k + 1), .int (k + 3)]) hll
    have ell := upd_same (H := H9) (a := ll) (o := .lst [.int (k + 1), .int (k + 3)])
    have s710 := Same.trans (Same.trans s8 s9) s10
    generalize upd H9 ll (.lst [.int (k + 1), .int (k + 3)]) = W at s10 ell s710 ⊢
    have LW := L7.same s710
    have hbW := hb7.mono s710
    refine ⟨ll, rfl, ⟨_, SqL.of ell⟩, for_list (K := K) (a := ll) (xs := [.int (k + 1), .int (k + 3)]) (fun j σ N => ∃ (x14 : Option V), σ = stL sc B far pO pT pA pB pF pS h [some (.int k), some .non, some (.ref t), x13, x14, x15, x16] ∧ Same W N) ⟨x14, rfl, Same.refl _⟩ (fun j σ N _ h => ?_) ?_ ?_⟩
    · obtain ⟨_, _, sN'⟩ := h
      exact SqL.of (sN' _ _ ell)
    · rintro j x σ N hx' ⟨x14, rfl, sN'⟩
      obtain ⟨kk, rfl⟩ : ∃ kk : Int, x = .int kk := by
        have hm := List.mem_of_getElem? hx'
        simp only [List.mem_cons, List.not_mem_nil, or_false] at hm
        rcases hm with rfl | rfl <;> exact ⟨_, rfl⟩
      have LN := LW.same sN'
      refine ⟨_, rfl, _, rfl, _, rfl, _, rfl, pF, pS, .ref t, A, A', kk, some br, rfl, LN.fi, LN.se, fun ne => absurd el ne, fun _ => ⟨lle, lk2, hbW.mono sN', fun N1 sN1 => ?_⟩⟩
      have LN1 := LN.same sN1
      refine ⟨_, rfl, _, rfl, _, rfl, _, rfl, pA, pB, .ref t, A, A', kk, some br, rfl, LN1.a.at, LN1.b.at, el, (hbW.mono sN').mono sN1, fun N2 sN2 => ?_⟩
      refine just_bl ⟨_, rfl, iteF ?_⟩
      exact ⟨_, rfl, Same.trans sN' (Same.trans sN1 sN2)⟩
    · rintro σ N ⟨x14, rfl, sN'⟩
      exact ⟨_, _, _, _, _, rfl, (gM7.same s710).same sN'⟩
end
end Lw
namespace Lw
open PySem PySem.Spec PyProof.Rows L2 XV TL XM DO
section
variable {P : Program} {w : World} {K : PySem.W.Frag} {mg : Str → Option Value} {base : Heap} {f : Addr} {cdv : Value} {A : Around} {outer : List Env} {s : Shared} {H0 : Hp} {E : XK} {c : CA} {C : Addr}
theorem blkC (N : LEnv P w K mg base c C) (hg : (XL P w K mg base f cdv A outer s H0 E).A.guards = some []) (hr : Room 7 (XL P w K mg base f cdv A outer s H0 E).A) : Does (XL P w K mg base f cdv A outer s H0 E) (((defBody sLaw).drop 7).drop 1) (posL K C) (fun _ _ => False) RtL := by
  have T := N.T
  refine Does.of (pss_cons (ps_par (i := 15) (j := 16) rfl scLaw.nd rfl rfl (by decide) rfl rfl (pa_cons (calC N.take (hr.mono (by decide)) (pa_cons (pv 1) (pa_cons (pe_int) pa_nil))) (pa_cons (pe_op op_sub (pe_op op_sub (pe_int) (pe_int)) (calC N.take (hr.mono (by decide)) (pa_cons (pv 1) (pa_cons (pe_int) pa_nil)))) pa_nil)) (by rfl))
 (pss_cons (ps_if (pt_not (pt_val (calG N.just hg (hr.mono (by decide)) (pa_cons (calC N.ask (hr.mono (by decide)) (pa_cons (pv 7) (pa_cons (pv 8) (pa_cons (pv 16) (pa_cons (pv 15) pa_nil))))) (pa_cons (pe_tup (pa_cons (pe_str) (pa_cons (pe_str) (pa_cons (pe_str) pa_nil)))) pa_nil)))))
 (pss_one (ps_ret (pe_bl)))
 (pss_nil))
 (pss_cons (ps_set (i := 14) scLaw.nd rfl (Or.inl rfl) (calC N.made (hr.mono (by decide)) (pa_cons (pe_op op_cat (pe_op op_cat (pe_slice sl_list (pv 4) (po_none) (po_some (pe_int))) (pe_lst (pa_cons (pe_op op_cat (pe_ix ix_list (pv 4) (pe_int) (fun _ _ => rfl)) (pe_lst (pa_cons (pv 9) pa_nil))) pa_nil))) (pe_slice sl_list (pv 4) (po_some (pe_int)) (po_none))) pa_nil)))
 (pss_cons (ps_for PassesOwn.never rfl (pi_list (pe_lst (pa_cons (pe_int) (pa_cons (pe_int) (pa_cons (pe_int) pa_nil))))) (pg_name (i := 10) scLaw.nd rfl (Or.inl rfl))
 (pss_one (ps_if (pt_not (pt_val (calG N.just hg (hr.mono (by decide)) (pa_cons (calC N.ask (hr.mono (by decide)) (pa_cons (pv 7) (pa_cons (pv 14) (pa_cons (pv 16) (pa_cons (pv 10) pa_nil))))) (pa_cons (pe_tup (pa_cons (pe_str) (pa_cons (pe_str) (pa_cons (pe_str) pa_nil)))) pa_nil)))))
 (pss_one (ps_ret (pe_bl)))
 (pss_nil))))
 (pss_one (ps_ret (pe_bl))))))) ?_
  rintro σ H ⟨sc, B, far, pO, pT, pA, pB, pF, pS, A1, A, A', h, x10, x11, x12, x13, x14, x15, x16, _, L, rfl⟩ D nx rt
  refine ⟨_, rfl, B, 4, rfl, L.bx, by decide, by decide, fun wy H1 w0 w1 g1 => ⟨_, _, rfl, rfl, _, rfl, B, 5, rfl, g1.bag, by decide, by decide, fun d H2 d0 d1 g2 => ⟨_, _, rfl, rfl, _, _, rfl, ?_⟩⟩⟩
  have L4 := L.go (g1.trans g2)
  have neg : (0 : Int) - 1 - d < 0 := by omega
  refine ⟨_, rfl, _, rfl, _, rfl, _, rfl, pF, pS, A, A', 0 - 1 - d, wy, rfl, L4.fi, L4.se, ⟨by omega, by omega⟩, fun ne => absurd L.el ne, fun _ => ⟨by omega, fun _ => fun t5 H5 s5 n5 et5 => ?_, fun hp => absurd hp (by omega)⟩⟩
  refine ⟨(by show 3 ≤ sizeLine; decide), fun t6 ht6 => ?_⟩
  have s6 := same_new (o := .tup [.str "BadValue", .str "BadValue", .str "n"]) ht6
  delta tNil
  refine just_w3 (by decide +kernel) (by decide +kernel) (by decide +kernel) (s6 _ _ et5) upd_same ⟨_, rfl, iteF ?_⟩
  have L6 := L4.same (Same.trans s5 s6)
  generalize upd H5 t6 (.tup [.str "BadValue", .str "BadValue", .str "n"]) = H6 at L6 ⊢
  clear s5 s6 et5 n5
  obtain ⟨hh, ss, ll, eO, rh, rs, el, _⟩ := L6.two.ex
  refine ⟨_, rfl, _, rfl, pT, _, rfl, SqL.of eO, fun p1 hp1 => ?_⟩
  rw [show cutV [V.ref hh, V.ref ss, V.ref ll, V.int A1.lo, V.int A1.hi] none (some 2) = [V.ref hh, V.ref ss] from rfl]
  have u1 := same_new (o := .lst [.ref hh, .ref ss]) hp1
  have ep1 := upd_same (H := H6) (a := p1) (o := .lst [.ref hh, .ref ss])
  generalize upd H6 p1 (.lst [.ref hh, .ref ss]) = M1 at u1 ep1 ⊢
  refine ⟨_, rfl, pT, _, 2, _, rfl, rfl, SqL.of (u1 _ _ eO), rfl, _, rfl, (by show 1 ≤ sizeLine; decide), fun p2 hp2 => ?_⟩
  have u2 := same_new (o := .lst [.int h]) hp2
  have u12 := Same.trans u1 u2
  have ep2 := upd_same (H := M1) (a := p2) (o := .lst [.int h])
  have ep1 := u2 _ _ ep1
  generalize upd M1 p2 (.lst [.int h]) = M2 at u2 u12 ep1 ep2 ⊢
  refine ⟨ll, p2, _, _, rfl, rfl, u12 _ _ el, ep2, by rw [List.length_map, sizeLine_eq]; have := L.l3; show _ + 1 ≤ _; omega, fun p3 hp3 => ?_⟩
  have u3 := same_new (o := .lst (A1.li.map V.int ++ [.int h])) hp3
  have u13 := Same.trans u12 u3
  have ep3 := upd_same (H := M2) (a := p3) (o := .lst (A1.li.map V.int ++ [.int h]))
  have ep1 := u3 _ _ ep1
  generalize upd M2 p3 (.lst (A1.li.map V.int ++ [.int h])) = M3 at u3 u13 ep1 ep3 ⊢
  refine ⟨(by show 1 ≤ sizeLine; decide), fun p4 hp4 => ?_⟩
  have u4 := same_new (o := .lst [.ref p3]) hp4
  have u14 := Same.trans u13 u4
  have ep4 := upd_same (H := M3) (a := p4) (o := .lst [.ref p3])
  have ep1 := u4 _ _ ep1
  have ep3 := u4 _ _ ep3
  generalize upd M3 p4 (.lst [.ref p3]) = M4 at u4 u14 ep1 ep3 ep4 ⊢
  refine ⟨p1, p4, _, _, rfl, rfl, ep1, ep4, (by show 3 ≤ sizeLine; decide), fun p5 hp5 => ?_⟩
  have u5 := same_new (o := .lst ([.ref hh, .ref ss] ++ [.ref p3])) hp5
  have u15 := Same.trans u14 u5
  have ep5 := upd_same (H := M4) (a := p5) (o := .lst ([.ref hh, .ref ss] ++ [.ref p3]))
  have ep3 := u5 _ _ ep3
  generalize upd M4 p5 (.lst ([.ref hh, .ref ss] ++ [.ref p3])) = M5 at u5 u15 ep3 ep5 ⊢
  refine ⟨_, rfl, _, rfl, pT, _, rfl, SqL.of (u15 _ _ eO), fun p6 hp6 => ?_⟩
  rw [show cutV [V.ref hh, V.ref ss, V.ref ll, V.int A1.lo, V.int A1.hi] (some 3) none = [V.int A1.lo, V.int A1.hi] from rfl]
  have u6 := same_new (o := .lst [.int A1.lo, .int A1.hi]) hp6
  have u16 := Same.trans u15 u6
  have ep6 := upd_same (H := M5) (a := p6) (o := .lst [.int A1.lo, .int A1.hi])
  have ep3 := u6 _ _ ep3
  have ep5 := u6 _ _ ep5
  generalize upd M5 p6 (.lst [.int A1.lo, .int A1.hi]) = M6 at u6 u16 ep3 ep5 ep6 ⊢
  refine ⟨p5, p6, _, _, rfl, rfl, ep5, ep6, (by show 5 ≤ sizeLine; decide), fun p7 hp7 => ?_⟩
  have u7 := same_new (o := .lst (([.ref hh, .ref ss] ++ [.ref p3]) ++ [.int A1.lo, .int A1.hi])) hp7
  have u17 := Same.trans u16 u7
  have ep7 := upd_same (H := M6) (a := p7) (o := .lst (([.ref hh, .ref ss] ++ [.ref p3]) ++ [.int A1.lo, .int A1.hi]))
  have ep3 := u7 _ _ ep3
  generalize upd M6 p7 (.lst (([.ref hh, .ref ss] ++ [.ref p3]) ++ [.int A1.lo, .int A1.hi])) = M7 at u7 u17 ep3 ep7 ⊢
  have five : FiveAt M7 p7 ⟨A1.hs, A1.ss, A1.li ++ [h], A1.lo, A1.hi⟩ := ⟨⟨hh, ss, p3, ep7, rh.mono u17, rs.mono u17, by rw [List.map_append]; exact ep3⟩, by
    have := L.l3
    show (A1.li ++ [h]).length ≤ 4
    rw [List.length_append]
    show _ + 1 ≤ 4
    omega⟩
  refine ⟨p7, _, rfl, five, fun pM A2 M8 s8 nM so lv => ?_⟩
  have L8 := (L6.same u17).same s8
  have ne : A.li.length ≠ A2.li.length := by
    have e1 : A2.li.length = (A1.li ++ [h]).length := so.len
    have e2 := L.el1
    rw [e1, List.length_append]
    show _ ≠ _ + 1
    omega
  refine ⟨(by show 3 ≤ sizeLine; decide), fun u hu => ?_⟩
  have s9 := same_new (o := .lst [.int 0, .int 1, .int 4]) hu
  have eu := upd_same (H := M8) (a := u) (o := .lst [.int 0, .int 1, .int 4])
  have L9 := L8.same s9
  have lv9 := lv.mono s9
  generalize upd M8 u (.lst [.int 0, .int 1, .int 4]) = M9 at s9 eu L9 lv9 ⊢
  refine ⟨u, rfl, ⟨_, SqL.of eu⟩, for_list (K := K) (a := u) (xs := [.int 0, .int 1, .int 4]) (fun i σ M => ∃ (x10 : Option V), σ = stL sc B far pO pT pA pB pF pS h [x10, x11, x12, x13, some (.ref pM), some (.int wy), some (.int (0 - 1 - d))] ∧ Same M9 M) ⟨x10, rfl, Same.refl _⟩ (fun i σ M _ h => ?_) ?_ ?_⟩
  · obtain ⟨_, _, sM⟩ := h
    exact SqL.of (sM _ _ eu)
  · rintro i x σ M hx ⟨x10, rfl, sM⟩
    obtain ⟨kk, rfl, k0, k1⟩ : ∃ kk : Int, x = .int kk ∧ 0 ≤ kk ∧ kk < 5 := by
      have hm := List.mem_of_getElem? hx
      simp only [List.mem_cons, List.not_mem_nil, or_false] at hm
      rcases hm with rfl | rfl | rfl
      · exact ⟨0, rfl, by decide, by decide⟩
      · exact ⟨1, rfl, by decide, by decide⟩
      · exact ⟨4, rfl, by decide, by decide⟩
    have LM := L9.same sM
    refine ⟨_, rfl, _, rfl, _, rfl, _, rfl, pF, pM, A, A2, 0 - 1 - d, kk, rfl, LM.fi, lv9.mono sM, ⟨k0, k1⟩, fun _ => fun t5 H5 s5 n5 et5 => ?_, fun e => absurd e ne⟩
    refine ⟨(by show 3 ≤ sizeLine; decide), fun t6 ht6 => ?_⟩
    have s6 := same_new (o := .tup [.str "Unlike", .str "Unlike", .str "handles"]) ht6
    first | delta tNil | skip
    refine just_w3 (by decide +kernel) (by decide +kernel) (by decide +kernel) (s6 _ _ et5) upd_same ⟨_, rfl, iteF ?_⟩
    exact ⟨_, rfl, Same.trans sM (Same.trans s5 s6)⟩
  · rintro σ M ⟨x10, rfl, sM⟩
    exact rt _ _ rfl
theorem ok_lawG {f : Addr} {fd : FuncData} (F : Fun K "law" "law" sLaw f fd) (N : LEnv P w K mg base c C) : FnOkG P w K mg base CX0 8 f fd ["script"] (spLaw K) := by
  refine okG F scLaw (fun vs H Q E h => ?_) (fun cdv A outer s H vs Q E hg hr h => ?_)
  · obtain ⟨a, ns, rfl, _⟩ := h
    rfl
  · obtain ⟨a, ns, rfl, hS, hl, k⟩ := h
    have D : Does (XL P w K mg base f cdv A outer s H E) (defBody sLaw) (preA K) (fun _ _ => False) RtL :=
      .cut 7 (blkA N (by exact hr)) (.cut 1 (blkB N (by exact hg) (by exact hr)) (blkC N (by exact hg) (by exact hr)))
    refine ⟨_, D.pss, ⟨a, ns, rfl, hS, hl⟩, fun _ _ h => h.elim, fun v H' h => ?_⟩
    have h : v = .bl true := h
    subst h
    exact k H'
end
end Lw
namespace GO
open PySem PySem.Spec PyProof.Rows L2 Lw
/-! the end of a law whose promise wants that no repr is under way -/
section
variable {P : Program} {w : World} {K : PySem.W.Frag} {mg mz : Str → Option Value} {t : Shared} {H : Hp} {sc fa : Addr} {us : List Value} {is : List Int}
/-- what stands behind the top, the script in H alone -/
structure Top (K : PySem.W.Frag) (mg : Str → Option Value) (t : Shared) (sc : Addr) (us : List Value) (is : List Int) : Prop where
  kin : K.In t.heap
  own : t.heap.Ns mainGlobals mg
  bi : ∃ mz, t.heap.Ns builtinsNs mz ∧ ∀ x : Str, x ≠ "__name__" → mz x = bootBuiltins x
  lim : t.heap.NoLimit
  gens : t.gens = #[]
  at_ : t.heap.get? sc = some { cls := .type "list", data := .seq us.toArray }
  isI : IntsAre us is
  few : is.length ≤ sizeLine
/-- H tracks the script or nothing -/
structure Alone (P : Program) (w : World) (K : PySem.W.Frag) (H : Hp) (h : Heap) (sc : Addr) (is : List Int) : Prop where
  only : Only H
  seq : SqL K H sc (is.map V.int)
  ok : HOk P w H h
  one : ∀ b, H b ≠ none → b = sc
  free : H sc ≠ none → K.lookup sc = none
theorem Alone.dict (T : Top K mg t sc us is) (L : Alone P w K H t.heap sc is) {b : Addr} {o : Obj} {es : Array DictEntry} {n : Nat} (e : t.heap.get? b = some o) (d : o.data = .dict es n) : H b = none := by
  by_cases hb : H b = none
  · exact hb
  · have hs := L.one b hb
    rw [hs, T.at_] at e
    cases e
    cases (show Data.seq us.toArray _ = Data.dict es n from d)
theorem Alone.ns (T : Top K mg t sc us is) (L : Alone P w K H t.heap sc is) {b : Addr} {m : Str → Option Value} (h : t.heap.Ns b m) : (hidT t.heap H).Ns b m := by
  obtain ⟨o, es, n, e, d, r⟩ := h
  exact ⟨o, es, n, hidT_get e (L.dict T e d), d, r⟩
theorem Alone.kin (T : Top K mg t sc us is) (L : Alone P w K H t.heap sc is) : K.In (hidT t.heap H) := by
  intro b o e
  refine hidT_get (T.kin b o e) ?_
  by_cases hb : H b = none
  · exact hb
  · have hs := L.one b hb
    subst hs
    rw [L.free hb] at e
    cases e
theorem Alone.env (T : Top K mg t sc us is) (L : Alone P w K H t.heap sc is) : Env0 P w K mg (hidT t.heap H) callerA [] t H := by
  obtain ⟨mz, z1, z2⟩ := T.bi
  obtain ⟨ml, l1, l2⟩ := T.lim
  have hm : Mod K mg (hidT t.heap H) := ⟨L.kin T, L.ns T T.own, ⟨mz, L.ns T z1, z2⟩, ⟨ml, L.ns T l1, l2⟩⟩
  refine ⟨rfl, hm, fun _ _ e => of_hidT e, by rw [hidT_size]; exact Nat.le_refl _, trivial, fun b hb => ?_, L.ok, .of_eq T.gens⟩
  cases (show b ∈ ([] : List Addr) from hb)
/-- the law's call from H -/
theorem Alone.call {k : Nat} {fd : FuncData} {x : Str} {sp : Sp} (T : Top K mg t sc us is) (L : Alone P w K H t.heap sc is) (hr : Room k callerA) (F : ∀ base : Heap, K.In base → base.Ns mainGlobals mg → FnOkG P w K mg base CX0 k fa fd [x] sp)
    (hb : ∀ (s : Shared) (u : Value), BindsTo s fd ⟨[u], []⟩ [(x, u)]) (hs : sp [.ref sc] H (fun v _ => v = .bl true) fun _ _ _ => False) :
    codeAny (model P w) callerA (.call (.ref fa) ⟨[.ref sc], []⟩) (fun r s' => r = .ok (.ret (.bool true)) ∧ OldK t.heap s'.heap ∧ s'.os = t.os ∧ AllBare s'.gens) t := by
  have G := F _ (L.kin T) (L.ns T T.own)
  refine codeAny_mono (G.run callerA [] t H ⟨[.ref sc], []⟩ [.ref sc] [.ref sc] _ _ rfl hr (L.env T) (hb t (.ref sc)) (.cons rfl .nil) hs) fun r s' q => ?_
  match r, q with
  | .ok (.ret u), ⟨v, H', os, bare, un, ok', rv, qv⟩ =>
    have qv : v = .bl true := qv
    subst qv
    have hu : u = Value.bool true := rv
    subst hu
    refine ⟨rfl, OldK.of_keep fun b o e => ?_, os, bare⟩
    rcases L.only b with hn | ⟨ob, xs, hf⟩
    · exact un.keep b o e hn (fun z => by cases (show b ∈ ([] : List Addr) from z)) (by simp)
    · obtain ⟨i1, _⟩ := L.ok b _ hf
      obtain ⟨i2, _⟩ := ok' b _ (un.frzs b ob _ hf)
      rw [i1] at e
      cases e
      exact i2
theorem call_of {k : Nat} {fd : FuncData} {x : Str} {sp : Sp} (T : Top K mg t sc us is) (hr : Room k callerA) (F : ∀ base : Heap, K.In base → base.Ns mainGlobals mg → FnOkG P w K mg base CX0 k fa fd [x] sp)
    (hb : ∀ (s : Shared) (u : Value), BindsTo s fd ⟨[u], []⟩ [(x, u)]) (hs : ∀ H : Hp, SqL K H sc (is.map V.int) → sp [.ref sc] H (fun v _ => v = .bl true) fun _ _ _ => False) :
    codeAny (model P w) callerA (.call (.ref fa) ⟨[.ref sc], []⟩) (fun r s' => r = .ok (.ret (.bool true)) ∧ OldK t.heap s'.heap ∧ s'.os = t.os ∧ AllBare s'.gens) t := by
  have rv := vals_ints T.isI
  cases hk : K.lookup sc with
  | some o =>
    have e := T.kin sc o hk
    rw [T.at_] at e
    cases e
    have sq : SqL K (fun _ => none) sc (is.map V.int) := .inr ⟨_, us.toArray, _, hk, rfl, rfl, rfl, by rw [List.size_toArray, T.isI.length]; exact T.few, by simpa using rv⟩
    exact Alone.call T ⟨fun _ => .inl rfl, sq, fun b u z => (by cases (show (none : Option HO) = some u from z)), fun b z => absurd rfl z, fun z => absurd rfl z⟩ hr F hb (hs _ sq)
  | none =>
    let Hs : Hp := fun b => if b = sc then some (.frz { cls := .type "list", data := .seq us.toArray } (.lst (is.map V.int))) else none
    have h1 : Hs sc = some (.frz { cls := .type "list", data := .seq us.toArray } (.lst (is.map V.int))) := if_pos rfl
    have h2 : ∀ b, b ≠ sc → Hs b = none := fun b n => if_neg n
    have sq : SqL K Hs sc (is.map V.int) := .inl (.inr ⟨_, h1⟩)
    refine Alone.call T ⟨fun b => ?_, sq, fun b u z => ?_, fun b z => ?_, fun _ => hk⟩ hr F hb (hs _ sq)
    · by_cases n : b = sc
      · rw [n]
        exact .inr ⟨_, _, h1⟩
      · exact .inl (h2 b n)
    · by_cases n : b = sc
      · subst n
        rw [h1] at z
        cases z
        exact ⟨T.at_, by rw [List.length_map]; exact T.few, us, _, rv, T.at_⟩
      · rw [h2 b n] at z
        cases z
    · by_cases n : b = sc
      · exact n
      · exact absurd (h2 b n) z
end
theorem walkG {l : PySem.W.OpenLaw} {q : Program} {loose : List Str} {XP : (Str → Option Value) → Heap → Prop} {YP : World → Heap → Prop} {d : DefRec} {K : Params → PySem.W.Frag} {k : Nat} {sp : PySem.W.Frag → Sp} (hr : Room k callerA) (hn : l.most = some 63) (hdf : d.params.defaults = [])
    (hY : ∀ (w : World) (h : Heap), YP w h → (K w.params).In h)
    (F : ∀ (w : World) (mg : Str → Option Value) (fa : Addr) (h : Heap), (K w.params).In h → h.Ns mainGlobals mg → mg d.name = some (.ref fa) →
      ∃ fd : FuncData, (∀ (s : Shared) (u : Value), BindsTo s fd ⟨[u], []⟩ [("script", u)]) ∧ ∀ base : Heap, (K w.params).In base → base.Ns mainGlobals mg → FnOkG l.prog w (K w.params) mg base CX0 k fa fd ["script"] (sp (K w.params)))
    (hs : ∀ (K : PySem.W.Frag) (H : Hp) (a : Addr) (is : List Int), is.length ≤ 63 → SqL K H a (is.map V.int) → sp K [.ref a] H (fun v _ => v = .bl true) fun _ _ _ => False) :
    PySem.W.WalkO q loose XP YP l.row.toRowW d [] (fun f vs => PySem.call f vs) := by
  refine Att.attach_call hn hdf fun w _ t mg mz fa _ _ _ _ sc us is G Y _ _ _ hmg hobj hints hlen hgens => ?_
  have kin := hY w _ Y
  obtain ⟨fd, hb, hF⟩ := F w mg fa _ kin G.T.g hmg
  exact call_of ⟨kin, G.T.g, ⟨mz, G.T.b, G.T.builtins⟩, G.T.nolimit, hgens, hobj, hints, Nat.le_trans hlen (by decide)⟩ hr hF hb fun H hS => hs _ H sc is hlen hS
end GO
namespace Lw
open PySem PySem.Spec PyProof.Rows L2 XV TL XM DO
/-- what the written part must say of an own exception class -/
def clOk (K : PySem.W.Frag) (C f : Addr) (tl : List Value) (newId : String) (ns : List Str) : Bool :=
  PySem.W.excInitIn K C tl newId && (PySem.W.excOver K C tl && (PySem.W.hasDictIn K C && (PySem.W.findIn K (.ref C) "__setattr__" == some (some (.builtin "object.__setattr__")) && (PySem.W.findIn K (.ref C) "__getattribute__" == some (some (.builtin "BaseException.__getattribute__")) &&
  (PySem.W.findIn K (.ref C) "__getattr__" == some none && (PySem.W.subIn K (.ref C) (.type "BaseException") == some true && (PySem.W.typeIn K (.ref C) == some (.type "type") && (PySem.W.keepIn K (.ref C) && (PySem.W.findIn K (.ref C) "__class__" == some (some (.builtin "object.__class__")) &&
  (PySem.W.mroIn K C (.type "object") == some true && (PySem.W.typeIn K (.ref f) == some (.type "function") && ("code" :: ns : List Str).all fun x => PySem.W.findIn K (.ref C) x == some none)))))))))))
theorem xc_of {K : PySem.W.Frag} {mg : Str → Option Value} {nm qn : Str} {newId : String} {tl : List Value} {st : Stmt} {ns : List Str} {C f : Addr} {fd : FuncData} (h : clOk K C f tl newId ns = true) (iC : PySem.W.findIn K (.ref C) "__init__" = some (some (.ref f))) (F : Fun K "__init__" qn st f fd)
    (bd : Binds K fd ("self" :: ns) []) (g : mg nm = some (.ref C)) : XC K mg nm qn newId tl st ns C f fd := by
  simp only [clOk, Bool.and_eq_true, beq_iff_eq, List.all_eq_true] at h
  obtain ⟨h1, h2, h3, h4, h5, h6, h7, h8, h9, h10, h11, h12, h13⟩ := h
  exact ⟨⟨h1, h2, h3, h4, h5, h6, h7, h8, h9, h10, h11⟩, iC, h12, F, bd, g, h13⟩
/-- what it must say of Lives -/
def lvOk (K : PySem.W.Frag) (C fI : Addr) : Bool :=
  PySem.W.plainGet K C Str.empty && (PySem.W.hasDictIn K C && (PySem.W.plainOver K C && (PySem.W.findIn K (.ref C) "__setattr__" == some (some (.builtin "object.__setattr__")) && ((["hollows", "summits", "loose", "lowest", "highest", "handles"] : List Str).all (fun x => PySem.W.findIn K (.ref C) x == some none) &&
  (PySem.W.makesIn K C && (PySem.W.isFn K (.ref fI) && PySem.W.keepIn K (.ref C)))))))
structure LvFacts (K : PySem.W.Frag) (C fI : Addr) : Prop where
  L : LCls K C
  mkC : PySem.W.findIn K (.ref C) "__init__" = some (some (.ref fI)) → Mk K C fI
theorem lv_of {K : PySem.W.Frag} {C fI : Addr} (h : lvOk K C fI = true) : LvFacts K C fI := by
  simp only [lvOk, Bool.and_eq_true, beq_iff_eq, List.all_eq_true] at h
  obtain ⟨h1, h2, h3, h4, h5, h6, h7, h8⟩ := h
  have cl : Cls K C := ⟨h1, h2, h3, h4⟩
  exact ⟨⟨cl, h5 _ (by simp), h5 _ (by simp), h5 _ (by simp), h5 _ (by simp), h5 _ (by simp), h5 _ (by simp)⟩, fun e => ⟨h6, e, h7, h8⟩⟩
def exOk (K : PySem.W.Frag) (CV CU : Addr) : Bool := PySem.W.exmOne K (.ref CV) (.ref CV) == some true && (PySem.W.exmOne K (.ref CU) (.ref CV) == some false && PySem.W.exmOne K (.ref CU) (.ref CU) == some true)
theorem all_mk {l : PySem.W.OpenLaw} {w : World} {K : PySem.W.Frag} {h : Heap} {mg : Str → Option Value} {fa : Addr} {fd0 fd1 fd2 fd3 fd4 fd5 fd6 fd7 fd8 fd9 fd10 fd11 fd12 fd13 fd14 fd15 fd16 fd17 fd18 fd19 fd20 fd21 fd22 fd23 fd24 fd25 fd26 fd27 fd28 fd29 fd30 fd31 fd32 fd33 fd34 fd35 fd36 fd37 fd38 fd39 fm0 fx0 fx1 CV CU C : Addr} {odd0 and0 odd1 and1 odd2 and2 odd3 and3 odd4 and4 odd5 and5 odd6 and6 odd7 and7 odd8 and8 odd9 and9 odd10 and10 odd11 and11 odd12 and12 odd13 and13 odd14 and14 odd15 and15 odd16 and16 odd17 and17 odd18 and18 odd19 and19 odd20 and20 odd21 and21 odd22 and22 odd23 and23 odd24 and24 odd25 and25 odd26 and26 odd27 and27 odd28 and28 odd29 and29 odd30 and30 odd31 and31 odd32 and32 odd33 and33 odd34 and34 odd35 and35 odd36 and36 odd37 and37 odd38 and38 odd39 and39 odm0 anm0 odx0 anx0 odx1 anx1 : Option Addr} {sld0 sld1 sld2 sld3 sld4 sld5 sld6 sld7 sld8 sld9 sld10 sld11 sld12 sld13 sld14 sld15 sld16 sld17 sld18 sld19 sld20 sld21 sld22 sld23 sld24 sld25 sld26 sld27 sld28 sld29 sld30 sld31 sld32 sld33 sld34 sld35 sld36 sld37 sld38 sld39 slm0 slx0 slx1 : Array (Option Value)} {ocd0 kVd0 dcd0 pmd0 cdd0 ctd0 ocd1 kVd1 dcd1 pmd1 cdd1 ctd1 ocd2 kVd2 dcd2 pmd2 cdd2 ctd2 ocd3 kVd3 dcd3 pmd3 cdd3 ctd3 ocd4 kVd4 dcd4 pmd4 cdd4 ctd4 ocd5 kVd5 dcd5 pmd5 cdd5 ctd5 ocd6 kVd6 dcd6 pmd6 cdd6 ctd6 ocd7 kVd7 dcd7 pmd7 cdd7 ctd7 ocd8 kVd8 dcd8 pmd8 cdd8 ctd8 ocd9 kVd9 dcd9 pmd9 cdd9 ctd9 ocd10 kVd10 dcd10 pmd10 cdd10 ctd10 ocd11 kVd11 dcd11 pmd11 cdd11 ctd11 ocd12 kVd12 dcd12 pmd12 cdd12 ctd12 ocd13 kVd13 dcd13 pmd13 cdd13 ctd13 ocd14 kVd14 dcd14 pmd14 cdd14 ctd14 ocd15 kVd15 dcd15 pmd15 cdd15 ctd15 ocd16 kVd16 dcd16 pmd16 cdd16 ctd16 ocd17 kVd17 dcd17 pmd17 cdd17 ctd17 ocd18 kVd18 dcd18 pmd18 cdd18 ctd18 ocd19 kVd19 dcd19 pmd19 cdd19 ctd19 ocd20 kVd20 dcd20 pmd20 cdd20 ctd20 ocd21 kVd21 dcd21 pmd21 cdd21 ctd21 ocd22 kVd22 dcd22 pmd22 cdd22 ctd22 ocd23 kVd23 dcd23 pmd23 cdd23 ctd23 ocd24 kVd24 dcd24 pmd24 cdd24 ctd24 ocd25 kVd25 dcd25 pmd25 cdd25 ctd25 ocd26 kVd26 dcd26 pmd26 cdd26 ctd26 ocd27 kVd27 dcd27 pmd27 cdd27 ctd27 ocd28 kVd28 dcd28 pmd28 cdd28 ctd28 ocd29 kVd29 dcd29 pmd29 cdd29 ctd29 ocd30 kVd30 dcd30 pmd30 cdd30 ctd30 ocd31 kVd31 dcd31 pmd31 cdd31 ctd31 ocd32 kVd32 dcd32 pmd32 cdd32 ctd32 ocd33 kVd33 dcd33 pmd33 cdd33 ctd33 ocd34 kVd34 dcd34 pmd34 cdd34 ctd34 ocd35 kVd35 dcd35 pmd35 cdd35 ctd35 ocd36 kVd36 dcd36 pmd36 cdd36 ctd36 ocd37 kVd37 dcd37 pmd37 cdd37 ctd37 ocd38 kVd38 dcd38 pmd38 cdd38 ctd38 ocd39 kVd39 dcd39 pmd39 cdd39 ctd39 ocm0 kVm0 dcm0 pmm0 cdm0 ctm0 ocx0 kVx0 dcx0 pmx0 cdx0 ctx0 ocx1 kVx1 dcx1 pmx1 cdx1 ctx1 : Value} (X : K.In h) (G : h.Ns mainGlobals mg) (hfa : mg "law" = some (.ref fa))
    (ad0 : PySem.W.nsIn K mainGlobals "_law_box" = some (some (.ref fd0)))
    (ld0 : K.lookup fd0 = some ⟨ocd0, odd0, .func (PySem.W.fnOf "_law_box" "_law_box" (defArgs sBox) (defBody sBox) (defScope sBox) .none kVd0 dcd0 pmd0 and0 cdd0 ctd0), sld0⟩)
    (cd0 : PySem.W.codeIn K cdd0 "_law_box" = true)
    (kd0 : PySem.W.keepIn K (.ref fd0) = true)
    (ad1 : PySem.W.nsIn K mainGlobals "_law_take" = some (some (.ref fd1)))
    (ld1 : K.lookup fd1 = some ⟨ocd1, odd1, .func (PySem.W.fnOf "_law_take" "_law_take" (defArgs sTake) (defBody sTake) (defScope sTake) .none kVd1 dcd1 pmd1 and1 cdd1 ctd1), sld1⟩)
    (cd1 : PySem.W.codeIn K cdd1 "_law_take" = true)
    (kd1 : PySem.W.keepIn K (.ref fd1) = true)
    (ad2 : PySem.W.nsIn K mainGlobals "_law_mixed" = some (some (.ref fd2)))
    (ld2 : K.lookup fd2 = some ⟨ocd2, odd2, .func (PySem.W.fnOf "_law_mixed" "_law_mixed" (defArgs sMixed) (defBody sMixed) (defScope sMixed) .none kVd2 dcd2 pmd2 and2 cdd2 ctd2), sld2⟩)
    (cd2 : PySem.W.codeIn K cdd2 "_law_mixed" = true)
    (kd2 : PySem.W.keepIn K (.ref fd2) = true)
    (ad3 : PySem.W.nsIn K mainGlobals "_law_plain" = some (some (.ref fd3)))
    (ld3 : K.lookup fd3 = some ⟨ocd3, odd3, .func (PySem.W.fnOf "_law_plain" "_law_plain" (defArgs sPlain) (defBody sPlain) (defScope sPlain) .none kVd3 dcd3 pmd3 and3 cdd3 ctd3), sld3⟩)
    (cd3 : PySem.W.codeIn K cdd3 "_law_plain" = true)
    (kd3 : PySem.W.keepIn K (.ref fd3) = true)
    (ad4 : PySem.W.nsIn K mainGlobals "_law_just" = some (some (.ref fd4)))
    (ld4 : K.lookup fd4 = some ⟨ocd4, odd4, .func (PySem.W.fnOf "_law_just" "_law_just" (defArgs sJust) (defBody sJust) (defScope sJust) .none kVd4 dcd4 pmd4 and4 cdd4 ctd4), sld4⟩)
    (cd4 : PySem.W.codeIn K cdd4 "_law_just" = true)
    (kd4 : PySem.W.keepIn K (.ref fd4) = true)
    (ad5 : PySem.W.nsIn K mainGlobals "_law_number_near" = some (some (.ref fd5)))
    (ld5 : K.lookup fd5 = some ⟨ocd5, odd5, .func (PySem.W.fnOf "_law_number_near" "_law_number_near" (defArgs sNum) (defBody sNum) (defScope sNum) .none kVd5 dcd5 pmd5 and5 cdd5 ctd5), sld5⟩)
    (cd5 : PySem.W.codeIn K cdd5 "_law_number_near" = true)
    (kd5 : PySem.W.keepIn K (.ref fd5) = true)
    (ad6 : PySem.W.nsIn K mainGlobals "_law_bent_pairs" = some (some (.ref fd6)))
    (ld6 : K.lookup fd6 = some ⟨ocd6, odd6, .func (PySem.W.fnOf "_law_bent_pairs" "_law_bent_pairs" (defArgs sBent) (defBody sBent) (defScope sBent) .none kVd6 dcd6 pmd6 and6 cdd6 ctd6), sld6⟩)
    (cd6 : PySem.W.codeIn K cdd6 "_law_bent_pairs" = true)
    (kd6 : PySem.W.keepIn K (.ref fd6) = true)
    (ad7 : PySem.W.nsIn K mainGlobals "_law_drawn_lives" = some (some (.ref fd7)))
    (ld7 : K.lookup fd7 = some ⟨ocd7, odd7, .func (PySem.W.fnOf "_law_drawn_lives" "_law_drawn_lives" (defArgs sDrawn) (defBody sDrawn) (defScope sDrawn) .none kVd7 dcd7 pmd7 and7 cdd7 ctd7), sld7⟩)
    (cd7 : PySem.W.codeIn K cdd7 "_law_drawn_lives" = true)
    (kd7 : PySem.W.keepIn K (.ref fd7) = true)
    (ad8 : PySem.W.nsIn K mainGlobals "_law_moved_lives" = some (some (.ref fd8)))
    (ld8 : K.lookup fd8 = some ⟨ocd8, odd8, .func (PySem.W.fnOf "_law_moved_lives" "_law_moved_lives" (defArgs sMoved) (defBody sMoved) (defScope sMoved) .none kVd8 dcd8 pmd8 and8 cdd8 ctd8), sld8⟩)
    (cd8 : PySem.W.codeIn K cdd8 "_law_moved_lives" = true)
    (kd8 : PySem.W.keepIn K (.ref fd8) = true)
    (ad9 : PySem.W.nsIn K mainGlobals "_law_sorted_lives" = some (some (.ref fd9)))
    (ld9 : K.lookup fd9 = some ⟨ocd9, odd9, .func (PySem.W.fnOf "_law_sorted_lives" "_law_sorted_lives" (defArgs sSorted) (defBody sSorted) (defScope sSorted) .none kVd9 dcd9 pmd9 and9 cdd9 ctd9), sld9⟩)
    (cd9 : PySem.W.codeIn K cdd9 "_law_sorted_lives" = true)
    (kd9 : PySem.W.keepIn K (.ref fd9) = true)
    (ad10 : PySem.W.nsIn K mainGlobals "_law_made_lives" = some (some (.ref fd10)))
    (ld10 : K.lookup fd10 = some ⟨ocd10, odd10, .func (PySem.W.fnOf "_law_made_lives" "_law_made_lives" (defArgs sMadeL) (defBody sMadeL) (defScope sMadeL) .none kVd10 dcd10 pmd10 and10 cdd10 ctd10), sld10⟩)
    (cd10 : PySem.W.codeIn K cdd10 "_law_made_lives" = true)
    (kd10 : PySem.W.keepIn K (.ref fd10) = true)
    (ad11 : PySem.W.nsIn K mainGlobals "_law_near" = some (some (.ref fd11)))
    (ld11 : K.lookup fd11 = some ⟨ocd11, odd11, .func (PySem.W.fnOf "_law_near" "_law_near" (defArgs sNear) (defBody sNear) (defScope sNear) .none kVd11 dcd11 pmd11 and11 cdd11 ctd11), sld11⟩)
    (cd11 : PySem.W.codeIn K cdd11 "_law_near" = true)
    (kd11 : PySem.W.keepIn K (.ref fd11) = true)
    (ad12 : PySem.W.nsIn K mainGlobals "_law_pair_near" = some (some (.ref fd12)))
    (ld12 : K.lookup fd12 = some ⟨ocd12, odd12, .func (PySem.W.fnOf "_law_pair_near" "_law_pair_near" (defArgs sPNear) (defBody sPNear) (defScope sPNear) .none kVd12 dcd12 pmd12 and12 cdd12 ctd12), sld12⟩)
    (cd12 : PySem.W.codeIn K cdd12 "_law_pair_near" = true)
    (kd12 : PySem.W.keepIn K (.ref fd12) = true)
    (ad13 : PySem.W.nsIn K mainGlobals "_law_matched" = some (some (.ref fd13)))
    (ld13 : K.lookup fd13 = some ⟨ocd13, odd13, .func (PySem.W.fnOf "_law_matched" "_law_matched" (defArgs sMatched) (defBody sMatched) (defScope sMatched) .none kVd13 dcd13 pmd13 and13 cdd13 ctd13), sld13⟩)
    (cd13 : PySem.W.codeIn K cdd13 "_law_matched" = true)
    (kd13 : PySem.W.keepIn K (.ref fd13) = true)
    (ad14 : PySem.W.nsIn K mainGlobals "_law_ends_near" = some (some (.ref fd14)))
    (ld14 : K.lookup fd14 = some ⟨ocd14, odd14, .func (PySem.W.fnOf "_law_ends_near" "_law_ends_near" (defArgs sEnds) (defBody sEnds) (defScope sEnds) .none kVd14 dcd14 pmd14 and14 cdd14 ctd14), sld14⟩)
    (cd14 : PySem.W.codeIn K cdd14 "_law_ends_near" = true)
    (kd14 : PySem.W.keepIn K (.ref fd14) = true)
    (ad15 : PySem.W.nsIn K mainGlobals "_law_both_matched" = some (some (.ref fd15)))
    (ld15 : K.lookup fd15 = some ⟨ocd15, odd15, .func (PySem.W.fnOf "_law_both_matched" "_law_both_matched" (defArgs sBoth) (defBody sBoth) (defScope sBoth) .none kVd15 dcd15 pmd15 and15 cdd15 ctd15), sld15⟩)
    (cd15 : PySem.W.codeIn K cdd15 "_law_both_matched" = true)
    (kd15 : PySem.W.keepIn K (.ref fd15) = true)
    (ad16 : PySem.W.nsIn K mainGlobals "_law_nearness" = some (some (.ref fd16)))
    (ld16 : K.lookup fd16 = some ⟨ocd16, odd16, .func (PySem.W.fnOf "_law_nearness" "_law_nearness" (defArgs sNess) (defBody sNess) (defScope sNess) .none kVd16 dcd16 pmd16 and16 cdd16 ctd16), sld16⟩)
    (cd16 : PySem.W.codeIn K cdd16 "_law_nearness" = true)
    (kd16 : PySem.W.keepIn K (.ref fd16) = true)
    (ad17 : PySem.W.nsIn K mainGlobals "_law_first_fault" = some (some (.ref fd17)))
    (ld17 : K.lookup fd17 = some ⟨ocd17, odd17, .func (PySem.W.fnOf "_law_first_fault" "_law_first_fault" (defArgs sFirst) (defBody sFirst) (defScope sFirst) .none kVd17 dcd17 pmd17 and17 cdd17 ctd17), sld17⟩)
    (cd17 : PySem.W.codeIn K cdd17 "_law_first_fault" = true)
    (kd17 : PySem.W.keepIn K (.ref fd17) = true)
    (ad18 : PySem.W.nsIn K mainGlobals "_law_is_bar" = some (some (.ref fd18)))
    (ld18 : K.lookup fd18 = some ⟨ocd18, odd18, .func (PySem.W.fnOf "_law_is_bar" "_law_is_bar" (defArgs sIsB) (defBody sIsB) (defScope sIsB) .none kVd18 dcd18 pmd18 and18 cdd18 ctd18), sld18⟩)
    (cd18 : PySem.W.codeIn K cdd18 "_law_is_bar" = true)
    (kd18 : PySem.W.keepIn K (.ref fd18) = true)
    (ad19 : PySem.W.nsIn K mainGlobals "_law_is_matching" = some (some (.ref fd19)))
    (ld19 : K.lookup fd19 = some ⟨ocd19, odd19, .func (PySem.W.fnOf "_law_is_matching" "_law_is_matching" (defArgs sIsM) (defBody sIsM) (defScope sIsM) .none kVd19 dcd19 pmd19 and19 cdd19 ctd19), sld19⟩)
    (cd19 : PySem.W.codeIn K cdd19 "_law_is_matching" = true)
    (kd19 : PySem.W.keepIn K (.ref fd19) = true)
    (ad20 : PySem.W.nsIn K mainGlobals "_law_asked" = some (some (.ref fd20)))
    (ld20 : K.lookup fd20 = some ⟨ocd20, odd20, .func (PySem.W.fnOf "_law_asked" "_law_asked" (defArgs sAsk) (defBody sAsk) (defScope sAsk) .none kVd20 dcd20 pmd20 and20 cdd20 ctd20), sld20⟩)
    (cd20 : PySem.W.codeIn K cdd20 "_law_asked" = true)
    (kd20 : PySem.W.keepIn K (.ref fd20) = true)
    (ad21 : PySem.W.nsIn K mainGlobals "life_of" = some (some (.ref fd21)))
    (ld21 : K.lookup fd21 = some ⟨ocd21, odd21, .func (PySem.W.fnOf "life_of" "life_of" (defArgs sLife) (defBody sLife) (defScope sLife) .none kVd21 dcd21 pmd21 and21 cdd21 ctd21), sld21⟩)
    (cd21 : PySem.W.codeIn K cdd21 "life_of" = true)
    (kd21 : PySem.W.keepIn K (.ref fd21) = true)
    (ad22 : PySem.W.nsIn K mainGlobals "pair_gap" = some (some (.ref fd22)))
    (ld22 : K.lookup fd22 = some ⟨ocd22, odd22, .func (PySem.W.fnOf "pair_gap" "pair_gap" (defArgs sGap) (defBody sGap) (defScope sGap) .none kVd22 dcd22 pmd22 and22 cdd22 ctd22), sld22⟩)
    (cd22 : PySem.W.codeIn K cdd22 "pair_gap" = true)
    (kd22 : PySem.W.keepIn K (.ref fd22) = true)
    (ad23 : PySem.W.nsIn K mainGlobals "pairs_of" = some (some (.ref fd23)))
    (ld23 : K.lookup fd23 = some ⟨ocd23, odd23, .func (PySem.W.fnOf "pairs_of" "pairs_of" (defArgs sPof) (defBody sPof) (defScope sPof) .none kVd23 dcd23 pmd23 and23 cdd23 ctd23), sld23⟩)
    (cd23 : PySem.W.codeIn K cdd23 "pairs_of" = true)
    (kd23 : PySem.W.keepIn K (.ref fd23) = true)
    (ad24 : PySem.W.nsIn K mainGlobals "check_handles" = some (some (.ref fd24)))
    (ld24 : K.lookup fd24 = some ⟨ocd24, odd24, .func (PySem.W.fnOf "check_handles" "check_handles" (defArgs sChH) (defBody sChH) (defScope sChH) .none kVd24 dcd24 pmd24 and24 cdd24 ctd24), sld24⟩)
    (cd24 : PySem.W.codeIn K cdd24 "check_handles" = true)
    (kd24 : PySem.W.keepIn K (.ref fd24) = true)
    (ad25 : PySem.W.nsIn K mainGlobals "check_call" = some (some (.ref fd25)))
    (ld25 : K.lookup fd25 = some ⟨ocd25, odd25, .func (PySem.W.fnOf "check_call" "check_call" (defArgs sChC) (defBody sChC) (defScope sChC) .none kVd25 dcd25 pmd25 and25 cdd25 ctd25), sld25⟩)
    (cd25 : PySem.W.codeIn K cdd25 "check_call" = true)
    (kd25 : PySem.W.keepIn K (.ref fd25) = true)
    (ad26 : PySem.W.nsIn K mainGlobals "far_bars" = some (some (.ref fd26)))
    (ld26 : K.lookup fd26 = some ⟨ocd26, odd26, .func (PySem.W.fnOf "far_bars" "far_bars" (defArgs sFar) (defBody sFar) (defScope sFar) .none kVd26 dcd26 pmd26 and26 cdd26 ctd26), sld26⟩)
    (cd26 : PySem.W.codeIn K cdd26 "far_bars" = true)
    (kd26 : PySem.W.keepIn K (.ref fd26) = true)
    (ad27 : PySem.W.nsIn K mainGlobals "is_index" = some (some (.ref fd27)))
    (ld27 : K.lookup fd27 = some ⟨ocd27, odd27, .func (PySem.W.fnOf "is_index" "is_index" (defArgs sIsIx) (defBody sIsIx) (defScope sIsIx) .none kVd27 dcd27 pmd27 and27 cdd27 ctd27), sld27⟩)
    (cd27 : PySem.W.codeIn K cdd27 "is_index" = true)
    (kd27 : PySem.W.keepIn K (.ref fd27) = true)
    (ad28 : PySem.W.nsIn K mainGlobals "set_holds" = some (some (.ref fd28)))
    (ld28 : K.lookup fd28 = some ⟨ocd28, odd28, .func (PySem.W.fnOf "set_holds" "set_holds" (defArgs sSetH) (defBody sSetH) (defScope sSetH) .none kVd28 dcd28 pmd28 and28 cdd28 ctd28), sld28⟩)
    (cd28 : PySem.W.codeIn K cdd28 "set_holds" = true)
    (kd28 : PySem.W.keepIn K (.ref fd28) = true)
    (ad29 : PySem.W.nsIn K mainGlobals "bar_holds" = some (some (.ref fd29)))
    (ld29 : K.lookup fd29 = some ⟨ocd29, odd29, .func (PySem.W.fnOf "bar_holds" "bar_holds" (defArgs sBarH) (defBody sBarH) (defScope sBarH) .none kVd29 dcd29 pmd29 and29 cdd29 ctd29), sld29⟩)
    (cd29 : PySem.W.codeIn K cdd29 "bar_holds" = true)
    (kd29 : PySem.W.keepIn K (.ref fd29) = true)
    (ad30 : PySem.W.nsIn K mainGlobals "gap_rows" = some (some (.ref fd30)))
    (ld30 : K.lookup fd30 = some ⟨ocd30, odd30, .func (PySem.W.fnOf "gap_rows" "gap_rows" (defArgs sGapR) (defBody sGapR) (defScope sGapR) .none kVd30 dcd30 pmd30 and30 cdd30 ctd30), sld30⟩)
    (cd30 : PySem.W.codeIn K cdd30 "gap_rows" = true)
    (kd30 : PySem.W.keepIn K (.ref fd30) = true)
    (ad31 : PySem.W.nsIn K mainGlobals "exchanged" = some (some (.ref fd31)))
    (ld31 : K.lookup fd31 = some ⟨ocd31, odd31, .func (PySem.W.fnOf "exchanged" "exchanged" (defArgs sExch) (defBody sExch) (defScope sExch) .none kVd31 dcd31 pmd31 and31 cdd31 ctd31), sld31⟩)
    (cd31 : PySem.W.codeIn K cdd31 "exchanged" = true)
    (kd31 : PySem.W.keepIn K (.ref fd31) = true)
    (ad32 : PySem.W.nsIn K mainGlobals "lead" = some (some (.ref fd32)))
    (ld32 : K.lookup fd32 = some ⟨ocd32, odd32, .func (PySem.W.fnOf "lead" "lead" (defArgs sLead) (defBody sLead) (defScope sLead) .none kVd32 dcd32 pmd32 and32 cdd32 ctd32), sld32⟩)
    (cd32 : PySem.W.codeIn K cdd32 "lead" = true)
    (kd32 : PySem.W.keepIn K (.ref fd32) = true)
    (ad33 : PySem.W.nsIn K mainGlobals "lengthen" = some (some (.ref fd33)))
    (ld33 : K.lookup fd33 = some ⟨ocd33, odd33, .func (PySem.W.fnOf "lengthen" "lengthen" (defArgs sLen) (defBody sLen) (defScope sLen) .none kVd33 dcd33 pmd33 and33 cdd33 ctd33), sld33⟩)
    (cd33 : PySem.W.codeIn K cdd33 "lengthen" = true)
    (kd33 : PySem.W.keepIn K (.ref fd33) = true)
    (ad34 : PySem.W.nsIn K mainGlobals "cover" = some (some (.ref fd34)))
    (ld34 : K.lookup fd34 = some ⟨ocd34, odd34, .func (PySem.W.fnOf "cover" "cover" (defArgs sCov) (defBody sCov) (defScope sCov) .none kVd34 dcd34 pmd34 and34 cdd34 ctd34), sld34⟩)
    (cd34 : PySem.W.codeIn K cdd34 "cover" = true)
    (kd34 : PySem.W.keepIn K (.ref fd34) = true)
    (ad35 : PySem.W.nsIn K mainGlobals "kind_cover" = some (some (.ref fd35)))
    (ld35 : K.lookup fd35 = some ⟨ocd35, odd35, .func (PySem.W.fnOf "kind_cover" "kind_cover" (defArgs sKC) (defBody sKC) (defScope sKC) .none kVd35 dcd35 pmd35 and35 cdd35 ctd35), sld35⟩)
    (cd35 : PySem.W.codeIn K cdd35 "kind_cover" = true)
    (kd35 : PySem.W.keepIn K (.ref fd35) = true)
    (ad36 : PySem.W.nsIn K mainGlobals "matching" = some (some (.ref fd36)))
    (ld36 : K.lookup fd36 = some ⟨ocd36, odd36, .func (PySem.W.fnOf "matching" "matching" (defArgs sMat) (defBody sMat) (defScope sMat) .none kVd36 dcd36 pmd36 and36 cdd36 ctd36), sld36⟩)
    (cd36 : PySem.W.codeIn K cdd36 "matching" = true)
    (kd36 : PySem.W.keepIn K (.ref fd36) = true)
    (ad37 : PySem.W.nsIn K mainGlobals "bar" = some (some (.ref fd37)))
    (ld37 : K.lookup fd37 = some ⟨ocd37, odd37, .func (PySem.W.fnOf "bar" "bar" (defArgs sBarF) (defBody sBarF) (defScope sBarF) .none kVd37 dcd37 pmd37 and37 cdd37 ctd37), sld37⟩)
    (cd37 : PySem.W.codeIn K cdd37 "bar" = true)
    (kd37 : PySem.W.keepIn K (.ref fd37) = true)
    (ad38 : PySem.W.nsIn K mainGlobals "check_pairs" = some (some (.ref fd38)))
    (ld38 : K.lookup fd38 = some ⟨ocd38, odd38, .func (PySem.W.fnOf "check_pairs" "check_pairs" (defArgs sCheck) (defBody sCheck) (defScope sCheck) .none kVd38 dcd38 pmd38 and38 cdd38 ctd38), sld38⟩)
    (cd38 : PySem.W.codeIn K cdd38 "check_pairs" = true)
    (kd38 : PySem.W.keepIn K (.ref fd38) = true)
    (ad39 : PySem.W.nsIn K mainGlobals "law" = some (some (.ref fd39)))
    (ld39 : K.lookup fd39 = some ⟨ocd39, odd39, .func (PySem.W.fnOf "law" "law" (defArgs sLaw) (defBody sLaw) (defScope sLaw) .none kVd39 dcd39 pmd39 and39 cdd39 ctd39), sld39⟩)
    (cd39 : PySem.W.codeIn K cdd39 "law" = true)
    (kd39 : PySem.W.keepIn K (.ref fd39) = true)
    (gL : PySem.W.nsIn K mainGlobals "Lives" = some (some (.ref C)))
    (am0 : PySem.W.findIn K (.ref C) "__init__" = some (some (.ref fm0)))
    (lm0 : K.lookup fm0 = some ⟨ocm0, odm0, .func (PySem.W.fnOf "__init__" "Lives.__init__" (defArgs sInitL) (defBody sInitL) (defScope sInitL) .none kVm0 dcm0 pmm0 anm0 cdm0 ctm0), slm0⟩)
    (cm0 : PySem.W.codeIn K cdm0 "Lives.__init__" = true)
    (km0 : PySem.W.keepIn K (.ref fm0) = true)
    (gx0 : PySem.W.nsIn K mainGlobals "BadValue" = some (some (.ref CV)))
    (ax0 : PySem.W.findIn K (.ref CV) "__init__" = some (some (.ref fx0)))
    (lx0 : K.lookup fx0 = some ⟨ocx0, odx0, .func (PySem.W.fnOf "__init__" "BadValue.__init__" (defArgs sBadValue) (defBody sBadValue) (defScope sBadValue) .none kVx0 dcx0 pmx0 anx0 cdx0 ctx0), slx0⟩)
    (cx0 : PySem.W.codeIn K cdx0 "BadValue.__init__" = true)
    (kx0 : PySem.W.keepIn K (.ref fx0) = true)
    (gx1 : PySem.W.nsIn K mainGlobals "Unlike" = some (some (.ref CU)))
    (ax1 : PySem.W.findIn K (.ref CU) "__init__" = some (some (.ref fx1)))
    (lx1 : K.lookup fx1 = some ⟨ocx1, odx1, .func (PySem.W.fnOf "__init__" "Unlike.__init__" (defArgs sUnlike) (defBody sUnlike) (defScope sUnlike) .none kVx1 dcx1 pmx1 anx1 cdx1 ctx1), slx1⟩)
    (cx1 : PySem.W.codeIn K cdx1 "Unlike.__init__" = true)
    (kx1 : PySem.W.keepIn K (.ref fx1) = true)
    (zint : PySem.W.nsIn K mainGlobals "int" = some none)
    (zlen : PySem.W.nsIn K mainGlobals "len" = some none)
    (zlist : PySem.W.nsIn K mainGlobals "list" = some none)
    (ztuple : PySem.W.nsIn K mainGlobals "tuple" = some none)
    (zisinstance : PySem.W.nsIn K mainGlobals "isinstance" = some none)
    (zall : PySem.W.nsIn K mainGlobals "all" = some none)
    (zany : PySem.W.nsIn K mainGlobals "any" = some none)
    (zrange : PySem.W.nsIn K mainGlobals "range" = some none)
    (zstr : PySem.W.nsIn K mainGlobals "str" = some none)
    (zrepr : PySem.W.nsIn K mainGlobals "repr" = some none)
    (zsorted : PySem.W.nsIn K mainGlobals "sorted" = some none)
    (zenumerate : PySem.W.nsIn K mainGlobals "enumerate" = some none)
    (zzip : PySem.W.nsIn K mainGlobals "zip" = some none)
    (zmin : PySem.W.nsIn K mainGlobals "min" = some none)
    (zmax : PySem.W.nsIn K mainGlobals "max" = some none)
    (zabs : PySem.W.nsIn K mainGlobals "abs" = some none)
    (zset : PySem.W.nsIn K mainGlobals "set" = some none)
    (zdict : PySem.W.nsIn K mainGlobals "dict" = some none)
    (zbool : PySem.W.nsIn K mainGlobals "bool" = some none)
    (bV : clOk K CV fx0 tlV "ValueError.__new__" ["what"] = true)
    (bU : clOk K CU fx1 tlV "ValueError.__new__" ["what"] = true)
    (bL : lvOk K C fm0 = true)
    (bE : exOk K CV CU = true)
    : ∃ fd : FuncData, (∀ (s : Shared) (v : Value), BindsTo s fd ⟨[v], []⟩ [("script", v)]) ∧ ∀ base : Heap, K.In base → base.Ns mainGlobals mg → FnOkG l.prog w K mg base CX0 8 fa fd ["script"] (spLaw K) := by
  have e := hfa.symm.trans (PySem.W.mg_of X G ad39)
  cases e
  have Fd0 := fun_mk (x := "_law_box") (qual := "_law_box") (st := sBox) ld0 cd0 kd0
  have Bd0 := Fd0.binds (ps := ["script"]) fun _ _ _ _ _ _ us hl => match us, hl with | [_], _ => rfl
  have Fd1 := fun_mk (x := "_law_take") (qual := "_law_take") (st := sTake) ld1 cd1 kd1
  have Bd1 := Fd1.binds (ps := ["box", "limit"]) fun _ _ _ _ _ _ us hl => match us, hl with | [_, _], _ => rfl
  have Fd2 := fun_mk (x := "_law_mixed") (qual := "_law_mixed") (st := sMixed) ld2 cd2 kd2
  have Bd2 := Fd2.binds (ps := ["box", "things"]) fun _ _ _ _ _ _ us hl => match us, hl with | [_, _], _ => rfl
  have Fd3 := fun_mk (x := "_law_plain") (qual := "_law_plain") (st := sPlain) ld3 cd3 kd3
  have Bd3 := Fd3.binds (ps := ["x"]) fun _ _ _ _ _ _ us hl => match us, hl with | [_], _ => rfl
  have Fd4 := fun_mk (x := "_law_just") (qual := "_law_just") (st := sJust) ld4 cd4 kd4
  have Bd4 := Fd4.binds (ps := ["told", "due"]) fun _ _ _ _ _ _ us hl => match us, hl with | [_, _], _ => rfl
  have Fd5 := fun_mk (x := "_law_number_near") (qual := "_law_number_near") (st := sNum) ld5 cd5 kd5
  have Bd5 := Fd5.binds (ps := ["box", "x", "far"]) fun _ _ _ _ _ _ us hl => match us, hl with | [_, _, _], _ => rfl
  have Fd6 := fun_mk (x := "_law_bent_pairs") (qual := "_law_bent_pairs") (st := sBent) ld6 cd6 kd6
  have Bd6 := Fd6.binds (ps := ["box", "row", "far"]) fun _ _ _ _ _ _ us hl => match us, hl with | [_, _, _], _ => rfl
  have Fd7 := fun_mk (x := "_law_drawn_lives") (qual := "_law_drawn_lives") (st := sDrawn) ld7 cd7 kd7
  have Bd7 := Fd7.binds (ps := ["box", "far"]) fun _ _ _ _ _ _ us hl => match us, hl with | [_, _], _ => rfl
  have Fd8 := fun_mk (x := "_law_moved_lives") (qual := "_law_moved_lives") (st := sMoved) ld8 cd8 kd8
  have Bd8 := Fd8.binds (ps := ["box", "five", "far"]) fun _ _ _ _ _ _ us hl => match us, hl with | [_, _, _], _ => rfl
  have Fd9 := fun_mk (x := "_law_sorted_lives") (qual := "_law_sorted_lives") (st := sSorted) ld9 cd9 kd9
  have Bd9 := Fd9.binds (ps := ["five"]) fun _ _ _ _ _ _ us hl => match us, hl with | [_], _ => rfl
  have Fd10 := fun_mk (x := "_law_made_lives") (qual := "_law_made_lives") (st := sMadeL) ld10 cd10 kd10
  have Bd10 := Fd10.binds (ps := ["five"]) fun _ _ _ _ _ _ us hl => match us, hl with | [_], _ => rfl
  have Fd11 := fun_mk (x := "_law_near") (qual := "_law_near") (st := sNear) ld11 cd11 kd11
  have Bd11 := Fd11.binds (ps := ["a", "b", "halves"]) fun _ _ _ _ _ _ us hl => match us, hl with | [_, _, _], _ => rfl
  have Fd12 := fun_mk (x := "_law_pair_near") (qual := "_law_pair_near") (st := sPNear) ld12 cd12 kd12
  have Bd12 := Fd12.binds (ps := ["one", "two", "halves"]) fun _ _ _ _ _ _ us hl => match us, hl with | [_, _, _], _ => rfl
  have Fd13 := fun_mk (x := "_law_matched") (qual := "_law_matched") (st := sMatched) ld13 cd13 kd13
  have Bd13 := Fd13.binds (ps := ["one", "two", "halves"]) fun _ _ _ _ _ _ us hl => match us, hl with | [_, _, _], _ => rfl
  have Fd14 := fun_mk (x := "_law_ends_near") (qual := "_law_ends_near") (st := sEnds) ld14 cd14 kd14
  have Bd14 := Fd14.binds (ps := ["a", "b", "halves"]) fun _ _ _ _ _ _ us hl => match us, hl with | [_, _, _], _ => rfl
  have Fd15 := fun_mk (x := "_law_both_matched") (qual := "_law_both_matched") (st := sBoth) ld15 cd15 kd15
  have Bd15 := Fd15.binds (ps := ["a", "b", "halves"]) fun _ _ _ _ _ _ us hl => match us, hl with | [_, _, _], _ => rfl
  have Fd16 := fun_mk (x := "_law_nearness") (qual := "_law_nearness") (st := sNess) ld16 cd16 kd16
  have Bd16 := Fd16.binds (ps := ["a", "b"]) fun _ _ _ _ _ _ us hl => match us, hl with | [_, _], _ => rfl
  have Fd17 := fun_mk (x := "_law_first_fault") (qual := "_law_first_fault") (st := sFirst) ld17 cd17 kd17
  have Bd17 := Fd17.binds (ps := ["a", "b", "halves", "one", "two"]) fun _ _ _ _ _ _ us hl => match us, hl with | [_, _, _, _, _], _ => rfl
  have Fd18 := fun_mk (x := "_law_is_bar") (qual := "_law_is_bar") (st := sIsB) ld18 cd18 kd18
  have Bd18 := Fd18.binds (ps := ["a", "b", "halves", "told"]) fun _ _ _ _ _ _ us hl => match us, hl with | [_, _, _, _], _ => rfl
  have Fd19 := fun_mk (x := "_law_is_matching") (qual := "_law_is_matching") (st := sIsM) ld19 cd19 kd19
  have Bd19 := Fd19.binds (ps := ["a", "b", "halves", "told"]) fun _ _ _ _ _ _ us hl => match us, hl with | [_, _, _, _], _ => rfl
  have Fd20 := fun_mk (x := "_law_asked") (qual := "_law_asked") (st := sAsk) ld20 cd20 kd20
  have Bd20 := Fd20.binds (ps := ["first", "second", "halves", "way"]) fun _ _ _ _ _ _ us hl => match us, hl with | [_, _, _, _], _ => rfl
  have Fd21 := fun_mk (x := "life_of") (qual := "life_of") (st := sLife) ld21 cd21 kd21
  have Bd21 := Fd21.binds (ps := ["pair"]) fun _ _ _ _ _ _ us hl => match us, hl with | [_], _ => rfl
  have Fd22 := fun_mk (x := "pair_gap") (qual := "pair_gap") (st := sGap) ld22 cd22 kd22
  have Bd22 := Fd22.binds (ps := ["pair", "other"]) fun _ _ _ _ _ _ us hl => match us, hl with | [_, _], _ => rfl
  have Fd23 := fun_mk (x := "pairs_of") (qual := "pairs_of") (st := sPof) ld23 cd23 kd23
  have Bd23 := Fd23.binds (ps := ["lives", "kind"]) fun _ _ _ _ _ _ us hl => match us, hl with | [_, _], _ => rfl
  have Fd24 := fun_mk (x := "check_handles") (qual := "check_handles") (st := sChH) ld24 cd24 kd24
  have Bd24 := Fd24.binds (ps := ["lives", "other"]) fun _ _ _ _ _ _ us hl => match us, hl with | [_, _], _ => rfl
  have Fd25 := fun_mk (x := "check_call") (qual := "check_call") (st := sChC) ld25 cd25 kd25
  have Bd25 := Fd25.binds (ps := ["lives", "other", "n"]) fun _ _ _ _ _ _ us hl => match us, hl with | [_, _, _], _ => rfl
  have Fd26 := fun_mk (x := "far_bars") (qual := "far_bars") (st := sFar) ld26 cd26 kd26
  have Bd26 := Fd26.binds (ps := ["lives", "other", "n"]) fun _ _ _ _ _ _ us hl => match us, hl with | [_, _, _], _ => rfl
  have Fd27 := fun_mk (x := "is_index") (qual := "is_index") (st := sIsIx) ld27 cd27 kd27
  have Bd27 := Fd27.binds (ps := ["value", "count"]) fun _ _ _ _ _ _ us hl => match us, hl with | [_, _], _ => rfl
  have Fd28 := fun_mk (x := "set_holds") (qual := "set_holds") (st := sSetH) ld28 cd28 kd28
  have Bd28 := Fd28.binds (ps := ["lives", "other", "n", "value"]) fun _ _ _ _ _ _ us hl => match us, hl with | [_, _, _, _], _ => rfl
  have Fd29 := fun_mk (x := "bar_holds") (qual := "bar_holds") (st := sBarH) ld29 cd29 kd29
  have Bd29 := Fd29.binds (ps := ["lives", "other", "n", "value"]) fun _ _ _ _ _ _ us hl => match us, hl with | [_, _, _, _], _ => rfl
  have Fd30 := fun_mk (x := "gap_rows") (qual := "gap_rows") (st := sGapR) ld30 cd30 kd30
  have Bd30 := Fd30.binds (ps := ["first", "second"]) fun _ _ _ _ _ _ us hl => match us, hl with | [_, _], _ => rfl
  have Fd31 := fun_mk (x := "exchanged") (qual := "exchanged") (st := sExch) ld31 cd31 kd31
  have Bd31 := Fd31.binds (ps := ["near", "count"]) fun _ _ _ _ _ _ us hl => match us, hl with | [_, _], _ => rfl
  have Fd32 := fun_mk (x := "lead") (qual := "lead") (st := sLead) ld32 cd32 kd32
  have Bd32 := Fd32.binds (ps := ["end", "came", "mates", "partners"]) fun _ _ _ _ _ _ us hl => match us, hl with | [_, _, _, _], _ => rfl
  have Fd33 := fun_mk (x := "lengthen") (qual := "lengthen") (st := sLen) ld33 cd33 kd33
  have Bd33 := Fd33.binds (ps := ["start", "near", "mates", "partners", "kept"]) fun _ _ _ _ _ _ us hl => match us, hl with | [_, _, _, _, _], _ => rfl
  have Fd34 := fun_mk (x := "cover") (qual := "cover") (st := sCov) ld34 cd34 kd34
  have Bd34 := Fd34.binds (ps := ["first", "second", "gaps", "n"]) fun _ _ _ _ _ _ us hl => match us, hl with | [_, _, _, _], _ => rfl
  have Fd35 := fun_mk (x := "kind_cover") (qual := "kind_cover") (st := sKC) ld35 cd35 kd35
  have Bd35 := Fd35.binds (ps := ["lives", "other", "n", "kind"]) fun _ _ _ _ _ _ us hl => match us, hl with | [_, _, _, _], _ => rfl
  have Fd36 := fun_mk (x := "matching") (qual := "matching") (st := sMat) ld36 cd36 kd36
  have Bd36 := Fd36.binds (ps := ["lives", "other", "n"]) fun _ _ _ _ _ _ us hl => match us, hl with | [_, _, _], _ => rfl
  have Fd37 := fun_mk (x := "bar") (qual := "bar") (st := sBarF) ld37 cd37 kd37
  have Bd37 := Fd37.binds (ps := ["lives", "other", "n"]) fun _ _ _ _ _ _ us hl => match us, hl with | [_, _, _], _ => rfl
  have Fd38 := fun_mk (x := "check_pairs") (qual := "check_pairs") (st := sCheck) ld38 cd38 kd38
  have Bd38 := Fd38.binds (ps := ["what", "pairs"]) fun _ _ _ _ _ _ us hl => match us, hl with | [_, _], _ => rfl
  have Fd39 := fun_mk (x := "law") (qual := "law") (st := sLaw) ld39 cd39 kd39
  have Fm0 := fun_mk (x := "__init__") (qual := "Lives.__init__") (st := sInitL) lm0 cm0 km0
  have Bm0 := Fm0.binds (ps := ["self", "hollows", "summits", "loose", "lowest", "highest"]) fun _ _ _ _ _ _ us hl => match us, hl with | [_, _, _, _, _, _], _ => rfl
  have Fx0 := fun_mk (x := "__init__") (qual := "BadValue.__init__") (st := sBadValue) lx0 cx0 kx0
  have Bx0 := Fx0.binds (ps := ["self", "what"]) fun _ _ _ _ _ _ us hl => match us, hl with | [_, _], _ => rfl
  have Fx1 := fun_mk (x := "__init__") (qual := "Unlike.__init__") (st := sUnlike) lx1 cx1 kx1
  have Bx1 := Fx1.binds (ps := ["self", "what"]) fun _ _ _ _ _ _ us hl => match us, hl with | [_, _], _ => rfl
  have T : Bt mg := ⟨PySem.W.mg_none_of X G zint, PySem.W.mg_none_of X G zlen, PySem.W.mg_none_of X G zlist, PySem.W.mg_none_of X G ztuple, PySem.W.mg_none_of X G zisinstance, PySem.W.mg_none_of X G zall, PySem.W.mg_none_of X G zany, PySem.W.mg_none_of X G zrange, PySem.W.mg_none_of X G zstr, PySem.W.mg_none_of X G zrepr, PySem.W.mg_none_of X G zsorted, PySem.W.mg_none_of X G zenumerate, PySem.W.mg_none_of X G zzip, PySem.W.mg_none_of X G zmin, PySem.W.mg_none_of X G zmax, PySem.W.mg_none_of X G zabs, PySem.W.mg_none_of X G zset, PySem.W.mg_none_of X G zdict, PySem.W.mg_none_of X G zbool⟩
  have D : Xs K mg ⟨CV, CU, fx0, fx1, (PySem.W.fnOf "__init__" "BadValue.__init__" (defArgs sBadValue) (defBody sBadValue) (defScope sBadValue) .none kVx0 dcx0 pmx0 anx0 cdx0 ctx0), (PySem.W.fnOf "__init__" "Unlike.__init__" (defArgs sUnlike) (defBody sUnlike) (defScope sUnlike) .none kVx1 dcx1 pmx1 anx1 cdx1 ctx1)⟩ := ⟨xc_of bV ax0 Fx0 Bx0 (PySem.W.mg_of X G gx0), xc_of bU ax1 Fx1 Bx1 (PySem.W.mg_of X G gx1)⟩
  have V := lv_of bL
  have L := V.L
  have gC := PySem.W.mg_of X G gL
  have M := V.mkC am0
  have S : Es2 K ⟨CV, CU, fx0, fx1, (PySem.W.fnOf "__init__" "BadValue.__init__" (defArgs sBadValue) (defBody sBadValue) (defScope sBadValue) .none kVx0 dcx0 pmx0 anx0 cdx0 ctx0), (PySem.W.fnOf "__init__" "Unlike.__init__" (defArgs sUnlike) (defBody sUnlike) (defScope sUnlike) .none kVx1 dcx1 pmx1 anx1 cdx1 ctx1)⟩ := by
    obtain ⟨e1, e2⟩ := Bool.and_eq_true_iff.mp bE
    obtain ⟨e2, e3⟩ := Bool.and_eq_true_iff.mp e2
    exact ⟨eq_of_beq e1, eq_of_beq e2, eq_of_beq e3⟩
  have D0 : Df K mg "_law_box" sBox ["script"] fd0 _ := ⟨Fd0, Bd0, PySem.W.mg_of X G ad0⟩
  have D1 : Df K mg "_law_take" sTake ["box", "limit"] fd1 _ := ⟨Fd1, Bd1, PySem.W.mg_of X G ad1⟩
  have D2 : Df K mg "_law_mixed" sMixed ["box", "things"] fd2 _ := ⟨Fd2, Bd2, PySem.W.mg_of X G ad2⟩
  have D3 : Df K mg "_law_plain" sPlain ["x"] fd3 _ := ⟨Fd3, Bd3, PySem.W.mg_of X G ad3⟩
  have D4 : Df K mg "_law_just" sJust ["told", "due"] fd4 _ := ⟨Fd4, Bd4, PySem.W.mg_of X G ad4⟩
  have D5 : Df K mg "_law_number_near" sNum ["box", "x", "far"] fd5 _ := ⟨Fd5, Bd5, PySem.W.mg_of X G ad5⟩
  have D6 : Df K mg "_law_bent_pairs" sBent ["box", "row", "far"] fd6 _ := ⟨Fd6, Bd6, PySem.W.mg_of X G ad6⟩
  have D7 : Df K mg "_law_drawn_lives" sDrawn ["box", "far"] fd7 _ := ⟨Fd7, Bd7, PySem.W.mg_of X G ad7⟩
  have D8 : Df K mg "_law_moved_lives" sMoved ["box", "five", "far"] fd8 _ := ⟨Fd8, Bd8, PySem.W.mg_of X G ad8⟩
  have D9 : Df K mg "_law_sorted_lives" sSorted ["five"] fd9 _ := ⟨Fd9, Bd9, PySem.W.mg_of X G ad9⟩
  have D10 : Df K mg "_law_made_lives" sMadeL ["five"] fd10 _ := ⟨Fd10, Bd10, PySem.W.mg_of X G ad10⟩
  have D11 : Df K mg "_law_near" sNear ["a", "b", "halves"] fd11 _ := ⟨Fd11, Bd11, PySem.W.mg_of X G ad11⟩
  have D12 : Df K mg "_law_pair_near" sPNear ["one", "two", "halves"] fd12 _ := ⟨Fd12, Bd12, PySem.W.mg_of X G ad12⟩
  have D13 : Df K mg "_law_matched" sMatched ["one", "two", "halves"] fd13 _ := ⟨Fd13, Bd13, PySem.W.mg_of X G ad13⟩
  have D14 : Df K mg "_law_ends_near" sEnds ["a", "b", "halves"] fd14 _ := ⟨Fd14, Bd14, PySem.W.mg_of X G ad14⟩
  have D15 : Df K mg "_law_both_matched" sBoth ["a", "b", "halves"] fd15 _ := ⟨Fd15, Bd15, PySem.W.mg_of X G ad15⟩
  have D16 : Df K mg "_law_nearness" sNess ["a", "b"] fd16 _ := ⟨Fd16, Bd16, PySem.W.mg_of X G ad16⟩
  have D17 : Df K mg "_law_first_fault" sFirst ["a", "b", "halves", "one", "two"] fd17 _ := ⟨Fd17, Bd17, PySem.W.mg_of X G ad17⟩
  have D18 : Df K mg "_law_is_bar" sIsB ["a", "b", "halves", "told"] fd18 _ := ⟨Fd18, Bd18, PySem.W.mg_of X G ad18⟩
  have D19 : Df K mg "_law_is_matching" sIsM ["a", "b", "halves", "told"] fd19 _ := ⟨Fd19, Bd19, PySem.W.mg_of X G ad19⟩
  have D20 : Df K mg "_law_asked" sAsk ["first", "second", "halves", "way"] fd20 _ := ⟨Fd20, Bd20, PySem.W.mg_of X G ad20⟩
  have D21 : Df K mg "life_of" sLife ["pair"] fd21 _ := ⟨Fd21, Bd21, PySem.W.mg_of X G ad21⟩
  have D22 : Df K mg "pair_gap" sGap ["pair", "other"] fd22 _ := ⟨Fd22, Bd22, PySem.W.mg_of X G ad22⟩
  have D23 : Df K mg "pairs_of" sPof ["lives", "kind"] fd23 _ := ⟨Fd23, Bd23, PySem.W.mg_of X G ad23⟩
  have D24 : Df K mg "check_handles" sChH ["lives", "other"] fd24 _ := ⟨Fd24, Bd24, PySem.W.mg_of X G ad24⟩
  have D25 : Df K mg "check_call" sChC ["lives", "other", "n"] fd25 _ := ⟨Fd25, Bd25, PySem.W.mg_of X G ad25⟩
  have D26 : Df K mg "far_bars" sFar ["lives", "other", "n"] fd26 _ := ⟨Fd26, Bd26, PySem.W.mg_of X G ad26⟩
  have D27 : Df K mg "is_index" sIsIx ["value", "count"] fd27 _ := ⟨Fd27, Bd27, PySem.W.mg_of X G ad27⟩
  have D28 : Df K mg "set_holds" sSetH ["lives", "other", "n", "value"] fd28 _ := ⟨Fd28, Bd28, PySem.W.mg_of X G ad28⟩
  have D29 : Df K mg "bar_holds" sBarH ["lives", "other", "n", "value"] fd29 _ := ⟨Fd29, Bd29, PySem.W.mg_of X G ad29⟩
  have D30 : Df K mg "gap_rows" sGapR ["first", "second"] fd30 _ := ⟨Fd30, Bd30, PySem.W.mg_of X G ad30⟩
  have D31 : Df K mg "exchanged" sExch ["near", "count"] fd31 _ := ⟨Fd31, Bd31, PySem.W.mg_of X G ad31⟩
  have D32 : Df K mg "lead" sLead ["end", "came", "mates", "partners"] fd32 _ := ⟨Fd32, Bd32, PySem.W.mg_of X G ad32⟩
  have D33 : Df K mg "lengthen" sLen ["start", "near", "mates", "partners", "kept"] fd33 _ := ⟨Fd33, Bd33, PySem.W.mg_of X G ad33⟩
  have D34 : Df K mg "cover" sCov ["first", "second", "gaps", "n"] fd34 _ := ⟨Fd34, Bd34, PySem.W.mg_of X G ad34⟩
  have D35 : Df K mg "kind_cover" sKC ["lives", "other", "n", "kind"] fd35 _ := ⟨Fd35, Bd35, PySem.W.mg_of X G ad35⟩
  have D36 : Df K mg "matching" sMat ["lives", "other", "n"] fd36 _ := ⟨Fd36, Bd36, PySem.W.mg_of X G ad36⟩
  have D37 : Df K mg "bar" sBarF ["lives", "other", "n"] fd37 _ := ⟨Fd37, Bd37, PySem.W.mg_of X G ad37⟩
  have D38 : Df K mg "check_pairs" sCheck ["what", "pairs"] fd38 _ := ⟨Fd38, Bd38, PySem.W.mg_of X G ad38⟩
  refine ⟨(PySem.W.fnOf "law" "law" (defArgs sLaw) (defBody sLaw) (defScope sLaw) .none kVd39 dcd39 pmd39 and39 cdd39 ctd39), fun s v => .of_eq rfl, fun base _ _ => ok_lawG (c := ⟨CV, CU, fx0, fx1, (PySem.W.fnOf "__init__" "BadValue.__init__" (defArgs sBadValue) (defBody sBadValue) (defScope sBadValue) .none kVx0 dcx0 pmx0 anx0 cdx0 ctx0), (PySem.W.fnOf "__init__" "Unlike.__init__" (defArgs sUnlike) (defBody sUnlike) (defScope sUnlike) .none kVx1 dcx1 pmx1 anx1 cdx1 ctx1)⟩) (C := C) Fd39 ?_⟩
  have Gi : FnOk l.prog w K mg base (L2.CX l.prog w) 4 fm0 _ ["self", "hollows", "summits", "loose", "lowest", "highest"] (spInitL K _ C) := ok_initL Fm0 T D L D38
  have Ctake : Cl l.prog w K mg base 1 "_law_take" sTake ["box", "limit"] spTake := ⟨_, _, D1, ok_take D1.fn T⟩
  have Cmixed : Cl l.prog w K mg base 2 "_law_mixed" sMixed ["box", "things"] spMixed := ⟨_, _, D2, ok_mixed D2.fn T D1⟩
  have Cplain : Cl l.prog w K mg base 1 "_law_plain" sPlain ["x"] spPlain := ⟨_, _, D3, ok_plain D3.fn T⟩
  have Cnum : Cl l.prog w K mg base 2 "_law_number_near" sNum ["box", "x", "far"] spNum := ⟨_, _, D5, ok_num D5.fn T Ctake⟩
  have Cbent : Cl l.prog w K mg base 3 "_law_bent_pairs" sBent ["box", "row", "far"] spBent := ⟨_, _, D6, ok_bent D6.fn T Ctake Cnum Cmixed⟩
  have Cnear : Cl l.prog w K mg base 1 "_law_near" sNear ["a", "b", "halves"] spNear := ⟨_, _, D11, ok_near D11.fn T⟩
  have Cpnear : Cl l.prog w K mg base 2 "_law_pair_near" sPNear ["one", "two", "halves"] (spPNear K) := ⟨_, _, D12, ok_pnear D12.fn T Cnear⟩
  have Cmatched : Cl l.prog w K mg base 3 "_law_matched" sMatched ["one", "two", "halves"] spMatched := ⟨_, _, D13, ok_matched D13.fn T Cpnear⟩
  have Cends : Cl l.prog w K mg base 2 "_law_ends_near" sEnds ["a", "b", "halves"] spEnds := ⟨_, _, D14, ok_ends D14.fn T Cnear⟩
  have Cboth : Cl l.prog w K mg base 4 "_law_both_matched" sBoth ["a", "b", "halves"] spBoth := ⟨_, _, D15, ok_both D15.fn T Cends Cmatched⟩
  have Cfirst : Cl l.prog w K mg base 3 "_law_first_fault" sFirst ["a", "b", "halves", "one", "two"] (spFirst K) := ⟨_, _, D17, ok_first D17.fn T Cpnear Cnear⟩
  have Clife : Cl l.prog w K mg base 1 "life_of" sLife ["pair"] (spLife K) := ⟨_, _, D21, ok_life D21.fn T⟩
  have Cgap : Cl l.prog w K mg base 1 "pair_gap" sGap ["pair", "other"] (spGap K) := ⟨_, _, D22, ok_gap D22.fn T⟩
  have Cpof : Cl l.prog w K mg base 1 "pairs_of" sPof ["lives", "kind"] (spPof K C) := ⟨_, _, D23, ok_pof D23.fn T L⟩
  have CchH : ClX l.prog w K mg base 3 "check_handles" sChH ["lives", "other"] (spChH K ⟨CV, CU, fx0, fx1, (PySem.W.fnOf "__init__" "BadValue.__init__" (defArgs sBadValue) (defBody sBadValue) (defScope sBadValue) .none kVx0 dcx0 pmx0 anx0 cdx0 ctx0), (PySem.W.fnOf "__init__" "Unlike.__init__" (defArgs sUnlike) (defBody sUnlike) (defScope sUnlike) .none kVx1 dcx1 pmx1 anx1 cdx1 ctx1)⟩ C) := ⟨_, _, D24, ok_chH D24.fn T D L⟩
  have CchC : ClX l.prog w K mg base 4 "check_call" sChC ["lives", "other", "n"] (spChC K ⟨CV, CU, fx0, fx1, (PySem.W.fnOf "__init__" "BadValue.__init__" (defArgs sBadValue) (defBody sBadValue) (defScope sBadValue) .none kVx0 dcx0 pmx0 anx0 cdx0 ctx0), (PySem.W.fnOf "__init__" "Unlike.__init__" (defArgs sUnlike) (defBody sUnlike) (defScope sUnlike) .none kVx1 dcx1 pmx1 anx1 cdx1 ctx1)⟩ C) := ⟨_, _, D25, ok_chC D25.fn T D CchH⟩
  have Cfar : Cl l.prog w K mg base 1 "far_bars" sFar ["lives", "other", "n"] (spFar K C) := ⟨_, _, D26, ok_far D26.fn T L⟩
  have CisIx : Cl l.prog w K mg base 1 "is_index" sIsIx ["value", "count"] spIsIx := ⟨_, _, D27, ok_isIx D27.fn T⟩
  have CsetH : Cl l.prog w K mg base 2 "set_holds" sSetH ["lives", "other", "n", "value"] (spSetH K C) := ⟨_, _, D28, ok_setH D28.fn T CisIx Cpof Clife Cgap⟩
  have CgapR : Cl l.prog w K mg base 2 "gap_rows" sGapR ["first", "second"] (spGapR K) := ⟨_, _, D30, ok_gapR D30.fn T Cgap⟩
  have Cexch : Cl l.prog w K mg base 1 "exchanged" sExch ["near", "count"] spExch := ⟨_, _, D31, ok_exch D31.fn T⟩
  have Clead : Cl l.prog w K mg base 1 "lead" sLead ["end", "came", "mates", "partners"] spLead := ⟨_, _, D32, ok_lead D32.fn T⟩
  have Clen : Cl l.prog w K mg base 2 "lengthen" sLen ["start", "near", "mates", "partners", "kept"] spLen := ⟨_, _, D33, ok_len D33.fn T Clead⟩
  have Ccov : Cl l.prog w K mg base 3 "cover" sCov ["first", "second", "gaps", "n"] (spCov K) := ⟨_, _, D34, ok_cov D34.fn T Clife Clen Cexch⟩
  have CKC : Cl l.prog w K mg base 4 "kind_cover" sKC ["lives", "other", "n", "kind"] (spKC K C) := ⟨_, _, D35, ok_KC D35.fn T Cpof Ccov CgapR⟩
  have Cmat : ClX l.prog w K mg base 5 "matching" sMat ["lives", "other", "n"] (spMat K ⟨CV, CU, fx0, fx1, (PySem.W.fnOf "__init__" "BadValue.__init__" (defArgs sBadValue) (defBody sBadValue) (defScope sBadValue) .none kVx0 dcx0 pmx0 anx0 cdx0 ctx0), (PySem.W.fnOf "__init__" "Unlike.__init__" (defArgs sUnlike) (defBody sUnlike) (defScope sUnlike) .none kVx1 dcx1 pmx1 anx1 cdx1 ctx1)⟩ C) := ⟨_, _, D36, ok_mat D36.fn T CchC Cfar CKC⟩
  have CbarF : ClX l.prog w K mg base 5 "bar" sBarF ["lives", "other", "n"] (spBarF K ⟨CV, CU, fx0, fx1, (PySem.W.fnOf "__init__" "BadValue.__init__" (defArgs sBadValue) (defBody sBadValue) (defScope sBadValue) .none kVx0 dcx0 pmx0 anx0 cdx0 ctx0), (PySem.W.fnOf "__init__" "Unlike.__init__" (defArgs sUnlike) (defBody sUnlike) (defScope sUnlike) .none kVx1 dcx1 pmx1 anx1 cdx1 ctx1)⟩ C) := ⟨_, _, D37, ok_barF D37.fn T CchC Cfar CKC⟩
  have CbarH : ClX l.prog w K mg base 4 "bar_holds" sBarH ["lives", "other", "n", "value"] (spBarH K ⟨CV, CU, fx0, fx1, (PySem.W.fnOf "__init__" "BadValue.__init__" (defArgs sBadValue) (defBody sBadValue) (defScope sBadValue) .none kVx0 dcx0 pmx0 anx0 cdx0 ctx0), (PySem.W.fnOf "__init__" "Unlike.__init__" (defArgs sUnlike) (defBody sUnlike) (defScope sUnlike) .none kVx1 dcx1 pmx1 anx1 cdx1 ctx1)⟩ C) := ⟨_, _, D29, ok_barH D29.fn T L CchH CsetH CisIx Cfar⟩
  exact {
    T := T
    L := L
    box := ⟨_, _, D0, ok_box D0.fn T⟩
    take := Ctake
    drawn := ⟨_, _, D7, ok_drawn D7.fn T Ctake Cnum⟩
    moved := ⟨_, _, D8, ok_moved D8.fn T Ctake Cnum Cbent⟩
    sorted := ⟨_, _, D9, ok_sorted D9.fn T⟩
    made := ⟨_, _, D10, ok_madeL D10.fn T gC M Bm0 Gi⟩
    ness := ⟨_, _, D16, ok_ness D16.fn T Cboth⟩
    both := Cboth
    ask := ⟨_, _, D20, ok_ask D20.fn T D S Cmat CbarF CbarH⟩
    just := ⟨_, _, D4, ok_just D4.fn T⟩
    isM := ⟨_, _, D19, ok_isM D19.fn T Cplain Cfirst⟩
    isB := ⟨_, _, D18, ok_isB D18.fn T Cnear Cplain Cpnear⟩
    barH := CbarH }
theorem walk {l : PySem.W.OpenLaw} {q : Program} {loose : List Str} {XP : (Str → Option Value) → Heap → Prop} {YP : World → Heap → Prop} {d : DefRec} {K : Params → PySem.W.Frag} (hn : l.most = some 63) (hdf : d.params.defaults = [])
    (hY : ∀ (w : World) (h : Heap), YP w h → (K w.params).In h)
    (F : ∀ (w : World) (mg : Str → Option Value) (fa : Addr) (h : Heap), (K w.params).In h → h.Ns mainGlobals mg → mg d.name = some (.ref fa) →
      ∃ fd : FuncData, (∀ (s : Shared) (u : Value), BindsTo s fd ⟨[u], []⟩ [("script", u)]) ∧ ∀ base : Heap, (K w.params).In base → base.Ns mainGlobals mg → FnOkG l.prog w (K w.params) mg base CX0 8 fa fd ["script"] (spLaw (K w.params))) :
    PySem.W.WalkO q loose XP YP l.row.toRowW d [] (fun f vs => PySem.call f vs) :=
  GO.walkG (k := 8) (sp := spLaw) ⟨rfl, by decide, by decide⟩ hn hdf hY F fun _ _ a ns hl hS => ⟨a, ns, rfl, hS, hl, fun _ => rfl⟩
end Lw
open PySem PySem.W PyProof.Rows
set_option maxRecDepth 100000 in
set_option maxHeartbeats 0 in
theorem PySem.Challenge.cw_bothleast_k73_whole_matching_or_bar_holds : PySem.Challenge.rw_bothleast_k73_whole_matching_or_bar.Holds := by
  w_on; o_law; k_head; (case hw => w_witness2)
  k_fill
  refine Lw.walk (l := PySem.Challenge.rw_bothleast_k73_whole_matching_or_bar) rfl rfl (fun w h Y => PySem.W.kIn_of Y) ?F
  case F =>
    intro w mg fa h KX G hmg
    refine' Lw.all_mk KX G hmg ?ad0 ?ld0 ?cd0 ?kd0 ?ad1 ?ld1 ?cd1 ?kd1 ?ad2 ?ld2 ?cd2 ?kd2 ?ad3 ?ld3 ?cd3 ?kd3 ?ad4 ?ld4 ?cd4 ?kd4 ?ad5 ?ld5 ?cd5 ?kd5 ?ad6 ?ld6 ?cd6 ?kd6 ?ad7 ?ld7 ?cd7 ?kd7 ?ad8 ?ld8 ?cd8 ?kd8 ?ad9 ?ld9 ?cd9 ?kd9 ?ad10 ?ld10 ?cd10 ?kd10 ?ad11 ?ld11 ?cd11 ?kd11 ?ad12 ?ld12 ?cd12 ?kd12 ?ad13 ?ld13 ?cd13 ?kd13 ?ad14 ?ld14 ?cd14 ?kd14 ?ad15 ?ld15 ?cd15 ?kd15 ?ad16 ?ld16 ?cd16 ?kd16 ?ad17 ?ld17 ?cd17 ?kd17 ?ad18 ?ld18 ?cd18 ?kd18 ?ad19 ?ld19 ?cd19 ?kd19 ?ad20 ?ld20 ?cd20 ?kd20 ?ad21 ?ld21 ?cd21 ?kd21 ?ad22 ?ld22 ?cd22 ?kd22 ?ad23 ?ld23 ?cd23 ?kd23 ?ad24 ?ld24 ?cd24 ?kd24 ?ad25 ?ld25 ?cd25 ?kd25 ?ad26 ?ld26 ?cd26 ?kd26 ?ad27 ?ld27 ?cd27 ?kd27 ?ad28 ?ld28 ?cd28 ?kd28 ?ad29 ?ld29 ?cd29 ?kd29 ?ad30 ?ld30 ?cd30 ?kd30 ?ad31 ?ld31 ?cd31 ?kd31 ?ad32 ?ld32 ?cd32 ?kd32 ?ad33 ?ld33 ?cd33 ?kd33 ?ad34 ?ld34 ?cd34 ?kd34 ?ad35 ?ld35 ?cd35 ?kd35 ?ad36 ?ld36 ?cd36 ?kd36 ?ad37 ?ld37 ?cd37 ?kd37 ?ad38 ?ld38 ?cd38 ?kd38 ?ad39 ?ld39 ?cd39 ?kd39 ?gL ?am0 ?lm0 ?cm0 ?km0 ?gx0 ?ax0 ?lx0 ?cx0 ?kx0 ?gx1 ?ax1 ?lx1 ?cx1 ?kx1 ?zint ?zlen ?zlist ?ztuple ?zisinstance ?zall ?zany ?zrange ?zstr ?zrepr ?zsorted ?zenumerate ?zzip ?zmin ?zmax ?zabs ?zset ?zdict ?zbool ?bV ?bU ?bL ?bE
    (case ad0 => k_is)
    (case ld0 => k_is)
    (case cd0 => k_is)
    (case kd0 => k_is)
    (case ad1 => k_is)
    (case ld1 => k_is)
    (case cd1 => k_is)
    (case kd1 => k_is)
    (case ad2 => k_is)
    (case ld2 => k_is)
    (case cd2 => k_is)
    (case kd2 => k_is)
    (case ad3 => k_is)
    (case ld3 => k_is)
    (case cd3 => k_is)
    (case kd3 => k_is)
    (case ad4 => k_is)
    (case ld4 => k_is)
    (case cd4 => k_is)
    (case kd4 => k_is)
    (case ad5 => k_is)
    (case ld5 => k_is)
    (case cd5 => k_is)
    (case kd5 => k_is)
    (case ad6 => k_is)
    (case ld6 => k_is)
    (case cd6 => k_is)
    (case kd6 => k_is)
    (case ad7 => k_is)
    (case ld7 => k_is)
    (case cd7 => k_is)
    (case kd7 => k_is)
    (case ad8 => k_is)
    (case ld8 => k_is)
    (case cd8 => k_is)
    (case kd8 => k_is)
    (case ad9 => k_is)
    (case ld9 => k_is)
    (case cd9 => k_is)
    (case kd9 => k_is)
    (case ad10 => k_is)
    (case ld10 => k_is)
    (case cd10 => k_is)
    (case kd10 => k_is)
    (case ad11 => k_is)
    (case ld11 => k_is)
    (case cd11 => k_is)
    (case kd11 => k_is)
    (case ad12 => k_is)
    (case ld12 => k_is)
    (case cd12 => k_is)
    (case kd12 => k_is)
    (case ad13 => k_is)
    (case ld13 => k_is)
    (case cd13 => k_is)
    (case kd13 => k_is)
    (case ad14 => k_is)
    (case ld14 => k_is)
    (case cd14 => k_is)
    (case kd14 => k_is)
    (case ad15 => k_is)
    (case ld15 => k_is)
    (case cd15 => k_is)
    (case kd15 => k_is)
    (case ad16 => k_is)
    (case ld16 => k_is)
    (case cd16 => k_is)
    (case kd16 => k_is)
    (case ad17 => k_is)
    (case ld17 => k_is)
    (case cd17 => k_is)
    (case kd17 => k_is)
    (case ad18 => k_is)
    (case ld18 => k_is)
    (case cd18 => k_is)
    (case kd18 => k_is)
    (case ad19 => k_is)
    (case ld19 => k_is)
    (case cd19 => k_is)
    (case kd19 => k_is)
    (case ad20 => k_is)
    (case ld20 => k_is)
    (case cd20 => k_is)
    (case kd20 => k_is)
    (case ad21 => k_is)
    (case ld21 => k_is)
    (case cd21 => k_is)
    (case kd21 => k_is)
    (case ad22 => k_is)
    (case ld22 => k_is)
    (case cd22 => k_is)
    (case kd22 => k_is)
    (case ad23 => k_is)
    (case ld23 => k_is)
    (case cd23 => k_is)
    (case kd23 => k_is)
    (case ad24 => k_is)
    (case ld24 => k_is)
    (case cd24 => k_is)
    (case kd24 => k_is)
    (case ad25 => k_is)
    (case ld25 => k_is)
    (case cd25 => k_is)
    (case kd25 => k_is)
    (case ad26 => k_is)
    (case ld26 => k_is)
    (case cd26 => k_is)
    (case kd26 => k_is)
    (case ad27 => k_is)
    (case ld27 => k_is)
    (case cd27 => k_is)
    (case kd27 => k_is)
    (case ad28 => k_is)
    (case ld28 => k_is)
    (case cd28 => k_is)
    (case kd28 => k_is)
    (case ad29 => k_is)
    (case ld29 => k_is)
    (case cd29 => k_is)
    (case kd29 => k_is)
    (case ad30 => k_is)
    (case ld30 => k_is)
    (case cd30 => k_is)
    (case kd30 => k_is)
    (case ad31 => k_is)
    (case ld31 => k_is)
    (case cd31 => k_is)
    (case kd31 => k_is)
    (case ad32 => k_is)
    (case ld32 => k_is)
    (case cd32 => k_is)
    (case kd32 => k_is)
    (case ad33 => k_is)
    (case ld33 => k_is)
    (case cd33 => k_is)
    (case kd33 => k_is)
    (case ad34 => k_is)
    (case ld34 => k_is)
    (case cd34 => k_is)
    (case kd34 => k_is)
    (case ad35 => k_is)
    (case ld35 => k_is)
    (case cd35 => k_is)
    (case kd35 => k_is)
    (case ad36 => k_is)
    (case ld36 => k_is)
    (case cd36 => k_is)
    (case kd36 => k_is)
    (case ad37 => k_is)
    (case ld37 => k_is)
    (case cd37 => k_is)
    (case kd37 => k_is)
    (case ad38 => k_is)
    (case ld38 => k_is)
    (case cd38 => k_is)
    (case kd38 => k_is)
    (case ad39 => k_is)
    (case ld39 => k_is)
    (case cd39 => k_is)
    (case kd39 => k_is)
    (case gL => k_is)
    (case am0 => k_is)
    (case lm0 => k_is)
    (case cm0 => k_is)
    (case km0 => k_is)
    (case gx0 => k_is)
    (case ax0 => k_is)
    (case lx0 => k_is)
    (case cx0 => k_is)
    (case kx0 => k_is)
    (case gx1 => k_is)
    (case ax1 => k_is)
    (case lx1 => k_is)
    (case cx1 => k_is)
    (case kx1 => k_is)
    (case zint => k_is)
    (case zlen => k_is)
    (case zlist => k_is)
    (case ztuple => k_is)
    (case zisinstance => k_is)
    (case zall => k_is)
    (case zany => k_is)
    (case zrange => k_is)
    (case zstr => k_is)
    (case zrepr => k_is)
    (case zsorted => k_is)
    (case zenumerate => k_is)
    (case zzip => k_is)
    (case zmin => k_is)
    (case zmax => k_is)
    (case zabs => k_is)
    (case zset => k_is)
    (case zdict => k_is)
    (case zbool => k_is)
    (case bV => kernel_rfl)
    (case bU => kernel_rfl)
    (case bL => kernel_rfl)
    (case bE => kernel_rfl)
