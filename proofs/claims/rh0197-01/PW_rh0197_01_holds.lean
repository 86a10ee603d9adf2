import PyProof.Rows.All
import Wide.All
import OpenK.AllK
import Wide.FinOn
import PySem.Challenge.RW_rh0197_01
open PySem PySem.W PyProof.Rows
set_option Elab.async false
set_option maxRecDepth 100000
set_option maxHeartbeats 8000000
namespace Mine
open_top hd for PySem.Challenge.rw_rh0197_01
end Mine
open PySem.Calls PySem.Spec
set_option maxHeartbeats 40000000
section
open PySem PySem.W PyProof.Rows PySem.Calls PySem.Spec
namespace Mine

abbrev excObj (C t : Addr) : Obj := { cls := .ref C, data := .fields #[.ref t, .none, .none, .none, .bool false, .none] }
abbrev tupObj (vs : List Value) : Obj := { cls := .type "tuple", data := .seq vs.toArray }

section
variable {prog : Program} {w : World} {A : Around} {E : Value → Shared → Prop} {h : Heap} {g : Array GenState} {d : Drawn} {t : Nat} {os : OsState}
variable {nm q : Str} {C N : Addr} {bs bm : List Value} {hdct : Bool} {sn : List Str} {sub : List Value} {ab : Bool} {col : Option Bool} {dd : Option Addr} {k0 k1 k2 k3 k5 : Option Value}

/-- what is asked of an own exception class's tail of bases -/
structure TailOk (bm : List Value) : Prop where
  exc : bm.contains (.type "Exception") = true
  base : bm.contains (.type "BaseException") = true
  noAttr : bm.contains (.type "AttributeError") = false
  noName : bm.contains (.type "NameError") = false

theorem xc_check_new (T : TailOk bm) {M : Model} {rest : List Value} {Q : Unit → Shared → Prop}
    (hC : h.get? C = some (excClassObj nm q C N bs bm hdct sn sub ab col dd k0 k1 k2 k3 k5 "Exception.__new__"))
    (hq : Q () ⟨h, g, d, t, os⟩) : wpAny M A (checkBuiltinCall "Exception.__new__" ⟨.ref C :: rest, []⟩) Q E ⟨h, g, d, t, os⟩ := by
  have F := PySem.F.excBase_Exception
  have hcont : (Value.ref C :: bm).contains (.type "Exception") = true := by rw [List.contains_cons, T.exc, Bool.or_true]
  have hstar := F.noStar
  simp only [checkBuiltinCall, F.newKind, F.newSplit, F.newRow]
  repeat (first | refine wpAny_loadPart_at hC ?_ | (refine wpAny_isSubtype_exc hC ?_; rw [hcont]) | refine wpAny_staticBase_exc hC ?_ | refine wpAny_madeBy_exc hC ?_ | simp only [bne_self_eq_false, Bool.false_eq_true, if_false] | wp_step)
  exact hq

theorem xc_new (T : TailOk bm) {R : Result → Shared → Prop} {rest : List Value}
    (hC : h.get? C = some (excClassObj nm q C N bs bm hdct sn sub ab col dd k0 k1 k2 k3 k5 "Exception.__new__"))
    (hq : R (.ok (.ret (.ref (h.objs.size + 1)))) ⟨(h.push (tupObj rest)).push (excObj C h.objs.size), g, d, t, os⟩) (hrest : rest.length ≤ sizeLine) :
    codeAny (model prog w) A (.builtin "Exception.__new__" ⟨.ref C :: rest, []⟩) R ⟨h, g, d, t, os⟩ := by
  have F := PySem.F.excBase_Exception
  have hends := F.ends
  have hcB : (Value.ref C :: bm).contains (.type "Exception") = true := by rw [List.contains_cons, T.exc, Bool.or_true]
  have hcA : (Value.ref C :: bm).contains (.type "AttributeError") = false := by rw [List.contains_cons, T.noAttr]; rfl
  have hcN : (Value.ref C :: bm).contains (.type "NameError") = false := by rw [List.contains_cons, T.noName]; rfl
  refine codeAny_builtinAt F.entry ?_
  unfold Builtin.«BaseException.__new__»
  refine PySem.wpAt_bind ?_
  show PySem.wpAt _ _ _ (stack >>= _) _ _ _
  refine PySem.wpAt_bind (PySem.wpAt_stack fun p below => PySem.wpAt_of_wpAny ?_)
  wp_walk
  refine PySem.wpAt_of_wpAny ?_
  rw [F.owner]
  repeat (first | with_reducible refine wpAny_madeHere_exc F.canon hC ?_ | with_reducible refine wpAny_loadPart_at hC ?_ | (with_reducible refine wpAny_isSubtype_exc hC ?_; first | rw [hcB] | rw [hcA] | rw [hcN]) | wp_step)
  show R _ _
  rw [Heap.size_push]
  exact hq

theorem xc_type_call (T : TailOk bm) {rest : List Value} {fI : Addr} {Q : Fin → Shared → Prop}
    (hC : h.get? C = some (excClassObj nm q C N bs bm hdct sn sub ab col dd k0 k1 k2 k3 k5 "Exception.__new__"))
    (hi : Looks (model prog w) h (typeLookup (.ref C) "__init__") (some (.ref fI)))
    (hb : ∀ self, Looks (model prog w) h (bindSpecial (.ref fI) self) (.ref fI, [self]))
    (hq : wpAny (model prog w) A (call (.ref fI) (.ref (h.objs.size + 1) :: rest)) (fun r s' => r = .none ∧ Q (.done (.ret (.ref (h.objs.size + 1)))) s') E ⟨(h.push (tupObj rest)).push (excObj C h.objs.size), g, d, t, os⟩)
    (hrest : rest.length ≤ sizeLine) :
    wpAny (model prog w) A (Builtin.«type.__call__» ⟨.ref C :: rest, []⟩) Q E ⟨h, g, d, t, os⟩ := by
  have F := PySem.F.excBase_Exception
  repeat (first | with_reducible refine wpAny_loadPart_at hC ?_ | with_reducible refine wpAny_madeBy_exc hC ?_ | wp_step)
  refine codeAny_call_builtin_code (Code.quiet_builtin _ F.quiet) (xc_check_new T hC ?_)
  refine xc_new T hC ?_ hrest
  show wpAny _ _ _ _ _ _
  have k : ∀ b o, h.get? b = some o → ((h.push (tupObj rest)).push (excObj C h.objs.size)).get? b = some o := fun b o e => Heap.get?_push_of_some _ (Heap.get?_push_of_some _ e)
  have hC₁ := k _ _ hC
  have hget : ((h.push (tupObj rest)).push (excObj C h.objs.size)).get? (h.objs.size + 1) = some (excObj C h.objs.size) := by heap_get
  have hcC : (Value.ref C :: bm).contains (.ref C) = true := by simp
  unfold isInstance
  repeat (first | with_reducible refine wpAny_loadPart_at hget ?_ | (with_reducible refine wpAny_isSubtype_exc hC₁ ?_; rw [hcC]) | wp_step)
  show wpAny _ _ (typeLookup (.ref C) _) _ _ _
  refine (hi.keeps k).here ?_
  refine wpAny_holding (wpAny_bind ?_)
  refine ((hb _).keeps k).here ?_
  refine (wpAny_bind (wpAny_mono hq (fun r s' hr => ?_) fun _ _ x => x))
  obtain ⟨rfl, hQ⟩ := hr
  wp_walk
  exact hQ

theorem xc_call (T : TailOk bm) {rest : List Value} {fI : Addr} {Q : Value → Shared → Prop}
    (hC : h.get? C = some (excClassObj nm q C N bs bm hdct sn sub ab col dd k0 k1 k2 k3 k5 "Exception.__new__"))
    (hi : Looks (model prog w) h (typeLookup (.ref C) "__init__") (some (.ref fI)))
    (hb : ∀ self, Looks (model prog w) h (bindSpecial (.ref fI) self) (.ref fI, [self]))
    (hq : wpAny (model prog w) (A.under (.builtin "type.__call__" ⟨.ref C :: rest, []⟩)) (call (.ref fI) (.ref (h.objs.size + 1) :: rest)) (fun r s' => r = .none ∧ Q (.ref (h.objs.size + 1)) s') E ⟨(h.push (tupObj rest)).push (excObj C h.objs.size), g, d, t, os⟩)
    (hrest : rest.length ≤ sizeLine) :
    wpAny (model prog w) A (call (.ref C) rest) Q E ⟨h, g, d, t, os⟩ := by
  have f1 := tc_lookup
  have f2 := tc_bind (.ref C)
  have hT : (⟨h, g, d, t, os⟩ : Shared).TypeIs (.ref C) "type" := ⟨_, hC, rfl⟩
  refine wpAny_call (codeAny_of_tree ?_)
  show wpAny _ _ (callAny (.ref C) _) _ _ _
  repeat (any_goals (first | assumption | with_reducible refine wpAny_loadPart_at hC ?_ | wp_step))
  refine ⟨rfl, ?_⟩
  refine codeAny_call_builtin_at (Code.quiet_builtin _ (by decide +kernel)) entry_typeCall (wpAny_check_type_call_sub hC (xc_type_call T hC hi hb ?_ hrest))
  exact hq
end
end Mine
end
section
open PySem PySem.W PyProof.Rows PySem.Calls PySem.Spec
open PySem.Builtin PySem.Builtin.ObjectAttr
namespace Mine

noncomputable def overExc : List Value → Bool
  | [.type a, .type b, .type c] => a == "Exception" && (b == "BaseException" && c == "object")
  | .ref _ :: r => overExc r
  | _ => false
theorem refuse_exc (self : Value) : ∀ {l : List Value}, overExc l = true → refuseLoop self "__setattr__" l = pure ()
  | [.type a, .type b, .type c], e => by
    obtain ⟨e1, e'⟩ := Bool.and_eq_true_iff.mp e
    obtain ⟨e2, e3⟩ := Bool.and_eq_true_iff.mp e'
    rw [show a = "Exception" from beq_iff_eq.mp e1, show b = "BaseException" from beq_iff_eq.mp e2, show c = "object" from beq_iff_eq.mp e3]
    exact PySem.F.store_Exception.passes self
  | .ref c :: r, e => by rw [refuseLoop_ref]; exact refuse_exc self (by cases r <;> first | exact e | cases e)
theorem over_has : ∀ {l : List Value}, overExc l = true → l.contains (.type "object") = true
  | [.type a, .type b, .type c], e => by
    obtain ⟨e1, e'⟩ := Bool.and_eq_true_iff.mp e
    obtain ⟨e2, e3⟩ := Bool.and_eq_true_iff.mp e'
    rw [show c = "object" from beq_iff_eq.mp e3]
    simp
  | .ref c :: r, e => by rw [List.contains_cons, over_has (l := r) (by cases r <;> first | exact e | cases e), Bool.or_true]
noncomputable def excOver (K : Frag) (C : Addr) : Bool := (clsIn K C).any fun cd => overExc cd.mro && cd.hasDict

section
variable {prog : Program} {w : World} {A : Around} {s : Shared} {K : Frag} {C x L : Addr} {h₀ : Heap} {m : Str → Option Value} {R : Result → Shared → Prop}

theorem osa_exc {ox : Obj} {od : Option Obj} {name : Str} {tk : Tok} {v : Value} (X : K.In s.heap) (I : InstAt s.heap x ox C od) (hp : excOver K C = true) (ht : findIn K (.ref C) name = some none)
    (h : wpAny (model prog w) A.in1 (storeInOwnDict (.ref x) (.ref C) (.str name tk) name v false)
      (fun fin s' => match fin with | .done f => R (.ok f) s' | .again c' => c'.quiet = true ∧ codeAny (model prog w) A c' R s') (fun e s' => R (.error e) s') s) :
    codeAny (model prog w) A (.call (.builtin "object.__setattr__") ⟨[.ref x, .str name tk, v], []⟩) R s := by
  have SF := PySem.F.store_object
  obtain ⟨cd, hc, ho'⟩ := any_some hp
  obtain ⟨ho, _⟩ := Bool.and_eq_true_iff.mp ho'
  have ne : cd.mro.isEmpty = false := by cases q : cd.mro with | nil => rw [q] at ho; cases ho | cons _ _ => rfl
  have sub : Looks (model prog w) s.heap (isInstance (.ref x) (.type "object")) true := I.type.andThen (looks_mroIn X (by unfold mroIn; rw [hc, Option.bind_some, if_neg (by rw [ne]; decide), over_has ho]))
  refine codeAny_call_builtin SF.slot.plain SF.entry (@check_slot (model prog w) _ _ s "object.__setattr__" "object" "__setattr__" (.ref x) [.str name tk, v] [] _ SF.kind SF.split sub (SF.args (.ref x) (.str name tk) v) ?_)
  have hm : Looks (model prog w) s.heap (mroOf (.ref C)) cd.mro := (looks_clsIn X hc).andThen .now
  have L3 : Looks (model prog w) s.heap (storeTaker? none) none := .now
  rw [osa_eq, refuse_eq]
  refine wpAny_bind (wpAny_bind (I.type.here (wpAny_bind (hm.here ?_))))
  rw [refuse_exc _ ho]
  refine wpAny_pure (wpAny_bind (I.type.here (wpAny_bind ((looks_findIn X ht).here (wpAny_bind (L3.here ?_))))))
  exact h

theorem xs_new {pre post : List (Addr × Obj)} {ox : Obj} {name : Str} {v : Value} {E : Value → Shared → Prop} {Q : Unit → Shared → Prop}
    (F : Fr h₀ L s.heap m) (X₀ : K.In h₀) (N : News h₀ L s.heap (pre ++ (x, ox) :: post)) (hcl : ox.cls = .ref C) (hdn : ox.dict = none) (hda : ∃ vs, ox.data = .fields vs)
    (hs : findIn K (.ref C) "__setattr__" = some (some (.builtin "object.__setattr__"))) (hp : excOver K C = true) (ht : findIn K (.ref C) name = some none)
    (h1 : ∀ p ∈ pre, p.1 ≠ x) (h2 : ∀ p ∈ post, p.1 ≠ x)
    (h : ∀ d h', Fr h₀ L h' m → News h₀ L h' ((d, dictOf [⟨PyData.keyHash w.params name, .str name (s.toks + 1), v⟩] 1) :: (pre ++ (x, { ox with dict := some d }) :: post)) → (∀ p ∈ pre ++ (x, ox) :: post, p.1 < d) →
      Q () { s with heap := h', toks := s.toks + 1 + 1 }) :
    wpAny (model prog w) A (setAttr (.ref x) name v) Q E s := by
  have hx : s.heap.get? x = some ox := (N (x, ox) (by simp)).1
  have X := X₀.keeps F.keep
  obtain ⟨vs, hvs⟩ := hda
  have I : InstAt s.heap x ox C none := ⟨hx, hcl, by unfold notCls; rw [hvs], by rw [hdn]; trivial⟩
  refine set_plain X I hs (osa_exc (s := { s with toks := s.toks + 1 }) X I hp ht ?_)
  obtain ⟨cd, hc, ho'⟩ := any_some hp
  obtain ⟨_, hd'⟩ := Bool.and_eq_true_iff.mp ho'
  obtain ⟨oc, odi, oda, osl⟩ := ox
  dsimp only at hcl hdn hvs
  subst hcl hdn hvs
  obtain ⟨hh, g, dr, tk, os⟩ := s
  dsimp only at hx X F N h ⊢
  refine wpAny_bind (wpAny_pure (wpAny_bind (wpAny_bind (wpAny_loadPart hx (wpAny_bind ((looks_clsIn X hc).here ?_))))))
  rw [hd']
  refine wpAny_bind (wpAny_alloc ?_)
  have N1 := N.push F { cls := .type "dict", data := .dict #[] }
  have F1 := F.push { cls := .type "dict", data := .dict #[] }
  have hlt : x < hh.objs.size := Heap.lt_size hx
  obtain ⟨F2, N2⟩ := news_upd (d := x) (pre := (hh.objs.size, { cls := .type "dict", data := .dict #[] }) :: pre) (f := fun o => { o with dict := some hh.objs.size }) F1 N1
    (fun p hp => by
      rcases List.mem_cons.mp hp with rfl | hp
      · exact Nat.ne_of_gt hlt
      · exact h1 p hp) h2 rfl rfl
  have hx1 : (hh.push { cls := .type "dict", data := .dict #[] }).get? x = some (⟨.ref C, none, .fields vs, osl⟩ : Obj) := (N1 (x, ⟨.ref C, none, .fields vs, osl⟩) (by simp)).1
  refine wpAny_bind (wpAny_update hx1 ?_)
  refine wpAny_pure ?_
  show wpAny _ _ (storeInDict hh.objs.size (.str name _) name v) _ _ _
  refine wpAny_bind (wpAny_pure (wpAny_bind ?_))
  have D := (N2 (hh.objs.size, { cls := .type "dict", data := .dict #[] }) (by simp)).1
  obtain ⟨F3, N3⟩ := news_upd (d := hh.objs.size) (pre := []) (o := { cls := .type "dict", data := .dict #[] }) (o' := dictOf [⟨PyData.keyHash w.params name, .str name (tk + 1), v⟩] 1) (f := Obj.putName name (PyData.keyHash w.params name) (.str name (tk + 1)) v) F2 N2
    (fun p hp => nomatch hp)
    (fun p hp => by
      have lt : p.1 < hh.objs.size := by
        rcases List.mem_append.mp hp with q | q
        · exact Heap.lt_size (N p (List.mem_append_left _ q)).1
        · rcases List.mem_cons.mp q with rfl | q
          · exact hlt
          · exact Heap.lt_size (N p (List.mem_append_right _ (.tail _ q))).1
      exact Nat.ne_of_lt lt)
    (putName_dict name (PyData.keyHash w.params name) (.str name (tk + 1)) v [] 0) rfl
  have D' := (N3 (hh.objs.size, dictOf [⟨PyData.keyHash w.params name, .str name (tk + 1), v⟩] 1) (by simp)).1
  unfold nsSet
  refine wpAny_bind (wpAny_bind (wpAny_askSetting (wpAny_pure (wpAny_bind (wpAny_mkText (wpAny_bind (wpAny_loadPart D ?_)))))))
  dsimp only
  have c : (!(#[] : Array DictEntry).any (·.key.isStr name) && (#[] : Array DictEntry).any (·.refKey)) = false := by simp
  rw [aRefKeyMayBeTheName_at, c]
  refine wpAny_updatePart D ?_
  refine wpAny_bind (wpAny_lookBehind D' (pastItsLine_dict (by rw [List.size_toArray, sizeLine_eq]; exact Nat.le_of_ble_eq_true rfl)) ?_)
  exact wpAny_pure (h hh.objs.size _ F3 N3 (fun p hp => Heap.lt_size (N p hp).1))

theorem xs_old {ox : Obj} {dx : Addr} {es es' : List DictEntry} {n n' : Nat} {news news' : List (Addr × Obj)} {name : Str} {v : Value} {E : Value → Shared → Prop} {Q : Unit → Shared → Prop}
    (F : Fr h₀ L s.heap m) (X₀ : K.In h₀) (N : News h₀ L s.heap news) (I : InstAt s.heap x ox C (some (dictOf es n))) (hd : ox.dict = some dx)
    (hs : findIn K (.ref C) "__setattr__" = some (some (.builtin "object.__setattr__"))) (hp : excOver K C = true) (ht : findIn K (.ref C) name = some none)
    (hl : (getL name es).isSome = true) (e : (putL name (PyData.keyHash w.params name) (.str name (s.toks + 1)) v es, putN name es n) = (es', n'))
    (U : Upd dx (dictOf es n) (dictOf es' n') news news') (hz : es'.length ≤ 1000)
    (h : ∀ h', Fr h₀ L h' m → News h₀ L h' news' → Q () { s with heap := h', toks := s.toks + 1 + 1 }) :
    wpAny (model prog w) A (setAttr (.ref x) name v) Q E s := by
  have X := X₀.keeps F.keep
  obtain ⟨pre, post, rfl, rfl, a, b⟩ := U.split
  obtain ⟨e1, e2⟩ := Prod.mk.inj e
  refine set_plain X I hs (osa_exc (s := { s with toks := s.toks + 1 }) X I hp ht ?_)
  obtain ⟨cd, hc, ho'⟩ := any_some hp
  obtain ⟨_, hd'⟩ := Bool.and_eq_true_iff.mp ho'
  obtain ⟨U1, U2⟩ := news_upd (f := Obj.putName name (PyData.keyHash w.params name) (.str name (s.toks + 1)) v) (o' := dictOf es' n') F N a b (by rw [putName_dict, e1, e2]) rfl
  have D := (N (dx, dictOf es n) (by simp)).1
  have D' := (U2 (dx, dictOf es' n') (by simp)).1
  obtain ⟨hx, hcl, hn, -⟩ := I
  obtain ⟨oc, odi, oda, osl⟩ := ox
  dsimp only at hcl hd
  subst hcl hd
  obtain ⟨hh, g, dr, tk, os⟩ := s
  dsimp only at hx X F N h U1 U2 D D' ⊢
  refine wpAny_bind (wpAny_pure (wpAny_bind (wpAny_bind (wpAny_loadPart hx (wpAny_bind ((looks_clsIn X hc).here ?_))))))
  rw [hd']
  refine wpAny_pure ?_
  show wpAny _ _ (storeInDict dx (.str name _) name v) _ _ _
  refine wpAny_bind (wpAny_pure (wpAny_bind ?_))
  unfold nsSet
  refine wpAny_bind (wpAny_bind (wpAny_askSetting (wpAny_pure (wpAny_bind (wpAny_mkText (wpAny_bind (wpAny_loadPart D ?_)))))))
  dsimp only
  have c : (!es.toArray.any (·.key.isStr name) && es.toArray.any (·.refKey)) = false := by
    rw [← Array.any_toList, ← Array.any_toList]
    unfold getL at hl
    split at hl
    · rename_i en he
      rw [List.any_eq_true.mpr ⟨en, List.mem_of_find?_eq_some he, List.find?_some he⟩]; rfl
    · split at hl
      · cases hl
      · rename_i z; rw [Bool.not_eq_true] at z; rw [z, Bool.and_false]
  rw [aRefKeyMayBeTheName_at, c]
  refine wpAny_updatePart D ?_
  refine wpAny_bind (wpAny_lookBehind D' (pastItsLine_dict (by rw [List.size_toArray, sizeLine_eq]; omega)) ?_)
  exact wpAny_pure (h _ U1 U2)

def xcIn (K : Frag) (C : Addr) : Bool := match K.lookup C with
  | some ⟨.type "type", _, .cls cd, sl⟩ => (match cd.mro, sl.toList with
    | .ref C' :: bm, [_, _, _, _, some (.builtin n), _] => n == "Exception.__new__" && (C' == C && (!cd.hasDel && (bm.contains (.type "Exception") && (bm.contains (.type "BaseException") && (!bm.contains (.type "AttributeError") && !bm.contains (.type "NameError"))))))
    | _, _ => false)
  | _ => false
theorem xc_cls {h : Heap} (X : K.In h) (q : xcIn K C = true) : ∃ nm qn N bs bm hdct sn sub ab col dd k0 k1 k2 k3 k5,
    h.get? C = some (excClassObj nm qn C N bs bm hdct sn sub ab col dd k0 k1 k2 k3 k5 "Exception.__new__") ∧ TailOk bm := by
  unfold xcIn at q
  split at q
  · rename_i dd cd sl ho
    split at q
    · rename_i C' bm k0 k1 k2 k3 n k5 hm hs
      simp only [Bool.and_eq_true, beq_iff_eq, Bool.not_eq_true'] at q
      obtain ⟨rfl, rfl, hdel, hb, hbb, ha, hn⟩ := q
      obtain ⟨nm, bs, mro, ns, qn, hd, sn, sub, ab, col, del⟩ := cd
      dsimp only at hm hdel
      subst hm hdel
      have hsl : sl = #[k0, k1, k2, k3, some (.builtin "Exception.__new__"), k5] := by
        obtain ⟨l⟩ := sl
        simp only at hs
        rw [hs]
      subst hsl
      exact ⟨nm, qn, ns, bs, bm, hd, sn, sub, ab, col, dd, k0, k1, k2, k3, k5, X _ _ ho, ⟨hb, hbb, ha, hn⟩⟩
    · cases q
  · cases q

/-- Exception.__init__(e, ..): a new tuple of arguments -/
theorem xi_call {pre post : List (Addr × Obj)} {e : Addr} {oe : Obj} {vs : Array Value} {rest : List Value} {E : Value → Shared → Prop} {Q : Value → Shared → Prop}
    (F : Fr h₀ L s.heap m) (X₀ : K.In h₀) (N : News h₀ L s.heap (pre ++ (e, oe) :: post)) (hx : xcIn K C = true) (hcl : oe.cls = .ref C) (hda : oe.data = .fields vs) {t0 : Addr} (hv0 : vs[0]? = some (.ref t0))
    (h1 : ∀ p ∈ pre, p.1 ≠ e) (h2 : ∀ p ∈ post, p.1 ≠ e) (hrest : rest.length ≤ sizeLine)
    (h : ∀ t h', Fr h₀ L h' m → News h₀ L h' ((t, tupObj rest) :: (pre ++ (e, { oe with data := .fields (vs.setIfInBounds 0 (.ref t)) }) :: post)) → (∀ p ∈ pre ++ (e, oe) :: post, p.1 < t) → Q .none { s with heap := h' }) :
    wpAny (model prog w) A (call (.builtin "Exception.__init__") (.ref e :: rest)) Q E s := by
  have X := X₀.keeps F.keep
  obtain ⟨nm, qn, Nn, bs, bm, hdct, sn, sub, ab, col, dd, k0, k1, k2, k3, k5, hC, T⟩ := xc_cls X hx
  have he : s.heap.get? e = some oe := (N (e, oe) (by simp)).1
  have F0 := PySem.F.excBase_Exception
  obtain ⟨hh, g, dr, tk, os⟩ := s
  dsimp only at hC he F N X h ⊢
  refine wpAny_call (codeAny_call_builtin F0.init.plain F0.initEntry ?_)
  have hcB : (Value.ref C :: bm).contains (.type "Exception") = true := by rw [List.contains_cons, T.exc, Bool.or_true]
  have hshort := F0.noStar
  simp only [checkBuiltinCall, F0.initKind, F0.initSplit, F0.initRow]
  repeat (first | (with_reducible refine wpAny_loadPart_at he ?_; rw [hcl]) | with_reducible refine wpAny_loadPart_at hC ?_ | (with_reducible refine wpAny_isSubtype_exc hC ?_; rw [hcB]) | wp_step)
  refine wpAny_onRaise ?_
  rw [show ∀ (a b : String) (n : Nat), Bind.check ⟨.positional, "*", "Exception", .self, [⟨"args", .varPos, false⟩]⟩ a b n (List.map (fun x => x.fst) ({ pos := Value.ref e :: rest } : Args).kw) = pure () from
    fun a b n => check_star_args _ _ _ _ _ _]
  refine wpAny_pure ?_
  obtain ⟨oc, odi, oda, osl⟩ := oe
  dsimp only at hcl hda
  subst hcl hda
  wp_walk
  rw [hv0]
  wp_walk
  rw [if_pos (Array.getElem?_eq_some_iff.mp hv0).1]
  wp_walk
  have N1 := N.push F (tupObj rest)
  have F1 := F.push (tupObj rest)
  have hlt : e < hh.objs.size := Heap.lt_size he
  obtain ⟨F2, N2⟩ := news_upd (d := e) (pre := (hh.objs.size, tupObj rest) :: pre) (f := Obj.mapFields (·.setIfInBounds 0 (.ref hh.objs.size))) F1 N1
    (fun p hp => by
      rcases List.mem_cons.mp hp with rfl | hp
      · exact Nat.ne_of_gt hlt
      · exact h1 p hp) h2 rfl rfl
  exact h hh.objs.size _ F2 N2 (fun p hp => Heap.lt_size (N p hp).1)
end

/-- a new exception of an own class, with a dict or without -/
structure MadeX (h h' : Heap) (e : Addr) (cls : Value) : Prop where
  keeps : ∀ b o, h.get? b = some o → h'.get? b = some o
  new : h.get? e = none
  there : ∃ oe vs a0, h'.get? e = some oe ∧ oe.cls = cls ∧ oe.data = .fields vs ∧ vs[0]? = some a0 ∧ vs[1]? = some .none

section
variable {M : Model} {A : Around} {E : Value → Shared → Prop} {s' : Shared} {base g g₂ h : Heap} {outer : List Env} {L e : Addr} {m : Str → Option Value} {env : Env} {Q : Unit → Shared → Prop} {news : List (Addr × Obj)} {cls : Value}

theorem leave_firstX (K : Below A base outer g) (hx : MadeX h s'.heap e cls) (F : Fr g L h m) (N : News g L h news) (hf : env.frame = some L) (hk : env.scope.kind = .function)
    (hQ : ∀ h', RaisedN base outer e cls news h' → g.UpToSlots h' → Q () { s' with heap := h' }) :
    wpAny M (A.deeper env) (leaving env (.ref e)) Q E s' := by
  have K' := pushX K F hf hk
  have hin : ∀ en ∈ (env :: outer), ∀ b, en.frame = some b → b ∈ (env :: outer).filterMap (·.frame) := fun en he b hb => List.mem_filterMap.mpr ⟨en, he, hb⟩
  have st : base.StaysIn (hideAll h ((env :: outer).filterMap (·.frame))) := fun b o q => hideAll_get _ (K'.stays b o q) fun hm => by
    rw [(K'.frames.mem hm).1] at q; cases q
  have hl : ∀ q ∈ news, (hideAll h ((env :: outer).filterMap (·.frame))).get? q.1 = some q.2 ∧ base.get? q.1 = none := fun q hq => by
    refine ⟨hideAll_get _ (N q hq).1 fun hm => ?_, fresh_of_stays K.stays (N q hq).2.2⟩
    obtain ⟨en, he, hfe⟩ := List.mem_filterMap.mp hm
    rcases List.mem_cons.mp he with rfl | he
    · exact (N q hq).2.1 (Option.some.inj (hf.symm.trans hfe)).symm
    · obtain ⟨o, ho, _⟩ := (K.frames.mem (List.mem_filterMap.mpr ⟨en, he, hfe⟩)).2
      rw [(N q hq).2.2] at ho; cases ho
  obtain ⟨oe, vs, a0, he, hcls, hd, h0, h1⟩ := hx.there
  have hen : (hideAll h ((env :: outer).filterMap (·.frame))).get? e = none := by
    cases q : (hideAll h ((env :: outer).filterMap (·.frame))).get? e with
    | none => rfl
    | some o => have := of_hideAll _ q; rw [hx.new] at this; cases this
  refine wpAny_leaving_firstW (a0 := a0) K'.stack ((funFrames_hide K'.frames hin).of_keeps fun b o hb _ => ⟨o, hx.keeps b o hb, rfl⟩) hf he (fun b o hb => hx.keeps b o (of_hideAll _ hb)) hen hd h1 h0 fun h' hL => ?_
  obtain ⟨k1, ⟨_, _, k2⟩, k3, k4⟩ := hL
  exact hQ h' ⟨_, a0, st, hl, k1, hen, k2, by rw [← hcls]; exact k3⟩ (((Heap.UpToSlots.of_keeps F.keep).trans (Heap.UpToSlots.of_keeps hx.keeps)).trans k4)

theorem leave_nextX (K : Below A base outer g) (F : Fr g L g₂ m) (R : RaisedN base (env :: outer) e cls news s'.heap) (hsm : g₂.UpToSlots s'.heap) (hf : env.frame = some L)
    (hQ : ∀ h', RaisedN base outer e cls news h' → g.UpToSlots h' → Q () { s' with heap := h' }) :
    wpAny M (A.deeper env) (leaving env (.ref e)) Q E s' := by
  obtain ⟨B, a0, hB, hl, hfl⟩ := R
  exact wpAny_leaves_onW (Around.frames_deeper K.stack) hf hfl fun h' x1 x2 => hQ h' ⟨B, a0, hB, hl, x1⟩ ((Heap.UpToSlots.of_keeps F.keep).trans (hsm.trans x2))
end
end Mine
end
section
open PySem PySem.W PyProof.Rows PySem.Calls PySem.Spec
namespace Mine

section
variable {prog : Program} {w : World} {A : Around} {s : Shared} {base g : Heap} {l : List Env} {K : Frag} {p : Program} {loose : List Str} {mean : ExcName → Option Value} {mg mb : Str → Option Value} {news : List (Addr × Obj)}
  {R : Result → Shared → Prop} {name qual : Str} {params : Arguments} {body : List Stmt} {scope : Scope} {dV kV doc pm cdv ct oc : Value} {an od : Option Addr} {osl : Array (Option Value)} {f : Addr} {args : Args} {binds : List (Str × Value)}

theorem enterP (B : Below A base l g) (hg : g.StaysIn s.heap) (hsz : g.objs.size ≤ s.heap.objs.size) (X₀ : K.In g) (T : Top p loose mean mg mb g)
    (NG : ∀ q ∈ news, s.heap.get? q.1 = some q.2 ∧ g.get? q.1 = none)
    (ho : K.lookup f = some ⟨oc, od, .func (fnOf name qual params body scope dV kV doc pm an cdv ct), osl⟩) (hcd : codeIn K cdv qual = true) (hroom : A.depth < recursionLimit)
    (hbind : BindsTo s (fnOf name qual params body scope dV kV doc pm an cdv ct) args binds) (hloc : ∀ y ∈ binds, scope.names.lookup y.1 = some .local)
    (h : ∀ L' h₁, Fr g L' h₁ (fun y => binds.reverse.lookup y) → News g L' h₁ news → (∀ q ∈ news, q.1 < L') →
      wpAny (model prog w) (A.deeper (envOf qual scope L' f cdv)) (execs body (envOf qual scope L' f cdv))
        (fun fl s' => R (.ok (.ret (match fl with | .ret v => v | _ => .none))) s')
        (fun e s' => wpAny (model prog w) (A.deeper (envOf qual scope L' f cdv)) (leaving (envOf qual scope L' f cdv) e) (fun _ s'' => R (.error e) s'') (fun e' s'' => R (.error e') s'') s')
        { s with heap := h₁, toks := s.toks + binds.length })
    (hco : scope.isCoroutine = false) (hgen : scope.isGenerator = false) (hk : scope.kind = .function)
    (hcell : ∀ x ∈ scope.names, x.2 ≠ .cell) : codeAny (model prog w) A (.call (.ref f) args) R s := by
  have X := X₀.keeps hg
  refine codeAny_call_def (fd := fnOf name qual params body scope dV kV doc pm an cdv ct) (body := body) (binds := binds) hroom (X _ _ ho) rfl (T.nolimit.keeps hg) (codeRec_of X hcd) rfl hbind hcell hloc (fun h₁ hns hk₁ => ?_) hco hgen hk
  exact h _ h₁ ⟨hns, fun b o e => hk₁ b o (hg b o e), hsz⟩ (fun q hq => ⟨hk₁ _ _ (NG q hq).1, Nat.ne_of_lt (Heap.lt_size (NG q hq).1), (NG q hq).2⟩) (fun q hq => Heap.lt_size (NG q hq).1)

theorem enterC (B : Below A base l g) (hg : g.StaysIn s.heap) (hsz : g.objs.size ≤ s.heap.objs.size) (X₀ : K.In g) (T : Top p loose mean mg mb g)
    (NG : ∀ q ∈ news, s.heap.get? q.1 = some q.2 ∧ g.get? q.1 = none)
    (ho : K.lookup f = some ⟨oc, od, .func (fnOf name qual params body scope dV kV doc pm an cdv ct), osl⟩) (hcd : codeIn K cdv qual = true) (hroom : A.depth < recursionLimit)
    (hbind : BindsTo s (fnOf name qual params body scope dV kV doc pm an cdv ct) args binds) (hkind : (binds.all fun y => scope.names.lookup y.1 == some .local || scope.names.lookup y.1 == some .cell) = true)
    (hnd : ((cellsFrom 0 scope.names []).map (·.1)).Nodup)
    (h : ∀ L' h₁ tk cells, Fr g L' h₁ (bindL (envOfC qual scope L' f cdv).kindOf binds fun _ => none) → News g L' h₁ (cells ++ news) →
      CellsAre (bindC (envOfC qual scope L' f cdv).kindOf binds fun _ => none) (cellsFrom (L' + 1) scope.names []) cells → (∀ q ∈ news, q.1 < L') →
      wpAny (model prog w) (A.deeper (envOfC qual scope L' f cdv)) (execs body (envOfC qual scope L' f cdv))
        (fun fl s' => R (.ok (.ret (match fl with | .ret v => v | _ => .none))) s')
        (fun e s' => wpAny (model prog w) (A.deeper (envOfC qual scope L' f cdv)) (leaving (envOfC qual scope L' f cdv) e) (fun _ s'' => R (.error e) s'') (fun e' s'' => R (.error e') s'') s')
        { s with heap := h₁, toks := tk })
    (hco : scope.isCoroutine = false) (hgen : scope.isGenerator = false) (hk : scope.kind = .function) : codeAny (model prog w) A (.call (.ref f) args) R s := by
  have X := X₀.keeps hg
  refine codeAny_call_function hroom (X _ _ ho) rfl hco hgen rfl (codeRec_of X hcd) (hbind _ _ _ _ ?_)
  refine wpAny_newFunctionEnv_cells hk (kindsX hkind _) fun env' he s' x => ?_
  subst he
  refine ⟨(T.nolimit.keeps hg).keeps x.toInCall.keep, codeAny_func ?_⟩
  obtain ⟨h₁, tk, rfl, _⟩ := x.done
  have hk₁ := x.toInCall.keep
  obtain ⟨cells, NC, Y⟩ := Cl.news (h₀ := s.heap) (Nat.le_refl _) fun n c hm => ⟨x.cell n c (lookup_of_mem_nodup (cellsFrom_names scope.names 0 (s.heap.objs.size + 1) [] [] rfl ▸ hnd) hm), x.above n c hm⟩
  refine h _ h₁ tk cells ⟨x.toInCall.ns, fun b o e => hk₁ b o (hg b o e), hsz⟩ (fun q hq => ?_) Y (fun q hq => Heap.lt_size (NG q hq).1)
  rcases List.mem_append.mp hq with hq | hq
  · refine ⟨(NC q hq).1, (NC q hq).2.1, ?_⟩
    cases e : g.get? q.1 with
    | none => rfl
    | some o => have := hg _ _ e; rw [(NC q hq).2.2] at this; cases this
  · exact ⟨hk₁ _ _ (NG q hq).1, Nat.ne_of_lt (Heap.lt_size (NG q hq).1), (NG q hq).2⟩
end

/-- an exception flies out of a call that began at the heap G: all of G stands but the frames' own slots -/
structure Flew (base G : Heap) (l : List Env) (e : Addr) (cls : Value) (h : Heap) : Prop where
  raised : RaisedSN base G l e cls [] h
  slots : G.UpToSlots h

section
variable {M : Model} {A : Around} {E : Value → Shared → Prop} {s' : Shared} {base g g₂ h : Heap} {outer : List Env} {L e : Addr} {m : Str → Option Value} {env : Env} {Q : Unit → Shared → Prop} {cls : Value}

theorem mem_frames {b : Addr} (hf : env.frame = some L) (hm : b ∈ (env :: outer).filterMap (·.frame)) : b = L ∨ b ∈ outer.filterMap (·.frame) := by
  obtain ⟨en, he, hfe⟩ := List.mem_filterMap.mp hm
  rcases List.mem_cons.mp he with rfl | he
  · exact .inl (Option.some.inj (hfe.symm.trans hf))
  · exact .inr (List.mem_filterMap.mpr ⟨en, he, hfe⟩)

theorem leave_firstS (K : Below A base outer g) (hx : MadeX h s'.heap e cls) (F : Fr g L h m) (hf : env.frame = some L) (hk : env.scope.kind = .function)
    (hQ : ∀ h', Flew base g outer e cls h' → Q () { s' with heap := h' }) :
    wpAny M (A.deeper env) (leaving env (.ref e)) Q E s' := by
  have K' := pushX K F hf hk
  have hin : ∀ en ∈ (env :: outer), ∀ b, en.frame = some b → b ∈ (env :: outer).filterMap (·.frame) := fun en he b hb => List.mem_filterMap.mpr ⟨en, he, hb⟩
  have st : base.StaysIn (hideAll h ((env :: outer).filterMap (·.frame))) := fun b o q => hideAll_get _ (K'.stays b o q) fun hm => by
    rw [(K'.frames.mem hm).1] at q; cases q
  have sg : ∀ b o, g.get? b = some o → b ∉ outer.filterMap (·.frame) → (hideAll h ((env :: outer).filterMap (·.frame))).get? b = some o := fun b o q nm => hideAll_get _ (F.keep b o q) fun hm => by
    rcases mem_frames hf hm with z | z
    · rw [z, kts_self F] at q
      cases q
    · exact nm z
  obtain ⟨oe, vs, a0, he, hcls, hd, h0, h1⟩ := hx.there
  have hen : (hideAll h ((env :: outer).filterMap (·.frame))).get? e = none := by
    cases q : (hideAll h ((env :: outer).filterMap (·.frame))).get? e with
    | none => rfl
    | some o => have := of_hideAll _ q; rw [hx.new] at this; cases this
  refine wpAny_leaving_firstW (a0 := a0) K'.stack ((funFrames_hide K'.frames hin).of_keeps fun b o hb _ => ⟨o, hx.keeps b o hb, rfl⟩) hf he (fun b o hb => hx.keeps b o (of_hideAll _ hb)) hen hd h1 h0 fun h' hL => ?_
  obtain ⟨k1, ⟨_, _, k2⟩, k3, k4⟩ := hL
  exact hQ h' ⟨⟨_, a0, st, sg, (fun q hq => nomatch hq), k1, hen, k2, by rw [← hcls]; exact k3⟩, (((Heap.UpToSlots.of_keeps F.keep).trans (Heap.UpToSlots.of_keeps hx.keeps)).trans k4)⟩

theorem leave_nextS (K : Below A base outer g) (F : Fr g L g₂ m) (R : Flew base g₂ (env :: outer) e cls s'.heap) (hf : env.frame = some L)
    (hQ : ∀ h', Flew base g outer e cls h' → Q () { s' with heap := h' }) :
    wpAny M (A.deeper env) (leaving env (.ref e)) Q E s' := by
  obtain ⟨⟨B, a0, hB, hBG, hl, hfl⟩, hsm⟩ := R
  exact wpAny_leaves_onW (Around.frames_deeper K.stack) hf hfl fun h' x1 x2 =>
    hQ h' ⟨⟨B, a0, hB, fun b o q nm => hBG b o (F.keep b o q) (fun hm => by
      rcases mem_frames hf hm with z | z
      · rw [z, kts_self F] at q
        cases q
      · exact nm z), (fun q hq => nomatch hq), x1⟩, (Heap.UpToSlots.of_keeps F.keep).trans (hsm.trans x2)⟩
end

section
variable {M : Model} {A : Around} {E : Value → Shared → Prop} {env : Env}
variable {nm q : Str} {C N : Addr} {bs bm : List Value} {hdct : Bool} {sn : List Str} {sub : List Value} {ab : Bool} {col : Option Bool} {dd : Option Addr} {k0 k1 k2 k3 k5 : Option Value} {newId : String}

theorem raise_made {s : Shared} {x : Sem Value} {Q : Flow → Shared → Prop} (T : TailOk bm) (hh : A.handled = none)
    (h : wpAny M A x (fun v s₁ => ∃ e oe, v = .ref e ∧ s₁.heap.get? C = some (excClassObj nm q C N bs bm hdct sn sub ab col dd k0 k1 k2 k3 k5 newId) ∧
      s₁.heap.get? e = some oe ∧ oe.cls = .ref C ∧ (∃ vs, oe.data = .fields vs ∧ vs[1]? = some .none) ∧ E (.ref e) s₁) E s) :
    wpAny M A (raiseStmt env (some x) none) Q E s := by
  have hcB : (Value.ref C :: bm).contains (.type "BaseException") = true := by rw [List.contains_cons, T.base, Bool.or_true]
  unfold raiseStmt
  refine wpAny_bind (wpAny_mono h (fun v s₁ h₁ => ?_) fun _ _ x => x)
  obtain ⟨e, oe, rfl, hC, he, hcl, ⟨vs, hda, hv1⟩, hE⟩ := h₁
  obtain ⟨oc, odi, oda, osl⟩ := oe
  dsimp only at hcl hda
  subst hcl hda
  obtain ⟨hp, g, d, tk, os⟩ := s₁
  repeat (first | with_reducible refine wpAny_loadPart_at he ?_ | with_reducible refine wpAny_loadPart_at hC ?_ | (with_reducible refine wpAny_isSubtype_exc hC ?_; rw [hcB]) | wp_step)
  rw [hv1]
  wp_walk
  exact wpAny_raiseNew_none hh hE

theorem raise_call {s : Shared} {x : PySem.Expr} {pos : Pos} {Q : Flow → Shared → Prop} (T : TailOk bm) (hh : A.handled = none)
    (h : wpAny M A (eval x env) (fun v s₁ => ∃ e oe, v = .ref e ∧ s₁.heap.get? C = some (excClassObj nm q C N bs bm hdct sn sub ab col dd k0 k1 k2 k3 k5 newId) ∧
      s₁.heap.get? e = some oe ∧ oe.cls = .ref C ∧ (∃ vs, oe.data = .fields vs ∧ vs[1]? = some .none) ∧ E (.ref e) s₁) E s) :
    wpAny M A (exec (.Raise (some x) none pos) env) Q E s := by
  rw [arm_exec_Raise]
  first
    | exact wpAny_bind (wpAny_standAt (raise_made T hh (wpAny_bind (wpAny_mono h (fun v s₃ h₃ => wpAny_bind (wpAny_standAt (wpAny_pure h₃))) fun _ _ x => x))))
    | (simp only [evalOpt, Option.map]; exact wpAny_bind (wpAny_standAt (raise_made T hh (wpAny_bind (wpAny_mono h (fun v s₃ h₃ => wpAny_bind (wpAny_standAt (wpAny_pure h₃))) fun _ _ x => x)))))
end

/-- the raise statement of an own class of the written part -/
theorem raise_K {M : Model} {A : Around} {E : Value → Shared → Prop} {env : Env} {K : Frag} {C : Addr} {h₀ : Heap} {s : Shared} {x : PySem.Expr} {pos : Pos} {Q : Flow → Shared → Prop} (X₀ : K.In h₀) (hx : xcIn K C = true) (hh : A.handled = none)
    (h : wpAny M A (eval x env) (fun v s₁ => ∃ e oe, v = .ref e ∧ h₀.StaysIn s₁.heap ∧ s₁.heap.get? e = some oe ∧ oe.cls = .ref C ∧ (∃ vs, oe.data = .fields vs ∧ vs[1]? = some .none) ∧ E (.ref e) s₁) E s) :
    wpAny M A (exec (.Raise (some x) none pos) env) Q E s := by
  obtain ⟨nm, qn, Nn, bs, bm, hdct, sn, sub, ab, col, dd, k0, k1, k2, k3, k5, hC, T⟩ := xc_cls X₀ hx
  refine raise_call (C := C) (nm := nm) (q := qn) (N := Nn) (bs := bs) (bm := bm) (hdct := hdct) (sn := sn) (sub := sub) (ab := ab) (col := col) (dd := dd) (k0 := k0) (k1 := k1) (k2 := k2) (k3 := k3) (k5 := k5) (newId := "Exception.__new__") T hh (wpAny_mono h (fun v s₁ h₁ => ?_) fun _ _ y => y)
  obtain ⟨e, oe, rfl, st, he, hcl, hda, hE⟩ := h₁
  exact ⟨e, oe, rfl, st _ _ hC, he, hcl, hda, hE⟩
end Mine
end
section
open PySem PySem.W PyProof.Rows PySem.Calls PySem.Spec
namespace Mine
section
variable {prog : Program} {w : World} {A : Around} {E : Value → Shared → Prop} {s : Shared} {K : Frag}
theorem xm_init {pl : Sem Bool} {Q : Value × List Value → Shared → Prop} (X : K.In s.heap)
    (e : findCls K (.type "Exception") (.type "type") (PySem.Str.ofString "__init__") = some (.val (.builtin "Exception.__init__")))
    (h : Q (.builtin "Exception.__init__", []) { s with toks := s.toks + 1 }) :
    wpAny (model prog w) A (getMethod (.type "Exception") (PySem.Str.ofString "__init__") pl) Q E s := by
  have hstub : opaqueClassAbove (.type "Exception") = pure none := by unfold opaqueClassAbove; dsimp only; rw [show Manifest.isStub "Exception" = false by decide +kernel]; rfl
  have ht : typeOf (.type "Exception") = pure (.type "type") := by first | rfl | kernel_rfl
  have L0 : Looks (model prog w) s.heap (typeOf (.type "Exception")) (.type "type") := Looks.of_pure ht
  have hg : findIn K (.type "type") "__getattribute__" = some (some (.builtin "type.__getattribute__")) := type_tga
  unfold getMethod specialOf
  refine wpAny_bind (wpAny_bind (L0.here ((looks_findIn X hg).here ?_)))
  dsimp only
  rw [if_pos canon_tga]
  refine wpAny_bind (wpAny_mono (Q := fun v => Q (v, [])) (E := E) ?_ (fun _ _ z => wpAny_pure z) fun _ _ z => z)
  have LO : Looks (model prog w) s.heap (opaqueClassAbove (.type "Exception")) none := Looks.of_pure hstub
  refine cls_open X LO L0 hg (looks_hook X (r := none) (by rfl)) (by show subIn K _ _ = _; rfl) e ?_
  exact wpAny_pure (by show wpAny _ _ (handedOut _) _ _ _; rw [handedOut_of rfl]; exact wpAny_pure h)
end
end Mine
end
section
open PySem PySem.W PyProof.Rows PySem.Calls PySem.Spec PyProof.Rows.LCg
namespace Mine
section
variable {prog : Program} {w : World} {A : Around} {E : Value → Shared → Prop} {s : Shared} {h₀ : Heap} {L : Addr} {m : Str → Option Value} {env : Env}

def SrcD (prog : Program) (w : World) (A : Around) (h₀ : Heap) (L : Addr) (m : Str → Option Value) (env : Env) (elt : Expr) (x : Str) (scope : Scope) (cl : List (Str × Addr)) (Fi : Shared → List Value → List (Addr × Obj) → Prop) (xv : Value) (s₁ : Shared) : Prop :=
  ∃ r a b c t u v vals news, xv = .ref r ∧ A.handled = none ∧ Fr h₀ L s₁.heap m ∧ News h₀ L s₁.heap news ∧ IsRange s₁.heap r a b c t u v ∧ Builtin.Range.small a b c = true ∧ Builtin.Range.rangeSize a b c = ((List.length vals : Nat) : Int) ∧ List.length vals ≤ sizeLine ∧
    (∀ i, i < List.length vals → a + (i : Int) * c = List.getD vals i 0) ∧
    ∀ s₂ : Shared, (∃ h, s₂ = { s₁ with heap := h }) → CompRest prog w A h₀ L m env elt x scope cl s₂ (fun _ => True) (fun i v => ∃ t, v = .int (List.getD vals i 0) t) (Fi s₂) (List.length vals) 0 [] news
theorem SrcD.intro {elt : Expr} {x : Str} {scope : Scope} {cl : List (Str × Addr)} {Fi : Shared → List Value → List (Addr × Obj) → Prop} {r : Addr} {a b c : Int} {t u v : Tok} (vals : List Int) {news : List (Addr × Obj)} {s₁ : Shared}
    (hh : A.handled = none) (F : Fr h₀ L s₁.heap m) (N : News h₀ L s₁.heap news) (hr : IsRange s₁.heap r a b c t u v) (hsm : Builtin.Range.small a b c = true) (hn : Builtin.Range.rangeSize a b c = ((vals.length : Nat) : Int)) (hsz : vals.length ≤ sizeLine)
    (hv : ∀ i, i < vals.length → a + (i : Int) * c = vals.getD i 0)
    (h : ∀ g, CompRest prog w A h₀ L m env elt x scope cl { s₁ with heap := g } (fun _ => True) (fun i v => ∃ t, v = .int (vals.getD i 0) t) (Fi { s₁ with heap := g }) vals.length 0 [] news) :
    SrcD prog w A h₀ L m env elt x scope cl Fi (.ref r) s₁ := ⟨r, a, b, c, t, u, v, vals, news, rfl, hh, F, N, hr, hsm, hn, hsz, hv, fun _ ⟨g, e⟩ => e ▸ h g⟩

theorem down_walks {I : Addr} (hh : A.handled = none) (a c : Int) (vals : List Int) (hv : ∀ i, i < vals.length → a + (i : Int) * c = vals.getD i 0) :
    Walks prog w A I [I] [I] vals.length (fun i v => ∃ t, v = .int (vals.getD i 0) t) (fun i h => IsRangeIter h I (a + (i : Nat) * c) ((vals.length : Int) - (i : Nat)) c) :=
  let W : Walks prog w A I [I] [I] vals.length (fun i v => i < vals.length ∧ ∃ t, v = .int (a + i * c) t) (fun i h => IsRangeIter h I (a + (i : Nat) * c) ((vals.length : Int) - (i : Nat)) c) := (Walks.range hh I a c vals.length).bound
  { sub := W.sub, frame := W.frame, done := W.done, self := W.self,
    item := fun i s Q E hi st hQ => W.item i s Q E hi st fun v h' tk hP => hQ v h' tk (by obtain ⟨_, t, rfl⟩ := hP; exact ⟨t, by rw [hv i hi]⟩) }
theorem down_st {I : Addr} {a c : Int} {n : Nat} : ∀ i (h h' : Heap) (o : Obj) (nw : List (Addr × Obj)), IsRangeIter h I (a + (i : Nat) * c) ((n : Int) - (i : Nat)) c → h.get? I = some o → h'.get? I = some o → (∀ b o, h₀.get? b = some o → h'.get? b = some o) → News h₀ L h' nw → True → IsRangeIter h' I (a + (i : Nat) * c) ((n : Int) - (i : Nat)) c :=
  fun i h h' o nw st e e' _ _ _ => by
    have st' : h.get? I = some _ := st
    show h'.get? I = some _
    rw [e', ← e]; exact st'

theorem ListComp_D {elt iter : Expr} {x : Str} {px : Pos} {scope : Scope} {cl : List (Str × Addr)} {pos : Pos} {Q : Value → Shared → Prop} (F₀ : Fr h₀ L s.heap m)
    (hclos : closureFor scope env = pure cl) (hcell : ∀ y ∈ scope.names, y.2 ≠ .cell) (hkind : scope.kind = .function)
    (hnames : ∀ y ∈ scope.names, y.2 = .local → scope.names.lookup y.1 = some .local) (hx : scope.names.lookup x = some .local)
    (h : wpAny (model prog w) A (eval iter env) (SrcD prog w A h₀ L m env elt x scope cl (fun s₂ => FinE h₀ L m s₂ Q)) E s)
    (hs : ∀ x, foldedSetIterable iter env x = pure x := by intro _; rfl) :
    wpAny (model prog w) A (eval (.ListComp elt [⟨.Name x px, iter, [], 0⟩] scope pos) env) Q E s := by
  rw [eval_ListComp]
  refine wpAny_comprehension_free (use := none) rfl hs hclos hkind hnames (wpAny_mono h (fun xv s₁ h₁ => ?_) fun _ _ e => e)
  obtain ⟨r, a, b, c, t, u, v, vals, news, rfl, hh, F, N, hr, hsm, hn, hsz, hv, R⟩ := h₁
  refine wpAny_pyIter_range hr hsm ?_
  refine block_U (down_walks hh a c vals hv) hsz (fun i h st => ⟨_, st⟩) down_st hcell hkind hx (by show IsRangeIter _ _ _ _ _; rw [hn]; simpa using Heap.get?_push_size _ rfl) (fun b hb => ?_)
    (F.keeps fun _ _ e => Heap.get?_push_of_some _ e) (N.grown fun _ _ e => Heap.get?_push_of_some _ e) (Nat.ne_of_lt F.ns.lt) (next_is_new F) (fun p hp => Nat.ne_of_lt (Heap.lt_size (N p hp).1)) trivial (R _ ⟨_, rfl⟩) ?_
  · rw [List.mem_singleton.mp hb]
    show s₁.heap.objs.size < (s₁.heap.push _).objs.size
    rw [Heap.size_push]; exact Nat.lt_succ_self _
  · intro D C h tk m' ys news' F' N' o1 hn hC₀ hD₀ hCL hDL hCD offC fin
    refine ⟨m', hn, fun h'' hs'' => fin D h'' tk (F'.change hs'' hCL hC₀) (fun p hp => ?_) o1⟩
    refine ⟨hs''.extBut _ _ ?_ (N' p hp).1, (N' p hp).2⟩
    rcases List.mem_cons.mp hp with rfl | hp
    · exact Ne.symm hCD
    · exact offC p hp
end
end Mine
end
section
open PySem PySem.W PyProof.Rows PySem.Calls PySem.Spec PyProof.Rows.LCg
namespace Mine

section
variable {prog : Program} {w : World} {A : Around} {E : Value → Shared → Prop} {s : Shared} {h₀ : Heap} {L : Addr} {m : Str → Option Value} {env : Env}

def SrcT (prog : Program) (w : World) (A : Around) (h₀ : Heap) (L : Addr) (m : Str → Option Value) (env : Env) (elt : Expr) (x : Str) (scope : Scope) (cl : List (Str × Addr)) (Fi : Shared → List Value → List (Addr × Obj) → Prop) (xv : Value) (s₁ : Shared) : Prop :=
  ∃ ax its news, xv = .ref ax ∧ A.handled = none ∧ Fr h₀ L s₁.heap m ∧ News h₀ L s₁.heap news ∧ IsTup h₀ ax its ∧ its.size ≤ sizeLine ∧
    ∀ s₂ : Shared, (∃ h, s₂ = { s₁ with heap := h }) → CompRest prog w A h₀ L m env elt x scope cl s₂ (fun _ => True) (fun i v => its[i]? = some v) (Fi s₂) its.size 0 [] news
theorem SrcT.intro {elt : Expr} {x : Str} {scope : Scope} {cl : List (Str × Addr)} {Fi : Shared → List Value → List (Addr × Obj) → Prop} {ax : Addr} {its : Array Value} {news : List (Addr × Obj)} {s₁ : Shared}
    (hh : A.handled = none) (F : Fr h₀ L s₁.heap m) (N : News h₀ L s₁.heap news) (ht : IsTup h₀ ax its) (hsz : its.size ≤ sizeLine)
    (h : ∀ g, CompRest prog w A h₀ L m env elt x scope cl { s₁ with heap := g } (fun _ => True) (fun i v => its[i]? = some v) (Fi { s₁ with heap := g }) its.size 0 [] news) :
    SrcT prog w A h₀ L m env elt x scope cl Fi (.ref ax) s₁ := ⟨ax, its, news, rfl, hh, F, N, ht, hsz, fun _ ⟨g, e⟩ => e ▸ h g⟩

theorem tup_st {ax I : Addr} {its : Array Value} (ht : IsTup h₀ ax its) : ∀ i (h h' : Heap) (o : Obj) (nw : List (Addr × Obj)), (h.IsTupleIter I ax i ∧ h.IsTuple ax its) → h.get? I = some o → h'.get? I = some o → (∀ b o, h₀.get? b = some o → h'.get? b = some o) → News h₀ L h' nw → True → (h'.IsTupleIter I ax i ∧ h'.IsTuple ax its) :=
  fun i h h' o nw st e e' k N _ => ⟨st.1.at fun o' q => by rw [e] at q; cases q; exact e', by obtain ⟨o', q, c, r⟩ := ht; exact ⟨o', k _ _ q, c, r⟩⟩

theorem ListComp_T {elt iter : Expr} {x : Str} {px : Pos} {scope : Scope} {cl : List (Str × Addr)} {pos : Pos} {Q : Value → Shared → Prop} (F₀ : Fr h₀ L s.heap m)
    (hclos : closureFor scope env = pure cl) (hcell : ∀ y ∈ scope.names, y.2 ≠ .cell) (hkind : scope.kind = .function)
    (hnames : ∀ y ∈ scope.names, y.2 = .local → scope.names.lookup y.1 = some .local) (hx : scope.names.lookup x = some .local)
    (h : wpAny (model prog w) A (eval iter env) (SrcT prog w A h₀ L m env elt x scope cl (fun s₂ => FinE h₀ L m s₂ Q)) E s)
    (hs : ∀ x, foldedSetIterable iter env x = pure x := by intro _; rfl) :
    wpAny (model prog w) A (eval (.ListComp elt [⟨.Name x px, iter, [], 0⟩] scope pos) env) Q E s := by
  rw [eval_ListComp]
  refine wpAny_comprehension_free (use := none) rfl hs hclos hkind hnames (wpAny_mono h (fun xv s₁ h₁ => ?_) fun _ _ e => e)
  obtain ⟨ax, its, news, rfl, hh, F, N, ht, hsz, R⟩ := h₁
  have hl : s₁.heap.IsTuple ax its := by obtain ⟨o', q, c, r⟩ := ht; exact ⟨o', F.keep _ _ q, c, r⟩
  have hlt : ax < s₁.heap.objs.size := by obtain ⟨_, e, _⟩ := hl; exact Heap.lt_size e
  refine wpAny_pyIter_tuple hl ?_
  have up : ∀ b o, s₁.heap.get? b = some o → (s₁.heap.push { cls := .type "tuple_iterator", data := .fields #[.ref ax, .int 0 0] }).get? b = some o := fun b o e => Heap.get?_push_of_some _ e
  refine block_U (Walks.tuple hh s₁.heap.objs.size ax (Nat.ne_of_lt hlt) its) hsz (fun i h st => by obtain ⟨o, e, _⟩ := st.1; exact ⟨o, e⟩) (tup_st ht) hcell hkind hx ⟨⟨_, Heap.get?_push_size _ rfl, rfl, rfl⟩, by obtain ⟨o', q, r⟩ := hl; exact ⟨o', up _ _ q, r⟩⟩ (fun b hb => ?_)
    (F.keeps up) (N.grown up) (Nat.ne_of_lt F.ns.lt) (next_is_new F) (fun p hp => Nat.ne_of_lt (Heap.lt_size (N p hp).1)) trivial (R _ ⟨_, rfl⟩) ?_
  · show b < (s₁.heap.push _).objs.size
    rw [Heap.size_push]
    rcases List.mem_cons.mp hb with rfl | hb
    · exact Nat.lt_succ_self _
    · rw [List.mem_singleton.mp hb]; exact Nat.lt_succ_of_lt hlt
  · intro D C h tk m' ys news' F' N' o1 hn hC₀ hD₀ hCL hDL hCD offC fin
    refine ⟨m', hn, fun h'' hs'' => fin D h'' tk (F'.change hs'' hCL hC₀) (fun p hp => ?_) o1⟩
    refine ⟨hs''.extBut _ _ ?_ (N' p hp).1, (N' p hp).2⟩
    rcases List.mem_cons.mp hp with rfl | hp
    · exact Ne.symm hCD
    · exact offC p hp
end
end Mine
end
section
open PySem PySem.W PyProof.Rows PySem.Calls PySem.Spec PyProof.Rows.LCg
namespace Mine

section
variable {M : Model} {A : Around} {E : Value → Shared → Prop} {s : Shared} {base : Heap} {env : Env} {outer : List Env} {L e : Addr} {cls a0 fl : Value} {Q : Unit → Shared → Prop}
theorem leaves_any (hfr : A.frames = some (env :: outer)) (hl : s.heap.FunFrames base (env :: outer)) (hf : env.frame = some L) (ht : s.heap.TracedAtW base e cls a0 fl) (hkb : base.StaysIn s.heap) (hen : base.get? e = none)
    (h : ∀ h', Heap.LeftW base (env :: outer) e cls a0 s.heap h' → Q () { s with heap := h' }) : wpAny M A (leaving env (.ref e)) Q E s := by
  cases hb : (fl == rawInt L) with
  | true =>
    obtain rfl : fl = rawInt L := beq_iff_eq.mp hb
    unfold leaving
    refine wpAny_bind (wpAny_noteFrame_againW hf ht ?_)
    exact wpAny_setFlight_noneW hkb hl ht fun h' k1 k2 k3 k4 => h h' ⟨k1, k2, k3, fun b o hb hn => ⟨o.slots, k4 b o hb hn⟩⟩
  | false =>
    obtain ⟨oe, vs, T, oT, ts, he, ⟨hcls, h0⟩, hd, h1, hnT, hTe, hT, hdT, h3⟩ := ht
    subst hcls
    unfold leaving noteFrame
    simp only [hf]
    refine wpAny_bind (wpAny_bind (wpAny_field he hd h1 ?_))
    rw [if_pos (show (Value.ref T != Value.none) = true from by simp)]
    refine wpAny_bind (wpAny_field hT hdT h3 ?_)
    rw [if_neg (by rw [hb]; exact Bool.false_ne_true)]
    refine wpAny_bind (wpAny_setField hT hdT (Array.getElem?_eq_some_iff.mp h3).1 ?_)
    have other : ∀ b, b ≠ T → (s.heap.update T (Obj.mapFields (·.setIfInBounds 3 Value.none))).get? b = s.heap.get? b := fun b hb => Heap.get?_update_other _ _ (Ne.symm hb)
    have noRecord : ∀ b o, s.heap.get? b = some o → (∀ vs, o.data ≠ .fields vs) → b ≠ T := fun b o hb hnf q => by
      rw [q, hT] at hb; injection hb with hb; subst hb; exact hnf ts hdT
    refine wpAny_newEntryW hfr (hl.of_keeps fun b o hb hnf => ⟨o, (other b (noRecord b o hb hnf)).trans hb, rfl⟩) hf ((other e (Ne.symm hTe)).trans he)
      (fun b o hbo => (other b fun q => by rw [q, hnT] at hbo; cases hbo).trans (hkb b o hbo)) hen hd (Array.getElem?_eq_some_iff.mp h1).1 h0
      fun h' ⟨x1, x2, x3, x4⟩ => h h' ⟨x1, x2, x3, fun b o hb hnf => x4 b o ((other b (noRecord b o hb hnf)).trans hb) hnf⟩
end

/-- an exception held within a frame (its flight is of any kind) -/
structure FlewA (base G : Heap) (l : List Env) (e : Addr) (cls : Value) (h : Heap) : Prop where
  it : ∃ B a0 fl, base.StaysIn B ∧ (∀ b o, G.get? b = some o → b ∉ l.filterMap (·.frame) → B.get? b = some o) ∧ B.StaysIn h ∧ B.get? e = none ∧ h.FunFrames B l ∧ h.TracedAtW B e cls a0 fl
  slots : G.UpToSlots h

theorem leave_anyS {M : Model} {A : Around} {E : Value → Shared → Prop} {s' : Shared} {base g g₂ : Heap} {outer : List Env} {L e : Addr} {m : Str → Option Value} {env : Env} {Q : Unit → Shared → Prop} {cls : Value}
    (K : Below A base outer g) (F : Fr g L g₂ m) (R : FlewA base g₂ (env :: outer) e cls s'.heap) (hf : env.frame = some L)
    (hQ : ∀ h', Flew base g outer e cls h' → Q () { s' with heap := h' }) :
    wpAny M (A.deeper env) (leaving env (.ref e)) Q E s' := by
  obtain ⟨⟨B, a0, fl, hB, hBG, f1, f2, f3, f4⟩, hsm⟩ := R
  refine leaves_any (Around.frames_deeper K.stack) f3 hf f4 f1 f2 fun h' hL => ?_
  obtain ⟨k1, ⟨_, _, k2⟩, k3, k4⟩ := hL
  exact hQ h' ⟨⟨B, a0, hB, fun b o q nm => hBG b o (F.keep b o q) (fun hm => by
      rcases mem_frames hf hm with z | z
      · rw [z, kts_self F] at q
        cases q
      · exact nm z), (fun q hq => nomatch hq), k1, f2, k2, k3⟩, (Heap.UpToSlots.of_keeps F.keep).trans (hsm.trans k4)⟩

theorem noteFrame_congr {env env' : Env} (h : env'.frame = env.frame) (x : Value) : noteFrame x env' = noteFrame x env := by
  unfold noteFrame PySem.frameOf
  rw [h]

section
variable {prog : Program} {w : World} {A : Around} {E : Value → Shared → Prop} {s : Shared} {base : Heap} {env : Env} {outer : List Env} {L : Addr}

theorem tracedAt_base {h base B : Heap} {e : Addr} {cls a0 fl : Value} (k : base.StaysIn B) (x : h.TracedAtW B e cls a0 fl) : h.TracedAtW base e cls a0 fl := by
  obtain ⟨oe, vs, T, oT, ts, a1, a2, a3, a4, a5, a6⟩ := x
  exact ⟨oe, vs, T, oT, ts, a1, a2, a3, a4, fresh_of_stays k a5, a6⟩

theorem passOn_any {α : Type} {cenv : Env} {e : Addr} {cls a0 fl : Value} {l : List Env} {hp : Heap} {what : String} {Q : α → Shared → Prop} (hkb : hp.StaysIn s.heap) (hen : hp.get? e = none) (hl : s.heap.FunFrames hp l) (ht : s.heap.TracedAtW hp e cls a0 fl)
    (h : ∀ h' fl', hp.StaysIn h' → h'.FunFrames hp l → h'.TracedAtW hp e cls a0 fl' → s.heap.UpToSlots h' → E (.ref e) { s with heap := h' }) :
    wpAny (model prog w) A (PySem.passOn what (.ref e) cenv : Sem α) Q E s := by
  obtain ⟨oe, vs, T, oT, ts, he, hcls, hd, h1, hnT, hTe, hT, hdT, h3⟩ := ht
  have hsz3 : 3 < ts.size := (Array.getElem?_eq_some_iff.mp h3).1
  have other : ∀ b, b ≠ T → (s.heap.update T (Obj.mapFields (·.setIfInBounds 3 (cenv.frame.elim Value.none fun f => rawInt f)))).get? b = s.heap.get? b :=
    fun b hb => Heap.get?_update_other _ _ (Ne.symm hb)
  have noRecord : ∀ b o, s.heap.get? b = some o → (∀ vs, o.data ≠ .fields vs) → b ≠ T := fun b o hb hnf q => by
    rw [q, hT] at hb; injection hb with hb; subst hb; exact hnf ts hdT
  unfold PySem.passOn
  refine wpAny_bind (wpAny_field he hd h1 ?_)
  rw [if_neg (show ¬ (Value.ref T == Value.none) = true from by simp)]
  unfold setFlight
  refine wpAny_bind (wpAny_bind (wpAny_field he hd h1 ?_))
  rw [if_pos (show (Value.ref T != Value.none) = true from by simp)]
  refine wpAny_setField hT hdT hsz3 ?_
  refine wpAny_throw (h _ (cenv.frame.elim Value.none fun f => rawInt f) (fun b o hbo => (other b fun q => by rw [q, hnT] at hbo; cases hbo).trans (hkb b o hbo))
    (hl.of_keeps fun b o hb hnf => ⟨o, (other b (noRecord b o hb hnf)).trans hb, rfl⟩) ?_ fun b o hb hnf => ⟨o.slots, (other b (noRecord b o hb hnf)).trans hb⟩)
  exact ⟨oe, vs, T, _, _, (other e (Ne.symm hTe)).trans he, hcls, hd, h1, hnT, hTe, Heap.get?_update_self _ hT (Obj.isFreed_of_fields (Obj.data_mapFields hdT _)), Obj.data_mapFields hdT _, by simp [hsz3]⟩

theorem funFrames_but {base base' h h' : Heap} {C : Addr} (kb : ∀ b, base.get? b = none → base'.get? b = none) (kh : ∀ b, b ≠ C → h'.get? b = h.get? b) :
    ∀ {l : List Env}, h.FunFrames base l → (∀ en ∈ l, en.frame ≠ some C) → h'.FunFrames base' l
  | [], _, _ => trivial
  | _ :: _, ⟨hk, ⟨L, o, hf, hn, ho, hd⟩, hr⟩, nc => ⟨hk, ⟨L, o, hf, kb L hn, (kh L fun q => nc _ (.head _) (q ▸ hf)).trans ho, hd⟩, funFrames_but kb kh hr fun en he => nc en (.tail _ he)⟩

theorem comp_fail {elt iter : Expr} {x : Str} {px : Pos} {scope : Scope} {cl : List (Str × Addr)} {pos : Pos} {cls : Value} {Q : Value → Shared → Prop}
    (hh : A.handled = none) (hfr : A.frames = some (env :: outer)) (hf : env.frame = some L)
    (hclos : closureFor scope env = pure cl) (hcell : ∀ y ∈ scope.names, y.2 ≠ .cell) (hkind : scope.kind = .function)
    (hnames : ∀ y ∈ scope.names, y.2 = .local → scope.names.lookup y.1 = some .local) (hx : scope.names.lookup x = some .local)
    (h : wpAny (model prog w) A (eval iter env) (fun xv s₁ => ∃ ax its v, xv = .ref ax ∧ s₁.heap.IsTuple ax its ∧ its[0]? = some v ∧ s₁.heap.FunFrames base (env :: outer) ∧ base.StaysIn s₁.heap ∧
      (∀ C oC h₁ tk m₂, s₁.heap.StaysIn h₁ → s₁.heap.get? C = none → h₁.get? C = some oC → NsObj oC m₂ → m₂ x = some v →
        wpAny (model prog w) A (eval elt (compEnvC scope cl C env)) (fun _ _ => False)
          (fun e s' => ∃ a h' tk', e = .ref a ∧ s' = { s₁ with heap := h', toks := tk' } ∧ Flew base h₁ (env :: outer) a cls h') { s₁ with heap := h₁, toks := tk }) ∧
      (∀ a h' tk', FlewA base s₁.heap (env :: outer) a cls h' → E (.ref a) { s₁ with heap := h', toks := tk' })) E s)
    (hs : ∀ x, foldedSetIterable iter env x = pure x := by intro _; rfl) :
    wpAny (model prog w) A (eval (.ListComp elt [⟨.Name x px, iter, [], 0⟩] scope pos) env) Q E s := by
  rw [eval_ListComp]
  refine wpAny_comprehension_free (use := none) rfl hs hclos hkind hnames (wpAny_mono h (fun xv s₁ h₁ => ?_) fun _ _ e => e)
  obtain ⟨ax, its, v, rfl, hl, hv, hfun, hbase, helt, hE⟩ := h₁
  have hlt : ax < s₁.heap.objs.size := by obtain ⟨_, e, _⟩ := hl; exact Heap.lt_size e
  have hn0 : 0 < its.size := (Array.getElem?_eq_some_iff.mp hv).1
  refine wpAny_pyIter_tuple hl ?_
  generalize hIdef : s₁.heap.objs.size = I at *
  generalize hH1 : s₁.heap.push { cls := .type "tuple_iterator", data := .fields #[.ref ax, .int 0 0] } = H1 at *
  have up : ∀ b o, s₁.heap.get? b = some o → H1.get? b = some o := fun b o e => hH1 ▸ Heap.get?_push_of_some _ e
  have hIget : H1.get? I = some { cls := .type "tuple_iterator", data := .fields #[.ref ax, .int 0 0] } := by rw [← hH1, ← hIdef]; exact Heap.get?_push_size _ rfl
  have hszH1 : H1.objs.size = I + 1 := by rw [← hH1, Heap.size_push, hIdef]
  refine wpAny_newObj_type (wpAny_newFunctionEnv hcell (by intro y hy; simp at hy) (fun h₁ hns₁ hsb₁ => ?_) hkind)
  dsimp only at hns₁ hsb₁ ⊢
  generalize hH2 : H1.push { cls := .type "list", dict := none, data := .seq ([] : List Value).toArray } = H2 at hns₁ hsb₁ ⊢
  have hC : H2.objs.size = I + 2 := by rw [← hH2, Heap.size_push, hszH1]
  have up2 : ∀ b o, H1.get? b = some o → H2.get? b = some o := fun b o e => hH2 ▸ Heap.get?_push_of_some _ e
  have ltC : ∀ b o, H1.get? b = some o → b ≠ H2.objs.size := fun b o e => Nat.ne_of_lt (Nat.lt_of_lt_of_le (Heap.lt_size e) (by rw [hszH1, hC]; exact Nat.le_succ _))
  have old : ∀ b o, H1.get? b = some o → h₁.get? b = some o := fun b o e => hsb₁.extBut b o (ltC b o e) (Heap.get?_push_of_some _ (up2 b o e))
  have hCnone : s₁.heap.get? H2.objs.size = none := Heap.get?_none_of_le (by rw [hIdef, hC]; omega)
  have hCI : I ≠ H2.objs.size := by rw [hC]; omega
  have hst : h₁.IsTupleIter I ax 0 ∧ h₁.IsTuple ax its := ⟨⟨_, old _ _ hIget, rfl, rfl⟩, by obtain ⟨o, e, r⟩ := hl; exact ⟨o, old _ _ (up _ _ e), r⟩⟩
  have W := Walks.tuple (prog := prog) (w := w) (A := A) hh I ax (Nat.ne_of_lt hlt) its
  have loop : codeAny (model prog w) A (.compLoop (.ListComp elt [⟨.Name x px, iter, [], 0⟩] scope pos) 0 (.ref I) (.ref H1.objs.size) (compEnvC scope cl H2.objs.size env))
      (compPost (model prog w) A E none Q (.ref H1.objs.size) H2.objs.size) { s₁ with heap := h₁, toks := s₁.toks + ([] : List (Str × Value)).length } := by
    refine codeAny_compLoop_tests (fun k s' => s' = { s₁ with heap := h₁, toks := s₁.toks + ([] : List (Str × Value)).length }) ?_ 1 rfl
    rintro k s' rfl
    refine W.item 0 _ _ _ hn0 hst fun v' h₂ tk₂ hPv hst₂ hk₂ => ?_
    obtain rfl : v = v' := Option.some.inj (hv.symm.trans hPv)
    refine wpAny_assign_Name (wpAny_storeName_local (lookup_relabel_local hx) (hns₁.at' fun o e => hk₂ _ o (by simpa using Ne.symm hCI) e) (fun h₃ hn₃ hs₃ => ?_) (by simp [compEnvC, relabel, hkind]))
    refine wpAny_tests_nil ?_
    simp only [if_true]
    obtain ⟨oC, heC, hoC⟩ := ns_obj hn₃
    have k3 : s₁.heap.StaysIn h₃ := fun b o e => hs₃.extBut b o (fun q => by have q' : b = H2.objs.size := q; rw [q', hCnone] at e; cases e) (hk₂ b o (by
      have := Heap.lt_size e; rw [hIdef] at this; simpa using Nat.ne_of_lt this) (old b o (up b o e)))
    refine wpAny_mono (helt H2.objs.size oC h₃ _ _ k3 hCnone heC hoC (by simp)) (fun _ _ f => f.elim) fun e s₄ h₄ => ?_
    obtain ⟨a, h', tk', rfl, rfl, ⟨⟨B, a0, hB, hBG, _, hfl⟩, hsm⟩⟩ := h₄
    show wpAny (model prog w) A (noteFrame (.ref a) (compEnvC scope cl H2.objs.size env)) _ _ _
    rw [noteFrame_congr (env := env) (env' := compEnvC scope cl H2.objs.size env) rfl]
    refine wpAny_looks_onW hfr hf hfl fun h₅ hheld hsm₅ => ?_
    obtain ⟨b1, b2, b3, b4⟩ := hheld
    have hCB : B.get? H2.objs.size = some oC := hBG _ _ heC (fun hm => by
      obtain ⟨_, o, ho, _⟩ := hfun.mem hm
      rw [hCnone] at ho; cases ho)
    have hC5 : h₅.get? H2.objs.size = some oC := b1 _ _ hCB
    refine ⟨_, hoC.ns hC5, fun h₆ hs₆ cenv _ => ?_⟩
    have ne6 : ∀ b, b ≠ H2.objs.size → h₆.get? b = h₅.get? b := fun b hb => hs₆.2 b hb
    have hfC : ∀ en ∈ env :: outer, en.frame ≠ some H2.objs.size := fun en he q => by
      obtain ⟨_, o, ho, _⟩ := hfun.mem (List.mem_filterMap.mpr ⟨en, he, q⟩)
      rw [hCnone] at ho; cases ho
    have hB' : ∀ b o, (hideAll B [H2.objs.size]).get? b = some o → B.get? b = some o := fun b o e => of_hideAll _ e
    have hBC : (hideAll B [H2.objs.size]).get? H2.objs.size = none := hideAll_none _ (List.mem_singleton.mpr rfl)
    obtain ⟨oe, vs, T, oT, ts, he, hcl, hd, h1, hnT, hTe, hT, hdT, h3⟩ := b4
    obtain ⟨es, ep, hCd, _⟩ := hoC
    have neE : a ≠ H2.objs.size := fun q => by rw [q, hC5] at he; injection he with he; rw [← he, hCd] at hd; cases hd
    have neT : T ≠ H2.objs.size := fun q => by rw [q, hC5] at hT; injection hT with hT; rw [← hT, hCd] at hdT; cases hdT
    have kbn : ∀ b, B.get? b = none → (hideAll B [H2.objs.size]).get? b = none := fun b q => by
      cases e : (hideAll B [H2.objs.size]).get? b with
      | none => rfl
      | some o => have := hB' b o e; rw [q] at this; cases this
    refine passOn_any (hp := hideAll B [H2.objs.size]) (e := a) (cls := cls) (a0 := a0) (fl := rawInt L) (l := env :: outer) (fun b o e => (ne6 b fun q => by rw [q, hBC] at e; cases e).trans (b1 _ _ (hB' b o e))) (kbn _ b2)
      (funFrames_but kbn ne6 b3 hfC) ⟨oe, vs, T, oT, ts, (ne6 a neE).trans he, hcl, hd, h1, kbn _ hnT, hTe, (ne6 T neT).trans hT, hdT, h3⟩ fun h₇ fl' c1 c2 c3 c4 => ?_
    refine hE a h₇ _ ⟨⟨_, a0, fl', fun b o e => hideAll_get _ (hB b o e) (fun hm => by rw [List.mem_singleton.mp hm] at e; have := hbase _ _ e; rw [hCnone] at this; cases this),
      fun b o e nm => hideAll_get _ (hBG b o (k3 b o e) nm) (fun hm => by rw [List.mem_singleton.mp hm, hCnone] at e; cases e), c1, kbn _ b2, c2, c3⟩, fun b o e hnf => ?_⟩
    obtain ⟨sl, q1⟩ := (hsm.trans hsm₅) b o (k3 b o e) hnf
    have q2 : h₆.get? b = some { o with slots := sl } := (ne6 b fun q => by rw [q, hCnone] at e; cases e).trans q1
    obtain ⟨sl', q3⟩ := c4 b _ q2 hnf
    exact ⟨sl', q3⟩
  exact codeAny_compStart_list loop (W.self 0 _ _ _ hst loop)
end
end Mine
end
section
open PySem PySem.W PyProof.Rows PySem.Calls PySem.Spec
open PySem.Builtin
namespace Mine
theorem slot_join : Slot "bytes" "join" "bytes.join" :=
  .of (owner := "bytes") (n := "join") (by rw [typeLookup_type, builtinLookup_eq_fast]; kernel_rfl) (by decide +kernel) (by decide +kernel) (by decide +kernel)
    (by first | exact .inl (by decide +kernel) | exact .inr (by decide +kernel)) (by rw [isSubtype_type]; kernel_rfl)
theorem type_join : typeOf (.builtin "bytes.join") = pure (.type "method_descriptor") := by show builtinType _ = _; rw [builtinType_eq_fast]; kernel_rfl
theorem entry_join : entryFor table "bytes.join" = some Builtin.«bytes.join» := entryFor_of_tree (by kernel_rfl)
theorem args_join (a b : Value) : argsOk "bytes.join" ⟨[a, b], []⟩ := by
  unfold argsOk; kernel_rfl
section
variable {prog : Program} {w : World} {A : Around} {E : Value → Shared → Prop} {s : Shared} {b c : Array UInt8} {t u v : Tok} {D : Addr}
theorem m_join {M : Model} {pl : Sem Bool} {Q : Value × List Value → Shared → Prop} (h : Q (.builtin "bytes.join", [.bytes b t]) s) : wpAny M A (getMethod (.bytes b t) "join" pl) Q E s :=
  KBd.method_of (.bytes b t) (typeIs_bytes _ _ _) slot_join type_join KBd.noRef h
theorem take_eq {id : String} : Bytes.takeBufferQuiet? id (.bytes b t) 0 = pure (some (b, none)) := by
  unfold Bytes.takeBufferQuiet? Bytes.takeBuffer?
  rw [KBy.special_eq KBy.look_buffer, KBy.own_buffer]
  have e : Bytes.buffer? id (.bytes b t) (full := (0 == Bytes.fullReadOnly)) = pure (some b) := by
    unfold Bytes.buffer?
    rw [KBy.special_eq KBy.look_buffer, KBy.own_buffer, KBy.own_release]
    kernel_rfl
  simp only [pure_bind]
  rw [if_neg (by simp)]
  simp only [pure_bind, e]
  rfl

theorem join_1 {Q : Value → Shared → Prop} (hl : s.heap.IsList D #[.bytes b t]) (h : Q (.bytes b t) s) : wpAny (model prog w) A (call (.builtin "bytes.join") [.bytes #[] v, .ref D]) Q E s := by
  refine wpAny_call_entry slot_join (typeIs_bytes _ _ _) entry_join ?_ (args_join _ _)
  obtain ⟨o, ho, hc, n, hd⟩ := hl
  obtain ⟨oc, odi, oda, osl⟩ := o
  dsimp only at hc hd
  subst hc hd
  obtain ⟨hp, g, d, tk, os⟩ := s
  show wpAny _ _ (Bytes.joinM .bytes _) _ _ _
  unfold Bytes.joinM
  refine wpAny_bind (wpAny_pure ?_)
  dsimp only
  refine wpAny_bind ?_
  unfold Bytes.joinItems
  refine wpAny_bind (wpAny_typeOf (T := "list") ⟨_, ho, rfl⟩ ?_)
  rw [if_pos (by decide)]
  refine wpAny_pure ?_
  unfold seqItems?
  refine wpAny_bind (wpAny_bind (wpAny_load ho (wpAny_pure ?_)))
  dsimp only
  rw [if_pos (by decide)]
  refine wpAny_bind (wpAny_of_eq (a := .type "bytes") rfl ?_)
  rw [if_pos (by decide)]
  refine wpAny_bind (wpAny_rule ?_)
  exact wpAny_pure ⟨_, rfl, h⟩

theorem join_2 {Q : Value → Shared → Prop} (hl : s.heap.IsList D #[.bytes b t, .bytes c u]) (hsz : b.size + c.size ≤ 16777216) (h : ∀ t' k, Q (.bytes (b ++ c) t') { s with toks := k }) : wpAny (model prog w) A (call (.builtin "bytes.join") [.bytes #[] v, .ref D]) Q E s := by
  refine wpAny_call_entry slot_join (typeIs_bytes _ _ _) entry_join ?_ (args_join _ _)
  obtain ⟨o, ho, hc, n, hd⟩ := hl
  obtain ⟨oc, odi, oda, osl⟩ := o
  dsimp only at hc hd
  subst hc hd
  obtain ⟨hp, g, d, tk, os⟩ := s
  show wpAny _ _ (Bytes.joinM .bytes _) _ _ _
  unfold Bytes.joinM
  refine wpAny_bind (wpAny_pure ?_)
  dsimp only
  refine wpAny_bind ?_
  unfold Bytes.joinItems
  refine wpAny_bind (wpAny_typeOf (T := "list") ⟨_, ho, rfl⟩ ?_)
  rw [if_pos (by decide)]
  refine wpAny_pure ?_
  unfold seqItems?
  refine wpAny_bind (wpAny_bind (wpAny_load ho (wpAny_pure ?_)))
  dsimp only
  rw [if_pos (by decide)]
  refine wpAny_bind ?_
  first | rw [Std.Legacy.Range.forIn_eq_forIn_range'] | rw [Std.Range.forIn_eq_forIn_range']
  generalize hr : List.range' _ _ _ = r
  obtain rfl : r = [0, 1] := by rw [← hr]; first | rfl | (simp [Std.Legacy.Range.size]; done) | (simp [Std.Legacy.Range.size, List.range']; done) | (simp [Std.Legacy.Range.size]; rfl) | (simp; done)
  clear hr
  rw [List.forIn_cons]
  refine wpAny_bind (wpAny_bind ?_)
  refine wpAny_bind (wpAny_load ho (wpAny_pure ?_))
  dsimp only
  rw [if_neg (by simp)]
  refine wpAny_bind (wpAny_holding (wpAny_of_eq (a := some (b, none)) take_eq ?_))
  dsimp only
  refine wpAny_bind (wpAny_bind (wpAny_load ho (wpAny_pure ?_)))
  dsimp only
  rw [if_neg (by simp)]
  refine wpAny_pure ?_
  dsimp only
  rw [List.forIn_cons]
  refine wpAny_bind (wpAny_bind ?_)
  refine wpAny_bind (wpAny_load ho (wpAny_pure ?_))
  dsimp only
  rw [if_neg (by simp [Value.onHeap])]
  refine wpAny_bind (wpAny_holding (wpAny_of_eq (a := some (c, none)) take_eq ?_))
  dsimp only
  refine wpAny_bind (wpAny_bind (wpAny_load ho (wpAny_pure ?_)))
  dsimp only
  rw [if_neg (by simp)]
  refine wpAny_pure ?_
  dsimp only
  rw [List.forIn_nil]
  refine wpAny_pure ?_
  dsimp only
  refine wpAny_bind (wpAny_of_eq (a := #[]) (by rfl) ?_)
  rw [if_neg (by
    rw [KBy.tooLong_not (by simp; omega)]
    exact Bool.false_ne_true)]
  have ej : Bytes.joined #[] ((#[].push b).push c).toList = b ++ c := by
    unfold Bytes.joined
    simp
  rw [ej]
  refine wpAny_bind ?_
  show wpAny _ _ (mkBytes (b ++ c)) _ _ _
  refine wpAny_mkBytes ?_ (by rw [Array.size_append, sizeLine_eq]; omega)
  refine wpAny_bind (wpAny_holding (wpAny_point ?_))
  refine wpAny_bind ?_
  show wpAny _ _ (Bytes.joinLetGo [(Value.bytes b t, none), (Value.bytes c u, none)] _) _ _ _
  unfold Bytes.joinLetGo
  dsimp only
  refine wpAny_bind (wpAny_letGo ?_)
  unfold Bytes.joinLetGo
  dsimp only
  refine wpAny_bind (wpAny_letGo ?_)
  unfold Bytes.joinLetGo
  refine wpAny_pure ?_
  exact wpAny_pure ⟨_, rfl, h _ _⟩
end
end Mine
end
section
open PySem PySem.W PyProof.Rows PySem.Calls PySem.Spec
namespace Mine

/-- the object at e has the dict d -/
def DictIs (e : Addr) (d : Option Addr) (h : Heap) : Prop := ∃ o, h.get? e = some o ∧ o.dict = d

/-- a tree that calls nothing and whose writes leave every dict pointer where it was -/
inductive KD {α : Type} : Sem α → Prop
  | pure (a : α) : KD (.pure a)
  | raise (e : Value) : KD (.raise e)
  | unsup (w : String) : KD (.unsupported w)
  | rule (t : String) {k : Unit → Sem α} (h : ∀ x, KD (k x)) : KD (.rule t k)
  | at (p : Pos) {k : Unit → Sem α} (h : ∀ x, KD (k x)) : KD (.at p k)
  | load (a : Addr) (part : Option Value) {k : Obj → Sem α} (h : ∀ x, KD (k x)) : KD (.load a part k)
  | update (a : Addr) (part : Option Value) (f : Obj → Obj) {k : Unit → Sem α} (hf : ∀ o, (f o).dict = o.dict ∧ (o.isFreed = false → (f o).isFreed = false)) (h : ∀ x, KD (k x)) : KD (.update a part f k)
  | alloc (o : Obj) {k : Addr → Sem α} (h : ∀ x, KD (k x)) : KD (.alloc o k)
  | fresh {k : Tok → Sem α} (h : ∀ x, KD (k x)) : KD (.fresh k)
  | ask {k : Setting → Sem α} (h : ∀ x, KD (k x)) : KD (.ask k)
  | stack {k : List (Code × Pos) → Sem α} (h : ∀ x, KD (k x)) : KD (.stack k)

theorem KD.bind {α β : Type} {t : Sem α} (x : KD t) {f : α → Sem β} (y : ∀ a, KD (f a)) : KD (t.bind f) := by
  induction x with
  | pure a => exact y a
  | raise e => exact .raise e
  | unsup u => exact .unsup u
  | rule t _ ih => exact .rule t ih
  | «at» p _ ih => exact .at p ih
  | load a part _ ih => exact .load a part ih
  | update a part g hf _ ih => exact .update a part g hf ih
  | alloc o _ ih => exact .alloc o ih
  | fresh _ ih => exact .fresh ih
  | ask _ ih => exact .ask ih
  | stack _ ih => exact .stack ih

theorem KD.wp {α : Type} {M : Model} {Γ : PySem.Ctx} {t : Sem α} (x : KD t) {e : Addr} {d : Option Addr} {Q : α → Pos → Shared → Prop} {E : Value → Pos → Shared → Prop} :
    ∀ {p : Pos} {s : Shared}, DictIs e d s.heap → PySem.Sem.wp M Γ t Q E p s → PySem.Sem.wp M Γ t (fun a p s' => DictIs e d s'.heap ∧ Q a p s') E p s := by
  induction x with
  | pure a => intro p s hd h; rw [PySem.Sem.wp] at h ⊢; exact ⟨hd, h⟩
  | raise e => intro p s hd h; rw [PySem.Sem.wp] at h ⊢; exact h
  | unsup u => intro p s hd h; rw [PySem.Sem.wp] at h; exact h.elim
  | rule t _ ih => intro p s hd h; rw [PySem.Sem.wp] at h ⊢; exact ih _ hd h
  | «at» q _ ih => intro p s hd h; rw [PySem.Sem.wp] at h ⊢; exact ih _ hd h
  | load a part _ ih => intro p s hd h; rw [PySem.Sem.wp] at h ⊢; obtain ⟨o, ho, h⟩ := h; exact ⟨o, ho, ih _ hd h⟩
  | update a part g hf _ ih =>
    intro p s hd h
    rw [PySem.Sem.wp] at h ⊢
    obtain ⟨hs, h⟩ := h
    refine ⟨hs, ih _ ?_ h⟩
    obtain ⟨o, ho, hd⟩ := hd
    by_cases q : a = e
    · subst q
      exact ⟨g o, Heap.get?_update_self g ho ((hf o).2 (Heap.get?_some_iff.mp ho).2), (hf o).1.trans hd⟩
    · exact ⟨o, (Heap.get?_update_other _ _ q).trans ho, hd⟩
  | alloc o _ ih =>
    intro p s hd h
    rw [PySem.Sem.wp] at h ⊢
    obtain ⟨o', ho, hd⟩ := hd
    exact ih _ ⟨o', Heap.get?_push_of_some _ ho, hd⟩ h
  | fresh _ ih => intro p s hd h; rw [PySem.Sem.wp] at h ⊢; exact ih _ hd h
  | ask _ ih => intro p s hd h; rw [PySem.Sem.wp] at h ⊢; exact ih _ hd h
  | stack _ ih => intro p s hd h; rw [PySem.Sem.wp] at h ⊢; exact ih _ hd h

theorem KD.any {α : Type} {M : Model} {A : Around} {t : Sem α} (x : KD t) {e : Addr} {d : Option Addr} {Q : α → Shared → Prop} {E : Value → Shared → Prop} {s : Shared} (hd : DictIs e d s.heap) (h : wpAny M A t Q E s) :
    wpAny M A t (fun a s' => DictIs e d s'.heap ∧ Q a s') E s := fun Γ p hΓ => KD.wp x hd (h Γ p hΓ)

theorem kd_map (f : Array Value → Array Value) (o : Obj) : (Obj.mapFields f o).dict = o.dict ∧ (o.isFreed = false → (Obj.mapFields f o).isFreed = false) := by
  obtain ⟨c, d, dt, sl⟩ := o
  cases dt <;> exact ⟨rfl, fun h => h⟩
theorem kd_upd (a : Addr) (f : Obj → Obj) (hf : ∀ o, (f o).dict = o.dict ∧ (o.isFreed = false → (f o).isFreed = false)) : KD (update a f) := .update _ _ _ hf fun _ => .pure _
theorem kd_fieldsOf (v : Value) : KD (fieldsOf v) := by
  unfold fieldsOf
  split
  · refine KD.bind (.load _ _ fun o => .pure o) fun o => ?_
    split
    · exact .pure _
    · exact .unsup _
  · exact .unsup _
theorem kd_field (v : Value) (i : Nat) : KD (field v i) := by
  unfold field
  refine KD.bind (kd_fieldsOf v) fun vs => ?_
  split
  · exact .pure _
  · exact .unsup _
theorem kd_setField (v : Value) (i : Nat) (x : Value) : KD (setField v i x) := by
  unfold setField
  split
  · unfold updateField
    refine KD.bind (.load _ _ fun o => .pure o) fun o => ?_
    split
    · split
      · exact .update _ _ _ (kd_map _) fun _ => .pure _
      · exact .unsup _
    · exact .unsup _
  · exact .unsup _
theorem kd_setFlight (v : Value) (fr : Option Addr) : KD (setFlight v fr) := by
  unfold setFlight
  refine KD.bind (kd_field v 1) fun tb => ?_
  split
  · exact kd_setField _ _ _
  · exact .pure _
theorem kd_behind (env : Env) (l : List Env) : KD (behindIsImport env l) := by
  unfold behindIsImport
  split
  · exact .pure _
  · split
    · exact .pure _
    · exact KD.bind (kd_field _ _) fun _ => .pure _
theorem kd_ready : ∀ l : List Env, KD (readyFrames l)
  | [] => .pure _
  | env :: outer => by
    unfold readyFrames
    split
    · refine KD.bind (.load _ _ fun o => .pure o) fun o => ?_
      split
      · exact .pure _
      · refine KD.bind (kd_behind _ _) fun b => ?_
        refine KD.bind ?_ fun back => ?_
        · unfold keptBack
          split
          · split
            · exact .pure _
            · unfold underTheClaimsCaller
              exact KD.bind (KD.bind (.stack fun _ => .pure _) fun _ => .pure _) fun _ => .pure _
          · exact .pure _
        · refine KD.bind (kd_upd _ _ fun o => ?_) fun _ => kd_ready outer
          obtain ⟨c, d, dt, sl⟩ := o
          cases dt <;> exact ⟨rfl, fun h => h⟩
    · exact .unsup _
theorem kd_frameObject (l : List Env) : KD (frameObject l) := by
  cases l with
  | nil => exact .pure _
  | cons env outer => exact KD.bind (kd_ready _) fun _ => .pure _
theorem kd_frameOf (env : Env) : KD (PySem.frameOf env) := by
  unfold PySem.frameOf
  refine KD.bind (KD.bind (KD.bind (.stack fun _ => .pure _) fun _ => .pure _) fun _ => kd_frameObject _) fun o => ?_
  split
  · exact .pure _
  · exact .unsup _
theorem kd_place (f : Addr) (b : Bool) : KD (entryPlaceOf f b) := by
  unfold entryPlaceOf
  refine KD.bind (.stack fun _ => .pure _) fun acts => ?_
  split
  · exact .pure _
  · exact .pure _
theorem kd_newFields (n : String) (vs : List Value) : KD (newFields n vs) := by
  unfold newFields newObj
  have h : KD (newObjAsIs (.type n) (.fields vs.toArray) none) := by
    unfold newObjAsIs
    exact KD.bind (.alloc _ fun _ => .pure _) fun _ => .pure _
  dsimp only
  split
  · exact .unsup _
  · exact h
theorem kd_newEntry (a b c d e : Value) (pl : List Value) : KD (EntryCells.newEntry a b c d e pl) := kd_newFields _ _
theorem kd_note (v : Value) (env : Env) : KD (noteFrame v env) := by
  unfold noteFrame
  split
  · rename_i fa _
    refine KD.bind (kd_field v 1) fun hd => ?_
    have last : KD (do setField v 1 (← EntryCells.newEntry hd (← PySem.frameOf env) .none (rawInt fa) .none (← entryPlaceOf fa (hd != .none)))) :=
      KD.bind (kd_frameOf _) fun _ => KD.bind (kd_place _ _) fun _ => KD.bind (kd_newEntry _ _ _ _ _ _) fun _ => kd_setField _ _ _
    split
    · refine KD.bind (kd_field _ _) fun x => ?_
      split
      · exact .pure _
      · exact KD.bind (kd_setField _ _ _) fun _ => last
    · exact last
  · exact .unsup _
theorem kd_leaving (env : Env) (v : Value) : KD (leaving env v) := KD.bind (kd_note v env) fun _ => kd_setFlight v none
end Mine
end
section
open PySem PySem.W PyProof.Rows PySem.Calls PySem.Spec
namespace Mine
/-- an exception with its dict in hand flies -/
structure FlewD (base G : Heap) (l : List Env) (e : Addr) (cls : Value) (dx : Addr) (od : Obj) (h : Heap) : Prop where
  raised : RaisedSN base G l e cls [(dx, od)] h
  slots : G.UpToSlots h
  dict : DictIs e (some dx) h

section
variable {M : Model} {A : Around} {E : Value → Shared → Prop} {s' : Shared} {base g g₂ h : Heap} {outer : List Env} {L e dx : Addr} {od : Obj} {m : Str → Option Value} {env : Env} {Q : Unit → Shared → Prop} {cls : Value}

theorem leave_firstD (K : Below A base outer g) (hx : MadeX h s'.heap e cls) (hD : DictIs e (some dx) s'.heap) (hod : s'.heap.get? dx = some od) (hdn : h.get? dx = none) (hde : dx ≠ e)
    (F : Fr g L h m) (hf : env.frame = some L) (hk : env.scope.kind = .function)
    (hQ : ∀ h', FlewD base g outer e cls dx od h' → Q () { s' with heap := h' }) :
    wpAny M (A.deeper env) (leaving env (.ref e)) Q E s' := by
  have K' := pushX K F hf hk
  have inL : ∀ b, b ∈ e :: (env :: outer).filterMap (·.frame) → b = e ∨ b ∈ (env :: outer).filterMap (·.frame) := fun b hb => List.mem_cons.mp hb
  have hin : ∀ en ∈ (env :: outer), ∀ b, en.frame = some b → b ∈ e :: (env :: outer).filterMap (·.frame) := fun en he b hb => List.mem_cons_of_mem _ (List.mem_filterMap.mpr ⟨en, he, hb⟩)
  have neE : ∀ b o, h.get? b = some o → b ≠ e := fun b o q z => by rw [z, hx.new] at q; cases q
  have st : base.StaysIn (hideAll s'.heap (e :: (env :: outer).filterMap (·.frame))) := fun b o q => hideAll_get _ (hx.keeps _ _ (K'.stays b o q)) fun hm => by
    rcases inL b hm with z | z
    · exact neE b o (K'.stays b o q) z
    · rw [(K'.frames.mem z).1] at q; cases q
  have sg : ∀ b o, g.get? b = some o → b ∉ outer.filterMap (·.frame) → (hideAll s'.heap (e :: (env :: outer).filterMap (·.frame))).get? b = some o := fun b o q nm => hideAll_get _ (hx.keeps _ _ (F.keep b o q)) fun hm => by
    rcases inL b hm with z | z
    · exact neE b o (F.keep b o q) z
    · rcases mem_frames hf z with z | z
      · rw [z, kts_self F] at q
        cases q
      · exact nm z
  have fr : ∀ b ∈ (env :: outer).filterMap (·.frame), ∃ o, h.get? b = some o := fun b hb => by
    obtain ⟨o, ho, _⟩ := (K'.frames.mem hb).2
    exact ⟨o, ho⟩
  have gn : ∀ b, h.get? b = none → g.get? b = none := fun b hb => by
    cases q : g.get? b with
    | none => rfl
    | some o => have := F.keep b o q; rw [hb] at this; cases this
  have bn : ∀ b, h.get? b = none → base.get? b = none := fun b hb => by
    cases q : base.get? b with
    | none => rfl
    | some o => have := K'.stays b o q; rw [hb] at this; cases this
  have hl : ∀ q ∈ [(dx, od)], (hideAll s'.heap (e :: (env :: outer).filterMap (·.frame))).get? q.1 = some q.2 ∧ g.get? q.1 = none ∧ base.get? q.1 = none := fun q hq => by
    rw [List.mem_singleton.mp hq]
    refine ⟨hideAll_get _ hod fun hm => ?_, gn _ hdn, bn _ hdn⟩
    rcases inL _ hm with z | z
    · exact hde z
    · obtain ⟨o, ho⟩ := fr _ z
      rw [hdn] at ho; cases ho
  obtain ⟨oe, vs, a0, he, hcls, hd, h0, h1⟩ := hx.there
  have hen : (hideAll s'.heap (e :: (env :: outer).filterMap (·.frame))).get? e = none := hideAll_none _ (List.mem_cons_self ..)
  have FF : s'.heap.FunFrames base (env :: outer) := K'.frames.of_keeps fun b o hb _ => ⟨o, hx.keeps b o hb, rfl⟩
  refine wpAny_mono (KD.any (kd_leaving env (.ref e)) hD (wpAny_leaving_firstW (Q := fun _ s'' => ∃ h', s'' = { s' with heap := h' } ∧ Heap.LeftW (hideAll s'.heap (e :: (env :: outer).filterMap (·.frame))) (env :: outer) e oe.cls a0 s'.heap h') (a0 := a0) K'.stack (funFrames_hide FF hin) hf he (fun b o hb => of_hideAll _ hb) hen hd h1 h0 fun h' hL => ⟨h', rfl, hL⟩)) (fun _ s'' hh => ?_) fun _ _ z => z
  obtain ⟨dd, h', rfl, hL⟩ := hh
  obtain ⟨k1, ⟨_, _, k2⟩, k3, k4⟩ := hL
  exact hQ h' ⟨⟨_, a0, st, sg, hl, k1, hen, k2, by rw [← hcls]; exact k3⟩, (((Heap.UpToSlots.of_keeps F.keep).trans (Heap.UpToSlots.of_keeps hx.keeps)).trans k4), dd⟩

theorem leave_nextD (K : Below A base outer g) (F : Fr g L g₂ m) (R : FlewD base g₂ (env :: outer) e cls dx od s'.heap) (hf : env.frame = some L)
    (hQ : ∀ h', FlewD base g outer e cls dx od h' → Q () { s' with heap := h' }) :
    wpAny M (A.deeper env) (leaving env (.ref e)) Q E s' := by
  obtain ⟨⟨B, a0, hB, hBG, hl, hfl⟩, hsm, hd⟩ := R
  refine wpAny_mono (KD.any (kd_leaving env (.ref e)) hd (wpAny_leaves_onW (Q := fun _ s'' => ∃ h', s'' = { s' with heap := h' } ∧ Heap.FlyingW B outer e cls a0 h' ∧ s'.heap.UpToSlots h') (Around.frames_deeper K.stack) hf hfl fun h' x1 x2 => ⟨h', rfl, x1, x2⟩)) (fun _ s'' hh => ?_) fun _ _ z => z
  obtain ⟨dd, h', rfl, x1, x2⟩ := hh
  exact hQ h' ⟨⟨B, a0, hB, fun b o q nm => hBG b o (F.keep b o q) (fun hm => by
      rcases mem_frames hf hm with z | z
      · rw [z, kts_self F] at q
        cases q
      · exact nm z), (fun q hq => ⟨(hl q hq).1, kts_none F.keep (hl q hq).2.1, (hl q hq).2.2⟩), x1⟩, (Heap.UpToSlots.of_keeps F.keep).trans (hsm.trans x2), dd⟩
end
end Mine
end
section
open PySem PySem.W PyProof.Rows PySem.Calls PySem.Spec
open PySem.Builtin PySem.Builtin.ObjectAttr
namespace Mine
section
variable {prog : Program} {w : World} {A : Around} {E : Value → Shared → Prop} {K : Frag} {x C : Addr} {ox : Obj} {od : Option Obj} {name : Str} {expr : Bool} {Q : Value → Shared → Prop} {v : Value}
  {h : Heap} {g : Array GenState} {d : Drawn} {t : Nat} {os : OsState}
theorem ga_entry {tk : Tok} {Q : Fin → Shared → Prop} (X : K.In h) (I : InstAt h x ox C od) (hf : findObj K C od name = some (.value v)) (hh : handedIn v = true) (hq : Q (.done (.ret v)) ⟨h, g, d, t, os⟩) :
    wpAny (model prog w) A (Builtin.«object.__getattribute__» ⟨[.ref x, .str name tk], []⟩) Q E ⟨h, g, d, t, os⟩ := by
  have L0 := I.type (M := model prog w)
  have L1 := looks_find (M := model prog w) X I hf
  unfold Builtin.«object.__getattribute__»
  refine wpAny_bind (wpAny_pure (wpAny_bind (wpAny_pure (wpAny_bind (L0.at (wpAny_bind (L1.at ?_)))))))
  exact wpAny_pure hq
theorem ga_call {tk : Tok} {R : Result → Shared → Prop} (X : K.In h) (I : InstAt h x ox C od) (hsub : mroIn K C (.type "BaseException") = some true) (hf : findObj K C od name = some (.value v)) (hh : handedIn v = true) (hq : R (.ok (.ret v)) ⟨h, g, d, t, os⟩) :
    codeAny (model prog w) A (.call (.builtin "BaseException.__getattribute__") ⟨[.ref x, .str name tk], []⟩) R ⟨h, g, d, t, os⟩ := by
  have hk : builtinKind "BaseException.__getattribute__" = some .slot := by decide +kernel
  have hsplit : splitId "BaseException.__getattribute__" = some ("BaseException", "__getattribute__") := by decide +kernel
  have sub : Looks (model prog w) h (isInstance (.ref x) (.type "BaseException")) true := I.type.andThen (looks_mroIn X hsub)
  exact codeAny_call_builtin PySem.F.excAttr_ValueError.ga.plain PySem.F.entry_bexc_ga (@check_slot (model prog w) _ _ ⟨h, g, d, t, os⟩ "BaseException.__getattribute__" "BaseException" "__getattribute__" (.ref x) [.str name tk] [] _ hk hsplit sub (PySem.F.args_bexc_ga _ _) (ga_entry X I hf hh hq))
theorem get_exc (X : K.In h) (I : InstAt h x ox C od) (hga : findIn K (.ref C) "__getattribute__" = some (some (.builtin "BaseException.__getattribute__"))) (hgh : findIn K (.ref C) "__getattr__" = some none)
    (hsub : mroIn K C (.type "BaseException") = some true) (hf : findObj K C od name = some (.value v)) (hh : handedIn v = true) (hq : Q v ⟨h, g, d, t + 1, os⟩) :
    wpAny (model prog w) A (getAttr (.ref x) name expr) Q E ⟨h, g, d, t, os⟩ := by
  have L0 := I.type (M := model prog w)
  have L1 := looks_findIn (M := model prog w) X hga
  have L2 := looks_findIn (M := model prog w) X hgh
  have f3 := PySem.F.excAttr_ValueError.ga.bind (.ref x)
  have hx0 : (expr && onTheHeap (Value.builtin "BaseException.__getattribute__")) = false := by cases expr <;> rfl
  have hx2 : (Value.builtin "BaseException.__getattribute__" == Value.builtin "object.__getattribute__") = false := by decide +kernel
  have hx1 : (onTheHeap (Value.ref C) && Value.builtin "BaseException.__getattribute__" == Value.builtin "object.__getattribute__") = false := by rw [hx2]; rfl
  have hho := handedOut_of hh
  unfold getAttr getAttrBy
  refine wpAny_bind (wpAny_mkText (wpAny_holding (wpAny_bind (L0.at (wpAny_bind (L1.at ?_))))))
  dsimp only
  rw [hx1]
  repeat (any_goals (first | assumption | with_reducible refine L2.at ?_ | wp_step))
  refine ga_call X I hsub hf hh ?_
  repeat (any_goals (first | assumption | wp_step))
  all_goals (rw [hho]; exact wpAny_pure hq)
end
end Mine
end
section
open PySem PySem.W PyProof.Rows PySem.Calls PySem.Spec
namespace Mine
section
variable {prog : Program} {w : World} {A₀ : Around} {E : Value → Shared → Prop} {s' : Shared} {base g g₀ G : Heap} {outer : List Env} {L a e dx : Addr} {od : Obj} {m : Str → Option Value} {name : Str} {scope : Scope} {cd cls : Value}
  {n : Str} {b₀ : Stmt} {suite : List Stmt} {pos : Pos} {rest hs : List ExceptHandler} {Q : Flow → Shared → Prop} {KF : Frag} {tt : Expr} {nm : Option Str} {body : List Stmt}
  {p : Program} {loose : List Str} {mean : ExcName → Option Value} {mg mb : Str → Option Value}

theorem FlewD.keeps {l : List Env} {h h' : Heap} (R : FlewD base G l e cls dx od h) (k : ∀ b o, h.get? b = some o → h'.get? b = some o) : FlewD base G l e cls dx od h' :=
  ⟨R.raised.keeps k, R.slots.trans (Heap.UpToSlots.of_keeps k), by obtain ⟨o, ho, hd⟩ := R.dict; exact ⟨o, k _ _ ho, hd⟩⟩

theorem look_D (R : FlewD base G (envOf name scope L a cd :: outer) e cls dx od s'.heap) (K : Below A₀ base outer g)
    (k : ∀ h', FlewD base G (envOf name scope L a cd :: outer) e cls dx od h' → wpAny (model prog w) (A₀.deeper (envOf name scope L a cd)) (handleBy (.ref e) (envOf name scope L a cd) hs) Q E { s' with heap := h' }) :
    wpAny (model prog w) (A₀.deeper (envOf name scope L a cd)) (noteFrame (.ref e) (envOf name scope L a cd))
      (fun _ s₂ => wpAny (model prog w) (A₀.deeper (envOf name scope L a cd)) (setFlight (.ref e) none) (fun _ s₃ =>
        wpAny (model prog w) (A₀.deeper (envOf name scope L a cd)) (handleBy (.ref e) (envOf name scope L a cd) hs) Q E s₃) E s₂) E s' := by
  obtain ⟨⟨B, a0, hB, hBG, hl, hfl⟩, hsm, hd⟩ := R
  refine wpAny_mono (KD.any (kd_note (.ref e) _) hd (wpAny_looks_onW (Q := fun _ s'' => ∃ h₄, s'' = { s' with heap := h₄ } ∧ Heap.HeldW B (envOf name scope L a cd :: outer) e cls a0 L h₄ ∧ s'.heap.UpToSlots h₄) (Around.frames_deeper K.stack) rfl hfl fun h₄ x1 x2 => ⟨h₄, rfl, x1, x2⟩)) (fun _ s'' hh => ?_) fun _ _ z => z
  obtain ⟨d4, h₄, rfl, hheld₄, hsm₄⟩ := hh
  refine wpAny_mono (KD.any (s := { s' with heap := h₄ }) (kd_setFlight (.ref e) none) d4 (wpAny_landsW (s := { s' with heap := h₄ }) (Q := fun _ s'' => ∃ h₅, s'' = { s' with heap := h₅ } ∧ Heap.FlyingW B (envOf name scope L a cd :: outer) e cls a0 h₅ ∧ h₄.UpToSlots h₅) hheld₄ fun h₅ x1 x2 => ⟨h₅, rfl, x1, x2⟩)) (fun _ s'' hh => ?_) fun _ _ z => z
  obtain ⟨d5, h₅, rfl, hheld, hsm₅⟩ := hh
  exact k h₅ ⟨⟨B, a0, hB, hBG, hl, hheld⟩, hsm.trans (hsm₄.trans hsm₅), d5⟩

theorem pass_D (R : FlewD base G (envOf name scope L a cd :: outer) e cls dx od s'.heap) (F : Fr g L G m) (K : Below A₀ base outer g) (XB : KF.In base) (TB : Top p loose mean mg mb base)
    (T : KtsTest prog w KF p loose mg mb name scope L a cd cls tt false)
    (k : ∀ h', FlewD base G (envOf name scope L a cd :: outer) e cls dx od h' → wpAny (model prog w) (A₀.deeper (envOf name scope L a cd)) (handleBy (.ref e) (envOf name scope L a cd) rest) Q E { s' with heap := h' }) :
    wpAny (model prog w) (A₀.deeper (envOf name scope L a cd)) (handleBy (.ref e) (envOf name scope L a cd) (.ExceptHandler (some tt) nm body pos :: rest)) Q E s' := by
  obtain ⟨B, a0, hB, hBG, hl, hfl⟩ := R.raised
  obtain ⟨g₅, T₅, F₅, K₅⟩ := kts_ground K F hBG hfl.1 R.slots
  refine wpAny_handleBy_cons (codeAny_handlers_test (T _ _ _ _ g₅ e m F₅ (XB.keeps K₅.stays) (topRead_of (TB.keeps K₅.stays)) R.raised.ty fun h' kp => ?_)) (by intro q; cases q)
  exact k h' (R.keeps kp)

theorem hit_DB {D : KtsDicts (outer.filterMap (·.frame)) g} (R : FlewD base G (envOf name scope L a cd :: outer) e cls dx od s'.heap) (F : Fr g L G m) (K : Below A₀ base outer g) (XB : KF.In base) (TB : Top p loose mean mg mb base)
    (T0 : KtsTurn (outer.filterMap (·.frame)) g₀ g) (T : KtsTest prog w KF p loose mg mb name scope L a cd cls tt true)
    (k : ∀ h' g' tk oe ws, oe.cls = cls → oe.dict = some dx → oe.data = .fields ws → KtsTurn (outer.filterMap (·.frame)) g₀ g' → Fr g' L h' (fun y => if y = n then some (.ref e) else m y) → News g' L h' [(e, oe), (dx, od)] → Below A₀ base outer g' → KF.In g' → Top p loose mean mg mb g' → KtsDicts (outer.filterMap (·.frame)) g' →
      wpAny (model prog w) ((A₀.deeper (envOf name scope L a cd)).mark (some (.ref e))) (execs (b₀ :: suite) (envOf name scope L a cd))
        (fun f s₄ => wpAny (model prog w) (A₀.deeper (envOf name scope L a cd)) (do bindName (envOf name scope L a cd) n .none; unbindBehindTheSuite (envOf name scope L a cd) n pos) (fun _ s₅ => Q f s₅) E s₄)
        (AsSuiteRaised (model prog w) ((A₀.deeper (envOf name scope L a cd)).mark (some (.ref e))) (envOf name scope L a cd) n pos (notedBy (model prog w) ((A₀.deeper (envOf name scope L a cd)).mark (some (.ref e))) (envOf name scope L a cd) (cameBackBy (model prog w) (A₀.deeper (envOf name scope L a cd)) (envOf name scope L a cd) E)))
        { s' with heap := h', toks := tk })
    (hk : scope.kind = .function := by rfl) (hlo : (envOf name scope L a cd).kindOf n = some .local := by rfl) :
    wpAny (model prog w) (A₀.deeper (envOf name scope L a cd)) (handleBy (.ref e) (envOf name scope L a cd) (.ExceptHandler (some tt) (some n) (b₀ :: suite) pos :: rest)) Q E s' := by
  obtain ⟨B₁, a1, _, hBG₁, _, hfl₁⟩ := R.raised
  obtain ⟨g₅, T₅, F₅, K₅⟩ := kts_ground K F hBG₁ hfl₁.1 R.slots
  refine wpAny_handleBy_cons (codeAny_handlers_test (T _ _ _ _ g₅ e m F₅ (XB.keeps K₅.stays) (topRead_of (TB.keeps K₅.stays)) R.raised.ty fun h₅ kp => ?_)) (by intro q; cases q)
  obtain ⟨⟨B, a0, hB, hBG, hl, hheld⟩, hsm₅, hd₅⟩ := R.keeps kp
  have hL : B.get? L = none := by
    obtain ⟨_, ⟨L', _, hf, hn', _⟩, _⟩ := hheld.2.2.1
    obtain rfl : L = L' := Option.some.inj hf
    exact hn'
  refine codeAny_handlers_suite_as ?_
  refine wpAny_mono (KD.any (s := { s' with heap := h₅ }) (kd_setFlight (.ref e) none) hd₅ (lands_againW (s := { s' with heap := h₅ }) (Q := fun _ s'' => ∃ h₆, s'' = { s' with heap := h₆ } ∧ Heap.FlyingW B (envOf name scope L a cd :: outer) e cls a0 h₆ ∧ h₅.UpToSlots h₆) hheld fun h₆ x1 x2 => ⟨h₆, rfl, x1, x2⟩)) (fun _ s'' hh => ?_) fun _ _ z => z
  obtain ⟨d6, h₆, rfl, hfl₆, hsm₆⟩ := hh
  obtain ⟨g₆, T₆, F₆, K₆⟩ := kts_ground K F hBG hfl₆.1 (hsm₅.trans hsm₆)
  obtain ⟨oe, ws, hoe, hoec, hoed, hoe0⟩ := hfl₆.first
  have hdict : oe.dict = some dx := by
    obtain ⟨o', ho', hd'⟩ := d6
    have z : some oe = some o' := hoe.symm.trans ho'
    cases z
    exact hd'
  have ne₆ : g₆.get? e = none := T₆.none_ _ (kts_fresh F hBG hfl₆.2.1 fun o ho m => by
    obtain ⟨_, o', ho', hd⟩ := K.frames.mem m
    rw [ho] at ho'
    cases ho'
    obtain ⟨sl, hs⟩ := (hsm₅.trans hsm₆) _ _ (F.keep _ _ ho) hd
    rw [hoe] at hs
    cases hs
    exact hd _ hoed)
  have Nl : News g₆ L h₆ [(dx, od)] := fun q hq => ⟨hfl₆.1 _ _ (hl q hq).1, (fun z => by have := (hl q hq).1; rw [z, hL] at this; cases this), T₆.none_ _ (kts_none F.keep (hl q hq).2.1)⟩
  have N₆ := News.more F₆ Nl hoe (fun es n q => by rw [hoed] at q; cases q) ne₆
  have X₆ : KF.In g₆ := XB.keeps K₆.stays
  have P₆ : Top p loose mean mg mb g₆ := TB.keeps K₆.stays
  have D₆ : KtsDicts (outer.filterMap (·.frame)) g₆ := D.turn T₆
  refine stN F₆ N₆ (fun h₇ F₇ N₇ => ?_) hk hlo
  exact k h₇ g₆ _ oe ws hoec hdict hoed (T0.trans T₆) F₇ N₇ K₆ X₆ P₆ D₆
end
end Mine
end
open PyProof.Rows.LCg
namespace Mine
local macro_rules | `(tactic| walk_at $s:str) => `(tactic| k_extra $s)
theorem set0 : True := by
  w_top off
  trivial
abbrev arK (dp un : Nat) (gd : Option (List Code)) (l : List Env) : Around := { handled := none, depth := dp, frames := some l, guards := gd, units := un }

theorem xc51 (P : Params) : xcIn (hd.heap_39 P) 51 = true := rfl
theorem xc70 (P : Params) : xcIn (hd.heap_39 P) 70 = true := rfl

section
variable {w : World} {p : Program} {loose : List Str} {mean : ExcName → Option Value} {mg mb : Str → Option Value} {A : Around} {base : Heap} {l : List Env} {s : Shared} {E : Value → Shared → Prop}

theorem nilNews {h g : Heap} : ∀ q ∈ ([] : List (Addr × Obj)), h.get? q.1 = some q.2 ∧ g.get? q.1 = none := fun _ hq => nomatch hq
theorem consNews {h g : Heap} {news : List (Addr × Obj)} {a : Addr} {o : Obj} (h1 : h.get? a = some o) (h2 : g.get? a = none) (r : ∀ q ∈ news, h.get? q.1 = some q.2 ∧ g.get? q.1 = none) :
    ∀ q ∈ (a, o) :: news, h.get? q.1 = some q.2 ∧ g.get? q.1 = none := fun q hq => by
  rcases List.mem_cons.mp hq with rfl | hq
  · exact ⟨h1, h2⟩
  · exact r q hq

theorem mk_cfg {x : Str} {tx : Tok} {Q : Value → Shared → Prop} (B : Below A base l s.heap) (X : (hd.heap_39 w.params).In s.heap) (T : Top p loose mean mg mb s.heap)
    (hh : A.handled = none) (hdp : A.depth + 10 < recursionLimit) (hun : A.units + 200 < cLine)
    (hret : ∀ e h' tk', MadeX s.heap h' e (.ref 51) → Q (.ref e) { s with heap := h', toks := tk' }) :
    wpAny (model PySem.Challenge.rw_rh0197_01.row.prog w) A (call (.ref 51) [.str x tx]) Q E s := by
  obtain ⟨hnd, dp, fr, gd, un⟩ := A
  obtain rfl : hnd = none := hh
  obtain rfl : fr = some l := B.stack
  dsimp only at hdp hun
  revert X; k_fill; intro X
  obtain ⟨nm, qn, Nn, bs, bm, hdct, sn, sub, ab, col, dd, k0, k1, k2, k3, k5, hC, TO⟩ := xc_cls (C := 51) X (xc51 _)
  obtain ⟨h, g, d, t, os⟩ := s
  refine xc_call TO hC (looks_findIn X (by k_is)) (fun self => bind_fn X self (by k_is)) ?_ (by rw [sizeLine_eq]; exact Nat.le_of_ble_eq_true rfl)
  refine wpAny_call ?_
  have kp : h.StaysIn ((h.push (tupObj [.str x tx])).push (excObj 51 h.objs.size)) := fun b o e => Heap.get?_push_of_some _ (Heap.get?_push_of_some _ e)
  have B' : Below (arK (dp + 1) (un + 1) gd l) base l h := ⟨rfl, B.stays, B.frames⟩
  refine' enterP (A := arK (dp + 1) _ gd l) (g := h) (news := [(h.objs.size + 1, excObj 51 h.objs.size), (h.objs.size, tupObj [.str x tx])]) ⟨rfl, B.stays, B.frames⟩ kp (by simp only [Heap.size_push]; omega) X T
    (consNews (by heap_get) (Heap.get?_none_of_le (Nat.le_succ _)) (consNews (by heap_get) (Heap.get?_none_of_le (Nat.le_refl _)) nilNews)) ?k6 ?k7 ?k8 ?k9 ?kB ?_ ?c2 ?c3 ?c4 ?c5
  case k6 => k_is
  case k7 => k_is
  case k8 => (show dp + 1 < recursionLimit); omega
  case k9 => exact BindsTo.of_eq rfl
  case kB => exact locs rfl
  case c5 => decide
  case c2 => exact rfl
  case c3 => exact rfl
  case c4 => exact rfl
  intro L' h₁ F N hlt
  dsimp only at F N hlt ⊢
  iterate 5 (first | (k_unfold; (try dsimp only)) | (k_end; kc_close) | walk1 | (dsimp only; walk1) | (leave1; walk_say "STEP leave1"; (try dsimp only)) | fail "no step")
  refine xm_init (X.keeps F.keep) (by k_is) ?_
  (try dsimp only)
  iterate 6 (first | (k_unfold; (try dsimp only)) | (k_end; kc_close) | walk1 | (dsimp only; walk1) | (leave1; walk_say "STEP leave1"; (try dsimp only)) | fail "no step")
  have ne1 : h.objs.size ≠ h.objs.size + 1 := Nat.ne_of_lt (Nat.lt_succ_self _)
  refine xi_call (K := hd.heap_39 w.params) (C := 51) (pre := []) (e := h.objs.size + 1) (oe := excObj 51 h.objs.size) F X N (xc51 _) rfl rfl rfl (fun _ hq => nomatch hq)
    (fun q hq => by rw [List.mem_singleton.mp hq]; exact ne1) (by rw [sizeLine_eq]; exact Nat.le_of_ble_eq_true rfl) ?_
  intro t2 h2 F2 N2 lt2
  clear F N
  (try dsimp only)
  iterate 5 (first | (k_unfold; (try dsimp only)) | (k_end; kc_close) | walk1 | (dsimp only; walk1) | (leave1; walk_say "STEP leave1"; (try dsimp only)) | fail "no step")
  have lt2a : h.objs.size + 1 < t2 := lt2 _ (.head _)
  refine xs_new (K := hd.heap_39 w.params) (C := 51) (x := h.objs.size + 1) (pre := [(t2, tupObj [.str x tx])]) F2 X N2 rfl rfl ⟨_, rfl⟩ (by k_is) rfl (by k_is)
    (fun q hq => by rw [List.mem_singleton.mp hq]; exact Nat.ne_of_gt lt2a) (fun q hq => by rw [List.mem_singleton.mp hq]; exact ne1) ?_
  intro d3 h3 F3 N3 lt3
  clear F2 N2
  (try dsimp only)
  iterate 2 (first | (k_unfold; (try dsimp only)) | (k_end; kc_close) | walk1 | (dsimp only; walk1) | (leave1; walk_say "STEP leave1"; (try dsimp only)) | fail "no step")
  exact ⟨rfl, hret _ h3 _ ⟨F3.keep, Heap.get?_none_of_le (Nat.le_succ _), _, _, _, (N3 _ (.tail _ (.tail _ (.head _)))).1, rfl, rfl, rfl, rfl⟩⟩
end
theorem raised_up {A₀ : Around} {M : Model} {base g h₂ : Heap} {l : List Env} {env : Env} {L e : Addr} {m : Str → Option Value} {s₁ : Shared} {E E' : Value → Shared → Prop} {cls : Value}
    (B : Below A₀ base l g) (F : Fr g L h₂ m) (hf : env.frame = some L) (hk : env.scope.kind = .function) (x : MadeX h₂ s₁.heap e cls)
    (hQ : ∀ h', Flew base g l e cls h' → E (.ref e) { s₁ with heap := h' }) :
    ∃ e' oe, Value.ref e = .ref e' ∧ g.StaysIn s₁.heap ∧ s₁.heap.get? e' = some oe ∧ oe.cls = cls ∧ (∃ vs, oe.data = .fields vs ∧ vs[1]? = some .none) ∧
      wpAny M (A₀.deeper env) (leaving env (.ref e')) (fun _ s₂ => E (.ref e') s₂) E' s₁ := by
  obtain ⟨oe, vs, a0, he, hcl, hda, h0, h1⟩ := x.there
  exact ⟨e, oe, rfl, fun b o q => x.keeps b o (F.keep b o q), he, hcl, ⟨vs, hda, h1⟩, leave_firstS B x F hf hk hQ⟩
theorem ba255 {n : Int} (h0 : 0 ≤ n) (h1 : n ≤ 255) : PySem.Builtin.bitAnd n 255 = n := by
  obtain ⟨k, rfl⟩ := Int.eq_ofNat_of_zero_le h0
  have all : ∀ k : Fin 256, PySem.Builtin.bitAnd ((k.val : Nat) : Int) 255 = ((k.val : Nat) : Int) := by decide +kernel
  exact all ⟨k, by omega⟩
theorem ba0 {n : Int} (h0 : 0 ≤ n) (h1 : n ≤ 255) : PySem.Builtin.bitAnd (n.fdiv (2 ^ (8 * 0 : Int).toNat)) 255 = n := by
  rw [show ((2 : Int) ^ (8 * 0 : Int).toNat) = 1 from rfl, Int.fdiv_one]
  exact ba255 h0 h1
theorem baJ {n c : Int} (h0 : 0 ≤ n) (h1 : n ≤ 255) (hc : 256 ≤ c) : PySem.Builtin.bitAnd (n.fdiv c) 255 = 0 := by
  rw [Int.fdiv_eq_ediv_of_nonneg _ (by omega), Int.ediv_eq_zero_of_lt h0 (by omega)]
  rfl
theorem isList_of {h₀ h : Heap} {L D : Addr} {vs : List Value} {news : List (Addr × Obj)} (N : News h₀ L h ((D, lst vs) :: news)) : h.IsList D vs.toArray := ⟨_, (N _ (.head _)).1, rfl, _, rfl⟩
theorem fd1 (n : Int) : n.fdiv (2 ^ (8 * 1 : Int).toNat) = n / 256 := by
  rw [show ((2 : Int) ^ (8 * 1 : Int).toNat) = 256 from rfl, Int.fdiv_eq_ediv_of_nonneg _ (by decide)]
theorem set1 : True := by
  k_with "exec Raise some none" => (k_here; k_dflt ((refine' raise_K (C := 51) ?kX ?kx ?kh ?_; (case kX => k_asm); (case kx => exact xc51 _); (case kh => exact rfl)); (try dsimp only)))
  k_with "call ref" => (k_here; (with_reducible show wpAny _ _ (call (Value.ref 51) [Value.str _ _]) _ _ _); k_dflt ((refine' mk_cfg ?kB ?kX ?kT ?kh ?kd ?ku ?_; (case kh => exact rfl); (case kB => exact pushX (by assumption) (by assumption) rfl rfl); (case kX => exact Frag.In.keeps (by assumption) (Fr.keep (by assumption))); (case kT => exact Top.keeps (by assumption) (Fr.keep (by assumption))); (case kd => (simp only [depth_deeper]; omega)); (case ku => (simp only [units_deeper]; omega))); (intro e9 h9 tk9 M9; (try dsimp only at M9); refine' raised_up ?kb ?kf ?kl ?kk ?kx ?_; (case kx => exact M9); (case kb => assumption); (case kf => assumption); (case kl => exact rfl); (case kk => exact rfl); intro h8 R8; (try dsimp only))))
  k_with "eval ListComp" => (k_here; k_dflt (refine ListComp_D (F₀ := by k_asm) (by rfl) (by decide) (by rfl) (by decide) (by rfl) ?_))
  trivial
section
variable {w : World} {p : Program} {loose : List Str} {mean : ExcName → Option Value} {mg mb : Str → Option Value} {A : Around} {base : Heap} {l : List Env} {s : Shared} {Q E : Value → Shared → Prop}

theorem put_number1 {n : Int} {t1 t2 : Tok} (B : Below A base l s.heap) (X : (hd.heap_39 w.params).In s.heap) (T : Top p loose mean mg mb s.heap)
    (hh : A.handled = none) (hdp : A.depth + 14 < recursionLimit) (hun : A.units + 300 < cLine) (hn : -1000 ≤ n ∧ n ≤ 1000)
    (hret : 0 ≤ n → n ≤ 255 → ∀ b t h' tk', KBw.bInts b = [n] → s.heap.StaysIn h' → Q (.bytes b t) { s with heap := h', toks := tk' })
    (hexc : (n < 0 ∨ 255 < n) → ∀ e h' tk', Flew base s.heap l e (.ref 51) h' → E (.ref e) { s with heap := h', toks := tk' }) :
    wpAny (model PySem.Challenge.rw_rh0197_01.row.prog w) A (call (.ref 77) [.int n t1, .int 1 t2]) Q E s := by
  obtain ⟨hnd, dp, fr, gd, un⟩ := A
  obtain rfl : hnd = none := hh
  obtain rfl : fr = some l := B.stack
  dsimp only at hdp hun
  revert X; k_fill; intro X
  refine wpAny_call ?_
  refine' enterC (g := s.heap) (news := []) B (fun _ _ e => e) (Nat.le_refl _) X T nilNews ?k6 ?k7 ?k8 ?k9 ?kB ?kD ?_ ?c2 ?c3 ?c4
  case k6 => k_is
  case k7 => k_is
  case k8 => (show dp < recursionLimit); omega
  case k9 => exact BindsTo.of_eq rfl
  case kB => exact rfl
  case kD => decide +kernel
  case c2 => exact rfl
  case c3 => exact rfl
  case c4 => exact rfl
  intro L' h₁ tk cells F N Y hlt
  k_cells Y
  (try simp only [List.cons_append, List.nil_append] at N)
  (try dsimp only)
  repeat' (first | (refine hexc ?_ _ _ _ (by assumption)) | (first | (k_unfold; (try dsimp only)) | (k_end; kc_close) | walk1 | (dsimp only; walk1) | (leave1; walk_say "STEP leave1"; (try dsimp only)) | fail "no step"))

  · omega
  · simp only [fd1] at *
    omega
  · simp only [fd1] at *
    refine SrcD.intro [0] rfl (by assumption) (by assumption) (by assumption) (by rfl) (by rfl) (by rw [sizeLine_eq]; exact Nat.le_of_ble_eq_true rfl) (by decide) ?_
    intro g'
    refine CompRest.succ ?_
    intro v' I' oI' C' oC' D' m' h' tk' E' hv' hC' hx' F' N' off' ne'
    obtain ⟨t9, hv9⟩ := hv'
    obtain rfl : v' = .int 0 t9 := hv9
    simp only [Off3, and_true] at off'
    repeat' (first | (with_reducible show wpAny _ _ (call (Value.type "bytes") _) _ _ _; fail) | (first | (k_unfold; (try dsimp only)) | (k_end; kc_close) | walk1 | (dsimp only; walk1) | (leave1; walk_say "STEP leave1"; (try dsimp only)) | fail "no step"))
    rename_i F9 N9 o9
    have h0 : 0 ≤ n := by omega
    have h1 : n ≤ 255 := by omega
    rw [ba0 h0 h1] at N9
    refine call_bytes_ints (ns := [n]) (isList_of N9) (.cons _ _ .nil) (fun k hk => by rw [List.mem_singleton.mp hk]; omega) (by rw [sizeLine_eq]; exact Nat.le_of_ble_eq_true rfl) rfl ?_
    intro h7 t7 k7 kp7
    exact hret h0 h1 _ _ _ _ (KBa.ints_make (ns := [n]) (fun k hk => by rw [List.mem_singleton.mp hk]; omega)) (fun b o e => kp7 b o (F9.keep b o e))
end
theorem fd2 (n : Int) : n.fdiv (2 ^ (8 * 2 : Int).toNat) = n / 65536 := by
  rw [show ((2 : Int) ^ (8 * 2 : Int).toNat) = 65536 from rfl, Int.fdiv_eq_ediv_of_nonneg _ (by decide)]
theorem fd4 (n : Int) : n.fdiv (2 ^ (8 * 4 : Int).toNat) = n / 4294967296 := by
  rw [show ((2 : Int) ^ (8 * 4 : Int).toNat) = 4294967296 from rfl, Int.fdiv_eq_ediv_of_nonneg _ (by decide)]
section
variable {w : World} {p : Program} {loose : List Str} {mean : ExcName → Option Value} {mg mb : Str → Option Value} {A : Around} {base : Heap} {l : List Env} {s : Shared} {Q E : Value → Shared → Prop}
theorem put_number2 {n : Int} {t1 t2 : Tok} (B : Below A base l s.heap) (X : (hd.heap_39 w.params).In s.heap) (T : Top p loose mean mg mb s.heap)
    (hh : A.handled = none) (hdp : A.depth + 14 < recursionLimit) (hun : A.units + 300 < cLine) (h0 : 0 ≤ n) (h1 : n ≤ 255)
    (hret : ∀ b t h' tk', KBw.bInts b = [0, n] → s.heap.StaysIn h' → Q (.bytes b t) { s with heap := h', toks := tk' }) :
    wpAny (model PySem.Challenge.rw_rh0197_01.row.prog w) A (call (.ref 77) [.int n t1, .int 2 t2]) Q E s := by
  obtain ⟨hnd, dp, fr, gd, un⟩ := A
  obtain rfl : hnd = none := hh
  obtain rfl : fr = some l := B.stack
  dsimp only at hdp hun
  revert X; k_fill; intro X
  refine wpAny_call ?_
  refine' enterC (g := s.heap) (news := []) B (fun _ _ e => e) (Nat.le_refl _) X T nilNews ?k6 ?k7 ?k8 ?k9 ?kB ?kD ?_ ?c2 ?c3 ?c4
  case k6 => k_is
  case k7 => k_is
  case k8 => (show dp < recursionLimit); omega
  case k9 => exact BindsTo.of_eq rfl
  case kB => exact rfl
  case kD => decide +kernel
  case c2 => exact rfl
  case c3 => exact rfl
  case c4 => exact rfl
  intro L' h₁ tk cells F N Y hlt
  k_cells Y
  (try simp only [List.cons_append, List.nil_append] at N)
  (try dsimp only)
  repeat' (first | (with_reducible show SrcD _ _ _ _ _ _ _ _ _ _ _ _ _ _; fail) | ((with_reducible show wpAny _ _ (exec (Stmt.Raise _ _ _) _) _ _ _); exfalso; simp only [fd2] at *; omega) | (first | (k_unfold; (try dsimp only)) | (k_end; kc_close) | walk1 | (dsimp only; walk1) | (leave1; walk_say "STEP leave1"; (try dsimp only)) | fail "no step"))
  refine SrcD.intro [1, 0] rfl (by assumption) (by assumption) (by assumption) (by rfl) (by rfl) (by rw [sizeLine_eq]; exact Nat.le_of_ble_eq_true rfl) (by decide) ?_
  intro g'
  refine CompRest.succ ?_
  intro v' I' oI' C' oC' D' m' h' tk' E' hv' hC' hx' F' N' off' ne'
  obtain ⟨t9, hv9⟩ := hv'
  obtain rfl : v' = .int 1 t9 := hv9
  simp only [Off3, and_true] at off'
  iterate 11 (first | (k_unfold; (try dsimp only)) | (k_end; kc_close) | walk1 | (dsimp only; walk1) | (leave1; walk_say "STEP leave1"; (try dsimp only)) | fail "no step")
  refine CompRest.succ ?_
  intro v' I' oI' C' oC' D' m' h' tk' E' hv' hC' hx' F' N' off' ne'
  obtain ⟨t9, hv9⟩ := hv'
  obtain rfl : v' = .int 0 t9 := hv9
  simp only [Off3, and_true] at off'
  iterate 11 (first | (k_unfold; (try dsimp only)) | (k_end; kc_close) | walk1 | (dsimp only; walk1) | (leave1; walk_say "STEP leave1"; (try dsimp only)) | fail "no step")
  repeat' (first | (with_reducible show wpAny _ _ (call (Value.type "bytes") _) _ _ _; fail) | (first | (k_unfold; (try dsimp only)) | (k_end; kc_close) | walk1 | (dsimp only; walk1) | (leave1; walk_say "STEP leave1"; (try dsimp only)) | fail "no step"))
  rename_i F9 N9 o9
  rw [baJ h0 h1 (show (256 : Int) ≤ 2 ^ (8 * 1 : Int).toNat by decide), ba0 h0 h1] at N9
  refine call_bytes_ints (ns := [0, n]) (isList_of N9) (.cons _ _ (.cons _ _ .nil)) (fun k hk => by
      simp only [List.mem_cons, List.not_mem_nil, or_false] at hk
      omega) (by rw [sizeLine_eq]; exact Nat.le_of_ble_eq_true rfl) rfl ?_
  intro h7 t7 k7 kp7
  exact hret _ _ _ _ (KBa.ints_make (ns := [0, n]) (fun k hk => by
      simp only [List.mem_cons, List.not_mem_nil, or_false] at hk
      omega)) (fun b o e => kp7 b o (F9.keep b o e))
theorem put_number4 {n : Int} {t1 t2 : Tok} (B : Below A base l s.heap) (X : (hd.heap_39 w.params).In s.heap) (T : Top p loose mean mg mb s.heap)
    (hh : A.handled = none) (hdp : A.depth + 14 < recursionLimit) (hun : A.units + 300 < cLine) (h0 : 0 ≤ n) (h1 : n ≤ 255)
    (hret : ∀ b t h' tk', KBw.bInts b = [0, 0, 0, n] → s.heap.StaysIn h' → Q (.bytes b t) { s with heap := h', toks := tk' }) :
    wpAny (model PySem.Challenge.rw_rh0197_01.row.prog w) A (call (.ref 77) [.int n t1, .int 4 t2]) Q E s := by
  obtain ⟨hnd, dp, fr, gd, un⟩ := A
  obtain rfl : hnd = none := hh
  obtain rfl : fr = some l := B.stack
  dsimp only at hdp hun
  revert X; k_fill; intro X
  refine wpAny_call ?_
  refine' enterC (g := s.heap) (news := []) B (fun _ _ e => e) (Nat.le_refl _) X T nilNews ?k6 ?k7 ?k8 ?k9 ?kB ?kD ?_ ?c2 ?c3 ?c4
  case k6 => k_is
  case k7 => k_is
  case k8 => (show dp < recursionLimit); omega
  case k9 => exact BindsTo.of_eq rfl
  case kB => exact rfl
  case kD => decide +kernel
  case c2 => exact rfl
  case c3 => exact rfl
  case c4 => exact rfl
  intro L' h₁ tk cells F N Y hlt
  k_cells Y
  (try simp only [List.cons_append, List.nil_append] at N)
  (try dsimp only)
  repeat' (first | (with_reducible show SrcD _ _ _ _ _ _ _ _ _ _ _ _ _ _; fail) | ((with_reducible show wpAny _ _ (exec (Stmt.Raise _ _ _) _) _ _ _); exfalso; simp only [fd4] at *; omega) | (first | (k_unfold; (try dsimp only)) | (k_end; kc_close) | walk1 | (dsimp only; walk1) | (leave1; walk_say "STEP leave1"; (try dsimp only)) | fail "no step"))
  refine SrcD.intro [3, 2, 1, 0] rfl (by assumption) (by assumption) (by assumption) (by rfl) (by rfl) (by rw [sizeLine_eq]; exact Nat.le_of_ble_eq_true rfl) (by decide) ?_
  intro g'
  refine CompRest.succ ?_
  intro v' I' oI' C' oC' D' m' h' tk' E' hv' hC' hx' F' N' off' ne'
  obtain ⟨t9, hv9⟩ := hv'
  obtain rfl : v' = .int 3 t9 := hv9
  simp only [Off3, and_true] at off'
  iterate 11 (first | (k_unfold; (try dsimp only)) | (k_end; kc_close) | walk1 | (dsimp only; walk1) | (leave1; walk_say "STEP leave1"; (try dsimp only)) | fail "no step")
  refine CompRest.succ ?_
  intro v' I' oI' C' oC' D' m' h' tk' E' hv' hC' hx' F' N' off' ne'
  obtain ⟨t9, hv9⟩ := hv'
  obtain rfl : v' = .int 2 t9 := hv9
  simp only [Off3, and_true] at off'
  iterate 11 (first | (k_unfold; (try dsimp only)) | (k_end; kc_close) | walk1 | (dsimp only; walk1) | (leave1; walk_say "STEP leave1"; (try dsimp only)) | fail "no step")
  refine CompRest.succ ?_
  intro v' I' oI' C' oC' D' m' h' tk' E' hv' hC' hx' F' N' off' ne'
  obtain ⟨t9, hv9⟩ := hv'
  obtain rfl : v' = .int 1 t9 := hv9
  simp only [Off3, and_true] at off'
  iterate 11 (first | (k_unfold; (try dsimp only)) | (k_end; kc_close) | walk1 | (dsimp only; walk1) | (leave1; walk_say "STEP leave1"; (try dsimp only)) | fail "no step")
  refine CompRest.succ ?_
  intro v' I' oI' C' oC' D' m' h' tk' E' hv' hC' hx' F' N' off' ne'
  obtain ⟨t9, hv9⟩ := hv'
  obtain rfl : v' = .int 0 t9 := hv9
  simp only [Off3, and_true] at off'
  iterate 11 (first | (k_unfold; (try dsimp only)) | (k_end; kc_close) | walk1 | (dsimp only; walk1) | (leave1; walk_say "STEP leave1"; (try dsimp only)) | fail "no step")
  repeat' (first | (with_reducible show wpAny _ _ (call (Value.type "bytes") _) _ _ _; fail) | (first | (k_unfold; (try dsimp only)) | (k_end; kc_close) | walk1 | (dsimp only; walk1) | (leave1; walk_say "STEP leave1"; (try dsimp only)) | fail "no step"))
  rename_i F9 N9 o9
  rw [baJ h0 h1 (show (256 : Int) ≤ 2 ^ (8 * 3 : Int).toNat by decide), baJ h0 h1 (show (256 : Int) ≤ 2 ^ (8 * 2 : Int).toNat by decide), baJ h0 h1 (show (256 : Int) ≤ 2 ^ (8 * 1 : Int).toNat by decide), ba0 h0 h1] at N9
  refine call_bytes_ints (ns := [0, 0, 0, n]) (isList_of N9) (.cons _ _ (.cons _ _ (.cons _ _ (.cons _ _ .nil)))) (fun k hk => by
      simp only [List.mem_cons, List.not_mem_nil, or_false] at hk
      omega) (by rw [sizeLine_eq]; exact Nat.le_of_ble_eq_true rfl) rfl ?_
  intro h7 t7 k7 kp7
  exact hret _ _ _ _ (KBa.ints_make (ns := [0, 0, 0, n]) (fun k hk => by
      simp only [List.mem_cons, List.not_mem_nil, or_false] at hk
      omega)) (fun b o e => kp7 b o (F9.keep b o e))
end
theorem set2 : True := by
  k_with "call ref" => (k_here; (with_reducible show wpAny _ _ (call (Value.ref 77) [Value.int _ _, Value.int 1 _]) _ _ _); k_dflt focus (refine' put_number1 ?kB ?kX ?kT ?kh ?kd ?ku ?kn ?_ ?_; (case kB => exact pushX (by assumption) (by assumption) rfl rfl); (case kX => exact Frag.In.keeps (by assumption) (Fr.keep (by assumption))); (case kT => exact Top.keeps (by assumption) (Fr.keep (by assumption))); (case kh => exact rfl); (case kd => (simp only [depth_deeper]; omega)); (case ku => (simp only [units_deeper]; omega)); (case kn => (constructor <;> omega)); (all_goals first | (intro h09 h19 b9 t9 h9 tk9 hb9 kp9; have F9 := Fr.keptAll (by assumption) kp9; have N9 := News.grown (by assumption) kp9; (try dsimp only)) | (intro hc9 e9 h9 tk9 R9; (try dsimp only); refine leave_nextS (by assumption) (by assumption) R9 rfl ?_; intro h8 R8; (try dsimp only)))))
  k_with "call ref" => (k_here; (with_reducible show wpAny _ _ (call (Value.ref 77) [Value.int _ _, Value.int 2 _]) _ _ _); k_dflt (refine' put_number2 ?kB ?kX ?kT ?kh ?kd ?ku ?kn ?km ?_; (case kB => exact pushX (by assumption) (by assumption) rfl rfl); (case kX => exact Frag.In.keeps (by assumption) (Fr.keep (by assumption))); (case kT => exact Top.keeps (by assumption) (Fr.keep (by assumption))); (case kh => exact rfl); (case kd => (simp only [depth_deeper]; omega)); (case ku => (simp only [units_deeper]; omega)); (case kn => omega); (case km => omega); (intro b9 t9 h9 tk9 hb9 kp9; have F9 := Fr.keptAll (by assumption) kp9; have N9 := News.grown (by assumption) kp9; (try dsimp only))))
  k_with "call ref" => (k_here; (with_reducible show wpAny _ _ (call (Value.ref 77) [Value.int _ _, Value.int 4 _]) _ _ _); k_dflt (refine' put_number4 ?kB ?kX ?kT ?kh ?kd ?ku ?kn ?km ?_; (case kB => exact pushX (by assumption) (by assumption) rfl rfl); (case kX => exact Frag.In.keeps (by assumption) (Fr.keep (by assumption))); (case kT => exact Top.keeps (by assumption) (Fr.keep (by assumption))); (case kh => exact rfl); (case kd => (simp only [depth_deeper]; omega)); (case ku => (simp only [units_deeper]; omega)); (case kn => omega); (case km => omega); (intro b9 t9 h9 tk9 hb9 kp9; have F9 := Fr.keptAll (by assumption) kp9; have N9 := News.grown (by assumption) kp9; (try dsimp only))))
  trivial
section
variable {w : World} {p : Program} {loose : List Str} {mean : ExcName → Option Value} {mg mb : Str → Option Value} {A : Around} {base : Heap} {l : List Env} {s : Shared} {Q E : Value → Shared → Prop}
theorem put_u8 {n : Int} {t1 : Tok} (B : Below A base l s.heap) (X : (hd.heap_39 w.params).In s.heap) (T : Top p loose mean mg mb s.heap)
    (hh : A.handled = none) (hdp : A.depth + 20 < recursionLimit) (hun : A.units + 400 < cLine) (hn : -1000 ≤ n ∧ n ≤ 1000)
    (hret : 0 ≤ n → n ≤ 255 → ∀ b t h' tk', KBw.bInts b = [n] → s.heap.StaysIn h' → Q (.bytes b t) { s with heap := h', toks := tk' })
    (hexc : (n < 0 ∨ 255 < n) → ∀ e h' tk', Flew base s.heap l e (.ref 51) h' → E (.ref e) { s with heap := h', toks := tk' }) :
    wpAny (model PySem.Challenge.rw_rh0197_01.row.prog w) A (call (.ref 84) [.int n t1]) Q E s := by
  obtain ⟨hnd, dp, fr, gd, un⟩ := A
  obtain rfl : hnd = none := hh
  obtain rfl : fr = some l := B.stack
  dsimp only at hdp hun
  revert X; k_fill; intro X
  refine wpAny_call ?_
  refine' enterP (g := s.heap) (news := []) B (fun _ _ e => e) (Nat.le_refl _) X T nilNews ?k6 ?k7 ?k8 ?k9 ?kB ?_ ?c2 ?c3 ?c4 ?c5
  case k6 => k_is
  case k7 => k_is
  case k8 => (show dp < recursionLimit); omega
  case k9 => exact BindsTo.of_eq rfl
  case kB => exact locs rfl
  case c5 => decide
  case c2 => exact rfl
  case c3 => exact rfl
  case c4 => exact rfl
  intro L' h₁ F N hlt
  (try dsimp only)
  repeat' (first | exact hret (by assumption) (by assumption) _ _ _ _ (by assumption) (Fr.keep (by assumption)) | exact hexc (by assumption) _ _ _ (by assumption) | (first | (k_unfold; (try dsimp only)) | (k_end; kc_close) | walk1 | (dsimp only; walk1) | (leave1; walk_say "STEP leave1"; (try dsimp only)) | fail "no step"))
theorem put_u16 {n : Int} {t1 : Tok} (B : Below A base l s.heap) (X : (hd.heap_39 w.params).In s.heap) (T : Top p loose mean mg mb s.heap)
    (hh : A.handled = none) (hdp : A.depth + 20 < recursionLimit) (hun : A.units + 400 < cLine) (h0 : 0 ≤ n) (h1 : n ≤ 255)
    (hret : ∀ b t h' tk', KBw.bInts b = [0, n] → s.heap.StaysIn h' → Q (.bytes b t) { s with heap := h', toks := tk' }) :
    wpAny (model PySem.Challenge.rw_rh0197_01.row.prog w) A (call (.ref 91) [.int n t1]) Q E s := by
  obtain ⟨hnd, dp, fr, gd, un⟩ := A
  obtain rfl : hnd = none := hh
  obtain rfl : fr = some l := B.stack
  dsimp only at hdp hun
  revert X; k_fill; intro X
  refine wpAny_call ?_
  refine' enterP (g := s.heap) (news := []) B (fun _ _ e => e) (Nat.le_refl _) X T nilNews ?k6 ?k7 ?k8 ?k9 ?kB ?_ ?c2 ?c3 ?c4 ?c5
  case k6 => k_is
  case k7 => k_is
  case k8 => (show dp < recursionLimit); omega
  case k9 => exact BindsTo.of_eq rfl
  case kB => exact locs rfl
  case c5 => decide
  case c2 => exact rfl
  case c3 => exact rfl
  case c4 => exact rfl
  intro L' h₁ F N hlt
  (try dsimp only)
  repeat' (first | exact hret _ _ _ _ (by assumption) (Fr.keep (by assumption)) | (first | (k_unfold; (try dsimp only)) | (k_end; kc_close) | walk1 | (dsimp only; walk1) | (leave1; walk_say "STEP leave1"; (try dsimp only)) | fail "no step"))
theorem put_u32 {n : Int} {t1 : Tok} (B : Below A base l s.heap) (X : (hd.heap_39 w.params).In s.heap) (T : Top p loose mean mg mb s.heap)
    (hh : A.handled = none) (hdp : A.depth + 20 < recursionLimit) (hun : A.units + 400 < cLine) (h0 : 0 ≤ n) (h1 : n ≤ 255)
    (hret : ∀ b t h' tk', KBw.bInts b = [0, 0, 0, n] → s.heap.StaysIn h' → Q (.bytes b t) { s with heap := h', toks := tk' }) :
    wpAny (model PySem.Challenge.rw_rh0197_01.row.prog w) A (call (.ref 98) [.int n t1]) Q E s := by
  obtain ⟨hnd, dp, fr, gd, un⟩ := A
  obtain rfl : hnd = none := hh
  obtain rfl : fr = some l := B.stack
  dsimp only at hdp hun
  revert X; k_fill; intro X
  refine wpAny_call ?_
  refine' enterP (g := s.heap) (news := []) B (fun _ _ e => e) (Nat.le_refl _) X T nilNews ?k6 ?k7 ?k8 ?k9 ?kB ?_ ?c2 ?c3 ?c4 ?c5
  case k6 => k_is
  case k7 => k_is
  case k8 => (show dp < recursionLimit); omega
  case k9 => exact BindsTo.of_eq rfl
  case kB => exact locs rfl
  case c5 => decide
  case c2 => exact rfl
  case c3 => exact rfl
  case c4 => exact rfl
  intro L' h₁ F N hlt
  (try dsimp only)
  repeat' (first | exact hret _ _ _ _ (by assumption) (Fr.keep (by assumption)) | (first | (k_unfold; (try dsimp only)) | (k_end; kc_close) | walk1 | (dsimp only; walk1) | (leave1; walk_say "STEP leave1"; (try dsimp only)) | fail "no step"))
end
theorem set3 : True := by
  k_with "call ref" => (k_here; (with_reducible show wpAny _ _ (call (Value.ref 51) [Value.str _ _]) _ _ _); k_dflt ((refine' mk_cfg ?kB ?kX ?kT ?kh ?kd ?ku ?_; (case kB => exact pushX (by assumption) (by assumption) rfl rfl); (case kX => exact Frag.In.keeps (by assumption) (Fr.keep (by assumption))); (case kT => exact Top.keeps (by assumption) (Fr.keep (by assumption))); (case kh => exact rfl); (case kd => (simp only [depth_deeper]; omega)); (case ku => (simp only [units_deeper]; omega))); (intro e9 h9 tk9 M9; (try dsimp only at M9); refine' raised_up ?kb ?kf ?kl ?kk ?kx ?_; (case kx => exact M9); (case kb => assumption); (case kf => assumption); (case kl => exact rfl); (case kk => exact rfl); intro h8 R8; (try dsimp only))))
  k_with "assign Tuple" => (k_here; (with_reducible show wpAny _ _ (assign (Expr.Tuple _ _ _) _ (Value.ref _)) _ _ _); k_dflt (refine' unpackN_ ?k1 ?k2 ?k3 ?k4 ?k5 ?k6 ?_; (case k1 => k_asm); (case k2 => k_asm); (case k3 => exact IsTup.keeps (by assumption) (Fr.keep (by assumption))); (case k4 => exact rfl); (case k5 => exact rfl); (case k6 => exact rfl); k_whole); intro h' F' N'; (try k_sweep))
  k_with "call ref" => (k_here; (with_reducible show wpAny _ _ (call (Value.ref 84) [Value.int _ _]) _ _ _); k_dflt focus (refine' put_u8 ?kB ?kX ?kT ?kh ?kd ?ku ?kn ?_ ?_; (case kB => exact pushX (by assumption) (by assumption) rfl rfl); (case kX => exact Frag.In.keeps (by assumption) (Fr.keep (by assumption))); (case kT => exact Top.keeps (by assumption) (Fr.keep (by assumption))); (case kh => exact rfl); (case kd => (simp only [depth_deeper]; omega)); (case ku => (simp only [units_deeper]; omega)); (case kn => (constructor <;> omega)); (all_goals first | (intro h09 h19 b9 t9 h9 tk9 hb9 kp9; have F9 := Fr.keptAll (by assumption) kp9; have N9 := News.grown (by assumption) kp9; (try dsimp only)) | (intro hc9 e9 h9 tk9 R9; (try dsimp only); refine leave_nextS (by assumption) (by assumption) R9 rfl ?_; intro h8 R8; (try dsimp only)))))
  trivial
section
variable {w : World} {p : Program} {loose : List Str} {mean : ExcName → Option Value} {mg mb : Str → Option Value} {A : Around} {base : Heap} {l : List Env} {s : Shared} {Q E : Value → Shared → Prop}
theorem put_cap {c : Addr} {code : Int} {tc tv : Tok} {V : Array UInt8} {vs : List Int} (B : Below A base l s.heap) (X : (hd.heap_39 w.params).In s.heap) (T : Top p loose mean mg mb s.heap)
    (hh : A.handled = none) (hdp : A.depth + 30 < recursionLimit) (hun : A.units + 600 < cLine)
    (hc : IsTup s.heap c #[.int code tc, .bytes V tv]) (hV : KBw.bInts V = vs) (hvl : vs.length ≤ 1000) (hn : -1000 ≤ code ∧ code ≤ 1000)
    (hret : 0 ≤ code → code ≤ 255 → vs.length ≤ 253 → ∀ b t h' tk', KBw.bInts b = [code, (vs.length : Int)] ++ vs → s.heap.StaysIn h' → Q (.bytes b t) { s with heap := h', toks := tk' })
    (hexc : (code < 0 ∨ 255 < code ∨ 253 < vs.length) → ∀ e h' tk', Flew base s.heap l e (.ref 51) h' → E (.ref e) { s with heap := h', toks := tk' }) :
    wpAny (model PySem.Challenge.rw_rh0197_01.row.prog w) A (call (.ref 105) [.ref c]) Q E s := by
  obtain ⟨hnd, dp, fr, gd, un⟩ := A
  obtain rfl : hnd = none := hh
  obtain rfl : fr = some l := B.stack
  dsimp only at hdp hun
  revert X; k_fill; intro X
  refine wpAny_call ?_
  refine' enterP (g := s.heap) (news := []) B (fun _ _ e => e) (Nat.le_refl _) X T nilNews ?k6 ?k7 ?k8 ?k9 ?kB ?_ ?c2 ?c3 ?c4 ?c5
  case k6 => k_is
  case k7 => k_is
  case k8 => (show dp < recursionLimit); omega
  case k9 => exact BindsTo.of_eq rfl
  case kB => exact locs rfl
  case c5 => decide
  case c2 => exact rfl
  case c3 => exact rfl
  case c4 => exact rfl
  intro L' h₁ F N hlt
  (try dsimp only)
  repeat' (first | exact hexc (by omega) _ _ _ (by assumption) | refine hret (by omega) (by omega) (by omega) _ _ _ _ ?_ (Fr.keep (by assumption)) | (first | (k_unfold; (try dsimp only)) | (k_end; kc_close) | walk1 | (dsimp only; walk1) | (leave1; walk_say "STEP leave1"; (try dsimp only)) | fail "no step"))
end
theorem notEmpty {b : Array UInt8} {k : Int} {r : List Int} (h : KBw.bInts b = k :: r) (e : (b.toList == (#[] : Array UInt8).toList) = true) : False := by
  have e' : b.toList = [] := beq_iff_eq.mp e
  have z : (KBw.bInts b).length = 0 := by rw [KBw.ints_length]; rw [← Array.length_toList, e']; rfl
  rw [h] at z
  cases z
theorem join_2K {prog : Program} {w : World} {A : Around} {E : Value → Shared → Prop} {s : Shared} {b c : Array UInt8} {t u v : Tok} {D : Addr} {ks ls : List Int} {Q : Value → Shared → Prop} (hl : s.heap.IsList D #[.bytes b t, .bytes c u])
    (hb : KBw.bInts b = ks) (hc : KBw.bInts c = ls) (hsz : ks.length + ls.length ≤ 16777216) (h : ∀ t' k, KBw.bInts (b ++ c) = ks ++ ls → Q (.bytes (b ++ c) t') { s with toks := k }) :
    wpAny (model prog w) A (call (.builtin "bytes.join") [.bytes #[] v, .ref D]) Q E s :=
  join_2 hl (by rw [← KBw.ints_length b, ← KBw.ints_length c, hb, hc]; exact hsz) fun t' k => h t' k (KBw.ints_app hb hc)
theorem set4 : True := by
  k_with "call ref" => (k_here; (with_reducible show wpAny _ _ (call (Value.ref 105) [Value.ref _]) _ _ _); k_dflt focus (refine' put_cap ?kB ?kX ?kT ?kh ?kd ?ku ?kc ?kv ?kl ?kn ?_ ?_; (case kB => exact pushX (by assumption) (by assumption) rfl rfl); (case kX => exact Frag.In.keeps (by assumption) (Fr.keep (by assumption))); (case kT => exact Top.keeps (by assumption) (Fr.keep (by assumption))); (case kh => exact rfl); (case kd => (simp only [depth_deeper]; omega)); (case ku => (simp only [units_deeper]; omega)); (case kc => exact IsTup.keeps (by assumption) (Fr.keep (by assumption))); (case kv => assumption); (case kl => first | omega | (simp only [List.length_nil]; omega)); (case kn => (constructor <;> omega)); (all_goals first | (intro h09 h19 h29 b9 t9 h9 tk9 hb9 kp9; have F9 := Fr.keptAll (by assumption) kp9; have N9 := News.grown (by assumption) kp9; (try dsimp only)) | (intro hc9 e9 h9 tk9 R9; exfalso; first | omega | (simp only [List.length_nil] at hc9; omega)) | (intro hc9 e9 h9 tk9 R9; (try dsimp only); refine leave_nextS (by assumption) (by assumption) R9 rfl ?_; intro h8 R8; (try dsimp only)))))
  k_with "getMethod bytes" => (k_here; k_dflt (refine m_join ?_))
  k_with "eval ListComp" => (k_here; k_dflt (refine ListComp_T (F₀ := by k_asm) (by rfl) (by decide) (by rfl) (by decide) (by rfl) ?_))
  k_with "call builtin:bytes.join" => (k_here; k_dflt (refine join_1 (isList_of (by assumption)) ?_))
  k_with "call builtin:bytes.join" => (k_here; k_dflt focus (refine' join_2K ?kl ?kb ?kc ?kz ?_; (case kl => exact isList_of (by assumption)); (case kb => assumption); (case kc => assumption); (case kz => (simp only [List.length_append, List.length_cons, List.length_nil]; omega)); intro t9 k9 hb9))
  trivial
section
variable {w : World} {p : Program} {loose : List Str} {mean : ExcName → Option Value} {mg mb : Str → Option Value} {A : Around} {base : Heap} {l : List Env} {s : Shared} {Q E : Value → Shared → Prop}
theorem put_params1 {t c : Addr} {code : Int} {tc tv : Tok} {V : Array UInt8} {vs : List Int} (B : Below A base l s.heap) (X : (hd.heap_39 w.params).In s.heap) (T : Top p loose mean mg mb s.heap)
    (hh : A.handled = none) (hdp : A.depth + 40 < recursionLimit) (hun : A.units + 800 < cLine)
    (ht : IsTup s.heap t #[.ref c]) (hc : IsTup s.heap c #[.int code tc, .bytes V tv]) (hV : KBw.bInts V = vs) (hvl : vs.length ≤ 1000) (hn : -1000 ≤ code ∧ code ≤ 1000)
    (hok : 0 ≤ code ∧ code ≤ 255 ∧ vs.length ≤ 253)
    (hret : vs.length + 2 ≤ 253 → ∀ b t h' tk', KBw.bInts b = [2, (vs.length : Int) + 2] ++ ([code, (vs.length : Int)] ++ vs) → s.heap.StaysIn h' → Q (.bytes b t) { s with heap := h', toks := tk' })
    (hexc : 253 < vs.length + 2 → ∀ e h' tk', Flew base s.heap l e (.ref 51) h' → E (.ref e) { s with heap := h', toks := tk' }) :
    wpAny (model PySem.Challenge.rw_rh0197_01.row.prog w) A (call (.ref 110) [.ref t]) Q E s := by
  obtain ⟨hnd, dp, fr, gd, un⟩ := A
  obtain rfl : hnd = none := hh
  obtain rfl : fr = some l := B.stack
  dsimp only at hdp hun
  revert X; k_fill; intro X
  refine wpAny_call ?_
  refine' enterP (g := s.heap) (news := []) B (fun _ _ e => e) (Nat.le_refl _) X T nilNews ?k6 ?k7 ?k8 ?k9 ?kB ?_ ?c2 ?c3 ?c4 ?c5
  case k6 => k_is
  case k7 => k_is
  case k8 => (show dp < recursionLimit); omega
  case k9 => exact BindsTo.of_eq rfl
  case kB => exact locs rfl
  case c5 => decide
  case c2 => exact rfl
  case c3 => exact rfl
  case c4 => exact rfl
  intro L' h₁ F N hlt
  (try dsimp only)
  repeat' (first | (with_reducible show SrcT _ _ _ _ _ _ _ _ _ _ _ _ _ _; fail) | (first | (k_unfold; (try dsimp only)) | (k_end; kc_close) | walk1 | (dsimp only; walk1) | (leave1; walk_say "STEP leave1"; (try dsimp only)) | fail "no step"))
  refine SrcT.intro rfl (by assumption) (by assumption) ht (by rw [sizeLine_eq]; exact Nat.le_of_ble_eq_true rfl) ?_
  intro g'
  refine CompRest.succ ?_
  intro v' I' oI' C' oC' D' m' h' tk' E' hv' hC' hx' F' N' off' ne'
  obtain rfl : v' = .ref c := (Option.some.inj hv').symm
  simp only [Off3, and_true] at off'
  repeat' (first | exact hexc (by omega) _ _ _ (by assumption) | refine hret (by omega) _ _ _ _ ?_ (Fr.keep (by assumption)) | (first | (k_unfold; (try dsimp only)) | (k_end; kc_close) | walk1 | (dsimp only; walk1) | (leave1; walk_say "STEP leave1"; (try dsimp only)) | fail "no step"))
  · exact hexc (by simp only [List.length_append, List.length_cons, List.length_nil] at *; omega) _ _ _ (by assumption)
  · exfalso; exact notEmpty (by assumption) (by assumption)
  · rename_i bA bB _ _ _ kApp
    refine hret (by simp only [List.length_append, List.length_cons, List.length_nil] at *; omega) _ _ _ _ ?_ (Fr.keep (by assumption))
    rw [kApp]
    simp only [List.map_cons, List.map_nil, bA, bB]
    simp only [List.length_cons, List.length_nil, List.cons_append, List.nil_append]
    congr 2
    omega
theorem put_params2 {t c c2 : Addr} {code : Int} {tc tv t2 tw : Tok} {V W : Array UInt8} {vs : List Int} (B : Below A base l s.heap) (X : (hd.heap_39 w.params).In s.heap) (T : Top p loose mean mg mb s.heap)
    (hh : A.handled = none) (hdp : A.depth + 40 < recursionLimit) (hun : A.units + 800 < cLine)
    (ht : IsTup s.heap t #[.ref c, .ref c2]) (hc : IsTup s.heap c #[.int code tc, .bytes V tv]) (hV : KBw.bInts V = vs) (hc2 : IsTup s.heap c2 #[.int 2 t2, .bytes W tw]) (hW : KBw.bInts W = []) (hvl : vs.length ≤ 1000) (hn : -1000 ≤ code ∧ code ≤ 1000)
    (hok : 0 ≤ code ∧ code ≤ 255 ∧ vs.length ≤ 253)
    (hret : vs.length + 4 ≤ 253 → ∀ b t h' tk', KBw.bInts b = [2, (vs.length : Int) + 4] ++ ([code, (vs.length : Int)] ++ vs ++ [2, 0]) → s.heap.StaysIn h' → Q (.bytes b t) { s with heap := h', toks := tk' })
    (hexc : 253 < vs.length + 4 → ∀ e h' tk', Flew base s.heap l e (.ref 51) h' → E (.ref e) { s with heap := h', toks := tk' }) :
    wpAny (model PySem.Challenge.rw_rh0197_01.row.prog w) A (call (.ref 110) [.ref t]) Q E s := by
  obtain ⟨hnd, dp, fr, gd, un⟩ := A
  obtain rfl : hnd = none := hh
  obtain rfl : fr = some l := B.stack
  dsimp only at hdp hun
  revert X; k_fill; intro X
  refine wpAny_call ?_
  refine' enterP (g := s.heap) (news := []) B (fun _ _ e => e) (Nat.le_refl _) X T nilNews ?k6 ?k7 ?k8 ?k9 ?kB ?_ ?c2 ?c3 ?c4 ?c5
  case k6 => k_is
  case k7 => k_is
  case k8 => (show dp < recursionLimit); omega
  case k9 => exact BindsTo.of_eq rfl
  case kB => exact locs rfl
  case c5 => decide
  case c2 => exact rfl
  case c3 => exact rfl
  case c4 => exact rfl
  intro L' h₁ F N hlt
  (try dsimp only)
  repeat' (first | (with_reducible show SrcT _ _ _ _ _ _ _ _ _ _ _ _ _ _; fail) | (first | (k_unfold; (try dsimp only)) | (k_end; kc_close) | walk1 | (dsimp only; walk1) | (leave1; walk_say "STEP leave1"; (try dsimp only)) | fail "no step"))
  refine SrcT.intro rfl (by assumption) (by assumption) ht (by rw [sizeLine_eq]; exact Nat.le_of_ble_eq_true rfl) ?_
  intro g'
  refine CompRest.succ ?_
  intro v' I' oI' C' oC' D' m' h' tk' E' hv' hC' hx' F' N' off' ne'
  obtain rfl : v' = .ref c := (Option.some.inj hv').symm
  simp only [Off3, and_true] at off'
  repeat' (first | exact hexc (by simp only [List.length_append, List.length_cons, List.length_nil] at *; omega) _ _ _ (by assumption) | (first | (k_unfold; (try dsimp only)) | (k_end; kc_close) | walk1 | (dsimp only; walk1) | (leave1; walk_say "STEP leave1"; (try dsimp only)) | fail "no step"))
  · exfalso; exact notEmpty (by assumption) (by assumption)
  · rename_i bA bB _ _ _ kApp
    refine hret (by simp only [List.length_append, List.length_cons, List.length_nil] at *; omega) _ _ _ _ ?_ (Fr.keep (by assumption))
    rw [kApp]
    simp only [List.map_cons, List.map_nil, bA, bB]
    simp only [List.length_cons, List.length_nil, List.cons_append, List.nil_append, List.append_nil]
    congr 2
    omega
end
theorem set5 : True := by
  k_with "call ref" => (k_here; (with_reducible show wpAny _ _ (call (Value.ref 105) [Value.ref _]) _ _ _); k_dflt focus (refine' put_cap ?kB ?kX ?kT ?kh ?kd ?ku ?kc ?kv ?kl ?kn ?_ ?_; (case kB => exact pushX (by assumption) (by assumption) rfl rfl); (case kX => exact Frag.In.keeps (by assumption) (Fr.keep (by assumption))); (case kT => exact Top.keeps (by assumption) (Fr.keep (by assumption))); (case kh => exact rfl); (case kd => (simp only [depth_deeper]; omega)); (case ku => (simp only [units_deeper]; omega)); (case kc => exact IsTup.keeps (by assumption) (Fr.keep (by assumption))); (case kv => assumption); (case kl => first | omega | (simp only [List.length_nil]; omega)); (case kn => (constructor <;> omega)); (all_goals first | (intro h09 h19 h29 b9 t9 h9 tk9 hb9 kp9; exfalso; omega) | (intro hc9 e9 h9 tk9 R9; exact ⟨_, _, _, rfl, rfl, R9⟩))))
  trivial
section
variable {w : World} {p : Program} {loose : List Str} {mean : ExcName → Option Value} {mg mb : Str → Option Value} {A : Around} {base : Heap} {l : List Env} {s : Shared} {Q E : Value → Shared → Prop}
theorem put_params_fail {t c : Addr} {its : Array Value} {code : Int} {tc tv : Tok} {V : Array UInt8} {vs : List Int} (B : Below A base l s.heap) (X : (hd.heap_39 w.params).In s.heap) (T : Top p loose mean mg mb s.heap)
    (hh : A.handled = none) (hdp : A.depth + 40 < recursionLimit) (hun : A.units + 800 < cLine)
    (ht : IsTup s.heap t its) (h0 : its[0]? = some (.ref c)) (hc : IsTup s.heap c #[.int code tc, .bytes V tv]) (hV : KBw.bInts V = vs) (hvl : vs.length ≤ 1000) (hn : -1000 ≤ code ∧ code ≤ 1000)
    (hbad : code < 0 ∨ 255 < code ∨ 253 < vs.length)
    (hexc : ∀ e h' tk', Flew base s.heap l e (.ref 51) h' → E (.ref e) { s with heap := h', toks := tk' }) :
    wpAny (model PySem.Challenge.rw_rh0197_01.row.prog w) A (call (.ref 110) [.ref t]) Q E s := by
  obtain ⟨hnd, dp, fr, gd, un⟩ := A
  obtain rfl : hnd = none := hh
  obtain rfl : fr = some l := B.stack
  dsimp only at hdp hun
  revert X; k_fill; intro X
  refine wpAny_call ?_
  refine' enterP (g := s.heap) (news := []) B (fun _ _ e => e) (Nat.le_refl _) X T nilNews ?k6 ?k7 ?k8 ?k9 ?kB ?_ ?c2 ?c3 ?c4 ?c5
  case k6 => k_is
  case k7 => k_is
  case k8 => (show dp < recursionLimit); omega
  case k9 => exact BindsTo.of_eq rfl
  case kB => exact locs rfl
  case c5 => decide
  case c2 => exact rfl
  case c3 => exact rfl
  case c4 => exact rfl
  intro L' h₁ F N hlt
  (try dsimp only)
  iterate 8 (first | (k_unfold; (try dsimp only)) | (k_end; kc_close) | walk1 | (dsimp only; walk1) | (leave1; walk_say "STEP leave1"; (try dsimp only)) | fail "no step")
  rename Fr _ _ _ _ => F
  refine comp_fail (base := base) (cls := .ref 51) rfl rfl rfl (by rfl) (by decide) (by rfl) (by decide) (by rfl) ?_
  iterate 1 (first | (k_unfold; (try dsimp only)) | (k_end; kc_close) | walk1 | (dsimp only; walk1) | (leave1; walk_say "STEP leave1"; (try dsimp only)) | fail "no step")
  refine ⟨t, its, .ref c, rfl, ?tup, h0, ?ff, ?stay, ?elt, ?exc⟩
  case tup => exact IsTup.keeps ht (Fr.keep F)
  case ff => exact (pushX B F rfl rfl).frames
  case stay => exact (pushX B F (env := envOf (Str.ofString "") { kind := ScopeKind.function, names := [], isGenerator := false, isCoroutine := false, more := [] : PySem.Scope } L' 110 .none) rfl rfl).stays
  case exc =>
    intro a h' tk' RA
    exact leave_anyS B F RA rfl (fun h'' R => hexc _ _ _ R)
  case elt =>
    intro C oC h₂ tk m₂ k3 hCn hCg hCo hCx
    have F2 := Fr.keptAll F k3
    have N2 : News s.heap L' h₂ [(C, oC)] := fun q hq => by
      rw [List.mem_singleton.mp hq]
      exact ⟨hCg, ⟨(fun z => by have z' : C = L' := z; obtain ⟨_, _, _, e, _⟩ := F.ns; rw [z', e] at hCn; cases hCn), kts_none F.keep hCn⟩⟩
    (try dsimp only)
    repeat' (first | (k_unfold; (try dsimp only)) | (k_end; kc_close) | walk1 | (dsimp only; walk1) | (leave1; walk_say "STEP leave1"; (try dsimp only)) | fail "no step")



end
inductive CapsAt (h : Heap) (t : Addr) (code : Int) (vs : List Int) : List Int → Prop
  | one {c : Addr} {tc tv : Tok} {V : Array UInt8} : IsTup h t #[.ref c] → IsTup h c #[.int code tc, .bytes V tv] → KBw.bInts V = vs → CapsAt h t code vs ([code, (vs.length : Int)] ++ vs)
  | two {c c2 : Addr} {tc tv t2 tw : Tok} {V W : Array UInt8} : IsTup h t #[.ref c, .ref c2] → IsTup h c #[.int code tc, .bytes V tv] → KBw.bInts V = vs → IsTup h c2 #[.int 2 t2, .bytes W tw] → KBw.bInts W = [] → CapsAt h t code vs ([code, (vs.length : Int)] ++ vs ++ [2, 0])
theorem capsUp {h h' : Heap} {t : Addr} {code : Int} {vs ks : List Int} (x : CapsAt h t code vs ks) (k : ∀ b o, h.get? b = some o → h'.get? b = some o) : CapsAt h' t code vs ks := by
  cases x with
  | one a b c => exact .one (IsTup.keeps a k) (IsTup.keeps b k) c
  | two a b c d e => exact .two (IsTup.keeps a k) (IsTup.keeps b k) c (IsTup.keeps d k) e
section
variable {w : World} {p : Program} {loose : List Str} {mean : ExcName → Option Value} {mg mb : Str → Option Value} {A : Around} {base : Heap} {l : List Env} {s : Shared} {Q E : Value → Shared → Prop}
theorem put_params {t : Addr} {code : Int} {vs ks : List Int} (B : Below A base l s.heap) (X : (hd.heap_39 w.params).In s.heap) (T : Top p loose mean mg mb s.heap)
    (hh : A.handled = none) (hdp : A.depth + 40 < recursionLimit) (hun : A.units + 800 < cLine)
    (hC : CapsAt s.heap t code vs ks) (hvl : vs.length ≤ 1000) (hn : -1000 ≤ code ∧ code ≤ 1000)
    (hret : (0 ≤ code ∧ code ≤ 255 ∧ vs.length ≤ 253 ∧ ks.length ≤ 253) → ∀ b t h' tk', KBw.bInts b = [2, (ks.length : Int)] ++ ks → s.heap.StaysIn h' → Q (.bytes b t) { s with heap := h', toks := tk' })
    (hexc : ¬ (0 ≤ code ∧ code ≤ 255 ∧ vs.length ≤ 253 ∧ ks.length ≤ 253) → ∀ e h' tk', Flew base s.heap l e (.ref 51) h' → E (.ref e) { s with heap := h', toks := tk' }) :
    wpAny (model PySem.Challenge.rw_rh0197_01.row.prog w) A (call (.ref 110) [.ref t]) Q E s := by
  by_cases hok : 0 ≤ code ∧ code ≤ 255 ∧ vs.length ≤ 253
  · cases hC with
    | one a b c =>
      refine put_params1 B X T hh hdp hun a b c hvl hn hok (fun hl b t h' tk' e => hret ⟨hok.1, hok.2.1, hok.2.2, by simp only [List.length_append, List.length_cons, List.length_nil]; omega⟩ b t h' tk' ?_) (fun hl => hexc fun z => ?_)
      · have q : ((([code, (vs.length : Int)] ++ vs).length : Nat) : Int) = (vs.length : Int) + 2 := by simp only [List.length_append, List.length_cons, List.length_nil]; omega
        rw [e, q]
      · have := z.2.2.2; simp only [List.length_append, List.length_cons, List.length_nil] at this; omega
    | two a b c d e' =>
      refine put_params2 B X T hh hdp hun a b c d e' hvl hn hok (fun hl b t h' tk' e => hret ⟨hok.1, hok.2.1, hok.2.2, by simp only [List.length_append, List.length_cons, List.length_nil]; omega⟩ b t h' tk' ?_) (fun hl => hexc fun z => ?_)
      · have q : ((([code, (vs.length : Int)] ++ vs ++ [2, 0]).length : Nat) : Int) = (vs.length : Int) + 4 := by simp only [List.length_append, List.length_cons, List.length_nil]; omega
        rw [e, q]
      · have := z.2.2.2; simp only [List.length_append, List.length_cons, List.length_nil] at this; omega
  · have hb : code < 0 ∨ 255 < code ∨ 253 < vs.length := by omega
    have he := hexc (fun z => hok ⟨z.1, z.2.1, z.2.2.1⟩)
    cases hC with
    | one a b c => exact put_params_fail B X T hh hdp hun a rfl b c hvl hn hb he
    | two a b c d e' => exact put_params_fail B X T hh hdp hun a rfl b c hvl hn hb he
theorem set6 : True := by
  k_with "call ref" => (k_here; (with_reducible show wpAny _ _ (call (Value.ref 110) [Value.ref _]) _ _ _); k_dflt focus (refine' put_params ?kB ?kX ?kT ?kh ?kd ?ku ?kc ?kl ?kn ?_ ?_; (case kB => exact pushX (by assumption) (by assumption) rfl rfl); (case kX => exact Frag.In.keeps (by assumption) (Fr.keep (by assumption))); (case kT => exact Top.keeps (by assumption) (Fr.keep (by assumption))); (case kh => exact rfl); (case kd => (simp only [depth_deeper]; omega)); (case ku => (simp only [units_deeper]; omega)); (case kc => exact capsUp (by assumption) (Fr.keep (by assumption))); (case kl => omega); (case kn => (constructor <;> omega)); (all_goals first | (intro hok9 b9 t9 h9 tk9 hb9 kp9; have F9 := Fr.keptAll (by assumption) kp9; have N9 := News.grown (by assumption) kp9; (try dsimp only)) | (intro hc9 e9 h9 tk9 R9; (try dsimp only); refine leave_nextS (by assumption) (by assumption) R9 rfl ?_; intro h8 R8; (try dsimp only)))))
  k_with "call ref" => (k_here; (with_reducible show wpAny _ _ (call (Value.ref 91) [Value.int _ _]) _ _ _); k_dflt focus (refine' put_u16 ?kB ?kX ?kT ?kh ?kd ?ku ?kn ?km ?_; (case kB => exact pushX (by assumption) (by assumption) rfl rfl); (case kX => exact Frag.In.keeps (by assumption) (Fr.keep (by assumption))); (case kT => exact Top.keeps (by assumption) (Fr.keep (by assumption))); (case kh => exact rfl); (case kd => (simp only [depth_deeper]; omega)); (case ku => (simp only [units_deeper]; omega)); (case kn => omega); (case km => omega); (intro b9 t9 h9 tk9 hb9 kp9; have F9 := Fr.keptAll (by assumption) kp9; have N9 := News.grown (by assumption) kp9; (try dsimp only))))
  k_with "call ref" => (k_here; (with_reducible show wpAny _ _ (call (Value.ref 98) [Value.int _ _]) _ _ _); k_dflt focus (refine' put_u32 ?kB ?kX ?kT ?kh ?kd ?ku ?kn ?km ?_; (case kB => exact pushX (by assumption) (by assumption) rfl rfl); (case kX => exact Frag.In.keeps (by assumption) (Fr.keep (by assumption))); (case kT => exact Top.keeps (by assumption) (Fr.keep (by assumption))); (case kh => exact rfl); (case kd => (simp only [depth_deeper]; omega)); (case ku => (simp only [units_deeper]; omega)); (case kn => omega); (case km => omega); (intro b9 t9 h9 tk9 hb9 kp9; have F9 := Fr.keptAll (by assumption) kp9; have N9 := News.grown (by assumption) kp9; (try dsimp only))))
  trivial
theorem put_open {M t : Addr} {version code : Int} {word : Str} {t1 t2 t3 t4 t5 : Tok} {vs ks : List Int} (B : Below A base l s.heap) (X : (hd.heap_39 w.params).In s.heap) (T : Top p loose mean mg mb s.heap)
    (hh : A.handled = none) (hdp : A.depth + 50 < recursionLimit) (hun : A.units + 1000 < cLine)
    (hM : IsTup s.heap M #[.str word t1, .int version t2, .int 5 t3, .int 30 t4, .int 9 t5, .ref t])
    (hC : CapsAt s.heap t code vs ks) (hvl : vs.length ≤ 1000) (hn : -1000 ≤ code ∧ code ≤ 1000) (hv : -1000 ≤ version ∧ version ≤ 1000)
    (hret : (0 ≤ version ∧ version ≤ 255) → (0 ≤ code ∧ code ≤ 255 ∧ vs.length ≤ 253 ∧ ks.length ≤ 253) → ∀ b t h' tk', KBw.bInts b = [version, 0, 5, 0, 30, 0, 0, 0, 9, (ks.length : Int) + 2, 2, (ks.length : Int)] ++ ks → s.heap.StaysIn h' → Q (.bytes b t) { s with heap := h', toks := tk' })
    (hexc : ¬ ((0 ≤ version ∧ version ≤ 255) ∧ (0 ≤ code ∧ code ≤ 255 ∧ vs.length ≤ 253 ∧ ks.length ≤ 253)) → ∀ e h' tk', Flew base s.heap l e (.ref 51) h' → E (.ref e) { s with heap := h', toks := tk' }) :
    wpAny (model PySem.Challenge.rw_rh0197_01.row.prog w) A (call (.ref 117) [.ref M]) Q E s := by
  obtain ⟨hnd, dp, fr, gd, un⟩ := A
  obtain rfl : hnd = none := hh
  obtain rfl : fr = some l := B.stack
  dsimp only at hdp hun
  revert X; k_fill; intro X
  refine wpAny_call ?_
  refine' enterP (g := s.heap) (news := []) B (fun _ _ e => e) (Nat.le_refl _) X T nilNews ?k6 ?k7 ?k8 ?k9 ?kB ?_ ?c2 ?c3 ?c4 ?c5
  case k6 => k_is
  case k7 => k_is
  case k8 => (show dp < recursionLimit); omega
  case k9 => exact BindsTo.of_eq rfl
  case kB => exact locs rfl
  case c5 => decide
  case c2 => exact rfl
  case c3 => exact rfl
  case c4 => exact rfl
  intro L' h₁ F N hlt
  (try dsimp only)
  repeat' (first | exact hexc (by omega) _ _ _ (by assumption) | (first | (k_unfold; (try dsimp only)) | (k_end; kc_close) | walk1 | (dsimp only; walk1) | (leave1; walk_say "STEP leave1"; (try dsimp only)) | fail "no step"))
  simp only [List.length_cons, List.length_nil] at *
  repeat' (first | (k_unfold; (try dsimp only)) | (k_end; kc_close) | walk1 | (dsimp only; walk1) | (leave1; walk_say "STEP leave1"; (try dsimp only)) | fail "no step")
  rename_i bA _ _ _ _ _ _ kApp
  refine hret (by omega) (by omega) _ _ _ _ ?_ (Fr.keep (by assumption))
  rw [kApp]
  simp only [List.map_cons, List.map_nil, bA]
  have q : ((0 + 1 + 1 + ks.length : Nat) : Int) = (ks.length : Int) + 2 := by omega
  rw [q]
  rfl
end
theorem headTup {h₀ h : Heap} {L p : Addr} {its : Array Value} {n : Nat} {r : List (Addr × Obj)} (N : News h₀ L h ((p, { cls := .type "tuple", data := .seq its n }) :: r)) : IsTup h p its := ⟨_, (N _ (.head _)).1, rfl, _, rfl⟩
theorem headGet {h₀ h : Heap} {L p : Addr} {o : Obj} {r : List (Addr × Obj)} (N : News h₀ L h ((p, o) :: r)) : h.get? p = some o := (N _ (.head _)).1
theorem headFresh {h₀ h : Heap} {L p : Addr} {o : Obj} {r : List (Addr × Obj)} (N : News h₀ L h ((p, o) :: r)) : h₀.get? p = none := (N _ (.head _)).2.2
theorem clip_mid {L pre ks post : List Int} {i j : Int} (hL : L = pre ++ (ks ++ post)) (hi : i = (pre.length : Int)) (hj : j = (pre.length : Int) + (ks.length : Int)) :
    List.take (clipAt L.length j - clipAt L.length i) (List.drop (clipAt L.length i) L) = ks := by
  have ei : clipAt L.length i = pre.length := by
    rw [hi, clipAt_nat, hL]; simp only [List.length_append]; omega
  have ej : clipAt L.length j = pre.length + ks.length := by
    rw [hj, show ((pre.length : Int) + (ks.length : Int)) = ((pre.length + ks.length : Nat) : Int) from by omega, clipAt_nat, hL]; simp only [List.length_append]; omega
  rw [ei, ej, hL, List.drop_left, Nat.add_sub_cancel_left, List.take_left]
theorem set7 : True := by
  k_with "WhlIf" => (k_dflt (first | (refine WhlIf.yes (decide_eq_true (by omega)) ?_) | (refine WhlIf.no (decide_eq_false (by omega)) ?_)))
  trivial
section
variable {w : World} {p : Program} {loose : List Str} {mean : ExcName → Option Value} {mg mb : Str → Option Value} {A : Around} {base : Heap} {l : List Env} {s : Shared} {Q E : Value → Shared → Prop}
theorem split1 {b : Array UInt8} {tb : Tok} {t n : Int} {L ks : List Int} (B : Below A base l s.heap) (X : (hd.heap_39 w.params).In s.heap) (T : Top p loose mean mg mb s.heap)
    (hh : A.handled = none) (hdp : A.depth + 30 < recursionLimit) (hun : A.units + 800 < cLine)
    (hb : KBw.bInts b = L) (hL : L = t :: n :: ks) (hn : n = (ks.length : Int)) (hkl : ks.length ≤ 255) (ht : 0 ≤ t ∧ t < 256)
    (hret : ∀ r p tt B tB h' tk', s.heap.get? r = none → s.heap.get? p = none → h'.get? r = some (W.listOf #[.ref p] 1) → h'.get? p = some (tupObj [.int t tt, .bytes B tB]) → KBw.bInts B = ks → s.heap.StaysIn h' → Q (.ref r) { s with heap := h', toks := tk' }) :
    wpAny (model PySem.Challenge.rw_rh0197_01.row.prog w) A (call (.ref 124) [.bytes b tb]) Q E s := by
  have hlen : (L.length : Int) = (ks.length : Int) + 2 := by rw [hL]; simp only [List.length_cons]; omega
  have g0 : L.getD (Int.toNat 0) 0 = t := by rw [hL]; rfl
  have g1 : L.getD (0 + 1 : Int).toNat 0 = n := by rw [hL]; rfl
  have hL' := hL
  clear hL
  obtain ⟨hnd, dp, fr, gd, un⟩ := A
  obtain rfl : hnd = none := hh
  obtain rfl : fr = some l := B.stack
  dsimp only at hdp hun
  revert X; k_fill; intro X
  refine wpAny_call ?_
  refine' enterP (g := s.heap) (news := []) B (fun _ _ e => e) (Nat.le_refl _) X T nilNews ?k6 ?k7 ?k8 ?k9 ?kB ?_ ?c2 ?c3 ?c4 ?c5
  case k6 => k_is
  case k7 => k_is
  case k8 => (show dp < recursionLimit); omega
  case k9 => exact BindsTo.of_eq rfl
  case kB => exact locs rfl
  case c5 => decide
  case c2 => exact rfl
  case c3 => exact rfl
  case c4 => exact rfl
  intro L' h₁ F N hlt
  (try dsimp only)
  repeat' (first | ((with_reducible show wpAny _ _ (exec (Stmt.Raise _ _ _) _) _ _ _); exfalso; omega) | (first | (k_unfold; (try dsimp only)) | (k_end; kc_close) | walk1 | (dsimp only; walk1) | (leave1; walk_say "STEP leave1"; (try dsimp only)) | fail "no step"))
  rename_i kc _ _ l9 _ _ _ FX NX
  rw [g0] at NX
  have hT := headGet NX
  have hF := headFresh NX
  refine hret _ _ _ _ _ _ _ (News.fresh NX (by k_mem)) hF (News.get NX (by k_mem)) hT (kc.trans ?_) FX.keep
  rw [g1]
  exact clip_mid (pre := [t, n]) (post := []) (by rw [hL', List.append_nil]; rfl) rfl (by rw [hn]; rfl)
end
section
variable {w : World} {p : Program} {loose : List Str} {mean : ExcName → Option Value} {mg mb : Str → Option Value} {A : Around} {base : Heap} {l : List Env} {s : Shared} {Q E : Value → Shared → Prop}
theorem split2 {b : Array UInt8} {tb : Tok} {t n : Int} {L ks : List Int} (B : Below A base l s.heap) (X : (hd.heap_39 w.params).In s.heap) (T : Top p loose mean mg mb s.heap)
    (hh : A.handled = none) (hdp : A.depth + 30 < recursionLimit) (hun : A.units + 800 < cLine)
    (hb : KBw.bInts b = L) (hL : L = t :: n :: (ks ++ [2, 0])) (hn : n = (ks.length : Int)) (hkl : ks.length ≤ 255) (ht : 0 ≤ t ∧ t < 256)
    (hret : ∀ r p1 p2 t1 B1 s1 t2 B2 s2 h' tk', s.heap.get? r = none → s.heap.get? p1 = none → s.heap.get? p2 = none → h'.get? r = some (W.listOf #[.ref p1, .ref p2] 2) → h'.get? p1 = some (tupObj [.int t t1, .bytes B1 s1]) → KBw.bInts B1 = ks → h'.get? p2 = some (tupObj [.int 2 t2, .bytes B2 s2]) → KBw.bInts B2 = [] → s.heap.StaysIn h' → Q (.ref r) { s with heap := h', toks := tk' }) :
    wpAny (model PySem.Challenge.rw_rh0197_01.row.prog w) A (call (.ref 124) [.bytes b tb]) Q E s := by
  have hlen : (L.length : Int) = (ks.length : Int) + 4 := by rw [hL]; simp only [List.length_cons, List.length_append, List.length_nil]; omega
  have g0 : L.getD (Int.toNat 0) 0 = t := by rw [hL]; rfl
  have g1 : L.getD (0 + 1 : Int).toNat 0 = n := by rw [hL]; rfl
  have g3 : L.getD (0 + 2 + L.getD (0 + 1 : Int).toNat 0 : Int).toNat 0 = 2 := by
    rw [g1, hn, show (0 + 2 + (ks.length : Int)).toNat = ks.length + 2 from by omega, hL]
    simp [List.getD_eq_getElem?_getD]
  have g2 : L.getD (0 + 2 + L.getD (0 + 1 : Int).toNat 0 + 1 : Int).toNat 0 = 0 := by
    rw [g1, hn, show (0 + 2 + (ks.length : Int) + 1).toNat = ks.length + 3 from by omega, hL]
    simp [List.getD_eq_getElem?_getD]
  have hL' := hL
  clear hL
  obtain ⟨hnd, dp, fr, gd, un⟩ := A
  obtain rfl : hnd = none := hh
  obtain rfl : fr = some l := B.stack
  dsimp only at hdp hun
  revert X; k_fill; intro X
  refine wpAny_call ?_
  refine' enterP (g := s.heap) (news := []) B (fun _ _ e => e) (Nat.le_refl _) X T nilNews ?k6 ?k7 ?k8 ?k9 ?kB ?_ ?c2 ?c3 ?c4 ?c5
  case k6 => k_is
  case k7 => k_is
  case k8 => (show dp < recursionLimit); omega
  case k9 => exact BindsTo.of_eq rfl
  case kB => exact locs rfl
  case c5 => decide
  case c2 => exact rfl
  case c3 => exact rfl
  case c4 => exact rfl
  intro L' h₁ F N hlt
  (try dsimp only)
  repeat' (first | ((with_reducible show wpAny _ _ (exec (Stmt.Raise _ _ _) _) _ _ _); exfalso; omega) | (first | (k_unfold; (try dsimp only)) | (k_end; kc_close) | walk1 | (dsimp only; walk1) | (leave1; walk_say "STEP leave1"; (try dsimp only)) | fail "no step"))
  rename_i kc _ _ l9 _ _ _ FX NX
  rename KBw.bInts (KBy.picked b (some (0 + 2)) (some (0 + 2 + L.getD (0 + 1 : Int).toNat 0))) = _ => kc1
  rw [g0, g3] at NX
  have hT := headGet NX
  have hF := headFresh NX
  have NY := News.tail' NX
  have hT1 := headGet NY
  have hF1 := headFresh NY
  refine hret _ _ _ _ _ _ _ _ _ _ _ (News.fresh NX (by k_mem)) hF1 hF (News.get NX (by k_mem)) hT1 (kc1.trans ?_) hT (kc.trans ?_) FX.keep
  · rw [g1]
    exact clip_mid (pre := [t, n]) (post := [2, 0]) (by rw [hL']; rfl) rfl (by rw [hn]; rfl)
  · rw [g2, g1]
    exact clip_mid (pre := t :: n :: (ks ++ [2, 0])) (ks := []) (post := []) (by rw [hL']; simp) (by rw [hn]; simp only [List.length_cons, List.length_append, List.length_nil]; omega) (by rw [hn]; simp only [List.length_cons, List.length_append, List.length_nil]; omega)
end
theorem consN {h₀ h₁ h : Heap} {L r : Addr} {o : Obj} {m : Str → Option Value} {news : List (Addr × Obj)} (F₀ : Fr h₀ L h₁ m) (N : News h₀ L h news) (hr0 : h₁.get? r = none) (hrg : h.get? r = some o) : News h₀ L h ((r, o) :: news) := fun q hq => by
  rcases List.mem_cons.mp hq with rfl | hq
  · exact ⟨hrg, ⟨(fun z => by have z' : r = L := z; obtain ⟨_, _, _, e, _⟩ := F₀.ns; rw [z', e] at hr0; cases hr0), kts_none F₀.keep hr0⟩⟩
  · exact N q hq
noncomputable def AllNe (d : Addr) : List (Addr × Obj) → Prop
  | [] => True
  | p :: r => (@Ne Nat p.1 d) ∧ AllNe d r
theorem allNe_of {h₀ h₁ : Heap} {L d : Addr} (hd : h₁.get? d = none) : ∀ {news : List (Addr × Obj)}, News h₀ L h₁ news → AllNe d news
  | [], _ => trivial
  | p :: _, N => ⟨fun z => (by have e := (N p (.head _)).1; rw [show p.1 = d from z, hd] at e; cases e), allNe_of hd fun q hq => N q (.tail _ hq)⟩
theorem set8 : True := by
  k_with "call ref" => (k_here; (with_reducible show wpAny _ _ (call (Value.ref 124) [Value.bytes _ _]) _ _ _); k_dflt focus (refine' split2 ?kB ?kX ?kT ?kh ?kd ?ku ?k1 ?k2 ?k3 ?k4 ?k5 ?_; (case kB => exact pushX (by assumption) (by assumption) rfl rfl); (case kX => exact Frag.In.keeps (by assumption) (Fr.keep (by assumption))); (case kT => exact Top.keeps (by assumption) (Fr.keep (by assumption))); (case kh => exact rfl); (case kd => (simp only [depth_deeper]; omega)); (case ku => (simp only [units_deeper]; omega)); (case k1 => assumption); (case k2 => first | exact rfl | assumption); (case k3 => first | exact rfl | assumption); (case k4 => omega); (case k5 => (constructor <;> omega)); (intro r9 p9 p8 t9 B9 s9 t8 B8 s8 h9 tk9 hr9 hp9 hp8 hrg9 hpg9 hB9 hpg8 hB8 kp9; have ne9 := allNe_of hr9 (by assumption); have ne8 := allNe_of hp9 (by assumption); have ne7 := allNe_of hp8 (by assumption); (try simp only [AllNe, and_true] at ne9 ne8 ne7); have F9 := Fr.keptAll (by assumption) kp9; have N9 := consN (by assumption) (consN (by assumption) (consN (by assumption) (News.grown (by assumption) kp9) hp8 hpg8) hp9 hpg9) hr9 hrg9; (try dsimp only))))
  k_with "call ref" => (k_here; (with_reducible show wpAny _ _ (call (Value.ref 124) [Value.bytes _ _]) _ _ _); k_dflt focus (refine' split1 ?kB ?kX ?kT ?kh ?kd ?ku ?k1 ?k2 ?k3 ?k4 ?k5 ?_; (case kB => exact pushX (by assumption) (by assumption) rfl rfl); (case kX => exact Frag.In.keeps (by assumption) (Fr.keep (by assumption))); (case kT => exact Top.keeps (by assumption) (Fr.keep (by assumption))); (case kh => exact rfl); (case kd => (simp only [depth_deeper]; omega)); (case ku => (simp only [units_deeper]; omega)); (case k1 => assumption); (case k2 => first | exact rfl | assumption); (case k3 => first | exact rfl | assumption); (case k4 => omega); (case k5 => (constructor <;> omega)); (intro r9 p9 t9 B9 s9 h9 tk9 hr9 hp9 hrg9 hpg9 hB9 kp9; have ne9 := allNe_of hr9 (by assumption); have ne8 := allNe_of hp9 (by assumption); (try simp only [AllNe, and_true] at ne9 ne8); have F9 := Fr.keptAll (by assumption) kp9; have N9 := consN (by assumption) (consN (by assumption) (News.grown (by assumption) kp9) hp9 hpg9) hr9 hrg9; (try dsimp only))))
  k_with "exec For Tuple Call cons nil" => (k_here; (rename Fr _ _ _ _ => lF'); k_dflt (with_unfolding_all refine' For_turns lF' ?_; k_whole))
  trivial
section
variable {w : World} {p : Program} {loose : List Str} {mean : ExcName → Option Value} {mg mb : Str → Option Value} {A : Around} {base : Heap} {l : List Env} {s : Shared} {Q E : Value → Shared → Prop}
theorem inN {h₀ h9 h : Heap} {L a : Addr} {o : Obj} {news : List (Addr × Obj)} (_ : h9.get? a = some o) (N : News h₀ L h news) (hm : (a, o) ∈ news) : h.get? a = some o := (N _ hm).1
theorem inF {h₀ h9 h : Heap} {L a : Addr} {o : Obj} {news : List (Addr × Obj)} (_ : h9.get? a = some o) (N : News h₀ L h news) (hm : (a, o) ∈ news) : h₀.get? a = none := (N _ hm).2.2
theorem read_params1 {b : Array UInt8} {tb : Tok} {code n1 n2 : Int} {vs L2 : List Int} (B : Below A base l s.heap) (X : (hd.heap_39 w.params).In s.heap) (T : Top p loose mean mg mb s.heap)
    (hh : A.handled = none) (hdp : A.depth + 40 < recursionLimit) (hun : A.units + 900 < cLine)
    (hL2 : L2 = code :: n2 :: vs) (hb : KBw.bInts b = 2 :: n1 :: L2) (hn1 : n1 = (L2.length : Int)) (hn2 : n2 = (vs.length : Int)) (hl2 : L2.length ≤ 255) (hl : vs.length ≤ 253) (hc : 0 ≤ code ∧ code ≤ 255)
    (hret : ∀ r c tc V tv h' tk', s.heap.get? r = none → s.heap.get? c = none → h'.get? r = some (tupObj [.ref c]) → h'.get? c = some (tupObj [.int code tc, .bytes V tv]) → KBw.bInts V = vs → s.heap.StaysIn h' → Q (.ref r) { s with heap := h', toks := tk' }) :
    wpAny (model PySem.Challenge.rw_rh0197_01.row.prog w) A (call (.ref 131) [.bytes b tb]) Q E s := by
  obtain ⟨hnd, dp, fr, gd, un⟩ := A
  obtain rfl : hnd = none := hh
  obtain rfl : fr = some l := B.stack
  dsimp only at hdp hun
  revert X; k_fill; intro X
  refine wpAny_call ?_
  refine' enterP (g := s.heap) (news := []) B (fun _ _ e => e) (Nat.le_refl _) X T nilNews ?k6 ?k7 ?k8 ?k9 ?kB ?_ ?c2 ?c3 ?c4 ?c5
  case k6 => k_is
  case k7 => k_is
  case k8 => (show dp < recursionLimit); omega
  case k9 => exact BindsTo.of_eq rfl
  case kB => exact locs rfl
  case c5 => decide
  case c2 => exact rfl
  case c3 => exact rfl
  case c4 => exact rfl
  intro L' h₁ F N hlt
  (try dsimp only)
  repeat' (first | ((with_reducible show wpAny _ _ (exec (Stmt.Raise _ _ _) _) _ _ _); exfalso; omega) | (first | (k_unfold; (try dsimp only)) | (k_end; kc_close) | walk1 | (dsimp only; walk1) | (leave1; walk_say "STEP leave1"; (try dsimp only)) | fail "no step"))
  rename Fr _ _ _ _ => FX
  rename News _ _ _ _ => NX
  rename _ = some (tupObj [Value.int code _, _]) => hq
  rename KBw.bInts _ = vs => hB
  refine hret _ _ _ _ _ _ _ (News.fresh NX (by k_mem)) (inF hq NX (by k_mem)) (headGet NX) (inN hq NX (by k_mem)) hB FX.keep
theorem read_params2 {b : Array UInt8} {tb : Tok} {code n1 n2 : Int} {vs L2 : List Int} (B : Below A base l s.heap) (X : (hd.heap_39 w.params).In s.heap) (T : Top p loose mean mg mb s.heap)
    (hh : A.handled = none) (hdp : A.depth + 40 < recursionLimit) (hun : A.units + 900 < cLine)
    (hL2 : L2 = code :: n2 :: (vs ++ [2, 0])) (hb : KBw.bInts b = 2 :: n1 :: L2) (hn1 : n1 = (L2.length : Int)) (hn2 : n2 = (vs.length : Int)) (hl2 : L2.length ≤ 255) (hl : vs.length ≤ 253) (hc : 0 ≤ code ∧ code ≤ 255)
    (hret : ∀ r c c2 tc V tv t2 W tw h' tk', s.heap.get? r = none → s.heap.get? c = none → s.heap.get? c2 = none → h'.get? r = some (tupObj [.ref c, .ref c2]) → h'.get? c = some (tupObj [.int code tc, .bytes V tv]) → KBw.bInts V = vs → h'.get? c2 = some (tupObj [.int 2 t2, .bytes W tw]) → KBw.bInts W = [] → s.heap.StaysIn h' → Q (.ref r) { s with heap := h', toks := tk' }) :
    wpAny (model PySem.Challenge.rw_rh0197_01.row.prog w) A (call (.ref 131) [.bytes b tb]) Q E s := by
  obtain ⟨hnd, dp, fr, gd, un⟩ := A
  obtain rfl : hnd = none := hh
  obtain rfl : fr = some l := B.stack
  dsimp only at hdp hun
  revert X; k_fill; intro X
  refine wpAny_call ?_
  refine' enterP (g := s.heap) (news := []) B (fun _ _ e => e) (Nat.le_refl _) X T nilNews ?k6 ?k7 ?k8 ?k9 ?kB ?_ ?c2 ?c3 ?c4 ?c5
  case k6 => k_is
  case k7 => k_is
  case k8 => (show dp < recursionLimit); omega
  case k9 => exact BindsTo.of_eq rfl
  case kB => exact locs rfl
  case c5 => decide
  case c2 => exact rfl
  case c3 => exact rfl
  case c4 => exact rfl
  intro L' h₁ F N hlt
  (try dsimp only)
  repeat' (first | ((with_reducible show wpAny _ _ (exec (Stmt.Raise _ _ _) _) _ _ _); exfalso; omega) | (first | (k_unfold; (try dsimp only)) | (k_end; kc_close) | walk1 | (dsimp only; walk1) | (leave1; walk_say "STEP leave1"; (try dsimp only)) | fail "no step"))
  rename Fr _ _ _ _ => FX
  rename News _ _ _ _ => NX
  rename _ = some (tupObj [Value.int code _, _]) => hq
  rename KBw.bInts _ = vs => hB
  rename _ = some (tupObj [Value.int 2 _, _]) => hq2
  rename KBw.bInts _ = [] => hB2
  refine hret _ _ _ _ _ _ _ _ _ _ _ (News.fresh NX (by k_mem)) (inF hq NX (by k_mem)) (inF hq2 NX (by k_mem)) (headGet NX) (inN hq NX (by k_mem)) hB (inN hq2 NX (by k_mem)) hB2 FX.keep
end
section
variable {w : World} {p : Program} {loose : List Str} {mean : ExcName → Option Value} {mg mb : Str → Option Value} {A : Around} {base : Heap} {l : List Env} {s : Shared} {Q E : Value → Shared → Prop}
theorem big_number {b : Array UInt8} {tb : Tok} {ks : List Int} (B : Below A base l s.heap) (X : (hd.heap_39 w.params).In s.heap) (T : Top p loose mean mg mb s.heap)
    (hh : A.handled = none) (hdp : A.depth + 10 < recursionLimit) (hun : A.units + 300 < cLine)
    (hb : KBw.bInts b = ks) (_hl : ks.length ≤ 4)
    (hret : ∀ t h' tk', s.heap.StaysIn h' → Q (.int (ks.foldl (fun a o => a * 256 + o) 0) t) { s with heap := h', toks := tk' }) :
    wpAny (model PySem.Challenge.rw_rh0197_01.row.prog w) A (call (.ref 21) [.bytes b tb]) Q E s := by
  obtain ⟨hnd, dp, fr, gd, un⟩ := A
  obtain rfl : hnd = none := hh
  obtain rfl : fr = some l := B.stack
  dsimp only at hdp hun
  revert X; k_fill; intro X
  refine wpAny_call ?_
  refine' enterP (g := s.heap) (news := []) B (fun _ _ e => e) (Nat.le_refl _) X T nilNews ?k6 ?k7 ?k8 ?k9 ?kB ?_ ?c2 ?c3 ?c4 ?c5
  case k6 => k_is
  case k7 => k_is
  case k8 => (show dp < recursionLimit); omega
  case k9 => exact BindsTo.of_eq rfl
  case kB => exact locs rfl
  case c5 => decide
  case c2 => exact rfl
  case c3 => exact rfl
  case c4 => exact rfl
  intro L' h₁ F N hlt
  (try dsimp only)
  repeat' (first | (first | (k_unfold; (try dsimp only)) | (k_end; kc_close) | walk1 | (dsimp only; walk1) | (leave1; walk_say "STEP leave1"; (try dsimp only)) | fail "no step"))
  rename Fr _ _ _ _ => FX
  exact hret _ _ _ FX.keep
end
theorem set9 : True := by
  k_with "call ref" => (k_here; (with_reducible show wpAny _ _ (call (Value.ref 21) [Value.bytes _ _]) _ _ _); k_dflt focus (refine' big_number ?kB ?kX ?kT ?kh ?kd ?ku ?k1 ?k2 ?_; (case kB => exact pushX (by assumption) (by assumption) rfl rfl); (case kX => exact Frag.In.keeps (by assumption) (Fr.keep (by assumption))); (case kT => exact Top.keeps (by assumption) (Fr.keep (by assumption))); (case kh => exact rfl); (case kd => (simp only [depth_deeper]; omega)); (case ku => (simp only [units_deeper]; omega)); (case k1 => exact Eq.trans (by assumption) (by assumption)); (case k2 => decide); (intro t9 h9 tk9 kp9; have F9 := Fr.keptAll (by assumption) kp9; have N9 := News.grown (by assumption) kp9; (try dsimp only))))
  k_with "call ref" => (k_here; (with_reducible show wpAny _ _ (call (Value.ref 131) [Value.bytes _ _]) _ _ _); k_dflt focus (refine' read_params2 ?kB ?kX ?kT ?kh ?kd ?ku ?k0 ?k1 ?k2 ?k3 ?k4 ?k5 ?k6 ?_; (case kB => exact pushX (by assumption) (by assumption) rfl rfl); (case kX => exact Frag.In.keeps (by assumption) (Fr.keep (by assumption))); (case kT => exact Top.keeps (by assumption) (Fr.keep (by assumption))); (case kh => exact rfl); (case kd => (simp only [depth_deeper]; omega)); (case ku => (simp only [units_deeper]; omega)); (case k1 => exact Eq.trans (by assumption) (by assumption)); (case k0 => assumption); (case k2 => exact rfl); (case k3 => assumption); (case k4 => omega); (case k5 => omega); (case k6 => (constructor <;> omega)); (intro r9 p9 p8 t9 B9 s9 t8 B8 s8 h9 tk9 hr9 hp9 hp8 hrg9 hpg9 hB9 hpg8 hB8 kp9; have ne9 := allNe_of hr9 (by assumption); have ne8 := allNe_of hp9 (by assumption); have ne7 := allNe_of hp8 (by assumption); (try simp only [AllNe, and_true] at ne9 ne8 ne7); have F9 := Fr.keptAll (by assumption) kp9; have N9 := consN (by assumption) (consN (by assumption) (consN (by assumption) (News.grown (by assumption) kp9) hp8 hpg8) hp9 hpg9) hr9 hrg9; (try dsimp only))))
  k_with "call ref" => (k_here; (with_reducible show wpAny _ _ (call (Value.ref 131) [Value.bytes _ _]) _ _ _); k_dflt focus (refine' read_params1 ?kB ?kX ?kT ?kh ?kd ?ku ?k0 ?k1 ?k2 ?k3 ?k4 ?k5 ?k6 ?_; (case kB => exact pushX (by assumption) (by assumption) rfl rfl); (case kX => exact Frag.In.keeps (by assumption) (Fr.keep (by assumption))); (case kT => exact Top.keeps (by assumption) (Fr.keep (by assumption))); (case kh => exact rfl); (case kd => (simp only [depth_deeper]; omega)); (case ku => (simp only [units_deeper]; omega)); (case k1 => exact Eq.trans (by assumption) (by assumption)); (case k0 => assumption); (case k2 => exact rfl); (case k3 => assumption); (case k4 => omega); (case k5 => omega); (case k6 => (constructor <;> omega)); (intro r9 p9 t9 B9 s9 h9 tk9 hr9 hp9 hrg9 hpg9 hB9 kp9; have ne9 := allNe_of hr9 (by assumption); have ne8 := allNe_of hp9 (by assumption); (try simp only [AllNe, and_true] at ne9 ne8); have F9 := Fr.keptAll (by assumption) kp9; have N9 := consN (by assumption) (consN (by assumption) (News.grown (by assumption) kp9) hp9 hpg9) hr9 hrg9; (try dsimp only))))
  trivial
section
variable {w : World} {p : Program} {loose : List Str} {mean : ExcName → Option Value} {mg mb : Str → Option Value} {A : Around} {base : Heap} {l : List Env} {s : Shared} {Q E : Value → Shared → Prop}
theorem read_open41 {b : Array UInt8} {tb : Tok} {code n1 n2 n3 : Int} {vs ks L : List Int} (B : Below A base l s.heap) (X : (hd.heap_39 w.params).In s.heap) (T : Top p loose mean mg mb s.heap)
    (hh : A.handled = none) (hdp : A.depth + 50 < recursionLimit) (hun : A.units + 1000 < cLine)
    (hk : ks = code :: n1 :: vs) (hb : KBw.bInts b = L) (hL : L = [4, 0, 5, 0, 30, 0, 0, 0, 9, n2, 2, n3] ++ ks) (hn1 : n1 = (vs.length : Int)) (hn2 : n2 = (ks.length : Int) + 2) (hn3 : n3 = (ks.length : Int)) (hl : ks.length ≤ 253) (hlv : vs.length ≤ 253) (hc : 0 ≤ code ∧ code ≤ 255)
    (hret : ∀ r c c1 t0 t1 t2 t3 t4 tc V tv h' tk', h'.get? r = some (tupObj [.str (Str.ofString "open") t0, .int 4 t1, .int 5 t2, .int 30 t3, .int 9 t4, .ref c]) → s.heap.get? r = none → h'.get? c = some (tupObj [.ref c1]) → s.heap.get? c = none → h'.get? c1 = some (tupObj [.int code tc, .bytes V tv]) → s.heap.get? c1 = none → KBw.bInts V = vs → s.heap.StaysIn h' → Q (.ref r) { s with heap := h', toks := tk' }) :
    wpAny (model PySem.Challenge.rw_rh0197_01.row.prog w) A (call (.ref 138) [.bytes b tb]) Q E s := by
  have hlen : (L.length : Int) = (ks.length : Int) + 12 := by rw [hL]; simp only [List.length_cons, List.length_append, List.length_nil]; omega
  have g0 : L.getD (Int.toNat 0) 0 = 4 := by rw [hL]; rfl
  have g9 : L.getD (Int.toNat 9) 0 = n2 := by rw [hL]; rfl
  have s10 : List.take (L.length - clipAt L.length 10) (List.drop (clipAt L.length 10) L) = 2 :: (ks.length : Int) :: ks := by
    have ei : clipAt L.length 10 = 10 := by rw [show (10 : Int) = ((10 : Nat) : Int) from rfl, clipAt_nat]; omega
    rw [ei, List.take_of_length_le (by simp), hL, hn3]; rfl
  have s13 : List.take (clipAt L.length 3 - clipAt L.length 1) (List.drop (clipAt L.length 1) L) = [0, 5] := clip_mid (pre := [4]) (post := [0, 30, 0, 0, 0, 9, n2, 2, n3] ++ ks) (by rw [hL]; rfl) rfl rfl
  have s35 : List.take (clipAt L.length 5 - clipAt L.length 3) (List.drop (clipAt L.length 3) L) = [0, 30] := clip_mid (pre := [4, 0, 5]) (post := [0, 0, 0, 9, n2, 2, n3] ++ ks) (by rw [hL]; rfl) rfl rfl
  have s59 : List.take (clipAt L.length 9 - clipAt L.length 5) (List.drop (clipAt L.length 5) L) = [0, 0, 0, 9] := clip_mid (pre := [4, 0, 5, 0, 30]) (post := [n2, 2, n3] ++ ks) (by rw [hL]; rfl) rfl rfl
  clear hL
  obtain ⟨hnd, dp, fr, gd, un⟩ := A
  obtain rfl : hnd = none := hh
  obtain rfl : fr = some l := B.stack
  dsimp only at hdp hun
  revert X; k_fill; intro X
  refine wpAny_call ?_
  refine' enterP (g := s.heap) (news := []) B (fun _ _ e => e) (Nat.le_refl _) X T nilNews ?k6 ?k7 ?k8 ?k9 ?kB ?_ ?c2 ?c3 ?c4 ?c5
  case k6 => k_is
  case k7 => k_is
  case k8 => (show dp < recursionLimit); omega
  case k9 => exact BindsTo.of_eq rfl
  case kB => exact locs rfl
  case c5 => decide
  case c2 => exact rfl
  case c3 => exact rfl
  case c4 => exact rfl
  intro L' h₁ F N hlt
  (try dsimp only)
  repeat' (first | ((with_reducible show wpAny _ _ (exec (Stmt.Raise _ _ _) _) _ _ _); exfalso; omega) | (first | (k_unfold; (try dsimp only)) | (k_end; kc_close) | walk1 | (dsimp only; walk1) | (leave1; walk_say "STEP leave1"; (try dsimp only)) | fail "no step"))
  rename Fr _ _ _ _ => FX
  rename News _ _ _ _ => NX
  rename _ = some (tupObj [Value.int code _, _]) => hq
  rename _ = some (tupObj [Value.ref _]) => hqr
  rename KBw.bInts _ = vs => hV
  rw [g0] at NX
  refine hret _ _ _ _ _ _ _ _ _ _ _ _ _ (headGet NX) (headFresh NX) (inN hqr NX (by k_mem)) (inF hqr NX (by k_mem)) (inN hq NX (by k_mem)) (inF hq NX (by k_mem)) hV FX.keep
theorem read_open42 {b : Array UInt8} {tb : Tok} {code n1 n2 n3 : Int} {vs ks L : List Int} (B : Below A base l s.heap) (X : (hd.heap_39 w.params).In s.heap) (T : Top p loose mean mg mb s.heap)
    (hh : A.handled = none) (hdp : A.depth + 50 < recursionLimit) (hun : A.units + 1000 < cLine)
    (hk : ks = code :: n1 :: (vs ++ [2, 0])) (hb : KBw.bInts b = L) (hL : L = [4, 0, 5, 0, 30, 0, 0, 0, 9, n2, 2, n3] ++ ks) (hn1 : n1 = (vs.length : Int)) (hn2 : n2 = (ks.length : Int) + 2) (hn3 : n3 = (ks.length : Int)) (hl : ks.length ≤ 253) (hlv : vs.length ≤ 253) (hc : 0 ≤ code ∧ code ≤ 255)
    (hret : ∀ r c c1 c2 t0 t1 t2 t3 t4 tc V tv tz W tw h' tk', h'.get? r = some (tupObj [.str (Str.ofString "open") t0, .int 4 t1, .int 5 t2, .int 30 t3, .int 9 t4, .ref c]) → s.heap.get? r = none → h'.get? c = some (tupObj [.ref c1, .ref c2]) → s.heap.get? c = none → h'.get? c1 = some (tupObj [.int code tc, .bytes V tv]) → s.heap.get? c1 = none → KBw.bInts V = vs → h'.get? c2 = some (tupObj [.int 2 tz, .bytes W tw]) → s.heap.get? c2 = none → KBw.bInts W = [] → s.heap.StaysIn h' → Q (.ref r) { s with heap := h', toks := tk' }) :
    wpAny (model PySem.Challenge.rw_rh0197_01.row.prog w) A (call (.ref 138) [.bytes b tb]) Q E s := by
  have hlen : (L.length : Int) = (ks.length : Int) + 12 := by rw [hL]; simp only [List.length_cons, List.length_append, List.length_nil]; omega
  have g0 : L.getD (Int.toNat 0) 0 = 4 := by rw [hL]; rfl
  have g9 : L.getD (Int.toNat 9) 0 = n2 := by rw [hL]; rfl
  have s10 : List.take (L.length - clipAt L.length 10) (List.drop (clipAt L.length 10) L) = 2 :: (ks.length : Int) :: ks := by
    have ei : clipAt L.length 10 = 10 := by rw [show (10 : Int) = ((10 : Nat) : Int) from rfl, clipAt_nat]; omega
    rw [ei, List.take_of_length_le (by simp), hL, hn3]; rfl
  have s13 : List.take (clipAt L.length 3 - clipAt L.length 1) (List.drop (clipAt L.length 1) L) = [0, 5] := clip_mid (pre := [4]) (post := [0, 30, 0, 0, 0, 9, n2, 2, n3] ++ ks) (by rw [hL]; rfl) rfl rfl
  have s35 : List.take (clipAt L.length 5 - clipAt L.length 3) (List.drop (clipAt L.length 3) L) = [0, 30] := clip_mid (pre := [4, 0, 5]) (post := [0, 0, 0, 9, n2, 2, n3] ++ ks) (by rw [hL]; rfl) rfl rfl
  have s59 : List.take (clipAt L.length 9 - clipAt L.length 5) (List.drop (clipAt L.length 5) L) = [0, 0, 0, 9] := clip_mid (pre := [4, 0, 5, 0, 30]) (post := [n2, 2, n3] ++ ks) (by rw [hL]; rfl) rfl rfl
  clear hL
  obtain ⟨hnd, dp, fr, gd, un⟩ := A
  obtain rfl : hnd = none := hh
  obtain rfl : fr = some l := B.stack
  dsimp only at hdp hun
  revert X; k_fill; intro X
  refine wpAny_call ?_
  refine' enterP (g := s.heap) (news := []) B (fun _ _ e => e) (Nat.le_refl _) X T nilNews ?k6 ?k7 ?k8 ?k9 ?kB ?_ ?c2 ?c3 ?c4 ?c5
  case k6 => k_is
  case k7 => k_is
  case k8 => (show dp < recursionLimit); omega
  case k9 => exact BindsTo.of_eq rfl
  case kB => exact locs rfl
  case c5 => decide
  case c2 => exact rfl
  case c3 => exact rfl
  case c4 => exact rfl
  intro L' h₁ F N hlt
  (try dsimp only)
  repeat' (first | ((with_reducible show wpAny _ _ (exec (Stmt.Raise _ _ _) _) _ _ _); exfalso; omega) | (first | (k_unfold; (try dsimp only)) | (k_end; kc_close) | walk1 | (dsimp only; walk1) | (leave1; walk_say "STEP leave1"; (try dsimp only)) | fail "no step"))
  rename Fr _ _ _ _ => FX
  rename News _ _ _ _ => NX
  rename _ = some (tupObj [Value.int code _, _]) => hq
  rename _ = some (tupObj [Value.ref _, _]) => hqr
  rename _ = some (tupObj [Value.int 2 _, _]) => hq2
  rename KBw.bInts _ = vs => hV
  rename KBw.bInts _ = [] => hW
  rw [g0] at NX
  refine hret _ _ _ _ _ _ _ _ _ _ _ _ _ _ _ _ _ (headGet NX) (headFresh NX) (inN hqr NX (by k_mem)) (inF hqr NX (by k_mem)) (inN hq NX (by k_mem)) (inF hq NX (by k_mem)) hV (inN hq2 NX (by k_mem)) (inF hq2 NX (by k_mem)) hW FX.keep
end
section
variable {w : World} {p : Program} {loose : List Str} {mean : ExcName → Option Value} {mg mb : Str → Option Value} {A : Around} {base : Heap} {l : List Env} {s : Shared} {Q E : Value → Shared → Prop}
/-- RouteError.__init__ on a new Notify -/
theorem init35 {e t0 : Addr} {x : Str} {tx : Tok} {g : Heap} (B : Below A base l g) (X : (hd.heap_39 w.params).In g) (T : Top p loose mean mg mb g) (hg : g.StaysIn s.heap) (hsz : g.objs.size = s.heap.objs.size)
    (he : s.heap.get? e = some (excObj 70 t0)) (hge : g.get? e = none)
    (hh : A.handled = none) (hdp : A.depth + 6 < recursionLimit) (hun : A.units + 150 < cLine)
    (hret : ∀ t2 d3 h3 tk k, g.StaysIn h3 → g.get? t2 = none → g.get? d3 = none → h3.get? e = some ({ excObj 70 t0 with dict := some d3, data := .fields #[.ref t2, .none, .none, .none, .bool false, .none] } : Obj) →
      h3.get? t2 = some (tupObj [.str x tx]) → h3.get? d3 = some (dictOf [⟨PyData.keyHash w.params (Str.ofString "text"), .str (Str.ofString "text") k, .str x tx⟩] 1) → e < t2 → t2 < d3 → Q .none { s with heap := h3, toks := tk }) :
    wpAny (model PySem.Challenge.rw_rh0197_01.row.prog w) A (call (.ref 35) [.ref e, .str x tx]) Q E s := by
  obtain ⟨hnd, dp, fr, gd, un⟩ := A
  obtain rfl : hnd = none := hh
  obtain rfl : fr = some l := B.stack
  dsimp only at hdp hun
  revert X; k_fill; intro X
  refine wpAny_call ?_
  refine' enterP (g := g) (news := [(e, excObj 70 t0)]) B hg (Nat.le_of_eq hsz) X T (consNews he hge nilNews) ?k6 ?k7 ?k8 ?k9 ?kB ?_ ?c2 ?c3 ?c4 ?c5
  case k6 => k_is
  case k7 => k_is
  case k8 => (show dp < recursionLimit); omega
  case k9 => exact BindsTo.of_eq rfl
  case kB => exact locs rfl
  case c5 => decide
  case c2 => exact rfl
  case c3 => exact rfl
  case c4 => exact rfl
  intro L' h₁ F N hlt
  (try dsimp only)

  iterate 5 (first | (k_unfold; (try dsimp only)) | (k_end; kc_close) | walk1 | (dsimp only; walk1) | (leave1; walk_say "STEP leave1"; (try dsimp only)) | fail "no step")
  refine xm_init (X.keeps F.keep) (by k_is) ?_
  (try dsimp only)
  iterate 6 (first | (k_unfold; (try dsimp only)) | (k_end; kc_close) | walk1 | (dsimp only; walk1) | (leave1; walk_say "STEP leave1"; (try dsimp only)) | fail "no step")
  refine xi_call (K := hd.heap_39 w.params) (C := 70) (pre := []) (post := []) (e := e) (oe := excObj 70 t0) F X N (xc70 _) rfl rfl rfl (fun _ hq => nomatch hq)
    (fun q hq => nomatch hq) (by rw [sizeLine_eq]; exact Nat.le_of_ble_eq_true rfl) ?_
  intro t2 h2 F2 N2 lt2
  clear F N
  (try dsimp only)
  iterate 5 (first | (k_unfold; (try dsimp only)) | (k_end; kc_close) | walk1 | (dsimp only; walk1) | (leave1; walk_say "STEP leave1"; (try dsimp only)) | fail "no step")
  have lt2a : e < t2 := lt2 _ (.head _)
  refine xs_new (K := hd.heap_39 w.params) (C := 70) (x := e) (pre := [(t2, tupObj [.str x tx])]) F2 X N2 rfl rfl ⟨_, rfl⟩ (by k_is) rfl (by k_is)
    (fun q hq => by rw [List.mem_singleton.mp hq]; exact Nat.ne_of_gt lt2a) (fun q hq => nomatch hq) ?_
  intro d3 h3 F3 N3 lt3
  clear F2 N2
  (try dsimp only)
  iterate 2 (first | (k_unfold; (try dsimp only)) | (k_end; kc_close) | walk1 | (dsimp only; walk1) | (leave1; walk_say "STEP leave1"; (try dsimp only)) | fail "no step")
  have lt3a : t2 < d3 := lt3 _ (.head _)
  exact hret t2 d3 h3 _ _ F3.keep (N3 _ (.tail _ (.head _))).2.2 (N3 _ (.head _)).2.2 (N3 _ (.tail _ (.tail _ (.head _)))).1 (N3 _ (.tail _ (.head _))).1 (N3 _ (.head _)).1 lt2a lt3a
theorem below_hide {e : Addr} {g : Heap} (K : Below A base l g) (hn : base.get? e = none) (hf : ∀ en ∈ l, en.frame ≠ some e) : Below A base l (hideAll g [e]) :=
  ⟨K.stack, fun b o q => hideAll_get _ (K.stays b o q) (fun hm => by rw [List.mem_singleton.mp hm, hn] at q; cases q), funFrames_hideAll K.frames fun en he a ha => by rw [List.mem_singleton.mp ha]; exact hf en he⟩
theorem fr_hide {h h₁ h3 : Heap} {L e : Addr} {m : Str → Option Value} (F : Fr h L h₁ m) (hk : (hideAll h₁ [e]).StaysIn h3) (hn : h.get? e = none) (nL : e ≠ L) : Fr h L h3 m :=
  ⟨F.ns.at' fun o q => hk _ _ (hideAll_get _ q (fun hm => nL (List.mem_singleton.mp hm).symm)), fun b o q => hk _ _ (hideAll_get _ (F.keep b o q) (fun hm => by rw [List.mem_singleton.mp hm, hn] at q; cases q)), F.above⟩
theorem ne_all {d : Addr} {r : List (Addr × Obj)} (h : AllNe d r) : ∀ p ∈ r, p.1 ≠ d := by
  induction r with
  | nil => intro p hp; cases hp
  | cons q r ih =>
    intro p hp
    rcases List.mem_cons.mp hp with rfl | hp
    · exact h.1
    · exact ih h.2 p hp
abbrev notD (P : Params) (n1 n2 : Int) (b : Array UInt8) (t1 t2 t3 : Tok) (x : Str) (tx k0 k1 k2 k3 : Tok) : Obj :=
  dictOf [⟨PyData.keyHash P (Str.ofString "text"), .str (Str.ofString "text") k0, .str x tx⟩, ⟨PyData.keyHash P (Str.ofString "code"), .str (Str.ofString "code") k1, .int n1 t1⟩,
    ⟨PyData.keyHash P (Str.ofString "subcode"), .str (Str.ofString "subcode") k2, .int n2 t2⟩, ⟨PyData.keyHash P (Str.ofString "data"), .str (Str.ofString "data") k3, .bytes b t3⟩] 4
theorem mk_notify {b : Array UInt8} {n1 n2 : Int} {t1 t2 t3 : Tok} (B : Below A base l s.heap) (X : (hd.heap_39 w.params).In s.heap) (T : Top p loose mean mg mb s.heap)
    (hh : A.handled = none) (hdp : A.depth + 10 < recursionLimit) (hun : A.units + 300 < cLine) (hn1 : 0 ≤ n1 ∧ n1 ≤ 9) (hn2 : 0 ≤ n2 ∧ n2 ≤ 9)
    (hret : ∀ e dx x tx k0 k1 k2 k3 h' tk', MadeX s.heap h' e (.ref 70) → DictIs e (some dx) h' → h'.get? dx = some (notD w.params n1 n2 b t1 t2 t3 x tx k0 k1 k2 k3) → s.heap.get? dx = none → dx ≠ e → Q (.ref e) { s with heap := h', toks := tk' }) :
    wpAny (model PySem.Challenge.rw_rh0197_01.row.prog w) A (call (.ref 70) [.int n1 t1, .int n2 t2, .bytes b t3]) Q E s := by
  obtain ⟨hnd, dp, fr, gd, un⟩ := A
  obtain rfl : hnd = none := hh
  obtain rfl : fr = some l := B.stack
  dsimp only at hdp hun
  revert X; k_fill; intro X
  obtain ⟨nm, qn, Nn, bs, bm, hdct, sn, sub, ab, col, dd, k0, k1, k2, k3, k5, hC, TO⟩ := xc_cls (C := 70) X (xc70 _)
  obtain ⟨h, g, d, t, os⟩ := s
  refine xc_call TO hC (looks_findIn X (by k_is)) (fun self => bind_fn X self (by k_is)) ?_ (by rw [sizeLine_eq]; exact Nat.le_of_ble_eq_true rfl)
  refine wpAny_call ?_
  have kp : h.StaysIn ((h.push (tupObj [.int n1 t1, .int n2 t2, .bytes b t3])).push (excObj 70 h.objs.size)) := fun b o e => Heap.get?_push_of_some _ (Heap.get?_push_of_some _ e)
  have B' : Below (arK (dp + 1) (un + 1) gd l) base l h := ⟨rfl, B.stays, B.frames⟩
  refine' enterP (A := arK (dp + 1) _ gd l) (g := h) (news := [(h.objs.size + 1, excObj 70 h.objs.size), (h.objs.size, tupObj [.int n1 t1, .int n2 t2, .bytes b t3])]) ⟨rfl, B.stays, B.frames⟩ kp (by simp only [Heap.size_push]; omega) X T
    (consNews (by heap_get) (Heap.get?_none_of_le (Nat.le_succ _)) (consNews (by heap_get) (Heap.get?_none_of_le (Nat.le_refl _)) nilNews)) ?k6 ?k7 ?k8 ?k9 ?kB ?_ ?c2 ?c3 ?c4 ?c5
  case k6 => k_is
  case k7 => k_is
  case k8 => (show dp + 1 < recursionLimit); omega
  case k9 => exact BindsTo.of_eq rfl
  case kB => exact locs rfl
  case c5 => decide
  case c2 => exact rfl
  case c3 => exact rfl
  case c4 => exact rfl
  intro L' h₁ F N hlt
  dsimp only at F N hlt ⊢
  repeat' (first | (first | (k_unfold; (try dsimp only)) | (k_end; kc_close) | walk1 | (dsimp only; walk1) | (leave1; walk_say "STEP leave1"; (try dsimp only)) | fail "no step"))
  rename Fr _ _ _ _ => F1
  rename News _ _ _ _ => N1
  have nL : h.objs.size + 1 ≠ L' := (N1 _ (.head _)).2.1
  have hen : h.get? (h.objs.size + 1) = none := (N1 _ (.head _)).2.2
  have hfe : ∀ en ∈ l, en.frame ≠ some (h.objs.size + 1) := fun en he q => by
    obtain ⟨o, ho, _⟩ := (B.frames.mem (List.mem_filterMap.mpr ⟨en, he, q⟩)).2
    rw [hen] at ho; cases ho
  have hbe : base.get? (h.objs.size + 1) = none := fresh_of_stays B.stays hen
  have X1 : (hd.heap_39 w.params).In (hideAll _ [h.objs.size + 1]) := X.keeps (fr_hide F1 (fun _ _ q => q) hen nL).keep
  have T1 : Top p loose mean mg mb (hideAll _ [h.objs.size + 1]) := Top.keeps T (fr_hide F1 (fun _ _ q => q) hen nL).keep
  refine init35 (g := hideAll _ [h.objs.size + 1]) (e := h.objs.size + 1) (t0 := h.objs.size) (below_hide (pushX (⟨rfl, B.stays, B.frames⟩ : Below (arK (dp + 1) _ gd l) base l h) F1 rfl rfl) hbe ?_) X1 T1 (fun b o q => of_hideAll _ q) (hideAll_size _ _) (N1 _ (.head _)).1 (hideAll_none _ (.head _)) rfl ?_ ?_ ?_
  · intro en he q
    rcases List.mem_cons.mp he with rfl | he
    · exact nL (Option.some.inj q).symm
    · exact hfe en he q
  · simp only [depth_deeper]; omega
  · have q : (Code.builtin "type.__call__" { pos := [Value.ref 70, Value.int n1 t1, Value.int n2 t2, Value.bytes b t3] }).cUnits ≤ 5 := Nat.le_of_ble_eq_true rfl
    simp only [units_deeper]
    omega
  intro ta d3 h3 tk3 k3 kp3 t2n d3n ge gt gd lt1 lt2
  have FC := fr_hide F1 kp3 hen nL
  have FH := fr_hide F1 (fun _ _ q => q) hen nL
  have NT : News h L' h3 [(h.objs.size, tupObj [.int n1 t1, .int n2 t2, .bytes b t3])] := fun q hq => by
    rw [List.mem_singleton.mp hq]
    exact ⟨kp3 _ _ (hideAll_get _ (N1 _ (.tail _ (.head _))).1 (fun hm => Nat.ne_of_lt (Nat.lt_succ_self _) (List.mem_singleton.mp hm))), (N1 _ (.tail _ (.head _))).2⟩
  have NC := consN FH (consN FH (consN FH NT (hideAll_none _ (.head _)) ge) t2n gt) d3n gd
  have apart : ∀ o1 o2 o3, ∀ p ∈ [(ta, (o1 : Obj)), (h.objs.size + 1, (o2 : Obj)), (h.objs.size, (o3 : Obj))], p.1 ≠ d3 := fun o1 o2 o3 => ne_all ⟨Nat.ne_of_lt lt2, Nat.ne_of_lt (Nat.lt_trans lt1 lt2), Nat.ne_of_lt (Nat.lt_trans (Nat.lt_succ_self _) (Nat.lt_trans lt1 lt2)), trivial⟩
  clear F1 N1 FH NT hen hbe X1 T1 ge gt gd
  iterate 4 (first | (k_unfold; (try dsimp only)) | (k_end; kc_close) | walk1 | (dsimp only; walk1) | (leave1; walk_say "STEP leave1"; (try dsimp only)) | fail "no step")
  refine xs_old (K := hd.heap_39 w.params) (C := 70) (x := h.objs.size + 1) (dx := d3) FC X NC ⟨(NC _ (.tail _ (.tail _ (.head _)))).1, rfl, rfl, (NC _ (.head _)).1⟩ rfl (by k_is) rfl (by k_is) rfl rfl (.head (apart _ _ _)) (Nat.le_of_ble_eq_true rfl) ?_
  clear FC NC
  intro hC FC NC
  (try dsimp only)
  iterate 5 (first | (k_unfold; (try dsimp only)) | (k_end; kc_close) | walk1 | (dsimp only; walk1) | (leave1; walk_say "STEP leave1"; (try dsimp only)) | fail "no step")
  refine xs_old (K := hd.heap_39 w.params) (C := 70) (x := h.objs.size + 1) (dx := d3) FC X NC ⟨(NC _ (.tail _ (.tail _ (.head _)))).1, rfl, rfl, (NC _ (.head _)).1⟩ rfl (by k_is) rfl (by k_is) rfl rfl (.head (apart _ _ _)) (Nat.le_of_ble_eq_true rfl) ?_
  clear FC NC
  intro hC FC NC
  (try dsimp only)
  iterate 5 (first | (k_unfold; (try dsimp only)) | (k_end; kc_close) | walk1 | (dsimp only; walk1) | (leave1; walk_say "STEP leave1"; (try dsimp only)) | fail "no step")
  refine xs_old (K := hd.heap_39 w.params) (C := 70) (x := h.objs.size + 1) (dx := d3) FC X NC ⟨(NC _ (.tail _ (.tail _ (.head _)))).1, rfl, rfl, (NC _ (.head _)).1⟩ rfl (by k_is) rfl (by k_is) rfl rfl (.head (apart _ _ _)) (Nat.le_of_ble_eq_true rfl) ?_
  clear FC NC
  intro hC FC NC
  (try dsimp only)
  repeat' (first | (first | (k_unfold; (try dsimp only)) | (k_end; kc_close) | walk1 | (dsimp only; walk1) | (leave1; walk_say "STEP leave1"; (try dsimp only)) | fail "no step"))
  exact hret _ d3 _ _ _ _ _ _ _ _ ⟨FC.keep, Heap.get?_none_of_le (Nat.le_succ _), _, _, _, (NC _ (.tail _ (.tail _ (.head _)))).1, rfl, rfl, rfl, rfl⟩ ⟨_, (NC _ (.tail _ (.tail _ (.head _)))).1, rfl⟩ (NC _ (.head _)).1 (NC _ (.head _)).2.2 (Nat.ne_of_gt (Nat.lt_trans lt1 lt2))
end
theorem raised_upD {A₀ : Around} {M : Model} {base g h₂ : Heap} {l : List Env} {env : Env} {L e dx : Addr} {od : Obj} {m : Str → Option Value} {s₁ : Shared} {E E' : Value → Shared → Prop} {cls : Value}
    (B : Below A₀ base l g) (F : Fr g L h₂ m) (hf : env.frame = some L) (hk : env.scope.kind = .function) (x : MadeX h₂ s₁.heap e cls) (hD : DictIs e (some dx) s₁.heap) (hod : s₁.heap.get? dx = some od) (hdn : h₂.get? dx = none) (hde : dx ≠ e)
    (hQ : ∀ h', FlewD base g l e cls dx od h' → E (.ref e) { s₁ with heap := h' }) :
    ∃ e' oe, Value.ref e = .ref e' ∧ g.StaysIn s₁.heap ∧ s₁.heap.get? e' = some oe ∧ oe.cls = cls ∧ (∃ vs, oe.data = .fields vs ∧ vs[1]? = some .none) ∧
      wpAny M (A₀.deeper env) (leaving env (.ref e')) (fun _ s₂ => E (.ref e') s₂) E' s₁ := by
  obtain ⟨oe, vs, a0, he, hcl, hda, h0, h1⟩ := x.there
  exact ⟨e, oe, rfl, fun b o q => x.keeps b o (F.keep b o q), he, hcl, ⟨vs, hda, h1⟩, leave_firstD B x hD hod hdn hde F hf hk hQ⟩
theorem set10 : True := by
  k_with "exec Raise some none" => (k_here; k_dflt ((refine' raise_K (C := 70) ?kX ?kx ?kh ?_; (case kX => k_asm); (case kx => exact xc70 _); (case kh => exact rfl)); (try dsimp only)))
  k_with "call ref" => (k_here; (with_reducible show wpAny _ _ (call (Value.ref 70) [Value.int _ _, Value.int _ _, Value.bytes _ _]) _ _ _); k_dflt ((refine' mk_notify ?kB ?kX ?kT ?kh ?kd ?ku ?k1 ?k2 ?_; (case kB => exact pushX (by assumption) (by assumption) rfl rfl); (case kX => exact Frag.In.keeps (by assumption) (Fr.keep (by assumption))); (case kT => exact Top.keeps (by assumption) (Fr.keep (by assumption))); (case kh => exact rfl); (case kd => (simp only [depth_deeper]; omega)); (case ku => (simp only [units_deeper]; omega)); (case k1 => decide); (case k2 => decide)); (intro e9 dx9 x9 tx9 k09 k19 k29 k39 h9 tk9 M9 D9 O9 n9 a9; (try dsimp only at M9 D9 O9 n9); refine' raised_upD ?kb ?kf ?kl ?kk ?kx ?kD ?kO ?kn ?ka ?_; (case kx => exact M9); (case kD => exact D9); (case kO => exact O9); (case kn => exact n9); (case ka => exact a9); (case kb => assumption); (case kf => assumption); (case kl => exact rfl); (case kk => exact rfl); intro h8 R8; (try dsimp only))))
  trivial
section
variable {w : World} {p : Program} {loose : List Str} {mean : ExcName → Option Value} {mg mb : Str → Option Value} {A : Around} {base : Heap} {l : List Env} {s : Shared} {Q E : Value → Shared → Prop}
theorem read_openN {b : Array UInt8} {tb : Tok} {v : Int} {L : List Int} (B : Below A base l s.heap) (X : (hd.heap_39 w.params).In s.heap) (T : Top p loose mean mg mb s.heap)
    (hh : A.handled = none) (hdp : A.depth + 50 < recursionLimit) (hun : A.units + 1000 < cLine)
    (hb : KBw.bInts b = L) (hL : (12 : Int) ≤ (L.length : Int)) (hL2 : (L.length : Int) ≤ 400) (hv : L.getD (Int.toNat 0) 0 = v) (hv4 : v ≠ 4)
    (hexc : ∀ e h' tk' dx c t1 t2 t3 x tx k0 k1 k2 k3, KBw.bInts c = [0, 4] → FlewD base s.heap l e (.ref 70) dx (notD w.params 2 1 c t1 t2 t3 x tx k0 k1 k2 k3) h' → E (.ref e) { s with heap := h', toks := tk' }) :
    wpAny (model PySem.Challenge.rw_rh0197_01.row.prog w) A (call (.ref 138) [.bytes b tb]) Q E s := by
  obtain ⟨hnd, dp, fr, gd, un⟩ := A
  obtain rfl : hnd = none := hh
  obtain rfl : fr = some l := B.stack
  dsimp only at hdp hun
  revert X; k_fill; intro X
  refine wpAny_call ?_
  refine' enterP (g := s.heap) (news := []) B (fun _ _ e => e) (Nat.le_refl _) X T nilNews ?k6 ?k7 ?k8 ?k9 ?kB ?_ ?c2 ?c3 ?c4 ?c5
  case k6 => k_is
  case k7 => k_is
  case k8 => (show dp < recursionLimit); omega
  case k9 => exact BindsTo.of_eq rfl
  case kB => exact locs rfl
  case c5 => decide
  case c2 => exact rfl
  case c3 => exact rfl
  case c4 => exact rfl
  intro L' h₁ F N hlt
  (try dsimp only)
  repeat' (first | ((with_reducible show wpAny _ _ (exec (Stmt.Raise _ _ _) _) _ _ _); exfalso; omega) | ((with_reducible show wpAny _ _ (binaryOp _ _ _ _) _ _ _); exfalso; omega) | (first | (k_unfold; (try dsimp only)) | (k_end; kc_close) | walk1 | (dsimp only; walk1) | (leave1; walk_say "STEP leave1"; (try dsimp only)) | fail "no step"))
  rename KBw.bInts _ = [_, _] => hb9
  exact hexc _ _ _ _ _ _ _ _ _ _ _ _ _ _ hb9 (by assumption)
end
/-- all of a heap stands but the slots of the frames of a list of environments -/
structure KeptBut (h : Heap) (l : List Env) (h' : Heap) : Prop where
  kept : ∀ b o, h.get? b = some o → b ∉ l.filterMap (·.frame) → h'.get? b = some o
  slots : h.UpToSlots h'
theorem keptBut_of {h g' h' : Heap} {l : List Env} {L : Addr} {m : Str → Option Value} (T : KtsTurn (l.filterMap (·.frame)) h g') (F : Fr g' L h' m) : KeptBut h l h' :=
  ⟨fun b o q n => F.keep _ _ (T.other b o q n), fun b o q _ => by obtain ⟨sl, z⟩ := T.up q; exact ⟨sl, F.keep _ _ z⟩⟩
theorem mro70 (P : Params) : mroIn (hd.heap_39 P) 70 (.type "BaseException") = some true := rfl
theorem findObj_own {K : Frag} {C : Addr} {od : Obj} {name : Str} {v : Value} (hp : excOver K C = true) (ht : findIn K (.ref C) name = some none) (hl : lookIn name od = some (some v)) : findObj K C (some od) name = some (.value v) := by
  obtain ⟨cd, hc, ho'⟩ := any_some hp
  obtain ⟨_, hd'⟩ := Bool.and_eq_true_iff.mp ho'
  unfold findObj
  rw [hc, Option.bind_some, ht, Option.bind_some]
  dsimp only [Option.bind_some]
  unfold W.ownOf
  rw [hd', if_pos rfl]
  dsimp only
  rw [hl]
  rfl
theorem turn_none {fs : List Addr} {g g' : Heap} {b : Addr} (T : KtsTurn fs g g') (h : g'.get? b = none) : g.get? b = none := by
  cases q : g.get? b with
  | none => rfl
  | some o =>
    obtain ⟨sl, z⟩ := T.up q
    rw [h] at z
    cases z
section
variable {w : World} {p : Program} {loose : List Str} {mean : ExcName → Option Value} {mg mb : Str → Option Value} {A : Around} {base : Heap} {l : List Env} {s : Shared} {Q E : Value → Shared → Prop}
theorem told {ask : Addr} {Ret : Value → Heap → Prop} {Con : Prop} {Ntf : Int → Int → Array UInt8 → Prop} (B : Below A base l s.heap) (X : (hd.heap_39 w.params).In s.heap) (T : Top p loose mean mg mb s.heap)
    (hh : A.handled = none) (hdp : A.depth + 90 < recursionLimit) (hun : A.units + 2000 < cLine)
    (hfn : FnAt ask s.heap) (XB : (hd.heap_39 w.params).In base) (TB : Top p loose mean mg mb base) (D : KtsDicts (l.filterMap (·.frame)) s.heap)
    (hask : ∀ (A' : Around) (l' : List Env) (s₁ : Shared) (Q' E' : Value → Shared → Prop), Below A' base l' s₁.heap → s.heap.StaysIn s₁.heap → A'.handled = none → A'.depth ≤ A.depth + 1 → A'.units ≤ A.units + 20 →
      (∀ v h' tk', Ret v h' → s₁.heap.StaysIn h' → Q' v { s₁ with heap := h', toks := tk' }) →
      (Con → ∀ e h' tk', Flew base s₁.heap l' e (.ref 51) h' → E' (.ref e) { s₁ with heap := h', toks := tk' }) →
      (∀ e h' tk' dx n1 n2 c t1 t2 t3 x tx k0 k1 k2 k3, Ntf n1 n2 c → FlewD base s₁.heap l' e (.ref 70) dx (notD w.params n1 n2 c t1 t2 t3 x tx k0 k1 k2 k3) h' → E' (.ref e) { s₁ with heap := h', toks := tk' }) →
      wpAny (model PySem.Challenge.rw_rh0197_01.row.prog w) A' (call (.ref ask) []) Q' E' s₁)
    (hret : ∀ v h' tk', Ret v h' → s.heap.StaysIn h' → Q v { s with heap := h', toks := tk' })
    (hcon : Con → ∀ h' tk', KeptBut s.heap l h' → Q .none { s with heap := h', toks := tk' })
    (hntf : ∀ n1 n2 c r t1 t2 t3 h' tk', Ntf n1 n2 c → KeptBut s.heap l h' → h'.get? r = some (tupObj [.int n1 t1, .int n2 t2, .bytes c t3]) → s.heap.get? r = none → Q (.ref r) { s with heap := h', toks := tk' }) :
    wpAny (model PySem.Challenge.rw_rh0197_01.row.prog w) A (call (.ref 152) [.ref ask]) Q E s := by
  obtain ⟨hnd, dp, fr, gd, un⟩ := A
  obtain rfl : hnd = none := hh
  obtain rfl : fr = some l := B.stack
  dsimp only at hdp hun
  revert X; k_fill; intro X
  refine wpAny_call ?_
  refine' enterP (g := s.heap) (news := []) B (fun _ _ e => e) (Nat.le_refl _) X T nilNews ?k6 ?k7 ?k8 ?k9 ?kB ?_ ?c2 ?c3 ?c4 ?c5
  case k6 => k_is
  case k7 => k_is
  case k8 => (show dp < recursionLimit); omega
  case k9 => exact BindsTo.of_eq rfl
  case kB => exact locs rfl
  case c5 => decide
  case c2 => exact rfl
  case c3 => exact rfl
  case c4 => exact rfl
  intro L' h₁ F N hlt
  (try dsimp only)
  repeat' ((fail_if_success (with_reducible show wpAny _ _ (callWith _ _ _ _ _) _ _ _)); (first | (k_unfold; (try dsimp only)) | (k_end; kc_close) | walk1 | (dsimp only; walk1) | (leave1; walk_say "STEP leave1"; (try dsimp only)) | fail "no step"))
  obtain ⟨oc, od, fd, sl, hfo⟩ := hfn
  refine callWith_F0 ⟨oc, od, fd, sl, F.keep _ _ hfo⟩ ?_
  dsimp only [List.nil_append]
  apply hask
  · exact pushX (by assumption) (by assumption) rfl rfl
  · exact F.keep
  · exact rfl
  · exact Nat.le_refl _
  · simp only [units_deeper]; omega
  ·
    intro v h' tk' hR kp
    repeat' (first | (first | (k_unfold; (try dsimp only)) | (k_end; kc_close) | walk1 | (dsimp only; walk1) | (leave1; walk_say "STEP leave1"; (try dsimp only)) | fail "no step"))
    exact hret _ _ _ hR (fun b o q => kp _ _ (F.keep b o q))
  ·
    intro hc e h' tk' R
    dsimp only
    refine kts_lookSN R.raised F B R.slots D ?_
    intro h' R' U'
    dsimp only
    refine' hit_SN0 R' F B U' XB TB D KtsTurn.refl ?T ?_
    case T => kts_test
    intro h' g' T' F' N' K' X' P' D'
    repeat' (first | (first | (k_unfold; (try dsimp only)) | (k_end; kc_close) | walk1 | (dsimp only; walk1) | (leave1; walk_say "STEP leave1"; (try dsimp only)) | fail "no step"))
    exact hcon hc _ _ (keptBut_of T' F')
  ·
    intro e h' tk' dx n1 n2 c t1 t2 t3 x tx k0 k1 k2 k3 hN R
    dsimp only
    refine look_D R B ?_
    intro h' R'
    dsimp only
    refine' pass_D R' F B XB TB ?T ?_
    case T => kts_test
    intro h' R'
    dsimp only
    refine' hit_DB (D := D) R' F B XB TB KtsTurn.refl ?T ?_
    case T => kts_test
    intro h' g' tk oe ws hoc hod hda T' F' N' K' X' P' D'
    have I : InstAt h' e oe 70 (some (notD w.params n1 n2 c t1 t2 t3 x tx k0 k1 k2 k3)) := ⟨(N' _ (.head _)).1, hoc, by unfold notCls; rw [hda], by rw [hod]; exact (N' _ (.tail _ (.head _))).1⟩
    have X9 := X'.keeps F'.keep
    repeat' (first | (first | (k_unfold; (try dsimp only)) | (k_end; kc_close) | walk1 | (dsimp only; walk1) | (leave1; walk_say "STEP leave1"; (try dsimp only)) | fail "no step"))
    refine get_exc X9 I (by k_is) (by k_is) (mro70 _) (findObj_own rfl (by k_is) rfl) rfl ?_
    repeat' (first | (first | (k_unfold; (try dsimp only)) | (k_end; kc_close) | walk1 | (dsimp only; walk1) | (leave1; walk_say "STEP leave1"; (try dsimp only)) | fail "no step"))
    refine get_exc X9 I (by k_is) (by k_is) (mro70 _) (findObj_own rfl (by k_is) rfl) rfl ?_
    repeat' (first | (first | (k_unfold; (try dsimp only)) | (k_end; kc_close) | walk1 | (dsimp only; walk1) | (leave1; walk_say "STEP leave1"; (try dsimp only)) | fail "no step"))
    refine get_exc X9 I (by k_is) (by k_is) (mro70 _) (findObj_own rfl (by k_is) rfl) rfl ?_
    repeat' (first | (first | (k_unfold; (try dsimp only)) | (k_end; kc_close) | walk1 | (dsimp only; walk1) | (leave1; walk_say "STEP leave1"; (try dsimp only)) | fail "no step"))
    rename News _ _ _ _ => NX
    rename Fr _ _ _ _ => FX
    exact hntf _ _ _ _ _ _ _ _ _ hN (keptBut_of T' FX) (headGet NX) (turn_none T' (headFresh NX))
end
section
variable {w : World} {p : Program} {loose : List Str} {mean : ExcName → Option Value} {mg mb : Str → Option Value} {A : Around} {base : Heap} {l : List Env} {s : Shared} {Q E : Value → Shared → Prop}
theorem pick {P D : Addr} {its : List Value} {vs : List Int} {i z many : Int} {ti tz tm : Tok} {cap capD : Nat} {g : Heap} (B : Below A base l g) (X : (hd.heap_39 w.params).In g) (T : Top p loose mean mg mb g) (hg : g.StaysIn s.heap) (hsz : g.objs.size ≤ s.heap.objs.size)
    (hP : s.heap.get? P = some (W.listOf #[.ref D, .int i ti, .int z tz] cap)) (hPn : g.get? P = none) (hD : s.heap.get? D = some (W.listOf its.toArray capD)) (hDn : g.get? D = none) (ne : P ≠ D)
    (hh : A.handled = none) (hdp : A.depth + 10 < recursionLimit) (hun : A.units + 300 < cLine)
    (hI : IntsAre its vs) (hlen : vs.length ≤ 12) (hi : 0 ≤ i ∧ i ≤ 100) (hz : 0 ≤ z ∧ z < 997) (hm : 0 < many ∧ many ≤ 1000)
    (hret : ∀ r tr ti' h' tk', 0 ≤ r → r < many → g.StaysIn h' → h'.get? P = some (W.listOf #[.ref D, .int (i + 1) ti', .int z tz] cap) → h'.get? D = some (W.listOf its.toArray capD) → Q (.int r tr) { s with heap := h', toks := tk' }) :
    wpAny (model PySem.Challenge.rw_rh0197_01.row.prog w) A (call (.ref 145) [.ref P, .int many tm]) Q E s := by
  have hne : (@Ne Nat P D) := ne
  obtain ⟨hnd, dp, fr, gd, un⟩ := A
  obtain rfl : hnd = none := hh
  obtain rfl : fr = some l := B.stack
  dsimp only at hdp hun
  revert X; k_fill; intro X
  refine wpAny_call ?_
  refine' enterP (g := g) (news := [(P, W.listOf #[.ref D, .int i ti, .int z tz] cap), (D, W.listOf its.toArray capD)]) B hg hsz X T (consNews hP hPn (consNews hD hDn nilNews)) ?k6 ?k7 ?k8 ?k9 ?kB ?_ ?c2 ?c3 ?c4 ?c5
  case k6 => k_is
  case k7 => k_is
  case k8 => (show dp < recursionLimit); omega
  case k9 => exact BindsTo.of_eq rfl
  case kB => exact locs rfl
  case c5 => decide
  case c2 => exact rfl
  case c3 => exact rfl
  case c4 => exact rfl
  intro L' h₁ F N hlt
  (try dsimp only)
  repeat' (first | (first | (k_unfold; (try dsimp only)) | (k_end; kc_close) | walk1 | (dsimp only; walk1) | (leave1; walk_say "STEP leave1"; (try dsimp only)) | fail "no step"))
  all_goals rename Fr _ _ _ _ => FX
  all_goals rename News _ _ _ _ => NX
  all_goals exact hret _ _ _ _ _ (Int.fmod_nonneg_of_pos _ hm.1) (Int.fmod_lt_of_pos _ hm.1) FX.keep (NX _ (.head _)).1 (NX _ (.tail _ (.head _))).1
end
theorem news_swap {h₀ h h' : Heap} {L P : Addr} {o o' : Obj} {news : List (Addr × Obj)} {G : Obj → List (Addr × Obj)} (N : News h₀ L h news) (U : UpdF P o news G) (hk : ∀ q ∈ news, q.1 ≠ P → h'.get? q.1 = some q.2) (hP : h'.get? P = some o') : News h₀ L h' (G o') := by
  obtain ⟨pre, post, rfl, hg, h1, h2⟩ := U.split
  intro q hq
  rw [hg] at hq
  rcases List.mem_append.mp hq with m | m
  · have m' : q ∈ pre ++ (P, o) :: post := List.mem_append_left _ m
    exact ⟨hk q m' (h1 q m), (N q m').2⟩
  · rcases List.mem_cons.mp m with rfl | m
    · exact ⟨hP, (N (P, o) (List.mem_append_right _ (.head _))).2⟩
    · have m' : q ∈ pre ++ (P, o) :: post := List.mem_append_right _ (.tail _ m)
      exact ⟨hk q m' (h2 q m), (N q m').2⟩
section
variable {w : World} {p : Program} {loose : List Str} {mean : ExcName → Option Value} {mg mb : Str → Option Value} {A₀ : Around} {outer : List Env} {h₀ : Heap} {L : Addr} {m : Str → Option Value} {news : List (Addr × Obj)} {G : Obj → List (Addr × Obj)} {env : Env} {base : Heap} {s : Shared} {Q E : Value → Shared → Prop}
theorem pickN {P D : Addr} {its : List Value} {vs : List Int} {i z many : Int} {ti tz tm : Tok} {cap capD : Nat}
    (K : Below A₀ base outer h₀) (F : Fr h₀ L s.heap m) (N : News h₀ L s.heap news) (X : (hd.heap_39 w.params).In h₀) (T : Top p loose mean mg mb h₀) (hf : env.frame = some L) (hke : env.scope.kind = .function)
    (U : UpdF P (W.listOf #[.ref D, .int i ti, .int z tz] cap) news G) (mD : (D, W.listOf its.toArray capD) ∈ news) (hI : IntsAre its vs)
    (hh : (A₀.deeper env).handled = none) (hdp : (A₀.deeper env).depth + 10 < recursionLimit) (hun : (A₀.deeper env).units + 300 < cLine) (hlen : vs.length ≤ 12) (hi : 0 ≤ i ∧ i ≤ 100) (hz : 0 ≤ z ∧ z < 997) (hm : 0 < many ∧ many ≤ 1000)
    (hret : ∀ r tr ti' h' tk', 0 ≤ r → r < many → Fr h₀ L h' m → News h₀ L h' (G (W.listOf #[.ref D, .int (i + 1) ti', .int z tz] cap)) → Q (.int r tr) { s with heap := h', toks := tk' }) :
    wpAny (model PySem.Challenge.rw_rh0197_01.row.prog w) (A₀.deeper env) (call (.ref 145) [.ref P, .int many tm]) Q E s := by
  have mP : (P, W.listOf #[.ref D, .int i ti, .int z tz] cap) ∈ news := by
    obtain ⟨pre, post, rfl, _⟩ := U.split
    exact List.mem_append_right _ (.head _)
  have hPD : P ≠ D := fun q => by
    have e1 := (N _ mP).1
    have e2 := (N _ mD).1
    dsimp only at e1 e2
    rw [q, e2] at e1
    have e3 := congrArg (fun o : Obj => match o.data with | .seq a _ => a.toList | _ => []) (Option.some.inj e1)
    dsimp only [W.listOf] at e3
    have e4 : its = [.ref D, .int i ti, .int z tz] := by simpa using e3
    rw [e4] at hI
    cases hI
  have N2 : News h₀ L s.heap [(P, W.listOf #[.ref D, .int i ti, .int z tz] cap), (D, W.listOf its.toArray capD)] := fun q hq => by
    rcases List.mem_cons.mp hq with rfl | hq
    · exact N _ mP
    · rw [List.mem_singleton.mp hq]; exact N _ mD
  obtain ⟨FG, BG, st, _⟩ := groundX (R := fun _ _ => True) (A := A₀.deeper env) K F N2 (Around.frames_deeper K.stack) hf hke
  refine pick BG (X.keeps st) (T.keeps st) (fun b o q => of_hideAll _ q) (Nat.le_of_eq (hideAll_size _ _)) (N _ mP).1 (hideAll_none _ (.head _)) (N _ mD).1 (hideAll_none _ (.tail _ (.head _))) hPD hh hdp hun hI hlen hi hz hm ?_
  intro r tr ti' h' tk' r0 r1 kp hP' hD'
  refine hret r tr ti' h' tk' r0 r1 (FG.keptAll kp) (news_swap N U (fun q hq nq => ?_) hP')
  by_cases e : q.1 = D
  · have e1 := (N _ hq).1
    have e2 := (N _ mD).1
    dsimp only at e2
    rw [e, e2] at e1
    rw [e, hD', ← e1]
  · refine kp _ _ (hideAll_get _ (N _ hq).1 fun hm => ?_)
    rcases List.mem_cons.mp hm with z | z
    · exact nq z
    · exact e (List.mem_singleton.mp z)
end
section
variable {prog : Program} {w : World} {A : Around} {s : Shared} {Q E : Value → Shared → Prop} {h₀ : Heap} {L : Addr} {m : Str → Option Value} {news : List (Addr × Obj)}
theorem item_menu (lo hi : Int) {value slice : PySem.Expr} {l : Addr} {vs : List Value} {ns : List Int} {k : Int} {u : Tok} (hl : s.heap.IsList l vs.toArray) (hi' : IntsAre vs ns) (hn : (ns.all fun n => decide (lo ≤ n) && decide (n ≤ hi)) = true) (h8 : ns.length ≤ 8)
    (h0 : 0 ≤ k) (h1 : k < ns.length) (h : ∀ n t, lo ≤ n → n ≤ hi → Q (.int n t) s)
    (hs : subscripted slice false (.ref l) (.int k u) = operate [.ref l, .int k u] (getItem (.ref l) (.int k u)) := by with_unfolding_all rfl) :
    wpAny (model prog w) A (subscriptTail value slice (.ref l) (.int k u)) Q E s := by
  refine item_anyK hl hi' h0 h1 (Int.lt_of_lt_of_le h1 (by omega)) (fun t => ?_) hs
  have hlt : k.toNat < ns.length := by omega
  have hg : ns.getD k.toNat 0 = ns[k.toNat] := by rw [List.getD_eq_getElem?_getD, List.getElem?_eq_getElem hlt, Option.getD_some]
  have ha := List.all_eq_true.mp hn _ (List.getElem_mem hlt)
  rw [Bool.and_eq_true, decide_eq_true_eq, decide_eq_true_eq] at ha
  rw [hg]
  exact h _ t ha.1 ha.2
theorem mul1 {l : Addr} {x n : Int} {t u : Tok} (Fm : Fr h₀ L s.heap m) (N : News h₀ L s.heap news) (hl : s.heap.IsList l [Value.int x t].toArray) (hn : 0 ≤ n ∧ n ≤ 256)
    (h : ∀ D h', Fr h₀ L h' m → News h₀ L h' ((D, listOf (List.replicate n.toNat (Value.int x t)).toArray 0) :: news) → (∀ p ∈ news, p.1 < D) → Q (.ref D) { s with heap := h' }) : wpAny (model prog w) A (binaryOp .Mult (.ref l) (.int n u)) Q E s :=
  KMa.mul Fm N hl (by omega) (by omega) (by simp only [List.length_cons, List.length_nil]; omega) (by rw [List.flatten_replicate_singleton]) h
theorem intsAre_rep (x : Int) (t : Tok) : ∀ k, IntsAre (List.replicate k (Value.int x t)) (List.replicate k x)
  | 0 => .nil
  | k + 1 => .cons _ _ (intsAre_rep x t k)
theorem bytes_ints {l : Addr} {vs : List Value} {ns : List Int} (hl : s.heap.IsList l vs.toArray) (hi : IntsAre vs ns) (hh : A.handled = none) (hr : ∀ n ∈ ns, 0 ≤ n ∧ n < 256) (hz : vs.length ≤ 1000)
    (hQ : ∀ b h' t k, s.heap.StaysIn h' → KBw.bInts b = ns → Q (.bytes b t) { s with heap := h', toks := k }) : wpAny (model prog w) A (call (.type "bytes") [.ref l]) Q E s :=
  call_bytes_ints hl hi hr (by rw [sizeLine_eq]; omega) hh fun h' t k kp => hQ _ _ _ _ kp (KBa.ints_make hr)
end
structure Apart (a b : Nat) : Prop where
  ne : a ≠ b
theorem aparts {L D P : Nat} (a1 : D < P) (a2 : L + 1 + 1 + 1 + 1 + 1 < D) (l0 : 154 < L) : Apart P D ∧ Apart P (L + 1) ∧ Apart P (L + 1 + 1) ∧ Apart P (L + 1 + 1 + 1) ∧ Apart P (L + 1 + 1 + 1 + 1) ∧ Apart P (L + 1 + 1 + 1 + 1 + 1) ∧ Apart P 154 ∧ Apart D (L + 1) ∧ Apart D (L + 1 + 1) ∧ Apart D (L + 1 + 1 + 1) ∧ Apart D (L + 1 + 1 + 1 + 1) ∧ Apart D (L + 1 + 1 + 1 + 1 + 1) ∧ Apart (L + 1) (L + 1 + 1) ∧ Apart (L + 1) (L + 1 + 1 + 1) ∧ Apart (L + 1) (L + 1 + 1 + 1 + 1) ∧ Apart (L + 1) (L + 1 + 1 + 1 + 1 + 1) ∧ Apart (L + 1 + 1) (L + 1 + 1 + 1) ∧ Apart (L + 1 + 1) (L + 1 + 1 + 1 + 1) ∧ Apart (L + 1 + 1) (L + 1 + 1 + 1 + 1 + 1) ∧ Apart (L + 1 + 1 + 1) (L + 1 + 1 + 1 + 1) ∧ Apart (L + 1 + 1 + 1) (L + 1 + 1 + 1 + 1 + 1) ∧ Apart (L + 1 + 1 + 1 + 1) (L + 1 + 1 + 1 + 1 + 1) ∧ Apart (L + 1) 154 ∧ Apart (L + 1 + 1) 154 ∧ Apart (L + 1 + 1 + 1) 154 ∧ Apart (L + 1 + 1 + 1 + 1) 154 ∧ Apart (L + 1 + 1 + 1 + 1 + 1) 154 := by
  refine ⟨?_, ?_, ?_, ?_, ?_, ?_, ?_, ?_, ?_, ?_, ?_, ?_, ?_, ?_, ?_, ?_, ?_, ?_, ?_, ?_, ?_, ?_, ?_, ?_, ?_, ?_, ?_⟩ <;> exact ⟨by omega⟩
theorem rep_abs {b : Array UInt8} {n r : Int} (h : KBw.bInts b = List.replicate n.toNat r) (h0 : 0 ≤ n) : ∃ vs : List Int, KBw.bInts b = vs ∧ (vs.length : Int) = n := ⟨_, h, by rw [List.length_replicate]; omega⟩
section
variable {prog : Program} {w : World} {A : Around} {s : Shared} {Q E : Value → Shared → Prop} {h₀ : Heap} {L a c : Addr} {m : Str → Option Value} {news : List (Addr × Obj)} {cn : Str} {cs : Scope} {ccd : Value} {cl : List (Str × Addr)}
theorem octet_K {x : Str} {o : Obj} {n : Int} {tn : Tok} {p0 p1 p2 pos : Pos} (N : News h₀ L s.heap news) (hc : cl.lookup x = some c) (hm : (c, o) ∈ news) (hd : o.data = .cell (some (.int n tn)))
    (hT : ∀ tk, 0 ≤ n → n ≤ 255 → Q (.bool true) { s with toks := tk }) (hF : ∀ tk, ¬ (0 ≤ n ∧ n ≤ 255) → Q (.bool false) { s with toks := tk })
    (hk : cs.kind = .function := by rfl) (hx : (envX cn cs L a ccd cl).kindOf x = some .cell := by rfl) (hb : (x == ("__debug__" : Str)) = false := by decide) :
    wpAny (model prog w) A (eval (.Compare (.Constant (.int 0) 0 p0) [.LtE, .LtE] [.Name x p1, .Constant (.int 255) 0 p2] pos) (envX cn cs L a ccd cl)) Q E s := by
  obtain ⟨hp, g, d, tk, os⟩ := s
  refine Compare_chain ?_
  walk1
  refine chain_link ?_
  refine nameX_C (s := ⟨hp, g, d, _, os⟩) N hc hm hd ?_ hk hx hb
  walk1
  walk1
  by_cases h0 : 0 ≤ n
  · rw [if_pos (decide_eq_true h0)]
    refine chain_last ?_
    walk1
    walk1
    by_cases h1 : n ≤ 255
    · rw [decide_eq_true h1]
      exact hT _ h0 h1
    · rw [decide_eq_false h1]
      exact hF _ (fun q => h1 q.2)
  · rw [if_neg (fun q => h0 (of_decide_eq_true q)), decide_eq_false h0]
    exact hF _ (fun q => h0 q.1)
end
section
variable {h₀ h : Heap} {L P x1 D x2 c5 c4 c3 c2 c1 t : Addr} {oP o1 oD o2 q1 q2 q3 q4 q5 ot : Obj} {v : Option Value} {M : Str → Option Value}
theorem trim1 (F : Fr h₀ L h (fun y => if y = Str.ofString "pen" then v else M y)) (N : News h₀ L h [(P, oP), (x1, o1), (D, oD), (x2, o2), (c5, q1), (c4, q2), (c3, q3), (c2, q4), (c1, q5), (t, ot)]) :
    ∃ M' : Str → Option Value, Fr h₀ L h (fun y => if y = Str.ofString "pen" then v else M' y) ∧ News h₀ L h [(P, oP), (D, oD), (c5, q1), (c4, q2), (c3, q3), (c2, q4), (c1, q5), (t, ot)] :=
  ⟨M, F, fun q hq => N q (by
    rcases List.mem_cons.mp hq with rfl | hq
    · exact .head _
    · exact .tail _ (.tail _ (by
        rcases List.mem_cons.mp hq with rfl | hq
        · exact .head _
        · exact .tail _ (.tail _ hq))))⟩
end
section
variable {prog : Program} {w : World} {A : Around} {s : Shared} {base : Heap} {l : List Env} {p : Program} {loose : List Str} {mean : ExcName → Option Value} {mg mb : Str → Option Value}
/-- a lambda that stands in the heap is entered: the whole heap is its ground -/
theorem enterL {R : Result → Shared → Prop} {name qual : Str} {params : Arguments} {body : PySem.Expr} {scope : Scope} {cl : List (Str × Addr)} {pm ctv : Value} {c' : Addr} {f : Addr} {args : Args} {binds : List (Str × Value)}
    (T : Top p loose mean mg mb s.heap) (ho : s.heap.get? f = some (kla_obj name qual params body scope cl pm c' ctv)) (hcd : s.heap.CodeRec (.ref c') qual) (hroom : A.depth < recursionLimit)
    (hbind : bindArgs (kla_fn name qual params body scope cl pm (.ref c') ctv) args = pure binds) (hloc : ∀ y ∈ binds, scope.names.lookup y.1 = some .local)
    (h : ∀ L' h₁, Fr s.heap L' h₁ (fun y => binds.reverse.lookup y) → News s.heap L' h₁ [] →
      wpAny (model prog w) (A.deeper (envX qual scope L' f (.ref c') cl)) (eval body (envX qual scope L' f (.ref c') cl))
        (fun v s' => R (.ok (.ret v)) s')
        (fun e s' => wpAny (model prog w) (A.deeper (envX qual scope L' f (.ref c') cl)) (leaving (envX qual scope L' f (.ref c') cl) e) (fun _ s'' => R (.error e) s'') (fun e' s'' => R (.error e') s'') s')
        { s with heap := h₁, toks := s.toks + binds.length })
    (hco : scope.isCoroutine = false) (hgen : scope.isGenerator = false) (hk : scope.kind = .function)
    (hcell : ∀ x ∈ scope.names, x.2 ≠ .cell) : codeAny (model prog w) A (.call (.ref f) args) R s := by
  refine kla_callFunE hroom ho rfl hco hgen rfl hcd ?_
  rw [hbind]
  refine wpAny_pure (wpAny_newFunctionEnv hcell hloc (fun h₁ hns hsb => ⟨(T.nolimit).fresh _ hsb, ?_⟩) hk)
  show codeAny _ _ (.expr body (envX qual scope s.heap.objs.size f (.ref c') cl)) _ _
  have hk₁ : ∀ b o, s.heap.get? b = some o → h₁.get? b = some o := fun b o e => hsb.extBut b o (Nat.ne_of_lt (Heap.lt_size e)) (Heap.get?_push_of_some _ e)
  exact kla_codeExpr (h s.heap.objs.size h₁ ⟨hns, hk₁, Nat.le_refl _⟩ (fun _ hq => nomatch hq))
theorem nameFG {h₀ : Heap} {L a c : Addr} {m : Str → Option Value} {cn : Str} {cs : Scope} {ccd : Value} {cl : List (Str × Addr)} {x : Str} {pos : Pos} {v : Value} {Q : Value → Shared → Prop} {E : Value → Shared → Prop} {o : Obj} {M : Model}
    (F : Fr h₀ L s.heap m) (hc : cl.lookup x = some c) (hg : h₀.get? c = some o) (hd : o.data = .cell (some v)) (h : Q v s)
    (hk : cs.kind = .function := by rfl) (hx : (envX cn cs L a ccd cl).kindOf x = some .free := by rfl) (hb : (x == ("__debug__" : Str)) = false := by decide) (hn : (x == ("__classdict__" : Str)) = false := by decide) :
    wpAny M A (eval (.Name x pos) (envX cn cs L a ccd cl)) Q E s := wpAny_Name (wpAny_loadName_free hk hx hc ⟨o, F.keep _ _ hg, hd⟩ h hn) hb
end
theorem backBut {h₀ h h' : Heap} {L : Addr} {m : Str → Option Value} {news : List (Addr × Obj)} {env : Env} (F : Fr h₀ L h m) (N : News h₀ L h news) (KB : KeptBut h [env] h') (hf : env.frame = some L) : Fr h₀ L h' m ∧ News h₀ L h' news := by
  have mem : ∀ b, b ∈ [env].filterMap (·.frame) → b = L := fun b hb => by
    obtain ⟨en, he, hfe⟩ := List.mem_filterMap.mp hb
    rw [List.mem_singleton.mp he, hf] at hfe
    exact (Option.some.inj hfe).symm
  refine ⟨Fr.of_stays F (fun b o q => KB.kept _ _ (F.keep b o q) fun hm => ?_) KB.slots, fun q hq => ⟨KB.kept _ _ (N q hq).1 fun hm => (N q hq).2.1 (mem _ hm), (N q hq).2⟩⟩
  rw [mem b hm, kts_self F] at q
  cases q
section
variable {w : World} {p : Program} {loose : List Str} {mean : ExcName → Option Value} {mg mb : Str → Option Value} {A₀ : Around} {h₀ : Heap} {L : Addr} {m : Str → Option Value} {news : List (Addr × Obj)} {env : Env} {s : Shared} {Q E : Value → Shared → Prop}
theorem toldN {ask : Addr} (Ret : Value → Heap → Prop) (Con : Prop) (Ntf : Int → Int → Array UInt8 → Prop)
    (K : Below A₀ h₀ [] h₀) (F : Fr h₀ L s.heap m) (N : News h₀ L s.heap news) (X : (hd.heap_39 w.params).In h₀) (T : Top p loose mean mg mb h₀) (hf : env.frame = some L) (hke : env.scope.kind = .function)
    (hh : (A₀.deeper env).handled = none) (hdp : (A₀.deeper env).depth + 90 < recursionLimit) (hun : (A₀.deeper env).units + 2000 < cLine) (hfn : FnAt ask s.heap)
    (hask : ∀ (A' : Around) (l' : List Env) (s₁ : Shared) (Q' E' : Value → Shared → Prop), Below A' h₀ l' s₁.heap → s.heap.StaysIn s₁.heap → A'.handled = none → A'.depth ≤ (A₀.deeper env).depth + 1 → A'.units ≤ (A₀.deeper env).units + 20 →
      (∀ v h' tk', Ret v h' → s₁.heap.StaysIn h' → Q' v { s₁ with heap := h', toks := tk' }) →
      (Con → ∀ e h' tk', Flew h₀ s₁.heap l' e (.ref 51) h' → E' (.ref e) { s₁ with heap := h', toks := tk' }) →
      (∀ e h' tk' dx n1 n2 c t1 t2 t3 x tx k0 k1 k2 k3, Ntf n1 n2 c → FlewD h₀ s₁.heap l' e (.ref 70) dx (notD w.params n1 n2 c t1 t2 t3 x tx k0 k1 k2 k3) h' → E' (.ref e) { s₁ with heap := h', toks := tk' }) →
      wpAny (model PySem.Challenge.rw_rh0197_01.row.prog w) A' (call (.ref ask) []) Q' E' s₁)
    (hret : ∀ v h' tk', Ret v h' → Fr h₀ L h' m → News h₀ L h' news → Q v { s with heap := h', toks := tk' })
    (hcon : Con → ∀ h' tk', Fr h₀ L h' m → News h₀ L h' news → Q .none { s with heap := h', toks := tk' })
    (hntf : ∀ n1 n2 c r t1 t2 t3 h' tk', Ntf n1 n2 c → Fr h₀ L h' m → News h₀ L h' ((r, tupObj [.int n1 t1, .int n2 t2, .bytes c t3]) :: news) → Q (.ref r) { s with heap := h', toks := tk' }) :
    wpAny (model PySem.Challenge.rw_rh0197_01.row.prog w) (A₀.deeper env) (call (.ref 152) [.ref ask]) Q E s := by
  have D : KtsDicts ([env].filterMap (·.frame)) s.heap := fun b hb => by
    obtain ⟨en, he, hfe⟩ := List.mem_filterMap.mp hb
    rw [List.mem_singleton.mp he, hf] at hfe
    obtain rfl : L = b := Option.some.inj hfe
    obtain ⟨o, es, ep, e, hd, _⟩ := F.ns
    exact ⟨o, es, ep, e, hd⟩
  refine told (Ret := Ret) (Con := Con) (Ntf := Ntf) (pushX K F hf hke) (X.keeps F.keep) (T.keeps F.keep) hh hdp hun hfn X T D hask ?_ ?_ ?_
  · intro v h' tk' hR kp
    exact hret v h' tk' hR (F.keptAll kp) (N.grown kp)
  · intro hc h' tk' KB
    obtain ⟨F', N'⟩ := backBut F N KB hf
    exact hcon hc h' tk' F' N'
  · intro n1 n2 c r t1 t2 t3 h' tk' hN KB hr hn
    obtain ⟨F', N'⟩ := backBut F N KB hf
    exact hntf n1 n2 c r t1 t2 t3 h' tk' hN F' (consN F N' hn hr)
end
section
open PySem.SeqAt
section
variable {A : Around} {s : Shared} {h₀ : Heap} {L : Addr} {news : List (Addr × Obj)}
theorem ints_inj {b c : Array UInt8} (h : KBw.bInts b = KBw.bInts c) : b = c := by
  have e : b.toList = c.toList := by
    unfold KBw.bInts at h
    exact List.map_inj_right (fun x y q => UInt8.toNat_inj.mp (Int.ofNat.inj q)) |>.mp h
  exact Array.toList_inj.mp e
theorem rc_int {n : Int} {t u : Tok} : EqAt A s (.int n t) (.int n u) true := fun prog w E Q hq => by
  unfold eqBool
  refine wpAny_holding ?_
  refine wpAny_ite_split (fun _ => wpAny_bind (wpAny_rule (wpAny_pure hq))) (fun _ => ?_)
  exact wpAny_bind (PySem.P.eq_int (by rw [beq_self_eq_true]; exact wpAny_truthy_bool hq))
theorem rc_str {n : Str} {t u : Tok} : EqAt A s (.str n t) (.str n u) true := fun prog w E Q hq => by
  unfold eqBool
  refine wpAny_holding ?_
  refine wpAny_ite_split (fun _ => wpAny_bind (wpAny_rule (wpAny_pure hq))) (fun _ => ?_)
  exact wpAny_bind (PySem.P.eq_str (by rw [beq_self_eq_true]; exact wpAny_truthy_bool hq))
theorem rc_bytes {b c : Array UInt8} {t u : Tok} {ks : List Int} (hb : KBw.bInts b = ks) (hc : KBw.bInts c = ks) : EqAt A s (.bytes b t) (.bytes c u) true := fun prog w E Q hq => by
  obtain rfl : b = c := ints_inj (hb.trans hc.symm)
  unfold eqBool
  refine wpAny_holding ?_
  refine wpAny_ite_split (fun _ => wpAny_bind (wpAny_rule (wpAny_pure hq))) (fun _ => ?_)
  exact wpAny_bind (eq_bytes (by rw [beq_self_eq_true]; exact wpAny_truthy_bool hq))
theorem eq_rc {a b : Addr} (h : RcAt A s (.ref a) (.ref b) true) : EqAt A s (.ref a) (.ref b) true := fun prog w E Q hq => by
  unfold eqBool
  refine wpAny_holding ?_
  refine wpAny_ite_split (fun _ => wpAny_bind (wpAny_rule (wpAny_pure hq))) (fun _ => ?_)
  exact wpAny_bind (h prog w E _ (wpAny_truthy_bool hq))
inductive EqAll (A : Around) (s : Shared) : List Value → List Value → Prop
  | nil : EqAll A s [] []
  | cons {a b : Value} {as bs : List Value} : EqAt A s a b true → EqAll A s as bs → EqAll A s (a :: as) (b :: bs)
theorem eqAll_get : ∀ {xs ys : List Value}, EqAll A s xs ys → xs.length = ys.length ∧ ∀ j (h1 : j < xs.length) (h2 : j < ys.length), EqAt A s xs[j] ys[j] true := by
  intro xs ys h
  induction h with
  | nil => exact ⟨rfl, fun j h1 => absurd h1 (Nat.not_lt_zero _)⟩
  | cons he _ ih =>
    refine ⟨by rw [List.length_cons, List.length_cons, ih.1], fun j h1 h2 => ?_⟩
    cases j with
    | zero => exact he
    | succ j => exact ih.2 j (Nat.lt_of_succ_lt_succ h1) (Nat.lt_of_succ_lt_succ h2)
theorem rc_tup {a b : Addr} {xs ys : List Value} (N : News h₀ L s.heap news) (ha : (a, tupObj xs) ∈ news) (hb : (b, tupObj ys) ∈ news) (hu : A.units < cLine) (he : EqAll A.in1 s xs ys) : RcAt A s (.ref a) (.ref b) true := by
  obtain ⟨e1, e2⟩ := eqAll_get he
  have R := RcAt.tuples (A := A) (s := s) (l := a) (b := b) (items := xs.toArray) (items2 := ys.toArray) (e := fun _ => true) ⟨_, (N _ ha).1, rfl, _, rfl⟩ ⟨_, (N _ hb).1, rfl, _, rfl⟩ hu
    (fun j h1 h2 => by simpa using e2 j (by simpa using h1) (by simpa using h2))
  have z : ((List.range (min xs.toArray.size ys.toArray.size)).all (fun _ => true) && xs.toArray.size == ys.toArray.size) = true := by
    rw [List.all_eq_true.mpr (fun _ _ => rfl)]
    simp [e1]
  rw [z] at R
  exact R
theorem rc_ref {a b : Addr} {xs ys : List Value} (N : News h₀ L s.heap news) (ha : (a, tupObj xs) ∈ news) (hb : (b, tupObj ys) ∈ news) (hu : A.units < cLine) (he : EqAll A.in1 s xs ys) : EqAt A s (.ref a) (.ref b) true := eq_rc (rc_tup N ha hb hu he)
end
section
variable {prog : Program} {w : World} {A : Around} {s : Shared} {Q E : Value → Shared → Prop} {h₀ : Heap} {L : Addr} {news : List (Addr × Obj)}
theorem eq_tupN {a b : Addr} {xs ys : List Value} (N : News h₀ L s.heap news) (ha : (a, tupObj xs) ∈ news) (hb : (b, tupObj ys) ∈ news) (hu : A.units < cLine) (he : EqAll A.in1 s xs ys) (h : Q (.bool true) s) :
    wpAny (model prog w) A (compareOp .Eq (.ref a) (.ref b)) Q E s := rc_tup N ha hb hu he prog w E Q h
theorem ne_bytes_eq {b c : Array UInt8} {t u : Tok} {ks ls : List Int} (hb : KBw.bInts b = ks) (hc : KBw.bInts c = ls) (e : ks = ls) (h : Q (.bool false) s) :
    wpAny (model prog w) A (compareOp .NotEq (.bytes b t) (.bytes c u)) Q E s := by
  obtain rfl : b = c := ints_inj ((hb.trans e).trans hc.symm)
  exact ne_bytes (by rw [bne_self_eq_false]; exact h)
end
end
/-- an object that the ledger may take up -/
def On (h₀ : Heap) (L : Addr) (h : Heap) (a : Addr) (o : Obj) : Prop := h.get? a = some o ∧ a ≠ L ∧ h₀.get? a = none
theorem on_of {h₀ g h : Heap} {L a : Addr} {o : Obj} (k0 : h₀.StaysIn g) (kL : ∃ o, g.get? L = some o) (hn : g.get? a = none) (ha : h.get? a = some o) : On h₀ L h a o := by
  refine ⟨ha, fun z => ?_, ?_⟩
  · obtain ⟨oL, e⟩ := kL
    rw [z, e] at hn
    cases hn
  · cases q : h₀.get? a with
    | none => rfl
    | some o' => have := k0 _ _ q; rw [hn] at this; cases this
theorem onCons {h₀ h : Heap} {L a : Addr} {o : Obj} {news : List (Addr × Obj)} (x : On h₀ L h a o) (N : News h₀ L h news) : News h₀ L h ((a, o) :: news) := fun q hq => by
  rcases List.mem_cons.mp hq with rfl | hq
  · exact x
  · exact N q hq
theorem frThere {h₀ h : Heap} {L : Addr} {m : Str → Option Value} (F : Fr h₀ L h m) : ∃ o, h.get? L = some o := by
  obtain ⟨o, es, ep, e, _⟩ := F.ns
  exact ⟨o, e⟩
theorem staysNone {g h : Heap} {a : Addr} (k : g.StaysIn h) (hn : h.get? a = none) : g.get? a = none := by
  cases q : g.get? a with
  | none => rfl
  | some o => have := k _ _ q; rw [hn] at this; cases this
theorem on_of2 {h₀ g h2 h : Heap} {L L2 a : Addr} {o : Obj} {m : Str → Option Value} (k0 : h₀.StaysIn g) (kL : ∃ o, g.get? L = some o) (F : Fr g L2 h2 m) (hn : h2.get? a = none) (ha : h.get? a = some o) : On h₀ L h a o :=
  on_of (fun b o q => F.keep b o (k0 b o q)) (by obtain ⟨o, e⟩ := kL; exact ⟨o, F.keep _ _ e⟩) hn ha
theorem openN_facts {b : Array UInt8} {ver n2 n3 : Int} {K : List Int} (h : KBw.bInts b = [ver, 0, 5, 0, 30, 0, 0, 0, 9, n2, 2, n3] ++ K) (hk : K.length ≤ 253) :
    ∃ LL : List Int, KBw.bInts b = LL ∧ (12 : Int) ≤ (LL.length : Int) ∧ (LL.length : Int) ≤ 400 ∧ LL.getD (Int.toNat 0) 0 = ver := by
  refine ⟨_, h, ?_, ?_, rfl⟩
  · simp only [List.length_append, List.length_cons, List.length_nil]; omega
  · simp only [List.length_append, List.length_cons, List.length_nil]; omega
theorem open41_facts {b : Array UInt8} {ver code : Int} {vs : List Int} (h : KBw.bInts b = [ver, 0, 5, 0, 30, 0, 0, 0, 9, (([code, (vs.length : Int)] ++ vs).length : Int) + 2, 2, (([code, (vs.length : Int)] ++ vs).length : Int)] ++ ([code, (vs.length : Int)] ++ vs)) (hv : ver = 4) (hl : ([code, (vs.length : Int)] ++ vs).length ≤ 253) :
    ∃ (ks LL : List Int) (n1 n2 n3 : Int), ks = code :: n1 :: vs ∧ KBw.bInts b = LL ∧ LL = [4, 0, 5, 0, 30, 0, 0, 0, 9, n2, 2, n3] ++ ks ∧ n1 = (vs.length : Int) ∧ n2 = (ks.length : Int) + 2 ∧ n3 = (ks.length : Int) ∧ ks.length ≤ 253 := by
  subst hv
  exact ⟨_, _, _, _, _, rfl, h, rfl, rfl, rfl, rfl, hl⟩
theorem open42_facts {b : Array UInt8} {ver code : Int} {vs : List Int} (h : KBw.bInts b = [ver, 0, 5, 0, 30, 0, 0, 0, 9, (([code, (vs.length : Int)] ++ vs ++ [2, 0]).length : Int) + 2, 2, (([code, (vs.length : Int)] ++ vs ++ [2, 0]).length : Int)] ++ ([code, (vs.length : Int)] ++ vs ++ [2, 0])) (hv : ver = 4) (hl : ([code, (vs.length : Int)] ++ vs ++ [2, 0]).length ≤ 253) :
    ∃ (ks LL : List Int) (n1 n2 n3 : Int), ks = code :: n1 :: (vs ++ [2, 0]) ∧ KBw.bInts b = LL ∧ LL = [4, 0, 5, 0, 30, 0, 0, 0, 9, n2, 2, n3] ++ ks ∧ n1 = (vs.length : Int) ∧ n2 = (ks.length : Int) + 2 ∧ n3 = (ks.length : Int) ∧ ks.length ≤ 253 := by
  subst hv
  exact ⟨_, _, _, _, _, rfl, h, rfl, rfl, rfl, rfl, hl⟩
theorem hide_post {M : Model} {A : Around} {Q : Flow → Shared → Prop} {E : Value → Shared → Prop} {s : Shared} {env : Env} {body : List Stmt} (P : Shared → Prop) (hQ : ∀ s', P s' → Q (.ret (.bool true)) s')
    (h : ∀ (Q' : Flow → Shared → Prop) (E' : Value → Shared → Prop), (∀ s', P s' → Q' (.ret (.bool true)) s') → wpAny M A (execs body env) Q' E' s) : wpAny M A (execs body env) Q E s := h Q E hQ
theorem oneN {h₀ h : Heap} {L a : Addr} {o : Obj} {news : List (Addr × Obj)} (N : News h₀ L h news) (m : (a, o) ∈ news) : News h₀ L h [(a, o)] := fun q hq => by
  rw [List.mem_singleton.mp hq]
  exact N _ m
theorem share3 {M : Model} {A : Around} {Q : Flow → Shared → Prop} {E : Value → Shared → Prop} {s : Shared} {env : Env} {a b c : Stmt} {rest : List Stmt} (I : Shared → Prop)
    (h1 : (∀ s', I s' → wpAny M A (execs rest env) Q E s') → wpAny M A (execs (a :: b :: c :: rest) env) Q E s) (h2 : ∀ s', I s' → wpAny M A (execs rest env) Q E s') : wpAny M A (execs (a :: b :: c :: rest) env) Q E s := h1 h2
/-- the state behind the first told, however it came to be -/
def Mid (h₀ : Heap) (L : Addr) (M : Str → Option Value) (code size ver : Int) (tcode tsize tver : Tok) (vs : List Int) (h : Heap) : Prop :=
  ∃ (P D : Addr) (its : List Value) (vsD : List Int) (i z : Int) (ti tz : Tok) (cap capD : Nat) (o1 o2 o3 o4 o5 : Obj) (c' : Addr) (bo : Bool) (dv : Value) (b5 : Array UInt8) (t5 : Tok),
    Fr h₀ L h (fun y => if y = Str.ofString "due" then some dv else if y = Str.ofString "is_octet" then some (.bool bo) else if y = Str.ofString "size" then some (.int size tsize) else if y = Str.ofString "pen" then some (.ref P) else M y) ∧
    News h₀ L h [(P, W.listOf #[.ref D, .int i ti, .int z tz] cap), (D, W.listOf its.toArray capD), (L + 1 + 1 + 1 + 1 + 1, o5), (L + 1 + 1 + 1 + 1, o4), (L + 1 + 1 + 1, o3), (L + 1 + 1, o2), (L + 1, o1), (154, tabObj (#[] ++ #[rawInt 97, rawInt 17, .ref c']))] ∧
    o5.data = .cell (some (.int ver tver)) ∧ o4.data = .cell (some (.bytes b5 t5)) ∧ o3.data = .cell (some (.int code tcode)) ∧ o2.data = .cell none ∧ o1.data = .cell none ∧
    IntsAre its vsD ∧ vsD.length ≤ 12 ∧ (0 ≤ i ∧ i ≤ 100) ∧ (0 ≤ z ∧ z < 997) ∧ (@LT.lt Nat _ D P) ∧ (@LT.lt Nat _ (L + 1 + 1 + 1 + 1 + 1) D) ∧
    KBw.bInts b5 = vs ∧ (vs.length : Int) = size ∧ (bo = true → 0 ≤ code ∧ code ≤ 255) ∧ (bo = false → ¬ (0 ≤ code ∧ code ≤ 255)) ∧
    (0 ≤ code ∧ code ≤ 255 ∧ vs.length ≤ 253 → ∃ b t, dv = .bytes b t ∧ KBw.bInts b = [code, size] ++ vs)
local macro_rules | `(tactic| k_ne) => `(tactic| (refine neN ?_; (try dsimp only); first | exact Apart.ne (by assumption) | exact Ne.symm (Apart.ne (by assumption))))
theorem set11 : True := by
  k_with "call ref" => (k_here; (with_reducible show wpAny _ _ (call (Value.ref 145) [Value.ref _, Value.int _ _]) _ _ _); k_dflt focus (refine' pickN ?kK ?kF ?kN ?kX ?kT ?kf ?kk ?kU ?kD ?kI ?kh ?kd ?ku ?kl ?ki ?kz ?km ?_; (case kK => assumption); (case kF => k_asm); (case kN => k_asm); (case kX => k_asm); (case kT => assumption); (case kf => exact rfl); (case kk => exact rfl); (case kU => k_updF); (case kD => k_mem); (case kI => assumption); (case kh => exact rfl); (case kd => (simp only [depth_deeper]; omega)); (case ku => (simp only [units_deeper]; omega)); (case kl => first | omega | (simp only [List.length_take]; omega)); (case ki => (constructor <;> omega)); (case kz => first | assumption | exact ⟨Int.fmod_nonneg_of_pos _ (by decide), Int.fmod_lt_of_pos _ (by decide)⟩); (case km => (constructor <;> decide)); intro r9 tr9 ti9 h9 tk9 lo9 hi9 F9 N9; (try dsimp only at N9); (try k_sweep)))
  k_with "subscriptTail" => (k_here; (with_reducible show wpAny _ _ (subscriptTail _ _ (Value.ref _) (Value.int _ _)) _ _ _); k_dflt focus (with_unfolding_all refine' item_menu (-1) 300 ?k1 ?k2 ?k3 ?k4 ?k5 ?k6 ?_ ?k7; (case k1 => is_list); (case k2 => l_ints); (case k3 => decide); (case k4 => decide); (case k5 => omega); (case k6 => (simp only [List.length_cons, List.length_nil]; omega)); (case k7 => with_unfolding_all rfl); intro _ _ _ _))
  k_with "subscriptTail" => (k_here; (with_reducible show wpAny _ _ (subscriptTail _ _ (Value.ref _) (Value.int _ _)) _ _ _); k_dflt focus (with_unfolding_all refine' item_menu (-1) 256 ?k1 ?k2 ?k3 ?k4 ?k5 ?k6 ?_ ?k7; (case k1 => is_list); (case k2 => l_ints); (case k3 => decide); (case k4 => decide); (case k5 => omega); (case k6 => (simp only [List.length_cons, List.length_nil]; omega)); (case k7 => with_unfolding_all rfl); intro _ _ _ _))
  k_with "subscriptTail" => (k_here; (with_reducible show wpAny _ _ (subscriptTail _ _ (Value.ref _) (Value.int _ _)) _ _ _); k_dflt focus (with_unfolding_all refine' item_menu (0) 256 ?k1 ?k2 ?k3 ?k4 ?k5 ?k6 ?_ ?k7; (case k1 => is_list); (case k2 => l_ints); (case k3 => decide); (case k4 => decide); (case k5 => omega); (case k6 => (simp only [List.length_cons, List.length_nil]; omega)); (case k7 => with_unfolding_all rfl); intro _ _ _ _))
  k_with "binaryOp Mult ref int" => (k_here; k_dflt focus (refine' mul1 ?kF ?kN ?kl ?kn ?_; (case kF => k_asm); (case kN => k_asm); (case kl => is_list); (case kn => (constructor <;> omega)); intro D9 h9 F9 N9 l1; (try k_lt l1); (try k_sweep)))
  k_with "call type:bytes" => (k_here; k_dflt focus (refine' bytes_ints ?kl ?kI ?kh ?kr ?kz ?_; (case kl => is_list); (case kI => first | exact intsAre_rep _ _ _ | (repeat constructor)); (case kh => exact rfl); (case kr => first | (intro n hn; rw [List.eq_of_mem_replicate hn]; omega) | (intro n hn; simp only [List.mem_cons, List.not_mem_nil, or_false] at hn; omega)); (case kz => (simp only [List.length_replicate, List.length_cons, List.length_nil]; omega)); intro b9 h9 t9 k9 kp9 hb9; have F9 := Fr.keptAll (by assumption) kp9; have N9 := News.grown (by assumption) kp9; (try dsimp only); (try k_sweep)))
  k_with "eval Compare" => (k_here; (with_reducible show wpAny _ _ (eval (Expr.Compare _ [CmpOp.LtE, CmpOp.LtE] _ _) _) _ _ _); k_dflt focus (refine' octet_K ?kN ?kc ?km ?kd ?_ ?_ ?k1 ?k2 ?k3; (case kN => k_asm); (case kc => rfl); (case km => k_mem); (case kd => k_asm); (case k1 => rfl); (case k2 => rfl); (case k3 => decide); intro tk9 o9; (try intro o8)))
  k_with "binaryOp Add bytes bytes" => (k_here; k_dflt focus (refine' KBa.add_K ?aqb ?aqc ?aqz ?_; (case aqb => assumption); (case aqc => assumption); (case aqz => (simp only [List.length_append, List.length_cons, List.length_nil]; omega)); intro t9 k9 hb9))
  k_with "callWith ref" => (k_here; (with_reducible show wpAny _ _ (callWith _ (Value.ref 152) _ _ _) _ _ _); k_dflt (refine' callWith_K ?k1 ?k2 ?_; (case k1 => k_asm); (case k2 => k_is); k_whole))
  k_with "eval Name" => (k_here; (fail_if_success (rename CodeHd _ _ _ => zz)); (with_reducible show wpAny _ _ (eval (PySem.Expr.Name _ _) (envX _ _ _ _ _ _)) _ _ _); k_dflt focus (refine' nameFG ?F ?c ?g ?d ?_ ?k1 ?k2 ?k3 ?k4; (case k2 => exact rfl); (case F => assumption); (case c => exact rfl); (case g => assumption); (case d => assumption); (case k1 => exact rfl); (case k3 => decide); (case k4 => decide)))
  k_with "call ref" => (k_here; (with_reducible show wpAny _ _ (call (Value.ref 105) [Value.ref _]) _ _ _); k_dflt focus (refine' put_cap ?kB ?kX ?kT ?kh ?kd ?ku ?kc ?kv ?kl ?kn ?_ ?_; (case kB => exact pushX (by assumption) (by assumption) rfl rfl); (case kX => exact Frag.In.keeps (by assumption) (Fr.keep (by assumption))); (case kT => exact Top.keeps (by assumption) (Fr.keep (by assumption))); (case kh => exact rfl); (case kd => (simp only [depth_deeper]; omega)); (case ku => (simp only [units_deeper]; omega)); (case kc => exact headTup (by assumption)); (case kv => assumption); (case kl => omega); (case kn => (constructor <;> omega)); (all_goals first | (intro h09 h19 h29 b9 t9 h9 tk9 hb9 kp9; have F9 := Fr.keptAll (by assumption) kp9; have N9 := News.grown (by assumption) kp9; (try dsimp only)) | (intro hc9 e9 h9 tk9 R9; (try dsimp only); refine leave_nextS (by assumption) (by assumption) R9 rfl ?_; intro h8 R8; (try dsimp only)))))
  k_with "call ref" => (k_here; (with_reducible show wpAny _ _ (call (Value.ref 117) [Value.ref _]) _ _ _); k_dflt focus (refine' put_open ?kB ?kX ?kT ?kh ?kd ?ku ?kM ?kC ?kl ?kn ?kv ?_ ?_; (case kB => exact pushX (by assumption) (by assumption) rfl rfl); (case kX => exact Frag.In.keeps (by assumption) (Fr.keep (by assumption))); (case kT => exact Top.keeps (by assumption) (Fr.keep (by assumption))); (case kh => exact rfl); (case kd => (simp only [depth_deeper]; omega)); (case ku => (simp only [units_deeper]; omega)); (case kM => exact headTup (by assumption)); (case kC => exact capsUp (by assumption) (Fr.keep (by assumption))); (case kl => omega); (case kn => (constructor <;> omega)); (case kv => (constructor <;> omega)); (all_goals first | (intro h09 h19 b9 t9 h9 tk9 hb9 kp9; have F9 := Fr.keptAll (by assumption) kp9; have N9 := News.grown (by assumption) kp9; (try dsimp only)) | (intro hc9 e9 h9 tk9 R9; (try dsimp only); refine leave_nextS (by assumption) (by assumption) R9 rfl ?_; intro h8 R8; (try dsimp only)))))
  k_with "compareOp NotEq bytes bytes" => (k_here; k_dflt focus (refine' ne_bytes_eq ?nqb ?nqc ?nqe ?_; (case nqb => assumption); (case nqc => assumption); (case nqe => (simp only [List.length_append, List.length_cons, List.length_nil, List.cons_append, List.nil_append, List.append_assoc]; (repeat (refine congr (congrArg List.cons (by first | rfl | omega)) ?_)); rfl))))
  trivial
theorem law : PySem.Challenge.rw_rh0197_01.Holds := hd (by
  k_go0
  all_goals try k_fold
  rename_i w s0 s1 mg mb G Y fa o pm doc ho hg XM V T B TE TW hcd sc hs hlay0 hLl hr0 hl2 e1 e2 e3 e4 e5 hLs ra w1 r0 hI hr1 hc1 hc2 hD h1 tk1 q1 q2 q3 q4 q5 f1 f2 f3 f4 f5 X0 X1 T1 K1 F1 N1 l0
  clear G Y ho hT8 XM V T B TE TW hT9 hcd hs hlay0 hLl hr0 hl2 ra w1 r0 hr1 hD X0 hc2
  have hdC : callerA.depth + 200 < recursionLimit := by decide
  have huC : callerA.units + 9000 < cLine := by decide
  replace f1 : q1.data = .cell none := f1
  replace f2 : q2.data = .cell none := f2
  replace f3 : q3.data = .cell none := f3
  replace f4 : q4.data = .cell none := f4
  replace f5 : q5.data = .cell none := f5
  refine hide_post (fun s' => ∃ (h : Heap) (tk : Nat) (m : Str → Option Value) (ps : Array Value), s' = { heap := h, gens := s1.gens, drawn := s1.drawn, toks := tk, os := s1.os } ∧ Fr (ghostOf s1.heap [(158, 154)]) s1.heap.objs.size h m ∧ News (ghostOf s1.heap [(158, 154)]) s1.heap.objs.size h [(154, tabObj ps)]) ?_ ?_
  · clear F1 N1
    intro s9 hp9
    obtain ⟨h9, tk9, m9, ps9, rfl, FX, NX⟩ := hp9
    repeat' (first | (first | (k_unfold; (try dsimp only)) | (k_end; kc_close) | walk1 | (dsimp only; walk1) | (leave1; walk_say "STEP leave1"; (try dsimp only)) | fail "no step"))
  intro Q1 E1 hQ1
  (first | (k_unfold; (try dsimp only)) | (k_end; kc_close) | walk1 | (dsimp only; walk1) | (leave1; walk_say "STEP leave1"; (try dsimp only)) | fail "no step")
  repeat' ((fail_if_success (with_reducible show wpAny _ _ (execs _ _) _ _ _)); (first | (k_unfold; (try dsimp only)) | (k_end; kc_close) | walk1 | (dsimp only; walk1) | (leave1; walk_say "STEP leave1"; (try dsimp only)) | fail "no step"))
  rename Fr _ _ _ _ => F2
  rename News _ _ _ _ => N2
  obtain ⟨M, F3, N3⟩ := trim1 F2 N2
  clear F2 N2
  rename (@LT.lt Nat _ _ _ ∧ _) => z4
  have a1 := z4.2.1
  clear z4
  rename (@LT.lt Nat _ _ _ ∧ _) => z3
  clear z3
  rename (@LT.lt Nat _ _ _ ∧ _) => z2
  have a2 := z2.2.1
  clear z2
  rename (@LT.lt Nat _ _ _ ∧ _) => z1
  clear z1
  obtain ⟨ap0, ap1, ap2, ap3, ap4, ap5, ap6, ap7, ap8, ap9, ap10, ap11, ap12, ap13, ap14, ap15, ap16, ap17, ap18, ap19, ap20, ap21, ap22, ap23, ap24, ap25, ap26⟩ := aparts a1 a2 l0
  (first | (k_unfold; (try dsimp only)) | (k_end; kc_close) | walk1 | (dsimp only; walk1) | (leave1; walk_say "STEP leave1"; (try dsimp only)) | fail "no step")
  repeat' ((fail_if_success (with_reducible show wpAny _ _ (execs _ _) _ _ _)); (first | (k_unfold; (try dsimp only)) | (k_end; kc_close) | walk1 | (dsimp only; walk1) | (leave1; walk_say "STEP leave1"; (try dsimp only)) | fail "no step"))
  repeat (rename (@LT.lt Nat _ _ _ ∧ _) => z; clear z)
  rename News _ _ _ _ => N9; replace N9 := News.tail' N9
  rename_i code tcode clo chi zh oc zF dcode
  (first | (k_unfold; (try dsimp only)) | (k_end; kc_close) | walk1 | (dsimp only; walk1) | (leave1; walk_say "STEP leave1"; (try dsimp only)) | fail "no step")
  repeat' ((fail_if_success (with_reducible show wpAny _ _ (execs _ _) _ _ _)); (first | (k_unfold; (try dsimp only)) | (k_end; kc_close) | walk1 | (dsimp only; walk1) | (leave1; walk_say "STEP leave1"; (try dsimp only)) | fail "no step"))
  repeat (rename (@LT.lt Nat _ _ _ ∧ _) => z; clear z)
  rename News _ _ _ _ => N9; replace N9 := News.tail' N9
  rename_i size tsize slo shi zh2 zF2
  (first | (k_unfold; (try dsimp only)) | (k_end; kc_close) | walk1 | (dsimp only; walk1) | (leave1; walk_say "STEP leave1"; (try dsimp only)) | fail "no step")
  repeat' ((fail_if_success (with_reducible show wpAny _ _ (execs _ _) _ _ _)); (first | (k_unfold; (try dsimp only)) | (k_end; kc_close) | walk1 | (dsimp only; walk1) | (leave1; walk_say "STEP leave1"; (try dsimp only)) | fail "no step"))
  repeat (rename (@LT.lt Nat _ _ _ ∧ _) => z; clear z)
  rename News _ _ _ _ => N9; replace N9 := News.tail' N9
  rename_i ver tver vlo vhi zh3 ov zF3 dver
  refine share3 (fun s' => ∃ (vs : List Int) (h : Heap) (tk : Nat), s' = { heap := h, gens := s1.gens, drawn := s1.drawn, toks := tk, os := s1.os } ∧ Mid (ghostOf s1.heap [(158, 154)]) s1.heap.objs.size M code size ver tcode tsize tver vs h) ?_ ?_
  · intro tail
    (first | (k_unfold; (try dsimp only)) | (k_end; kc_close) | walk1 | (dsimp only; walk1) | (leave1; walk_say "STEP leave1"; (try dsimp only)) | fail "no step")
    repeat ((with_reducible show wpAny _ _ (execs (_ :: _) _) _ _ _); (first | (k_unfold; (try dsimp only)) | (k_end; kc_close) | walk1 | (dsimp only; walk1) | (leave1; walk_say "STEP leave1"; (try dsimp only)) | fail "no step"))
    repeat' ((fail_if_success (with_reducible show wpAny _ _ (execs _ _) _ _ _)); (first | (k_unfold; (try dsimp only)) | (k_end; kc_close) | walk1 | (dsimp only; walk1) | (leave1; walk_say "STEP leave1"; (try dsimp only)) | fail "no step"))
    all_goals (rename KBw.bInts _ = List.replicate _ _ => hV0; obtain ⟨vs, hV, hVl⟩ := rep_abs hV0 (by assumption); clear hV0)
    all_goals (repeat (rename (@LT.lt Nat _ _ _ ∧ _) => z; clear z))
    all_goals (rename News _ _ _ _ => N9; replace N9 := News.tail' (News.tail' (News.tail' N9)))
    all_goals (first | (k_unfold; (try dsimp only)) | (k_end; kc_close) | walk1 | (dsimp only; walk1) | (leave1; walk_say "STEP leave1"; (try dsimp only)) | fail "no step")
    all_goals repeat' ((fail_if_success (with_reducible show wpAny _ _ (execs _ _) _ _ _)); (first | (k_unfold; (try dsimp only)) | (k_end; kc_close) | walk1 | (dsimp only; walk1) | (leave1; walk_say "STEP leave1"; (try dsimp only)) | fail "no step"))
    all_goals (repeat (rename (@LT.lt Nat _ _ _ ∧ _) => z; clear z))
    · rename News _ _ _ _ => N9
      replace N9 := News.tail' N9
      repeat' ((fail_if_success (with_reducible show wpAny _ _ (call (Value.ref 152) _) _ _ _)); (first | (k_unfold; (try dsimp only)) | (k_end; kc_close) | walk1 | (dsimp only; walk1) | (leave1; walk_say "STEP leave1"; (try dsimp only)) | fail "no step"))
      (repeat (rename (@LT.lt Nat _ _ _ ∧ _) => z; clear z))
      rename Fr _ _ _ _ => FL
      rename News _ _ _ _ => NL
      refine' toldN (fun v _ => (0 ≤ code ∧ code ≤ 255 ∧ vs.length ≤ 253) ∧ ∃ b t, v = .bytes b t ∧ KBw.bInts b = [code, (vs.length : Int)] ++ vs) (¬ (0 ≤ code ∧ code ≤ 255 ∧ vs.length ≤ 253)) (fun _ _ _ => False) ?z1_K ?z1_F ?z1_N ?z1_X ?z1_T ?z1_f ?z1_k ?z1_h ?z1_d ?z1_u ?z1_fn ?z1_ask ?z1_ret ?z1_con ?z1_ntf
      case z1_K => exact K1
      case z1_F => exact FL
      case z1_N => exact NL
      case z1_X => exact X1
      case z1_T => exact T1
      case z1_f => exact rfl
      case z1_k => exact rfl
      case z1_h => exact rfl
      case z1_d => (simp only [depth_deeper]; omega)
      case z1_u => (simp only [units_deeper]; omega)
      case z1_fn => exact FnAt.of NL (.head _)
      case z1_ask =>
        intro A2 l2 s2 Q2 E2 B2 kp2 hh2 hd2 hu2 kret kcon kntf
        have X2 := Frag.In.keeps (Frag.In.keeps X1 FL.keep) kp2
        have T2 := Top.keeps (Top.keeps T1 FL.keep) kp2
        have gA := fun q hq => kp2 _ _ (NL q hq).1
        have gf := gA _ (.head _)
        have gc := gA _ (.tail _ (.head _))
        rename _ = Data.fields _ => dfc
        rename _ = some (Value.str _ _) => dvc
        have hcr : s2.heap.CodeRec (.ref _) _ := ⟨_, _, _, _, rfl, gc, dfc, dvc⟩
        have g4 := gA _ (.tail _ (.tail _ (.tail _ (.tail _ (.tail _ (.head _))))))
        have g3 := gA _ (.tail _ (.tail _ (.tail _ (.tail _ (.tail _ (.tail _ (.head _)))))))
        clear gA gc FL NL codeHd
        obtain ⟨hnd, dp, fr, gd, un⟩ := A2
        obtain rfl : hnd = none := hh2
        obtain rfl : fr = some l2 := B2.stack
        dsimp only [depth_deeper, units_deeper] at hd2 hu2
        refine wpAny_call ?_
        refine' enterL ?z1_T2 ?z1_gf ?z1_hcr ?room1 ?z1_b ?z1_l ?_ ?z1_1 ?z1_2 ?z1_3 ?z1_4
        case z1_T2 => exact T2
        case z1_gf => exact gf
        case z1_hcr => exact hcr
        case room1 => (show dp < recursionLimit); omega
        case z1_b => exact rfl
        case z1_l => exact locs rfl
        case z1_1 => exact rfl
        case z1_2 => exact rfl
        case z1_3 => exact rfl
        case z1_4 => decide
        intro L2 h2 F2 N2
        (try dsimp only)
        repeat' (first | (first | (k_unfold; (try dsimp only)) | (k_end; kc_close) | walk1 | (dsimp only; walk1) | (leave1; walk_say "STEP leave1"; (try dsimp only)) | fail "no step"))
        all_goals first
          | (rename Fr _ _ _ _ => FX; exact kret _ _ _ ⟨⟨by assumption, by assumption, by assumption⟩, _, _, rfl, by assumption⟩ FX.keep)
          | exact kcon (by first | assumption | omega) _ _ _ (by assumption)
      case z1_ntf => (intro n1 n2 c r t1 t2 t3 h' tk' hN; exact hN.elim)
      rotate_left
      (intro hC; exfalso; omega)
      intro v h9 tk9 hR FL NL
      obtain ⟨⟨c0, c1, c2⟩, b9, t9, rfl, hb9⟩ := hR
      replace NL := News.tail' (News.tail' NL)
      repeat' ((fail_if_success (with_reducible show wpAny _ _ (execs _ _) _ _ _)); (first | (k_unfold; (try dsimp only)) | (k_end; kc_close) | walk1 | (dsimp only; walk1) | (leave1; walk_say "STEP leave1"; (try dsimp only)) | fail "no step"))
      (first | (k_unfold; (try dsimp only)) | (k_end; kc_close) | walk1 | (dsimp only; walk1) | (leave1; walk_say "STEP leave1"; (try dsimp only)) | fail "no step")
      repeat' ((fail_if_success (with_reducible show wpAny _ _ (execs _ _) _ _ _)); (first | (k_unfold; (try dsimp only)) | (k_end; kc_close) | walk1 | (dsimp only; walk1) | (leave1; walk_say "STEP leave1"; (try dsimp only)) | fail "no step"))
      rename News _ _ _ _ => NX
      rename Fr _ _ _ _ => FX
      rename _ = Data.cell (some (Value.bytes _ _)) => d4
      refine tail _ ⟨vs, _, _, rfl, _, _, _, _, _, _, _, _, _, _, _, _, _, _, _, _, _, _, _, _, FX, NX, dver, d4, dcode, f4, f5, by assumption, ?_, ?_, ?_, a1, a2, hV, hVl, ?_, ?_, ?_⟩
      · simp only [List.length_take]; omega
      · constructor <;> omega
      · exact ⟨Int.fmod_nonneg_of_pos _ (by decide), Int.fmod_lt_of_pos _ (by decide)⟩
      · exact fun _ => ⟨by omega, by omega⟩
      · exact fun q => nomatch q
      · exact fun _ => ⟨_, _, rfl, by assumption⟩
    · repeat' ((fail_if_success (with_reducible show wpAny _ _ (call (Value.ref 152) _) _ _ _)); (first | (k_unfold; (try dsimp only)) | (k_end; kc_close) | walk1 | (dsimp only; walk1) | (leave1; walk_say "STEP leave1"; (try dsimp only)) | fail "no step"))
      (repeat (rename (@LT.lt Nat _ _ _ ∧ _) => z; clear z))
      rename Fr _ _ _ _ => FL
      rename News _ _ _ _ => NL
      refine' toldN (fun v _ => (0 ≤ code ∧ code ≤ 255 ∧ vs.length ≤ 253) ∧ ∃ b t, v = .bytes b t ∧ KBw.bInts b = [code, (vs.length : Int)] ++ vs) (¬ (0 ≤ code ∧ code ≤ 255 ∧ vs.length ≤ 253)) (fun _ _ _ => False) ?z2_K ?z2_F ?z2_N ?z2_X ?z2_T ?z2_f ?z2_k ?z2_h ?z2_d ?z2_u ?z2_fn ?z2_ask ?z2_ret ?z2_con ?z2_ntf
      case z2_K => exact K1
      case z2_F => exact FL
      case z2_N => exact NL
      case z2_X => exact X1
      case z2_T => exact T1
      case z2_f => exact rfl
      case z2_k => exact rfl
      case z2_h => exact rfl
      case z2_d => (simp only [depth_deeper]; omega)
      case z2_u => (simp only [units_deeper]; omega)
      case z2_fn => exact FnAt.of NL (.head _)
      case z2_ask =>
        intro A2 l2 s2 Q2 E2 B2 kp2 hh2 hd2 hu2 kret kcon kntf
        have X2 := Frag.In.keeps (Frag.In.keeps X1 FL.keep) kp2
        have T2 := Top.keeps (Top.keeps T1 FL.keep) kp2
        have gA := fun q hq => kp2 _ _ (NL q hq).1
        have gf := gA _ (.head _)
        have gc := gA _ (.tail _ (.head _))
        rename _ = Data.fields _ => dfc
        rename _ = some (Value.str _ _) => dvc
        have hcr : s2.heap.CodeRec (.ref _) _ := ⟨_, _, _, _, rfl, gc, dfc, dvc⟩
        have g4 := gA _ (.tail _ (.tail _ (.tail _ (.tail _ (.tail _ (.head _))))))
        have g3 := gA _ (.tail _ (.tail _ (.tail _ (.tail _ (.tail _ (.tail _ (.head _)))))))
        clear gA gc FL NL codeHd
        obtain ⟨hnd, dp, fr, gd, un⟩ := A2
        obtain rfl : hnd = none := hh2
        obtain rfl : fr = some l2 := B2.stack
        dsimp only [depth_deeper, units_deeper] at hd2 hu2
        refine wpAny_call ?_
        refine' enterL ?z2_T2 ?z2_gf ?z2_hcr ?room2 ?z2_b ?z2_l ?_ ?z2_1 ?z2_2 ?z2_3 ?z2_4
        case z2_T2 => exact T2
        case z2_gf => exact gf
        case z2_hcr => exact hcr
        case room2 => (show dp < recursionLimit); omega
        case z2_b => exact rfl
        case z2_l => exact locs rfl
        case z2_1 => exact rfl
        case z2_2 => exact rfl
        case z2_3 => exact rfl
        case z2_4 => decide
        intro L2 h2 F2 N2
        (try dsimp only)
        repeat' (first | (first | (k_unfold; (try dsimp only)) | (k_end; kc_close) | walk1 | (dsimp only; walk1) | (leave1; walk_say "STEP leave1"; (try dsimp only)) | fail "no step"))
        all_goals first
          | (rename Fr _ _ _ _ => FX; exact kret _ _ _ ⟨⟨by assumption, by assumption, by assumption⟩, _, _, rfl, by assumption⟩ FX.keep)
          | exact kcon (by first | assumption | omega) _ _ _ (by assumption)
      case z2_ntf => (intro n1 n2 c r t1 t2 t3 h' tk' hN; exact hN.elim)
      (intro v h9 tk9 hR; exfalso; obtain ⟨⟨c0, c1, c2⟩, _⟩ := hR; omega)
      intro hC h9 tk9 FL NL
      replace NL := News.tail' (News.tail' NL)
      repeat' ((fail_if_success (with_reducible show wpAny _ _ (execs _ _) _ _ _)); (first | (k_unfold; (try dsimp only)) | (k_end; kc_close) | walk1 | (dsimp only; walk1) | (leave1; walk_say "STEP leave1"; (try dsimp only)) | fail "no step"))
      (first | (k_unfold; (try dsimp only)) | (k_end; kc_close) | walk1 | (dsimp only; walk1) | (leave1; walk_say "STEP leave1"; (try dsimp only)) | fail "no step")
      repeat' ((fail_if_success (with_reducible show wpAny _ _ (execs _ _) _ _ _)); (first | (k_unfold; (try dsimp only)) | (k_end; kc_close) | walk1 | (dsimp only; walk1) | (leave1; walk_say "STEP leave1"; (try dsimp only)) | fail "no step"))
      rename News _ _ _ _ => NX
      rename Fr _ _ _ _ => FX
      rename _ = Data.cell (some (Value.bytes _ _)) => d4
      refine tail _ ⟨vs, _, _, rfl, _, _, _, _, _, _, _, _, _, _, _, _, _, _, _, _, _, _, _, _, FX, NX, dver, d4, dcode, f4, f5, by assumption, ?_, ?_, ?_, a1, a2, hV, hVl, ?_, ?_, ?_⟩
      · simp only [List.length_take]; omega
      · constructor <;> omega
      · exact ⟨Int.fmod_nonneg_of_pos _ (by decide), Int.fmod_lt_of_pos _ (by decide)⟩
      · exact fun _ => ⟨by omega, by omega⟩
      · exact fun q => nomatch q
      · exact fun q => absurd q (by omega)
    · repeat' ((fail_if_success (with_reducible show wpAny _ _ (call (Value.ref 152) _) _ _ _)); (first | (k_unfold; (try dsimp only)) | (k_end; kc_close) | walk1 | (dsimp only; walk1) | (leave1; walk_say "STEP leave1"; (try dsimp only)) | fail "no step"))
      (repeat (rename (@LT.lt Nat _ _ _ ∧ _) => z; clear z))
      rename Fr _ _ _ _ => FL
      rename News _ _ _ _ => NL
      refine' toldN (fun v _ => (0 ≤ code ∧ code ≤ 255 ∧ vs.length ≤ 253) ∧ ∃ b t, v = .bytes b t ∧ KBw.bInts b = [code, (vs.length : Int)] ++ vs) (¬ (0 ≤ code ∧ code ≤ 255 ∧ vs.length ≤ 253)) (fun _ _ _ => False) ?z3_K ?z3_F ?z3_N ?z3_X ?z3_T ?z3_f ?z3_k ?z3_h ?z3_d ?z3_u ?z3_fn ?z3_ask ?z3_ret ?z3_con ?z3_ntf
      case z3_K => exact K1
      case z3_F => exact FL
      case z3_N => exact NL
      case z3_X => exact X1
      case z3_T => exact T1
      case z3_f => exact rfl
      case z3_k => exact rfl
      case z3_h => exact rfl
      case z3_d => (simp only [depth_deeper]; omega)
      case z3_u => (simp only [units_deeper]; omega)
      case z3_fn => exact FnAt.of NL (.head _)
      case z3_ask =>
        intro A2 l2 s2 Q2 E2 B2 kp2 hh2 hd2 hu2 kret kcon kntf
        have X2 := Frag.In.keeps (Frag.In.keeps X1 FL.keep) kp2
        have T2 := Top.keeps (Top.keeps T1 FL.keep) kp2
        have gA := fun q hq => kp2 _ _ (NL q hq).1
        have gf := gA _ (.head _)
        have gc := gA _ (.tail _ (.head _))
        rename _ = Data.fields _ => dfc
        rename _ = some (Value.str _ _) => dvc
        have hcr : s2.heap.CodeRec (.ref _) _ := ⟨_, _, _, _, rfl, gc, dfc, dvc⟩
        have g4 := gA _ (.tail _ (.tail _ (.tail _ (.tail _ (.tail _ (.head _))))))
        have g3 := gA _ (.tail _ (.tail _ (.tail _ (.tail _ (.tail _ (.tail _ (.head _)))))))
        clear gA gc FL NL codeHd
        obtain ⟨hnd, dp, fr, gd, un⟩ := A2
        obtain rfl : hnd = none := hh2
        obtain rfl : fr = some l2 := B2.stack
        dsimp only [depth_deeper, units_deeper] at hd2 hu2
        refine wpAny_call ?_
        refine' enterL ?z3_T2 ?z3_gf ?z3_hcr ?room3 ?z3_b ?z3_l ?_ ?z3_1 ?z3_2 ?z3_3 ?z3_4
        case z3_T2 => exact T2
        case z3_gf => exact gf
        case z3_hcr => exact hcr
        case room3 => (show dp < recursionLimit); omega
        case z3_b => exact rfl
        case z3_l => exact locs rfl
        case z3_1 => exact rfl
        case z3_2 => exact rfl
        case z3_3 => exact rfl
        case z3_4 => decide
        intro L2 h2 F2 N2
        (try dsimp only)
        repeat' (first | (first | (k_unfold; (try dsimp only)) | (k_end; kc_close) | walk1 | (dsimp only; walk1) | (leave1; walk_say "STEP leave1"; (try dsimp only)) | fail "no step"))
        all_goals first
          | (rename Fr _ _ _ _ => FX; exact kret _ _ _ ⟨⟨by assumption, by assumption, by assumption⟩, _, _, rfl, by assumption⟩ FX.keep)
          | exact kcon (by first | assumption | omega) _ _ _ (by assumption)
      case z3_ntf => (intro n1 n2 c r t1 t2 t3 h' tk' hN; exact hN.elim)
      (intro v h9 tk9 hR; exfalso; obtain ⟨⟨c0, c1, c2⟩, _⟩ := hR; omega)
      intro hC h9 tk9 FL NL
      replace NL := News.tail' (News.tail' NL)
      repeat' ((fail_if_success (with_reducible show wpAny _ _ (execs _ _) _ _ _)); (first | (k_unfold; (try dsimp only)) | (k_end; kc_close) | walk1 | (dsimp only; walk1) | (leave1; walk_say "STEP leave1"; (try dsimp only)) | fail "no step"))
      (first | (k_unfold; (try dsimp only)) | (k_end; kc_close) | walk1 | (dsimp only; walk1) | (leave1; walk_say "STEP leave1"; (try dsimp only)) | fail "no step")
      repeat' ((fail_if_success (with_reducible show wpAny _ _ (execs _ _) _ _ _)); (first | (k_unfold; (try dsimp only)) | (k_end; kc_close) | walk1 | (dsimp only; walk1) | (leave1; walk_say "STEP leave1"; (try dsimp only)) | fail "no step"))
      rename News _ _ _ _ => NX
      rename Fr _ _ _ _ => FX
      rename _ = Data.cell (some (Value.bytes _ _)) => d4
      refine tail _ ⟨vs, _, _, rfl, _, _, _, _, _, _, _, _, _, _, _, _, _, _, _, _, _, _, _, _, FX, NX, dver, d4, dcode, f4, f5, by assumption, ?_, ?_, ?_, a1, a2, hV, hVl, ?_, ?_, ?_⟩
      · simp only [List.length_take]; omega
      · constructor <;> omega
      · exact ⟨Int.fmod_nonneg_of_pos _ (by decide), Int.fmod_lt_of_pos _ (by decide)⟩
      · exact fun q => nomatch q
      · exact fun _ q => (by omega)
      · exact fun q => absurd q (by omega)
  · rename News _ _ _ _ => NZ
    rename Fr _ _ _ _ => FZ
    clear NZ FZ
    clear dcode dver
    clear oc ov a1 a2 ap0 ap1 ap2 ap3 ap4 ap5 ap6 ap7 ap8 ap9 ap10 ap11 ap12 ap13 ap14 ap15 ap16 ap17 ap18 ap19 ap20 ap21 ap22 ap23 ap24 ap25 ap26
    intro s2m hM
    obtain ⟨vs, hm, tkm, rfl, PP, DD, its, vsD, i, z, ti, tz, cap, capD, o1, o2, o3, o4, o5, cq, bo, dv, b5, t5, FM, NM, d5, d4, d3, d2, d1, hIs, hln, hii, hzz, ax1, ax2, hV, hVl, hbT, hbF, hdue⟩ := hM
    obtain ⟨aq0, aq1, aq2, aq3, aq4, aq5, aq6, aq7, aq8, aq9, aq10, aq11, aq12, aq13, aq14, aq15, aq16, aq17, aq18, aq19, aq20, aq21, aq22, aq23, aq24, aq25, aq26⟩ := aparts ax1 ax2 l0
    (first | (k_unfold; (try dsimp only)) | (k_end; kc_close) | walk1 | (dsimp only; walk1) | (leave1; walk_say "STEP leave1"; (try dsimp only)) | fail "no step")
    repeat ((with_reducible show wpAny _ _ (execs (_ :: _) _) _ _ _); (first | (k_unfold; (try dsimp only)) | (k_end; kc_close) | walk1 | (dsimp only; walk1) | (leave1; walk_say "STEP leave1"; (try dsimp only)) | fail "no step"))
    repeat' ((fail_if_success (with_reducible show wpAny _ _ (execs _ _) _ _ _)); (first | (k_unfold; (try dsimp only)) | (k_end; kc_close) | walk1 | (dsimp only; walk1) | (leave1; walk_say "STEP leave1"; (try dsimp only)) | fail "no step"))
    · rename (@LT.lt Nat _ _ _ ∧ _) => zz0
      have bb0 := zz0.1
      clear zz0
      rename (@LT.lt Nat _ _ _ ∧ _) => zz1
      have bb1 := zz1.1
      clear zz1
      rename (@LT.lt Nat _ _ _ ∧ _) => zz2
      have bb2 := zz2.1
      clear zz2
      repeat' ((fail_if_success (with_reducible show wpAny _ _ (call (Value.ref 152) _) _ _ _)); (first | (k_unfold; (try dsimp only)) | (k_end; kc_close) | walk1 | (dsimp only; walk1) | (leave1; walk_say "STEP leave1"; (try dsimp only)) | fail "no step"))
      (repeat (rename (@LT.lt Nat _ _ _ ∧ _) => z; clear z))
      rename Fr _ _ _ _ => FL
      rename News _ _ _ _ => NL
      refine' toldN (fun v _ => ((0 ≤ ver ∧ ver ≤ 255) ∧ (0 ≤ code ∧ code ≤ 255 ∧ vs.length ≤ 253 ∧ ([code, (vs.length : Int)] ++ vs ++ [2, 0]).length ≤ 253)) ∧ ∃ b t, v = .bytes b t ∧ KBw.bInts b = [ver, 0, 5, 0, 30, 0, 0, 0, 9, (([code, (vs.length : Int)] ++ vs ++ [2, 0]).length : Int) + 2, 2, (([code, (vs.length : Int)] ++ vs ++ [2, 0]).length : Int)] ++ ([code, (vs.length : Int)] ++ vs ++ [2, 0])) (¬ ((0 ≤ ver ∧ ver ≤ 255) ∧ (0 ≤ code ∧ code ≤ 255 ∧ vs.length ≤ 253 ∧ ([code, (vs.length : Int)] ++ vs ++ [2, 0]).length ≤ 253))) (fun _ _ _ => False) ?z4_K ?z4_F ?z4_N ?z4_X ?z4_T ?z4_f ?z4_k ?z4_h ?z4_d ?z4_u ?z4_fn ?z4_ask ?z4_ret ?z4_con ?z4_ntf
      case z4_K => exact K1
      case z4_F => exact FL
      case z4_N => exact NL
      case z4_X => exact X1
      case z4_T => exact T1
      case z4_f => exact rfl
      case z4_k => exact rfl
      case z4_h => exact rfl
      case z4_d => (simp only [depth_deeper]; omega)
      case z4_u => (simp only [units_deeper]; omega)
      case z4_fn => exact FnAt.of NL (.head _)
      case z4_ask =>
        intro A2 l2 s2 Q2 E2 B2 kp2 hh2 hd2 hu2 kret kcon kntf
        have X2 := Frag.In.keeps (Frag.In.keeps X1 FL.keep) kp2
        have T2 := Top.keeps (Top.keeps T1 FL.keep) kp2
        have gA := fun q hq => kp2 _ _ (NL q hq).1
        have gf := gA _ (.head _)
        have gc := gA _ (.tail _ (.head _))
        rename _ = Data.fields _ => dfc
        rename _ = some (Value.str _ _) => dvc
        have hcr : s2.heap.CodeRec (.ref _) _ := ⟨_, _, _, _, rfl, gc, dfc, dvc⟩
        have gT := gA _ (.tail _ (.tail _ (.head _)))
        have gW := gA _ (.tail _ (.tail _ (.tail _ (.head _))))
        have gK := gA _ (.tail _ (.tail _ (.tail _ (.tail _ (.head _)))))
        have gv := gA _ (.tail _ (.tail _ (.tail _ (.tail _ (.tail _ (.tail _ (.tail _ (.head _))))))))
        have gq := gA _ (.tail _ (.tail _ (.tail _ (.tail _ (.tail _ (.tail _ (.tail _ (.tail _ (.tail _ (.tail _ (.head _)))))))))))
        have hcaps : CapsAt s2.heap _ code vs ([code, (vs.length : Int)] ++ vs ++ [2, 0]) := .two ⟨_, gT, rfl, _, rfl⟩ ⟨_, gK, rfl, _, rfl⟩ hV ⟨_, gW, rfl, _, rfl⟩ rfl
        clear gA gc FL NL codeHd
        obtain ⟨hnd, dp, fr, gd, un⟩ := A2
        obtain rfl : hnd = none := hh2
        obtain rfl : fr = some l2 := B2.stack
        dsimp only [depth_deeper, units_deeper] at hd2 hu2
        refine wpAny_call ?_
        refine' enterL ?z4_T2 ?z4_gf ?z4_hcr ?room4 ?z4_b ?z4_l ?_ ?z4_1 ?z4_2 ?z4_3 ?z4_4
        case z4_T2 => exact T2
        case z4_gf => exact gf
        case z4_hcr => exact hcr
        case room4 => (show dp < recursionLimit); omega
        case z4_b => exact rfl
        case z4_l => exact locs rfl
        case z4_1 => exact rfl
        case z4_2 => exact rfl
        case z4_3 => exact rfl
        case z4_4 => decide
        intro L2 h2 F2 N2
        (try dsimp only)
        repeat' (first | (first | (k_unfold; (try dsimp only)) | (k_end; kc_close) | walk1 | (dsimp only; walk1) | (leave1; walk_say "STEP leave1"; (try dsimp only)) | fail "no step"))
        all_goals first
          | (rename Fr _ _ _ _ => FX; exact kret _ _ _ ⟨⟨by assumption, by assumption⟩, _, _, rfl, by assumption⟩ FX.keep)
          | exact kcon (by first | assumption | omega) _ _ _ (by assumption)
      case z4_ntf => (intro n1 n2 c r t1 t2 t3 h' tk' hN; exact hN.elim)
      · intro v h9 tk9 hR FL NL
        obtain ⟨⟨⟨v0, v1⟩, c0, c1, c2, c6⟩, b10, t10, rfl, hb10⟩ := hR
        have c7 := c6
        simp only [List.length_append, List.length_cons, List.length_nil] at c7
        replace NL := News.tail' (News.tail' NL)
        cases bo with
        | false => exact absurd ⟨c0, c1⟩ (hbF rfl)
        | true =>
          obtain ⟨bd, td, rfl, hbd⟩ := hdue ⟨c0, c1, c2⟩
          repeat' ((fail_if_success (with_reducible show wpAny _ _ (call (Value.ref 152) _) _ _ _)); (first | (k_unfold; (try dsimp only)) | (k_end; kc_close) | walk1 | (dsimp only; walk1) | (leave1; walk_say "STEP leave1"; (try dsimp only)) | fail "no step"))
          by_cases hv4 : ver = 4
          · (repeat (rename (@LT.lt Nat _ _ _ ∧ _) => z; clear z))
            rename Fr _ _ _ _ => FL
            rename News _ _ _ _ => NL
            refine' toldN (fun v h' => ∃ r c c1 c2 t0 t1 t2 t3 t4 tc V tv tz W tw, v = .ref r ∧ On (ghostOf s1.heap [(158, 154)]) s1.heap.objs.size h' r (tupObj [.str (Str.ofString "open") t0, .int 4 t1, .int 5 t2, .int 30 t3, .int 9 t4, .ref c]) ∧ On (ghostOf s1.heap [(158, 154)]) s1.heap.objs.size h' c (tupObj [.ref c1, .ref c2]) ∧ On (ghostOf s1.heap [(158, 154)]) s1.heap.objs.size h' c1 (tupObj [.int code tc, .bytes V tv]) ∧ KBw.bInts V = vs ∧ On (ghostOf s1.heap [(158, 154)]) s1.heap.objs.size h' c2 (tupObj [.int 2 tz, .bytes W tw]) ∧ KBw.bInts W = []) (False) (fun _ _ _ => False) ?z5_K ?z5_F ?z5_N ?z5_X ?z5_T ?z5_f ?z5_k ?z5_h ?z5_d ?z5_u ?z5_fn ?z5_ask ?z5_ret ?z5_con ?z5_ntf
            case z5_K => exact K1
            case z5_F => exact FL
            case z5_N => exact NL
            case z5_X => exact X1
            case z5_T => exact T1
            case z5_f => exact rfl
            case z5_k => exact rfl
            case z5_h => exact rfl
            case z5_d => (simp only [depth_deeper]; omega)
            case z5_u => (simp only [units_deeper]; omega)
            case z5_fn => exact FnAt.of NL (.head _)
            case z5_ask =>
              intro A2 l2 s2 Q2 E2 B2 kp2 hh2 hd2 hu2 kret kcon kntf
              have X2 := Frag.In.keeps (Frag.In.keeps X1 FL.keep) kp2
              have T2 := Top.keeps (Top.keeps T1 FL.keep) kp2
              have gA := fun q hq => kp2 _ _ (NL q hq).1
              have gf := gA _ (.head _)
              have gc := gA _ (.tail _ (.head _))
              rename _ = Data.fields _ => dfc
              rename _ = some (Value.str _ _) => dvc
              have hcr : s2.heap.CodeRec (.ref _) _ := ⟨_, _, _, _, rfl, gc, dfc, dvc⟩
              have gb := gA _ (.tail _ (.tail _ (.tail _ (.tail _ (.tail _ (.tail _ (.tail _ (.tail _ (.tail _ (.tail _ (.tail _ (.tail _ (.tail _ (.head _))))))))))))))
              have k0 : (ghostOf s1.heap [(158, 154)]).StaysIn s2.heap := fun b o q => kp2 _ _ (FL.keep b o q)
              have kL : ∃ o, s2.heap.get? s1.heap.objs.size = some o := by
                obtain ⟨o, e⟩ := frThere FL
                exact ⟨o, kp2 _ _ e⟩
              clear gA gc FL NL codeHd
              obtain ⟨hnd, dp, fr, gd, un⟩ := A2
              obtain rfl : hnd = none := hh2
              obtain rfl : fr = some l2 := B2.stack
              dsimp only [depth_deeper, units_deeper] at hd2 hu2
              refine wpAny_call ?_
              refine' enterL ?z5_T2 ?z5_gf ?z5_hcr ?room5 ?z5_b ?z5_l ?_ ?z5_1 ?z5_2 ?z5_3 ?z5_4
              case z5_T2 => exact T2
              case z5_gf => exact gf
              case z5_hcr => exact hcr
              case room5 => (show dp < recursionLimit); omega
              case z5_b => exact rfl
              case z5_l => exact locs rfl
              case z5_1 => exact rfl
              case z5_2 => exact rfl
              case z5_3 => exact rfl
              case z5_4 => decide
              intro L2 h2 F2 N2
              (try dsimp only)
              repeat' (first | (first | (k_unfold; (try dsimp only)) | (k_end; kc_close) | walk1 | (dsimp only; walk1) | (leave1; walk_say "STEP leave1"; (try dsimp only)) | fail "no step"))
              repeat' ((fail_if_success (with_reducible show wpAny _ _ (call (Value.ref 138) _) _ _ _)); (first | (k_unfold; (try dsimp only)) | (k_end; kc_close) | walk1 | (dsimp only; walk1) | (leave1; walk_say "STEP leave1"; (try dsimp only)) | fail "no step"))
              rename Fr _ _ _ _ => FX
              obtain ⟨ks, LL, n1, n2, n3, hk, hbL, hL, hn1, hn2, hn3, hl⟩ := open42_facts hb10 hv4 c6
              refine' read_open42 ?y5_B ?y5_X ?y5_T ?y5_h ?y5_d ?y5_u hk hbL hL hn1 hn2 hn3 hl c2 ⟨c0, c1⟩ ?y5_ret
              (case y5_B => exact pushX (by assumption) (by assumption) rfl rfl); (case y5_X => exact Frag.In.keeps (by assumption) (Fr.keep (by assumption))); (case y5_T => exact Top.keeps (by assumption) (Fr.keep (by assumption))); (case y5_h => exact rfl); (case y5_d => (simp only [depth_deeper]; omega)); (case y5_u => (simp only [units_deeper]; omega))
              intro r c c1 c2 t0 t1 t2 t3 t4 tc V tv tz W tw h' tk' hr nr hc nc hc1 nc1 hVV hc2 nc2 hW kp9
              exact kret _ _ _ ⟨r, c, c1, c2, t0, t1, t2, t3, t4, tc, V, tv, tz, W, tw, rfl, on_of2 k0 kL FX nr hr, on_of2 k0 kL FX nc hc, on_of2 k0 kL FX nc1 hc1, hVV, on_of2 k0 kL FX nc2 hc2, hW⟩ (fun b o q => kp9 _ _ (FX.keep b o q))
            rotate_left
            (intro hC; exact hC.elim)
            (intro n1 n2 c r t1 t2 t3 h' tk' hN; exact hN.elim)
            intro v h9 tk9 hR FL NL
            obtain ⟨r, c, c1, c2, t0, t1, t2, t3, t4, tc, V, tv, tz, W, tw, rfl, hr, hc, hc1, hVV, hc2, hWW⟩ := hR
            replace NL := onCons hr (onCons hc (onCons hc1 (onCons hc2 NL)))
            iterate 12 (first | (k_unfold; (try dsimp only)) | (k_end; kc_close) | walk1 | (dsimp only; walk1) | (leave1; walk_say "STEP leave1"; (try dsimp only)) | fail "no step")
            rw [if_pos (beq_iff_eq.mpr hv4)]
            repeat' ((fail_if_success (with_reducible show wpAny _ _ (compareOp CmpOp.Eq (Value.ref _) (Value.ref _)) _ _ _)); (first | (k_unfold; (try dsimp only)) | (k_end; kc_close) | walk1 | (dsimp only; walk1) | (leave1; walk_say "STEP leave1"; (try dsimp only)) | fail "no step"))
            rename News _ _ _ _ => NX
            refine' eq_tupN NX ?z5a ?z5b ?z5u ?z5e ?z5q
            case z5a => k_mem
            case z5b => k_mem
            case z5u => ke_room
            case z5e => exact .cons rc_str (.cons rc_int (.cons rc_int (.cons rc_int (.cons rc_int (.cons (rc_ref NX (by k_mem) (by k_mem) (by ke_room) (.cons (rc_ref NX (by k_mem) (by k_mem) (by ke_room) (.cons rc_int (.cons (rc_bytes hVV hV) .nil))) (.cons (rc_ref NX (by k_mem) (by k_mem) (by ke_room) (.cons rc_int (.cons (rc_bytes hWW rfl) .nil))) .nil))) .nil)))))
            repeat' (first | (rename Fr _ _ _ _ => FX; rename News _ _ _ _ => NX; exact hQ1 _ ⟨_, _, _, _, rfl, FX, oneN NX (by k_mem)⟩) | (first | (k_unfold; (try dsimp only)) | (k_end; kc_close) | walk1 | (dsimp only; walk1) | (leave1; walk_say "STEP leave1"; (try dsimp only)) | fail "no step"))
          · (repeat (rename (@LT.lt Nat _ _ _ ∧ _) => z; clear z))
            rename Fr _ _ _ _ => FL
            rename News _ _ _ _ => NL
            refine' toldN (fun _ _ => False) (False) (fun n1 n2 c => n1 = 2 ∧ n2 = 1 ∧ KBw.bInts c = [0, 4]) ?z6_K ?z6_F ?z6_N ?z6_X ?z6_T ?z6_f ?z6_k ?z6_h ?z6_d ?z6_u ?z6_fn ?z6_ask ?z6_ret ?z6_con ?z6_ntf
            case z6_K => exact K1
            case z6_F => exact FL
            case z6_N => exact NL
            case z6_X => exact X1
            case z6_T => exact T1
            case z6_f => exact rfl
            case z6_k => exact rfl
            case z6_h => exact rfl
            case z6_d => (simp only [depth_deeper]; omega)
            case z6_u => (simp only [units_deeper]; omega)
            case z6_fn => exact FnAt.of NL (.head _)
            case z6_ask =>
              intro A2 l2 s2 Q2 E2 B2 kp2 hh2 hd2 hu2 kret kcon kntf
              have X2 := Frag.In.keeps (Frag.In.keeps X1 FL.keep) kp2
              have T2 := Top.keeps (Top.keeps T1 FL.keep) kp2
              have gA := fun q hq => kp2 _ _ (NL q hq).1
              have gf := gA _ (.head _)
              have gc := gA _ (.tail _ (.head _))
              rename _ = Data.fields _ => dfc
              rename _ = some (Value.str _ _) => dvc
              have hcr : s2.heap.CodeRec (.ref _) _ := ⟨_, _, _, _, rfl, gc, dfc, dvc⟩
              have gb := gA _ (.tail _ (.tail _ (.tail _ (.tail _ (.tail _ (.tail _ (.tail _ (.tail _ (.tail _ (.tail _ (.tail _ (.tail _ (.tail _ (.head _))))))))))))))
              have k0 : (ghostOf s1.heap [(158, 154)]).StaysIn s2.heap := fun b o q => kp2 _ _ (FL.keep b o q)
              have kL : ∃ o, s2.heap.get? s1.heap.objs.size = some o := by
                obtain ⟨o, e⟩ := frThere FL
                exact ⟨o, kp2 _ _ e⟩
              clear gA gc FL NL codeHd
              obtain ⟨hnd, dp, fr, gd, un⟩ := A2
              obtain rfl : hnd = none := hh2
              obtain rfl : fr = some l2 := B2.stack
              dsimp only [depth_deeper, units_deeper] at hd2 hu2
              refine wpAny_call ?_
              refine' enterL ?z6_T2 ?z6_gf ?z6_hcr ?room6 ?z6_b ?z6_l ?_ ?z6_1 ?z6_2 ?z6_3 ?z6_4
              case z6_T2 => exact T2
              case z6_gf => exact gf
              case z6_hcr => exact hcr
              case room6 => (show dp < recursionLimit); omega
              case z6_b => exact rfl
              case z6_l => exact locs rfl
              case z6_1 => exact rfl
              case z6_2 => exact rfl
              case z6_3 => exact rfl
              case z6_4 => decide
              intro L2 h2 F2 N2
              (try dsimp only)
              repeat' (first | (first | (k_unfold; (try dsimp only)) | (k_end; kc_close) | walk1 | (dsimp only; walk1) | (leave1; walk_say "STEP leave1"; (try dsimp only)) | fail "no step"))
              repeat' ((fail_if_success (with_reducible show wpAny _ _ (call (Value.ref 138) _) _ _ _)); (first | (k_unfold; (try dsimp only)) | (k_end; kc_close) | walk1 | (dsimp only; walk1) | (leave1; walk_say "STEP leave1"; (try dsimp only)) | fail "no step"))
              rename Fr _ _ _ _ => FX
              obtain ⟨LL, hbL, hL1, hL2, hL3⟩ := openN_facts hb10 c6
              refine' read_openN ?y6_B ?y6_X ?y6_T ?y6_h ?y6_d ?y6_u hbL hL1 hL2 hL3 hv4 ?y6_ret
              (case y6_B => exact pushX (by assumption) (by assumption) rfl rfl); (case y6_X => exact Frag.In.keeps (by assumption) (Fr.keep (by assumption))); (case y6_T => exact Top.keeps (by assumption) (Fr.keep (by assumption))); (case y6_h => exact rfl); (case y6_d => (simp only [depth_deeper]; omega)); (case y6_u => (simp only [units_deeper]; omega))
              intro e9 h9 tk9 dx9 c9 t1 t2 t3 x tx k0' k1' k2' k3' hc9 R9
              (try dsimp only)
              refine leave_nextD (by assumption) (by assumption) R9 rfl ?_
              intro h8 R8
              exact kntf _ _ _ _ _ _ _ _ _ _ _ _ _ _ _ _ ⟨rfl, rfl, hc9⟩ R8
            (intro v h9 tk9 hR; exact hR.elim)
            (intro hC; exact hC.elim)
            intro n1 n2 c r t1 t2 t3 h9 tk9 hN FL NL
            obtain ⟨rfl, rfl, hc4⟩ := hN
            iterate 12 (first | (k_unfold; (try dsimp only)) | (k_end; kc_close) | walk1 | (dsimp only; walk1) | (leave1; walk_say "STEP leave1"; (try dsimp only)) | fail "no step")
            rw [if_neg (fun q => hv4 (beq_iff_eq.mp q))]
            repeat' ((fail_if_success (with_reducible show wpAny _ _ (compareOp CmpOp.Eq (Value.ref _) (Value.ref _)) _ _ _)); (first | (k_unfold; (try dsimp only)) | (k_end; kc_close) | walk1 | (dsimp only; walk1) | (leave1; walk_say "STEP leave1"; (try dsimp only)) | fail "no step"))
            rename News _ _ _ _ => NX
            rename KBw.bInts _ = [0, 4] => hq4
            refine' eq_tupN NX ?z6a ?z6b ?z6u ?z6e ?z6q
            case z6a => k_mem
            case z6b => k_mem
            case z6u => ke_room
            case z6e => exact .cons rc_int (.cons rc_int (.cons (rc_bytes hc4 hq4) .nil))
            repeat' (first | (rename Fr _ _ _ _ => FX; rename News _ _ _ _ => NX; exact hQ1 _ ⟨_, _, _, _, rfl, FX, oneN NX (by k_mem)⟩) | (first | (k_unfold; (try dsimp only)) | (k_end; kc_close) | walk1 | (dsimp only; walk1) | (leave1; walk_say "STEP leave1"; (try dsimp only)) | fail "no step"))
      · intro hC h9 tk9 FL NL
        simp only [List.length_append, List.length_cons, List.length_nil] at hC
        replace NL := News.tail' (News.tail' NL)
        cases bo with
        | true =>
          have hbb := hbT rfl
          repeat' (first | (rename Fr _ _ _ _ => FX; rename News _ _ _ _ => NX; exact hQ1 _ ⟨_, _, _, _, rfl, FX, oneN NX (by k_mem)⟩) | (first | (k_unfold; (try dsimp only)) | (k_end; kc_close) | walk1 | (dsimp only; walk1) | (leave1; walk_say "STEP leave1"; (try dsimp only)) | fail "no step"))
        | false =>
          have hbb := hbF rfl
          repeat' (first | (rename Fr _ _ _ _ => FX; rename News _ _ _ _ => NX; exact hQ1 _ ⟨_, _, _, _, rfl, FX, oneN NX (by k_mem)⟩) | (first | (k_unfold; (try dsimp only)) | (k_end; kc_close) | walk1 | (dsimp only; walk1) | (leave1; walk_say "STEP leave1"; (try dsimp only)) | fail "no step"))
    · rename (@LT.lt Nat _ _ _ ∧ _) => zz0
      have bb0 := zz0.1
      clear zz0
      rename (@LT.lt Nat _ _ _ ∧ _) => zz1
      have bb1 := zz1.1
      clear zz1
      repeat' ((fail_if_success (with_reducible show wpAny _ _ (call (Value.ref 152) _) _ _ _)); (first | (k_unfold; (try dsimp only)) | (k_end; kc_close) | walk1 | (dsimp only; walk1) | (leave1; walk_say "STEP leave1"; (try dsimp only)) | fail "no step"))
      (repeat (rename (@LT.lt Nat _ _ _ ∧ _) => z; clear z))
      rename Fr _ _ _ _ => FL
      rename News _ _ _ _ => NL
      refine' toldN (fun v _ => ((0 ≤ ver ∧ ver ≤ 255) ∧ (0 ≤ code ∧ code ≤ 255 ∧ vs.length ≤ 253 ∧ ([code, (vs.length : Int)] ++ vs).length ≤ 253)) ∧ ∃ b t, v = .bytes b t ∧ KBw.bInts b = [ver, 0, 5, 0, 30, 0, 0, 0, 9, (([code, (vs.length : Int)] ++ vs).length : Int) + 2, 2, (([code, (vs.length : Int)] ++ vs).length : Int)] ++ ([code, (vs.length : Int)] ++ vs)) (¬ ((0 ≤ ver ∧ ver ≤ 255) ∧ (0 ≤ code ∧ code ≤ 255 ∧ vs.length ≤ 253 ∧ ([code, (vs.length : Int)] ++ vs).length ≤ 253))) (fun _ _ _ => False) ?z7_K ?z7_F ?z7_N ?z7_X ?z7_T ?z7_f ?z7_k ?z7_h ?z7_d ?z7_u ?z7_fn ?z7_ask ?z7_ret ?z7_con ?z7_ntf
      case z7_K => exact K1
      case z7_F => exact FL
      case z7_N => exact NL
      case z7_X => exact X1
      case z7_T => exact T1
      case z7_f => exact rfl
      case z7_k => exact rfl
      case z7_h => exact rfl
      case z7_d => (simp only [depth_deeper]; omega)
      case z7_u => (simp only [units_deeper]; omega)
      case z7_fn => exact FnAt.of NL (.head _)
      case z7_ask =>
        intro A2 l2 s2 Q2 E2 B2 kp2 hh2 hd2 hu2 kret kcon kntf
        have X2 := Frag.In.keeps (Frag.In.keeps X1 FL.keep) kp2
        have T2 := Top.keeps (Top.keeps T1 FL.keep) kp2
        have gA := fun q hq => kp2 _ _ (NL q hq).1
        have gf := gA _ (.head _)
        have gc := gA _ (.tail _ (.head _))
        rename _ = Data.fields _ => dfc
        rename _ = some (Value.str _ _) => dvc
        have hcr : s2.heap.CodeRec (.ref _) _ := ⟨_, _, _, _, rfl, gc, dfc, dvc⟩
        have gT := gA _ (.tail _ (.tail _ (.head _)))
        have gK := gA _ (.tail _ (.tail _ (.tail _ (.head _))))
        have gv := gA _ (.tail _ (.tail _ (.tail _ (.tail _ (.tail _ (.tail _ (.head _)))))))
        have gq := gA _ (.tail _ (.tail _ (.tail _ (.tail _ (.tail _ (.tail _ (.tail _ (.tail _ (.tail _ (.head _))))))))))
        have hcaps : CapsAt s2.heap _ code vs ([code, (vs.length : Int)] ++ vs) := .one ⟨_, gT, rfl, _, rfl⟩ ⟨_, gK, rfl, _, rfl⟩ hV
        clear gA gc FL NL codeHd
        obtain ⟨hnd, dp, fr, gd, un⟩ := A2
        obtain rfl : hnd = none := hh2
        obtain rfl : fr = some l2 := B2.stack
        dsimp only [depth_deeper, units_deeper] at hd2 hu2
        refine wpAny_call ?_
        refine' enterL ?z7_T2 ?z7_gf ?z7_hcr ?room7 ?z7_b ?z7_l ?_ ?z7_1 ?z7_2 ?z7_3 ?z7_4
        case z7_T2 => exact T2
        case z7_gf => exact gf
        case z7_hcr => exact hcr
        case room7 => (show dp < recursionLimit); omega
        case z7_b => exact rfl
        case z7_l => exact locs rfl
        case z7_1 => exact rfl
        case z7_2 => exact rfl
        case z7_3 => exact rfl
        case z7_4 => decide
        intro L2 h2 F2 N2
        (try dsimp only)
        repeat' (first | (first | (k_unfold; (try dsimp only)) | (k_end; kc_close) | walk1 | (dsimp only; walk1) | (leave1; walk_say "STEP leave1"; (try dsimp only)) | fail "no step"))
        all_goals first
          | (rename Fr _ _ _ _ => FX; exact kret _ _ _ ⟨⟨by assumption, by assumption⟩, _, _, rfl, by assumption⟩ FX.keep)
          | exact kcon (by first | assumption | omega) _ _ _ (by assumption)
      case z7_ntf => (intro n1 n2 c r t1 t2 t3 h' tk' hN; exact hN.elim)
      · intro v h9 tk9 hR FL NL
        obtain ⟨⟨⟨v0, v1⟩, c0, c1, c2, c6⟩, b10, t10, rfl, hb10⟩ := hR
        have c7 := c6
        simp only [List.length_append, List.length_cons, List.length_nil] at c7
        replace NL := News.tail' (News.tail' NL)
        cases bo with
        | false => exact absurd ⟨c0, c1⟩ (hbF rfl)
        | true =>
          obtain ⟨bd, td, rfl, hbd⟩ := hdue ⟨c0, c1, c2⟩
          repeat' ((fail_if_success (with_reducible show wpAny _ _ (call (Value.ref 152) _) _ _ _)); (first | (k_unfold; (try dsimp only)) | (k_end; kc_close) | walk1 | (dsimp only; walk1) | (leave1; walk_say "STEP leave1"; (try dsimp only)) | fail "no step"))
          by_cases hv4 : ver = 4
          · (repeat (rename (@LT.lt Nat _ _ _ ∧ _) => z; clear z))
            rename Fr _ _ _ _ => FL
            rename News _ _ _ _ => NL
            refine' toldN (fun v h' => ∃ r c c1 t0 t1 t2 t3 t4 tc V tv, v = .ref r ∧ On (ghostOf s1.heap [(158, 154)]) s1.heap.objs.size h' r (tupObj [.str (Str.ofString "open") t0, .int 4 t1, .int 5 t2, .int 30 t3, .int 9 t4, .ref c]) ∧ On (ghostOf s1.heap [(158, 154)]) s1.heap.objs.size h' c (tupObj [.ref c1]) ∧ On (ghostOf s1.heap [(158, 154)]) s1.heap.objs.size h' c1 (tupObj [.int code tc, .bytes V tv]) ∧ KBw.bInts V = vs) (False) (fun _ _ _ => False) ?z8_K ?z8_F ?z8_N ?z8_X ?z8_T ?z8_f ?z8_k ?z8_h ?z8_d ?z8_u ?z8_fn ?z8_ask ?z8_ret ?z8_con ?z8_ntf
            case z8_K => exact K1
            case z8_F => exact FL
            case z8_N => exact NL
            case z8_X => exact X1
            case z8_T => exact T1
            case z8_f => exact rfl
            case z8_k => exact rfl
            case z8_h => exact rfl
            case z8_d => (simp only [depth_deeper]; omega)
            case z8_u => (simp only [units_deeper]; omega)
            case z8_fn => exact FnAt.of NL (.head _)
            case z8_ask =>
              intro A2 l2 s2 Q2 E2 B2 kp2 hh2 hd2 hu2 kret kcon kntf
              have X2 := Frag.In.keeps (Frag.In.keeps X1 FL.keep) kp2
              have T2 := Top.keeps (Top.keeps T1 FL.keep) kp2
              have gA := fun q hq => kp2 _ _ (NL q hq).1
              have gf := gA _ (.head _)
              have gc := gA _ (.tail _ (.head _))
              rename _ = Data.fields _ => dfc
              rename _ = some (Value.str _ _) => dvc
              have hcr : s2.heap.CodeRec (.ref _) _ := ⟨_, _, _, _, rfl, gc, dfc, dvc⟩
              have gb := gA _ (.tail _ (.tail _ (.tail _ (.tail _ (.tail _ (.tail _ (.tail _ (.tail _ (.tail _ (.tail _ (.tail _ (.head _))))))))))))
              have k0 : (ghostOf s1.heap [(158, 154)]).StaysIn s2.heap := fun b o q => kp2 _ _ (FL.keep b o q)
              have kL : ∃ o, s2.heap.get? s1.heap.objs.size = some o := by
                obtain ⟨o, e⟩ := frThere FL
                exact ⟨o, kp2 _ _ e⟩
              clear gA gc FL NL codeHd
              obtain ⟨hnd, dp, fr, gd, un⟩ := A2
              obtain rfl : hnd = none := hh2
              obtain rfl : fr = some l2 := B2.stack
              dsimp only [depth_deeper, units_deeper] at hd2 hu2
              refine wpAny_call ?_
              refine' enterL ?z8_T2 ?z8_gf ?z8_hcr ?room8 ?z8_b ?z8_l ?_ ?z8_1 ?z8_2 ?z8_3 ?z8_4
              case z8_T2 => exact T2
              case z8_gf => exact gf
              case z8_hcr => exact hcr
              case room8 => (show dp < recursionLimit); omega
              case z8_b => exact rfl
              case z8_l => exact locs rfl
              case z8_1 => exact rfl
              case z8_2 => exact rfl
              case z8_3 => exact rfl
              case z8_4 => decide
              intro L2 h2 F2 N2
              (try dsimp only)
              repeat' (first | (first | (k_unfold; (try dsimp only)) | (k_end; kc_close) | walk1 | (dsimp only; walk1) | (leave1; walk_say "STEP leave1"; (try dsimp only)) | fail "no step"))
              repeat' ((fail_if_success (with_reducible show wpAny _ _ (call (Value.ref 138) _) _ _ _)); (first | (k_unfold; (try dsimp only)) | (k_end; kc_close) | walk1 | (dsimp only; walk1) | (leave1; walk_say "STEP leave1"; (try dsimp only)) | fail "no step"))
              rename Fr _ _ _ _ => FX
              obtain ⟨ks, LL, n1, n2, n3, hk, hbL, hL, hn1, hn2, hn3, hl⟩ := open41_facts hb10 hv4 c6
              refine' read_open41 ?y8_B ?y8_X ?y8_T ?y8_h ?y8_d ?y8_u hk hbL hL hn1 hn2 hn3 hl c2 ⟨c0, c1⟩ ?y8_ret
              (case y8_B => exact pushX (by assumption) (by assumption) rfl rfl); (case y8_X => exact Frag.In.keeps (by assumption) (Fr.keep (by assumption))); (case y8_T => exact Top.keeps (by assumption) (Fr.keep (by assumption))); (case y8_h => exact rfl); (case y8_d => (simp only [depth_deeper]; omega)); (case y8_u => (simp only [units_deeper]; omega))
              intro r c c1 t0 t1 t2 t3 t4 tc V tv h' tk' hr nr hc nc hc1 nc1 hVV kp9
              exact kret _ _ _ ⟨r, c, c1, t0, t1, t2, t3, t4, tc, V, tv, rfl, on_of2 k0 kL FX nr hr, on_of2 k0 kL FX nc hc, on_of2 k0 kL FX nc1 hc1, hVV⟩ (fun b o q => kp9 _ _ (FX.keep b o q))
            rotate_left
            (intro hC; exact hC.elim)
            (intro n1 n2 c r t1 t2 t3 h' tk' hN; exact hN.elim)
            intro v h9 tk9 hR FL NL
            obtain ⟨r, c, c1, t0, t1, t2, t3, t4, tc, V, tv, rfl, hr, hc, hc1, hVV⟩ := hR
            replace NL := onCons hr (onCons hc (onCons hc1 NL))
            iterate 12 (first | (k_unfold; (try dsimp only)) | (k_end; kc_close) | walk1 | (dsimp only; walk1) | (leave1; walk_say "STEP leave1"; (try dsimp only)) | fail "no step")
            rw [if_pos (beq_iff_eq.mpr hv4)]
            repeat' ((fail_if_success (with_reducible show wpAny _ _ (compareOp CmpOp.Eq (Value.ref _) (Value.ref _)) _ _ _)); (first | (k_unfold; (try dsimp only)) | (k_end; kc_close) | walk1 | (dsimp only; walk1) | (leave1; walk_say "STEP leave1"; (try dsimp only)) | fail "no step"))
            rename News _ _ _ _ => NX
            refine' eq_tupN NX ?z8a ?z8b ?z8u ?z8e ?z8q
            case z8a => k_mem
            case z8b => k_mem
            case z8u => ke_room
            case z8e => exact .cons rc_str (.cons rc_int (.cons rc_int (.cons rc_int (.cons rc_int (.cons (rc_ref NX (by k_mem) (by k_mem) (by ke_room) (.cons (rc_ref NX (by k_mem) (by k_mem) (by ke_room) (.cons rc_int (.cons (rc_bytes hVV hV) .nil))) (.nil))) .nil)))))
            repeat' (first | (rename Fr _ _ _ _ => FX; rename News _ _ _ _ => NX; exact hQ1 _ ⟨_, _, _, _, rfl, FX, oneN NX (by k_mem)⟩) | (first | (k_unfold; (try dsimp only)) | (k_end; kc_close) | walk1 | (dsimp only; walk1) | (leave1; walk_say "STEP leave1"; (try dsimp only)) | fail "no step"))
          · (repeat (rename (@LT.lt Nat _ _ _ ∧ _) => z; clear z))
            rename Fr _ _ _ _ => FL
            rename News _ _ _ _ => NL
            refine' toldN (fun _ _ => False) (False) (fun n1 n2 c => n1 = 2 ∧ n2 = 1 ∧ KBw.bInts c = [0, 4]) ?z9_K ?z9_F ?z9_N ?z9_X ?z9_T ?z9_f ?z9_k ?z9_h ?z9_d ?z9_u ?z9_fn ?z9_ask ?z9_ret ?z9_con ?z9_ntf
            case z9_K => exact K1
            case z9_F => exact FL
            case z9_N => exact NL
            case z9_X => exact X1
            case z9_T => exact T1
            case z9_f => exact rfl
            case z9_k => exact rfl
            case z9_h => exact rfl
            case z9_d => (simp only [depth_deeper]; omega)
            case z9_u => (simp only [units_deeper]; omega)
            case z9_fn => exact FnAt.of NL (.head _)
            case z9_ask =>
              intro A2 l2 s2 Q2 E2 B2 kp2 hh2 hd2 hu2 kret kcon kntf
              have X2 := Frag.In.keeps (Frag.In.keeps X1 FL.keep) kp2
              have T2 := Top.keeps (Top.keeps T1 FL.keep) kp2
              have gA := fun q hq => kp2 _ _ (NL q hq).1
              have gf := gA _ (.head _)
              have gc := gA _ (.tail _ (.head _))
              rename _ = Data.fields _ => dfc
              rename _ = some (Value.str _ _) => dvc
              have hcr : s2.heap.CodeRec (.ref _) _ := ⟨_, _, _, _, rfl, gc, dfc, dvc⟩
              have gb := gA _ (.tail _ (.tail _ (.tail _ (.tail _ (.tail _ (.tail _ (.tail _ (.tail _ (.tail _ (.tail _ (.tail _ (.head _))))))))))))
              have k0 : (ghostOf s1.heap [(158, 154)]).StaysIn s2.heap := fun b o q => kp2 _ _ (FL.keep b o q)
              have kL : ∃ o, s2.heap.get? s1.heap.objs.size = some o := by
                obtain ⟨o, e⟩ := frThere FL
                exact ⟨o, kp2 _ _ e⟩
              clear gA gc FL NL codeHd
              obtain ⟨hnd, dp, fr, gd, un⟩ := A2
              obtain rfl : hnd = none := hh2
              obtain rfl : fr = some l2 := B2.stack
              dsimp only [depth_deeper, units_deeper] at hd2 hu2
              refine wpAny_call ?_
              refine' enterL ?z9_T2 ?z9_gf ?z9_hcr ?room9 ?z9_b ?z9_l ?_ ?z9_1 ?z9_2 ?z9_3 ?z9_4
              case z9_T2 => exact T2
              case z9_gf => exact gf
              case z9_hcr => exact hcr
              case room9 => (show dp < recursionLimit); omega
              case z9_b => exact rfl
              case z9_l => exact locs rfl
              case z9_1 => exact rfl
              case z9_2 => exact rfl
              case z9_3 => exact rfl
              case z9_4 => decide
              intro L2 h2 F2 N2
              (try dsimp only)
              repeat' (first | (first | (k_unfold; (try dsimp only)) | (k_end; kc_close) | walk1 | (dsimp only; walk1) | (leave1; walk_say "STEP leave1"; (try dsimp only)) | fail "no step"))
              repeat' ((fail_if_success (with_reducible show wpAny _ _ (call (Value.ref 138) _) _ _ _)); (first | (k_unfold; (try dsimp only)) | (k_end; kc_close) | walk1 | (dsimp only; walk1) | (leave1; walk_say "STEP leave1"; (try dsimp only)) | fail "no step"))
              rename Fr _ _ _ _ => FX
              obtain ⟨LL, hbL, hL1, hL2, hL3⟩ := openN_facts hb10 c6
              refine' read_openN ?y9_B ?y9_X ?y9_T ?y9_h ?y9_d ?y9_u hbL hL1 hL2 hL3 hv4 ?y9_ret
              (case y9_B => exact pushX (by assumption) (by assumption) rfl rfl); (case y9_X => exact Frag.In.keeps (by assumption) (Fr.keep (by assumption))); (case y9_T => exact Top.keeps (by assumption) (Fr.keep (by assumption))); (case y9_h => exact rfl); (case y9_d => (simp only [depth_deeper]; omega)); (case y9_u => (simp only [units_deeper]; omega))
              intro e9 h9 tk9 dx9 c9 t1 t2 t3 x tx k0' k1' k2' k3' hc9 R9
              (try dsimp only)
              refine leave_nextD (by assumption) (by assumption) R9 rfl ?_
              intro h8 R8
              exact kntf _ _ _ _ _ _ _ _ _ _ _ _ _ _ _ _ ⟨rfl, rfl, hc9⟩ R8
            (intro v h9 tk9 hR; exact hR.elim)
            (intro hC; exact hC.elim)
            intro n1 n2 c r t1 t2 t3 h9 tk9 hN FL NL
            obtain ⟨rfl, rfl, hc4⟩ := hN
            iterate 12 (first | (k_unfold; (try dsimp only)) | (k_end; kc_close) | walk1 | (dsimp only; walk1) | (leave1; walk_say "STEP leave1"; (try dsimp only)) | fail "no step")
            rw [if_neg (fun q => hv4 (beq_iff_eq.mp q))]
            repeat' ((fail_if_success (with_reducible show wpAny _ _ (compareOp CmpOp.Eq (Value.ref _) (Value.ref _)) _ _ _)); (first | (k_unfold; (try dsimp only)) | (k_end; kc_close) | walk1 | (dsimp only; walk1) | (leave1; walk_say "STEP leave1"; (try dsimp only)) | fail "no step"))
            rename News _ _ _ _ => NX
            rename KBw.bInts _ = [0, 4] => hq4
            refine' eq_tupN NX ?z9a ?z9b ?z9u ?z9e ?z9q
            case z9a => k_mem
            case z9b => k_mem
            case z9u => ke_room
            case z9e => exact .cons rc_int (.cons rc_int (.cons (rc_bytes hc4 hq4) .nil))
            repeat' (first | (rename Fr _ _ _ _ => FX; rename News _ _ _ _ => NX; exact hQ1 _ ⟨_, _, _, _, rfl, FX, oneN NX (by k_mem)⟩) | (first | (k_unfold; (try dsimp only)) | (k_end; kc_close) | walk1 | (dsimp only; walk1) | (leave1; walk_say "STEP leave1"; (try dsimp only)) | fail "no step"))
      · intro hC h9 tk9 FL NL
        simp only [List.length_append, List.length_cons, List.length_nil] at hC
        replace NL := News.tail' (News.tail' NL)
        cases bo with
        | true =>
          have hbb := hbT rfl
          repeat' (first | (rename Fr _ _ _ _ => FX; rename News _ _ _ _ => NX; exact hQ1 _ ⟨_, _, _, _, rfl, FX, oneN NX (by k_mem)⟩) | (first | (k_unfold; (try dsimp only)) | (k_end; kc_close) | walk1 | (dsimp only; walk1) | (leave1; walk_say "STEP leave1"; (try dsimp only)) | fail "no step"))
        | false =>
          have hbb := hbF rfl
          repeat' (first | (rename Fr _ _ _ _ => FX; rename News _ _ _ _ => NX; exact hQ1 _ ⟨_, _, _, _, rfl, FX, oneN NX (by k_mem)⟩) | (first | (k_unfold; (try dsimp only)) | (k_end; kc_close) | walk1 | (dsimp only; walk1) | (leave1; walk_say "STEP leave1"; (try dsimp only)) | fail "no step")))

end Mine
theorem PySem.Challenge.cw_rh0197_01_holds : PySem.Challenge.rw_rh0197_01.Holds := by
  exact Mine.law
