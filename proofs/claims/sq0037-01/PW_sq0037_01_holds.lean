import PyProof.Rows.All
import Wide.All
import OpenK.AllK
import Wide.FinOn
import PySem.Challenge.RW_sq0037_01
open PySem PySem.W PyProof.Rows
set_option Elab.async false
set_option maxRecDepth 100000
set_option maxHeartbeats 8000000
section
local macro_rules | `(tactic| o_head $_t) => `(tactic| assumption)
theorem Mine.hd (h : PySem.Challenge.rw_sq0037_01.row.Holds) : PySem.Challenge.rw_sq0037_01.row.Holds := by k_head
end

namespace Mine
local macro_rules | `(tactic| walk_at $s:str) => `(tactic| k_extra $s)
theorem lay1 : True := by
  k_with_none
  trivial
section
open PySem PySem.W PyProof.Rows PySem.Calls PySem.Builtin PySem.Builtin.ObjectAttr

abbrev VE : List Value := [.type "ValueError", .type "Exception", .type "BaseException", .type "object"]

/-- the class at C is a plain exception class over the chain bm, made by ValueError's own maker -/
def pgIn (K : Frag) (C : Addr) (bm : List Value) : Bool := match K.lookup C with
  | some ⟨.type "type", _, .cls cd, sl⟩ => (match cd.mro, sl.toList with
    | .ref C' :: bm', [_, _, _, _, some (.builtin n), _] => C' == C && n == "ValueError.__new__" && !cd.hasDel && bm' == bm && cd.hasDict
    | _, _ => false)
  | _ => false
theorem pg_cls {K : Frag} {h : Heap} {C : Addr} {bm : List Value} (X : K.In h) (q : pgIn K C bm = true) :
    ∃ nm qn N bs sn sub ab col dd k0 k1 k2 k3 k5, h.get? C = some (excClassObj nm qn C N bs bm true sn sub ab col dd k0 k1 k2 k3 k5 "ValueError.__new__") := by
  unfold pgIn at q
  split at q
  · rename_i dd cd sl ho
    split at q
    · rename_i C' bm' k0 k1 k2 k3 n k5 hm hs
      simp only [Bool.and_eq_true, beq_iff_eq, Bool.not_eq_true'] at q
      obtain ⟨⟨⟨⟨rfl, rfl⟩, hdel⟩, hb⟩, hdict⟩ := q
      obtain ⟨nm, bs, mro, ns, qn, hd, sn, sub, ab, col, del⟩ := cd
      dsimp only at hm hdel hdict
      subst hm hdel hb hdict
      obtain ⟨l⟩ := sl
      simp only at hs
      subst hs
      exact ⟨nm, qn, ns, bs, sn, sub, ab, col, dd, k0, k1, k2, k3, k5, X _ _ ho⟩
    · cases q
  · cases q

section
variable {M : Model} {A : Around} {E : Value → Shared → Prop} {h : Heap} {g : Array GenState} {d : Drawn} {t : Nat} {os : OsState}
variable {nm q : Str} {C N : Addr} {bs bm : List Value} {hdct : Bool} {sn : List Str} {sub : List Value} {ab : Bool} {col : Option Bool} {dd : Option Addr} {k0 k1 k2 k3 k5 : Option Value}

theorem pg_check_new (hB : bm.contains (.type "ValueError") = true) {rest : List Value} {Q : Unit → Shared → Prop}
    (hC : h.get? C = some (excClassObj nm q C N bs bm hdct sn sub ab col dd k0 k1 k2 k3 k5 "ValueError.__new__")) (hq : Q () ⟨h, g, d, t, os⟩) :
    wpAny M A (checkBuiltinCall "ValueError.__new__" ⟨.ref C :: rest, []⟩) Q E ⟨h, g, d, t, os⟩ := by
  have Fn := PySem.F.excBase_ValueError
  have hcont : (Value.ref C :: bm).contains (.type "ValueError") = true := by rw [List.contains_cons, hB, Bool.or_true]
  have hstar := Fn.noStar
  simp only [checkBuiltinCall, Fn.newKind, Fn.newSplit, Fn.newRow]
  repeat (first | refine wpAny_loadPart_at hC ?_ | (refine wpAny_isSubtype_exc hC ?_; rw [hcont]) | refine wpAny_staticBase_exc hC ?_ | refine wpAny_madeBy_exc hC ?_ | simp only [bne_self_eq_false, Bool.false_eq_true, if_false] | wp_step)
  exact hq
end

abbrev excObj (C t : Addr) : Obj := { cls := .ref C, data := .fields #[.ref t, .none, .none, .none, .bool false, .none] }
abbrev tupObj (vs : List Value) : Obj := { cls := .type "tuple", data := .seq vs.toArray }

section
variable {prog : Program} {w : World} {A : Around} {R : Result → Shared → Prop} {h : Heap} {g : Array GenState} {d : Drawn} {t : Nat} {os : OsState}
variable {nm q : Str} {C N : Addr} {bs bm : List Value} {hdct : Bool} {sn : List Str} {sub : List Value} {ab : Bool} {col : Option Bool} {dd : Option Addr} {k0 k1 k2 k3 k5 : Option Value}

theorem pg_new (hB : bm.contains (.type "ValueError") = true) (hA : bm.contains (.type "AttributeError") = false) (hN : bm.contains (.type "NameError") = false) {rest : List Value}
    (hC : h.get? C = some (excClassObj nm q C N bs bm hdct sn sub ab col dd k0 k1 k2 k3 k5 "ValueError.__new__"))
    (hq : R (.ok (.ret (.ref (h.objs.size + 1)))) ⟨(h.push (tupObj rest)).push (excObj C h.objs.size), g, d, t, os⟩) (hrest : rest.length ≤ sizeLine := by size_fits) :
    codeAny (model prog w) A (.builtin "ValueError.__new__" ⟨.ref C :: rest, []⟩) R ⟨h, g, d, t, os⟩ := by
  have F := PySem.F.excBase_ValueError
  have hends := F.ends
  have hcB : (Value.ref C :: bm).contains (.type "ValueError") = true := by rw [List.contains_cons, hB, Bool.or_true]
  have hcA : (Value.ref C :: bm).contains (.type "AttributeError") = false := by rw [List.contains_cons, hA]; rfl
  have hcN : (Value.ref C :: bm).contains (.type "NameError") = false := by rw [List.contains_cons, hN]; rfl
  refine codeAny_builtinAt F.entry ?_
  unfold Builtin.«BaseException.__new__»
  refine PySem.wpAt_bind ?_
  show PySem.wpAt _ _ _ (stack >>= _) _ _ _
  refine PySem.wpAt_bind (PySem.wpAt_stack fun p below => PySem.wpAt_of_wpAny ?_)
  wp_walk
  refine PySem.wpAt_of_wpAny ?_
  rw [F.owner]
  repeat (first | with_reducible refine wpAny_madeHere_exc F.canon hC ?_ | with_reducible refine wpAny_loadPart_at hC ?_ | (with_reducible refine wpAny_isSubtype_exc hC ?_; first | rw [hcB] | rw [hcA] | rw [hcN]) | wp_step)
  show R _ _
  rw [Heap.size_push]
  exact hq
end

section
variable {prog : Program} {w : World} {A : Around} {E : Value → Shared → Prop} {s : Shared} {K : Frag} {C L fI : Addr} {h₀ : Heap} {m : Str → Option Value} {news : List (Addr × Obj)} {bm : List Value}

theorem pg_type_call {rest : List Value} {Q : Fin → Shared → Prop} (F : Fr h₀ L s.heap m) (X₀ : K.In h₀) (N : News h₀ L s.heap news)
    (hp : pgIn K C bm = true) (hi : findIn K (.ref C) "__init__" = some (some (.ref fI))) (hf : typeIn K (.ref fI) = some (.type "function"))
    (h : ∀ e t h', Fr h₀ L h' m → News h₀ L h' ((e, excObj C t) :: (t, tupObj rest) :: news) → (∀ p ∈ news, p.1 < t) → t < e →
      wpAny (model prog w) A (call (.ref fI) (.ref e :: rest)) (fun r s' => r = .none ∧ Q (.done (.ret (.ref e))) s') E { s with heap := h' })
    (hB : bm.contains (.type "ValueError") = true) (hA : bm.contains (.type "AttributeError") = false) (hN : bm.contains (.type "NameError") = false) (hrest : rest.length ≤ sizeLine) :
    wpAny (model prog w) A (Builtin.«type.__call__» ⟨.ref C :: rest, []⟩) Q E s := by
  have X := X₀.keeps F.keep
  obtain ⟨nm, q, Ns, bs, sn, sub, ab, col, dd, k0, k1, k2, k3, k5, hC⟩ := pg_cls X hp
  obtain ⟨hp, g, d, tk, os⟩ := s
  repeat (first | with_reducible refine wpAny_loadPart_at hC ?_ | with_reducible refine wpAny_madeBy_exc hC ?_ | wp_step)
  refine codeAny_call_builtin_code (Code.quiet_builtin _ PySem.F.excBase_ValueError.quiet) (pg_check_new hB hC ?_)
  refine pg_new hB hA hN hC ?_ hrest
  show wpAny _ _ _ _ _ _
  have kp : ∀ b o, hp.get? b = some o → ((hp.push (tupObj rest)).push (excObj C hp.objs.size)).get? b = some o := fun b o e => Heap.get?_push_of_some _ (Heap.get?_push_of_some _ e)
  have hC₁ := kp _ _ hC
  have hget : ((hp.push (tupObj rest)).push (excObj C hp.objs.size)).get? (hp.objs.size + 1) = some { cls := .ref C, data := .fields #[.ref hp.objs.size, .none, .none, .none, .bool false, .none] } := by heap_get
  have hcC : (Value.ref C :: bm).contains (.ref C) = true := by simp
  have N' := (N.push F (tupObj rest)).push (F.push _) (excObj C hp.objs.size)
  rw [Heap.size_push] at N'
  unfold isInstance
  repeat (first | with_reducible refine wpAny_loadPart_at hget ?_ | (with_reducible refine wpAny_isSubtype_exc hC₁ ?_; rw [hcC]) | wp_step)
  show wpAny _ _ (typeLookup (.ref C) _) _ _ _
  refine ((looks_findIn (X.keeps kp) hi).here ?_)
  refine wpAny_holding (wpAny_bind ?_)
  refine ((bind_fn (X.keeps kp) _ hf).here ?_)
  refine wpAny_bind (wpAny_mono (h _ hp.objs.size _ ((F.push _).push _) N' (fun p hp => Heap.lt_size (N p hp).1) (Nat.lt_succ_self _)) (fun r s' hr => ?_) fun _ _ x => x)
  obtain ⟨rfl, hQ⟩ := hr
  wp_walk
  exact hQ

theorem pg_call {rest : List Value} {Q : Value → Shared → Prop} (F : Fr h₀ L s.heap m) (X₀ : K.In h₀) (N : News h₀ L s.heap news)
    (hp : pgIn K C bm = true) (hi : findIn K (.ref C) "__init__" = some (some (.ref fI))) (hf : typeIn K (.ref fI) = some (.type "function"))
    (h : ∀ e t h', Fr h₀ L h' m → News h₀ L h' ((e, excObj C t) :: (t, tupObj rest) :: news) → (∀ p ∈ news, p.1 < t) → t < e →
      wpAny (model prog w) (A.under (.builtin "type.__call__" ⟨.ref C :: rest, []⟩)) (call (.ref fI) (.ref e :: rest)) (fun r s' => r = .none ∧ Q (.ref e) s') E { s with heap := h' })
    (hB : bm.contains (.type "ValueError") = true := by decide) (hA : bm.contains (.type "AttributeError") = false := by decide) (hN : bm.contains (.type "NameError") = false := by decide) (hrest : rest.length ≤ sizeLine := by size_fits) :
    wpAny (model prog w) A (call (.ref C) rest) Q E s := by
  have X := X₀.keeps F.keep
  obtain ⟨nm, q, Ns, bs, sn, sub, ab, col, dd, k0, k1, k2, k3, k5, hC⟩ := pg_cls X hp
  obtain ⟨hh, g, d, tk, os⟩ := s
  have f1 := tc_lookup
  have f2 := tc_bind (.ref C)
  have hT : (⟨hh, g, d, tk, os⟩ : Shared).TypeIs (.ref C) "type" := ⟨_, hC, rfl⟩
  refine wpAny_call (codeAny_of_tree ?_)
  show wpAny _ _ (callAny (.ref C) _) _ _ _
  repeat (any_goals (first | assumption | with_reducible refine wpAny_loadPart_at hC ?_ | wp_step))
  refine ⟨rfl, ?_⟩
  refine codeAny_call_builtin_at (Code.quiet_builtin _ (by decide +kernel)) entry_typeCall (wpAny_check_type_call_sub hC (pg_type_call F X₀ N hp hi hf (fun e t h' F' N' l1 l2 => ?_) hB hA hN hrest))
  exact h e t h' F' N' l1 l2
end

end
theorem lay2 : True := by
  k_with_none
  trivial
section
open PySem PySem.W PyProof.Rows PySem.Calls PySem.Builtin PySem.Builtin.ObjectAttr
section
variable {prog : Program} {w : World} {A : Around} {E : Value → Shared → Prop} {s : Shared} {K : Frag} {C P L fI : Addr} {h₀ : Heap} {m : Str → Option Value} {news rest : List (Addr × Obj)} {bm : List Value}
  {e t : Addr} {name : Str} {v : Value} {cd : ClassData}

theorem pg_osa {tk : Tok} {R : Result → Shared → Prop} (F : Fr h₀ L s.heap m) (X₀ : K.In h₀) (N : News h₀ L s.heap ((e, excObj C t) :: rest)) (hr : OwnOff rest [e])
    (hc : clsIn K C = some cd) (hmro : cd.mro = .ref C :: .ref P :: VE) (hdict : cd.hasDict = true) (ht : takerIn K C name = some none)
    (h : ∀ h' tk' d od, Fr h₀ L h' m → News h₀ L h' ((d, od) :: (e, { cls := .ref C, dict := some d, data := .fields #[.ref t, .none, .none, .none, .bool false, .none] }) :: rest) → (∀ p ∈ (e, excObj C t) :: rest, p.1 < d) →
      R (.ok (.ret .none)) { s with heap := h', toks := tk' }) :
    codeAny (model prog w) A (.call (.builtin "object.__setattr__") ⟨[.ref e, .str name tk, v], []⟩) R s := by
  have X := X₀.keeps F.keep
  have SF := PySem.F.store_object
  have he : s.heap.get? e = some (excObj C t) := (N _ (.head _)).1
  have ty : Looks (model prog w) s.heap (typeOf (.ref e)) (.ref C) := (Looks.ld (part := none) he).andThen .now
  have sub : Looks (model prog w) s.heap (isInstance (.ref e) (.type "object")) true := ty.andThen (looks_mroIn X (by unfold mroIn; rw [hc, Option.bind_some, hmro, if_neg (by simp)]; simp))
  refine codeAny_call_builtin SF.slot.plain SF.entry (@check_slot (model prog w) _ _ s "object.__setattr__" "object" "__setattr__" (.ref e) [.str name tk, v] [] _ SF.kind SF.split sub (SF.args (.ref e) (.str name tk) v) ?_)
  obtain ⟨attr, ha, hr'⟩ := Option.bind_eq_some_iff.mp ht
  have hm : Looks (model prog w) s.heap (mroOf (.ref C)) cd.mro := (looks_clsIn X hc).andThen .now
  have L3 : Looks (model prog w) s.heap (storeTaker? attr) none := by
    cases attr with
    | none => exact .now
    | some a =>
      obtain ⟨b, hb, q⟩ := Option.map_eq_some_iff.mp hr'
      refine (looks_takesIn X hb).andThen ?_
      cases b
      · exact .now
      · cases q
  rw [osa_eq, refuse_eq]
  refine wpAny_bind (wpAny_bind (ty.here (wpAny_bind (hm.here ?_))))
  rw [hmro, refuseLoop_ref, refuseLoop_ref, PySem.F.store_ValueError.passes]
  refine wpAny_pure (wpAny_bind (ty.here (wpAny_bind ((looks_findIn X ha).here (wpAny_bind (L3.here ?_))))))
  dsimp only
  show wpAny _ _ (instanceDict e true >>= _) _ _ _
  refine wpAny_bind (wpAny_bind (wpAny_loadPart he ?_))
  dsimp only
  refine wpAny_bind ((looks_clsIn X hc).here ?_)
  rw [hdict]
  simp only [Bool.not_true, Bool.false_eq_true, if_false, typeHasDict, Bool.or_false]
  obtain ⟨hh, g, d, tk0, os⟩ := s
  have xs : e < hh.objs.size := Heap.lt_size he
  have F1 := F.push emptyDict
  have N1 := N.push F emptyDict
  have off : ∀ p ∈ rest, p.1 ≠ e := fun p hp => hr p hp e (.head _)
  have ned : ∀ p ∈ [(hh.objs.size, emptyDict)], p.1 ≠ e := fun p hp q => by rw [List.mem_singleton.mp hp] at q; exact absurd xs (q ▸ Nat.lt_irrefl _)
  obtain ⟨F2, N2⟩ := news_upd (pre := [(hh.objs.size, emptyDict)]) (post := rest) (d := e) (o := excObj C t) (f := fun o => { o with dict := some hh.objs.size })
    (o' := { cls := .ref C, dict := some hh.objs.size, data := .fields #[.ref t, .none, .none, .none, .bool false, .none] }) F1 N1 ned off rfl rfl
  have off2 : ∀ p ∈ (e, ({ cls := .ref C, dict := some hh.objs.size, data := .fields #[.ref t, .none, .none, .none, .bool false, .none] } : Obj)) :: rest, p.1 ≠ hh.objs.size := fun p hp q => by
    rcases List.mem_cons.mp hp with rfl | hp
    · exact absurd xs (q ▸ Nat.lt_irrefl _)
    · exact absurd (Heap.lt_size (N p (.tail _ hp)).1) (q ▸ Nat.lt_irrefl _)
  obtain ⟨F3, N3⟩ := news_upd (pre := []) (post := _) (d := hh.objs.size) (o := emptyDict) (f := Obj.putName name (PyData.keyHash w.params name) (.str name tk0) v) F2 N2 (fun _ hp => nomatch hp) off2 rfl rfl
  have D := (N2 _ (.head _)).1
  have D' := (N3 _ (.head _)).1
  refine wpAny_bind (wpAny_alloc (wpAny_bind (wpAny_update (Heap.get?_push_of_some _ he) (wpAny_pure (wpAny_bind (wpAny_pure (wpAny_bind ?_)))))))
  unfold nsSet
  refine wpAny_bind (wpAny_bind (wpAny_askSetting (wpAny_pure (wpAny_bind (wpAny_mkText (wpAny_bind (wpAny_loadPart D ?_)))))))
  dsimp only
  have c : (!(#[] : Array DictEntry).any (·.key.isStr name) && (#[] : Array DictEntry).any (·.refKey)) = false := by simp
  rw [aRefKeyMayBeTheName_at, c]
  refine wpAny_updatePart D ?_
  refine wpAny_bind (wpAny_lookBehind D' ?_ ?_)
  · show (Obj.putName name (PyData.keyHash w.params name) (Value.str name tk0) v (dictOf [] 0)).data.pastItsLine = none
    rw [putName_dict]
    exact pastItsLine_dict (by rw [sizeLine_eq]; simp [putL])
  exact wpAny_pure (h _ _ _ _ F3 N3 (fun p hp => Heap.lt_size (N p hp).1))

theorem pg_set {Q : Unit → Shared → Prop} (F : Fr h₀ L s.heap m) (X₀ : K.In h₀) (N : News h₀ L s.heap ((e, excObj C t) :: rest)) (hr : OwnOff rest [e])
    (hc : clsIn K C = some cd) (hmro : cd.mro = .ref C :: .ref P :: VE) (hdict : cd.hasDict = true) (ht : takerIn K C name = some none)
    (hs : findIn K (.ref C) "__setattr__" = some (some (.builtin "object.__setattr__")))
    (h : ∀ h' tk' d od, Fr h₀ L h' m → News h₀ L h' ((d, od) :: (e, { cls := .ref C, dict := some d, data := .fields #[.ref t, .none, .none, .none, .bool false, .none] }) :: rest) → (∀ p ∈ (e, excObj C t) :: rest, p.1 < d) →
      Q () { s with heap := h', toks := tk' }) :
    wpAny (model prog w) A (setAttr (.ref e) name v) Q E s :=
  set_plain (X₀.keeps F.keep) (ox := excObj C t) (od := none) ⟨(N _ (.head _)).1, rfl, rfl, trivial⟩ hs
    (pg_osa (s := { s with toks := s.toks + 1 }) F X₀ N hr hc hmro hdict ht fun h' tk' d od F' N' l => h h' tk' d od F' N' l)
end

end
theorem lay3 : True := by
  k_with_none
  trivial
section
open PySem PySem.W PyProof.Rows PySem.Calls PySem.Builtin PySem.Builtin.ObjectAttr
/-- what is asked of an exception class of the text's -/
structure PgC (K : Frag) (C : Addr) : Prop where
  pg : pgIn K C (.ref 39 :: VE) = true
  init : findIn K (.ref C) "__init__" = some (some (.ref 36))
  cls : ∃ cd, clsIn K C = some cd ∧ cd.mro = .ref C :: .ref 39 :: VE ∧ cd.hasDict = true
  taker : takerIn K C "reason" = some none
  set : findIn K (.ref C) "__setattr__" = some (some (.builtin "object.__setattr__"))

section
variable {w : World} {pv : Program} {lv : List Str} {A A₀ : Around} {Q E : Value → Shared → Prop} {s : Shared} {env : Env} {outer : List Env} {C L : Addr} {base h₀ : Heap} {m : Str → Option Value} {rest : List (Addr × Obj)}
  {e t : Addr} {u : Str} {tk : Tok} {mean : ExcName → Option Value} {mg mb : Str → Option Value}

end
theorem lay4 : True := by
  (k_with "setAttr ref" => (k_here; (obtain ⟨cd9, q1, q2, q3⟩ := PgC.cls (by assumption)); (refine' pg_set ?k1 ?k2 ?k3 ?k4 q1 q2 q3 (PgC.taker (by assumption)) (PgC.set (by assumption)) ?_; (case k1 => k_asm); (case k2 => k_asm); (case k3 => k_asm); (case k4 => assumption); k_whole; intro h' tk' d' od' F' N' l1)))
  trivial
section
variable {w : World} {pv : Program} {lv : List Str} {A A₀ : Around} {Q E : Value → Shared → Prop} {s : Shared} {env : Env} {outer : List Env} {C L : Addr} {base h₀ : Heap} {m : Str → Option Value} {rest : List (Addr × Obj)}
  {e t : Addr} {u : Str} {tk : Tok} {mean : ExcName → Option Value} {mg mb : Str → Option Value}

theorem pg_init (hA : A.frames = some (env :: outer)) (hf : env.frame = some L) (hke : env.scope.kind = .function) (hroom : A.depth < recursionLimit)
    (B : Below A₀ base outer h₀) (F : Fr h₀ L s.heap m) (X : (Mine.hd.heap_1 w.params).In h₀) (T : Top pv lv mean mg mb h₀) (PC : PgC (Mine.hd.heap_1 w.params) C)
    (N : News h₀ L s.heap ((e, excObj C t) :: rest)) (hr : OwnOff rest [e])
    (hret : ∀ h' tk' d od, Fr h₀ L h' m → News h₀ L h' ((d, od) :: (e, { cls := .ref C, dict := some d, data := .fields #[.ref t, .none, .none, .none, .bool false, .none] }) :: rest) → (∀ p ∈ (e, excObj C t) :: rest, p.1 < d) → Q .none { s with heap := h', toks := tk' }) :
    wpAny (model PySem.Challenge.rw_sq0037_01.row.prog w) A (call (.ref 36) [.ref e, .str u tk]) Q E s := by
  refine wpAny_call ?_
  k_dflt (refine' code_def ?k1 ?k2 ?k3 ?k4 ?k5 ?kA ?kF ?kK ?k6 ?k7 ?k8 ?k9 ?kB ?_ ?c2 ?c3 ?c4 ?c5; (case kA => exact hA); (case kF => exact hf); (case kK => exact hke); (case k1 => k_asm); (case k2 => k_asm); (case k3 => k_asm); (case k4 => k_asm); (case k5 => k_asm); (case k6 => k_is); (case k7 => k_is); (case k8 => exact hroom); (case k9 => first | exact BindsTo.of_eq rfl | exact binds_K (by k_in) rfl (by k_is) rfl rfl rfl); (case c5 => decide); (case kB => exact locs rfl); (case c2 => exact rfl); (case c3 => exact rfl); (case c4 => exact rfl); k_whole; intro g' L' h' FG' F' N' B' X' T'; (try dsimp only); (try k_fold))
  k_steps
  exact hret _ _ _ _ (by assumption) (by assumption) (by assumption)
end

section
variable {M : Model} {A : Around} {E : Value → Shared → Prop} {s' : Shared} {base g : Heap} {outer : List Env} {L a e t C : Addr} {m : Str → Option Value} {name : Str} {scope : Scope} {cd : Value} {Q : Unit → Shared → Prop} {rest : List (Addr × Obj)} {oe : Obj} {vs : List Value}

theorem pg_leave (K : Below A base outer g) (F : Fr g L s'.heap m) (N : News g L s'.heap ((e, oe) :: (t, tupObj vs) :: rest)) (hoe : oe.cls = .ref C) (hod : oe.data = .fields #[.ref t, .none, .none, .none, .bool false, .none])
    (hr : OwnOff rest [e, t])
    (hQ : ∀ h', RaisedS base g outer e (.ref C) t vs rest h' → RaisedK base outer e (.ref C) t vs rest h' → g.UpToSlots h' → Q () { s' with heap := h' }) (hk : scope.kind = .function := by rfl) :
    wpAny M (A.deeper (envOf name scope L a cd)) (leaving (envOf name scope L a cd) (.ref e)) Q E s' := by
  have K' := K.push (name := name) (a := a) (cd := cd) F hk
  have he := (N _ (.head _)).1
  have ht := (N _ (.tail _ (.head _))).1
  have ne : g.get? e = none := (N _ (.head _)).2.2
  have nt : g.get? t = none := (N _ (.tail _ (.head _))).2.2
  have hin : ∀ env ∈ (envOf name scope L a cd :: outer), ∀ b, env.frame = some b → b ∈ e :: t :: (envOf name scope L a cd :: outer).filterMap (·.frame) := fun env he b hb => .tail _ (.tail _ (List.mem_filterMap.mpr ⟨env, he, hb⟩))
  have off : ∀ b o, g.get? b = some o → b ∉ outer.filterMap (·.frame) → b ∉ e :: t :: (envOf name scope L a cd :: outer).filterMap (·.frame) := fun b o q nm hm => by
    rcases List.mem_cons.mp hm with rfl | hm
    · rw [ne] at q; cases q
    rcases List.mem_cons.mp hm with rfl | hm
    · rw [nt] at q; cases q
    rcases kts_mem hm with z | z
    · rw [z, kts_self F] at q; cases q
    · exact nm z
  have sg : ∀ b o, g.get? b = some o → b ∉ outer.filterMap (·.frame) → (hideAll s'.heap (e :: t :: (envOf name scope L a cd :: outer).filterMap (·.frame))).get? b = some o :=
    fun b o q nm => hideAll_get _ (F.keep b o q) (off b o q nm)
  have st : base.StaysIn (hideAll s'.heap (e :: t :: (envOf name scope L a cd :: outer).filterMap (·.frame))) := fun b o q => sg b o (K.stays b o q) fun hm => by
    rw [(K.frames.mem hm).1] at q; cases q
  have hl : ∀ q ∈ rest, (hideAll s'.heap (e :: t :: (envOf name scope L a cd :: outer).filterMap (·.frame))).get? q.1 = some q.2 ∧ g.get? q.1 = none ∧ base.get? q.1 = none := fun q hq => by
    have P := N q (.tail _ (.tail _ hq))
    refine ⟨hideAll_get _ P.1 fun hm => ?_, P.2.2, fresh_of_stays K.stays P.2.2⟩
    rcases List.mem_cons.mp hm with z | hm
    · exact hr q hq e (.head _) z
    rcases List.mem_cons.mp hm with z | hm
    · exact hr q hq t (.tail _ (.head _)) z
    obtain ⟨env, he, hf⟩ := List.mem_filterMap.mp hm
    rcases List.mem_cons.mp he with rfl | he
    · exact P.2.1 (Option.some.inj hf).symm
    · obtain ⟨o, ho, _⟩ := (K.frames.mem (List.mem_filterMap.mpr ⟨env, he, hf⟩)).2
      rw [P.2.2] at ho; cases ho
  have nE : (hideAll s'.heap (e :: t :: (envOf name scope L a cd :: outer).filterMap (·.frame))).get? e = none := hideAll_none _ (.head _)
  have nT : (hideAll s'.heap (e :: t :: (envOf name scope L a cd :: outer).filterMap (·.frame))).get? t = none := hideAll_none _ (.tail _ (.head _))
  rw [← hoe] at hQ
  refine wpAny_leaving_firstW (a0 := .ref t) K'.stack (funFrames_hide K'.frames hin) rfl he (fun b o q => of_hideAll _ q) nE hod rfl rfl fun h' hL => ?_
  obtain ⟨k1, ⟨_, _, k2⟩, k3, k4⟩ := hL
  have R : RaisedS base g outer e oe.cls t vs rest h' := ⟨⟨_, st, sg, hl, ⟨k1, nE, k2, k3⟩, nT⟩, Heap.TupAt.of_slots ⟨_, _, ht, rfl, rfl⟩ k4⟩
  exact hQ h' R R.toK ((Heap.UpToSlots.of_keeps F.keep).trans k4)
end

section
variable {M : Model} {A : Around} {E : Value → Shared → Prop} {s : Shared} {env : Env} {K : Frag}

def PgThrown (K : Frag) (E : Value → Shared → Prop) (v : Value) (s₁ : Shared) : Prop :=
  ∃ e C t d, v = .ref e ∧ pgIn K C (.ref 39 :: VE) = true ∧ K.In s₁.heap ∧ s₁.heap.get? e = some { cls := .ref C, dict := some d, data := .fields #[.ref t, .none, .none, .none, .bool false, .none] } ∧ E (.ref e) s₁

theorem pg_raise {x : Sem Value} {Q : Flow → Shared → Prop} (hh : A.handled = none) (h : wpAny M A x (PgThrown K E) E s) : wpAny M A (raiseStmt env (some x) none) Q E s := by
  unfold raiseStmt
  refine wpAny_bind (wpAny_mono h (fun v s₁ h₁ => ?_) fun _ _ x => x)
  obtain ⟨e, C, t, d, rfl, hp, X, he, hE⟩ := h₁
  obtain ⟨nm, q, Ns, bs, sn, sub, ab, col, dd, k0, k1, k2, k3, k5, hC⟩ := pg_cls X hp
  have hcB : (Value.ref C :: Value.ref 39 :: VE).contains (.type "BaseException") = true := by simp
  obtain ⟨hp, g, d, tk, os⟩ := s₁
  repeat (first | with_reducible refine wpAny_loadPart_at he ?_ | with_reducible refine wpAny_loadPart_at hC ?_ | (with_reducible refine wpAny_isSubtype_exc hC ?_; rw [hcB]) | wp_step)
  exact wpAny_raiseNew_none hh hE
theorem pg_Raise {f : Expr} {args : List Expr} {kws : List Keyword} {cpos pos : Pos} {Q : Flow → Shared → Prop} (hh : A.handled = none)
    (h : wpAny M A (eval (.Call f args kws cpos) env) (PgThrown K E) E s) : wpAny M A (exec (.Raise (some (.Call f args kws cpos)) none pos) env) Q E s := by
  rw [arm_exec_Raise]
  refine wpAny_bind (wpAny_standAt (pg_raise (K := K) hh ?_))
  exact wpAny_bind (wpAny_mono h (fun v s₃ h₃ => wpAny_bind (wpAny_standAt (wpAny_pure h₃))) fun _ _ x => x)
end

end
theorem lay5 : True := by
  k_with_none
  trivial
section
variable {dp un : Nat} {gd : Option (List Code)} {cn : Str} {cs : Scope} {a : Addr} {ccd : Value} {cl : List (Str × Addr)} {outer : List Env} {A₀ : Around} {base h₀ : Heap} {L : Addr} {m : Str → Option Value} {s : Shared} {Q E : Value → Shared → Prop} {mean : ExcName → Option Value} {mg mb : Str → Option Value} {w : World} {pv : Program} {lv : List Str} {news : List (Addr × Obj)}

theorem is_whole (B : Below A₀ base outer h₀) (F : Fr h₀ L s.heap m) (X : (Mine.hd.heap_1 w.params).In h₀) (N : News h₀ L s.heap news) (T : Top pv lv mean mg mb h₀) (hk : cs.kind = .function) (hd : dp + 1 < recursionLimit)
  {v l u : Int} {tv tl tu : Tok}
  (hret : ∀ h' tk', Fr h₀ L h' m → News h₀ L h' news → Q (.bool (decide (l ≤ v ∧ v ≤ u))) { s with heap := h', toks := tk' }) :
  wpAny (model PySem.Challenge.rw_sq0037_01.row.prog w) (ktrTop dp un gd cn cs L a ccd cl outer) (call (.ref 89) [.int v tv, .int l tl, .int u tu]) Q E s := by
  refine wpAny_call ?_
  k_dflt cell_enter
  k_steps
  · rw [show decide (v ≤ u) = decide (l ≤ v ∧ v ≤ u) from decide_eq_decide.mpr (by omega)]
    exact hret _ _ (by assumption) (by assumption)
  · rw [show decide (l ≤ v) = decide (l ≤ v ∧ v ≤ u) from decide_eq_decide.mpr (by omega)]
    exact hret _ _ (by assumption) (by assumption)

theorem check_whole (B : Below A₀ base outer h₀) (F : Fr h₀ L s.heap m) (X : (Mine.hd.heap_1 w.params).In h₀) (N : News h₀ L s.heap news) (T : Top pv lv mean mg mb h₀) (hk : cs.kind = .function) (hd : dp + 1 < recursionLimit)
  {v : Int} {tv : Tok}
  (hret : ∀ h' tk', Fr h₀ L h' m → News h₀ L h' news → Q (.int v tv) { s with heap := h', toks := tk' }) :
  wpAny (model PySem.Challenge.rw_sq0037_01.row.prog w) (ktrTop dp un gd cn cs L a ccd cl outer) (call (.ref 96) [.int v tv]) Q E s := by
  refine wpAny_call ?_
  k_dflt cell_enter
  k_steps
  exact hret _ _ (by assumption) (by assumption)
end
theorem lay6 : True := by
  (k_with "call ref" => (k_here; (with_reducible show wpAny _ _ (call (Value.ref 89) [Value.int _ _, Value.int _ _, Value.int _ _]) _ _ _); k_dflt (refine' Mine.is_whole ?k1 ?k2 ?k3 ?k4 ?k5 ?kK ?kd  ?_; (case k1 => k_asm); (case k2 => k_asm); (case k3 => k_asm); (case k4 => k_asm); (case k5 => k_asm); (case kK => first | exact rfl | assumption); (case kd => ktr_room);  k_whole; intro h' tk' F' N';  (try dsimp only); (try k_sweep); (try k_fold))))
  (k_with "call ref" => (k_here; (with_reducible show wpAny _ _ (call (Value.ref 96) [Value.int _ _]) _ _ _); k_dflt (refine' Mine.check_whole ?k1 ?k2 ?k3 ?k4 ?k5 ?kK ?kd  ?_; (case k1 => k_asm); (case k2 => k_asm); (case k3 => k_asm); (case k4 => k_asm); (case k5 => k_asm); (case kK => first | exact rfl | assumption); (case kd => ktr_room);  k_whole; intro h' tk' F' N';  (try dsimp only); (try k_sweep); (try k_fold))))
  trivial
section
variable {dp un : Nat} {gd : Option (List Code)} {cn : Str} {cs : Scope} {a : Addr} {ccd : Value} {cl : List (Str × Addr)} {outer : List Env} {A₀ : Around} {base h₀ : Heap} {L : Addr} {m : Str → Option Value} {s : Shared} {Q E : Value → Shared → Prop} {mean : ExcName → Option Value} {mg mb : Str → Option Value} {w : World} {pv : Program} {lv : List Str} {news : List (Addr × Obj)}

theorem check_dimen (B : Below A₀ base outer h₀) (F : Fr h₀ L s.heap m) (X : (Mine.hd.heap_1 w.params).In h₀) (N : News h₀ L s.heap news) (T : Top pv lv mean mg mb h₀) (hk : cs.kind = .function) (hd : dp + 2 < recursionLimit)
  {v : Int} {tv : Tok} (hv : -1073741823 ≤ v) (hv' : v ≤ 1073741823)
  (hret : ∀ h' tk', Fr h₀ L h' m → News h₀ L h' news → Q (.int v tv) { s with heap := h', toks := tk' }) :
  wpAny (model PySem.Challenge.rw_sq0037_01.row.prog w) (ktrTop dp un gd cn cs L a ccd cl outer) (call (.ref 103) [.int v tv]) Q E s := by
  refine wpAny_call ?_
  k_dflt cell_enter
  k_steps
  exact hret _ _ (by assumption) (by assumption)
end
local macro_rules | `(tactic| k_room) => `(tactic| ktr_room)
local macro_rules | `(tactic| k_mem) => `(tactic| first | exact List.Mem.head _ | with_reducible assumption | (refine' List.mem_cons_of_mem _ ?_; k_mem))
theorem lay7 : True := by
  (k_with "call ref" => (k_here; (with_reducible show wpAny _ _ (call (Value.ref 103) [Value.int _ _]) _ _ _); k_dflt (refine' Mine.check_dimen ?k1 ?k2 ?k3 ?k4 ?k5 ?kK ?kd ?e1 ?e2 ?_; (case k1 => k_asm); (case k2 => k_asm); (case k3 => k_asm); (case k4 => k_asm); (case k5 => k_asm); (case kK => first | exact rfl | assumption); (case kd => ktr_room); (case e1 => first | assumption | omega); (case e2 => first | assumption | omega); k_whole; intro h' tk' F' N';  (try dsimp only); (try k_sweep); (try k_fold))))
  trivial
section
variable {dp un : Nat} {gd : Option (List Code)} {cn : Str} {cs : Scope} {a : Addr} {ccd : Value} {cl : List (Str × Addr)} {outer : List Env} {A₀ : Around} {base h₀ : Heap} {L : Addr} {m : Str → Option Value} {s : Shared} {Q E : Value → Shared → Prop} {mean : ExcName → Option Value} {mg mb : Str → Option Value} {w : World} {pv : Program} {lv : List Str} {news : List (Addr × Obj)}

abbrev gObj (w : World) (v1 v2 v3 v4 v5 : Int) (k1 k2 k3 k4 k5 t1 t2 t3 t4 t5 : Tok) : Obj := dictOf
  [⟨PyData.keyHash w.params (Str.ofString "width"), .str (Str.ofString "width") k1, .int v1 t1⟩, ⟨PyData.keyHash w.params (Str.ofString "stretch"), .str (Str.ofString "stretch") k2, .int v2 t2⟩,
   ⟨PyData.keyHash w.params (Str.ofString "stretch_order"), .str (Str.ofString "stretch_order") k3, .int v3 t3⟩, ⟨PyData.keyHash w.params (Str.ofString "shrink"), .str (Str.ofString "shrink") k4, .int v4 t4⟩,
   ⟨PyData.keyHash w.params (Str.ofString "shrink_order"), .str (Str.ofString "shrink_order") k5, .int v5 t5⟩] 5
def ordOf (v o : Int) : Int := if v = 0 then 0 else o
theorem ordOf_z {v o : Int} (h : v = 0) : ordOf v o = 0 := if_pos h
theorem ordOf_n {v o : Int} (h : v ≠ 0) : ordOf v o = o := if_neg h
theorem dup {h₀ h : Heap} {L : Addr} {news : List (Addr × Obj)} {p : Addr × Obj} (N : News h₀ L h news) (hp : p ∈ news) : News h₀ L h (p :: news) := fun q hq => by
  rcases List.mem_cons.mp hq with rfl | hq
  · exact N _ hp
  · exact N _ hq

theorem glue_new (B : Below A₀ base outer h₀) (F : Fr h₀ L s.heap m) (X : (Mine.hd.heap_1 w.params).In h₀) (N : News h₀ L s.heap news) (T : Top pv lv mean mg mb h₀) (hk : cs.kind = .function) (hd : dp + 4 < recursionLimit)
  {v1 v2 v3 v4 v5 : Int} {t1 t2 t3 t4 t5 : Tok} (h1 : -1073741823 ≤ v1) (h1' : v1 ≤ 1073741823) (h2 : -1073741823 ≤ v2) (h2' : v2 ≤ 1073741823) (h4 : -1073741823 ≤ v4) (h4' : v4 ≤ 1073741823)
  (h3 : 0 ≤ v3) (h3' : v3 ≤ 3) (h5 : 0 ≤ v5) (h5' : v5 ≤ 3)
  (hret : ∀ x d k1 k2 k3 k4 k5 u3 u5 h' tk', Fr h₀ L h' m → News h₀ L h' ((x, instObj 220 d) :: (d, gObj w v1 v2 (ordOf v2 v3) v4 (ordOf v4 v5) k1 k2 k3 k4 k5 t1 t2 u3 t4 u5) :: news) → (∀ p ∈ news, p.1 < d) → d < x → Q (.ref x) { s with heap := h', toks := tk' }) :
  wpAny (model PySem.Challenge.rw_sq0037_01.row.prog w) (ktrTop dp un gd cn cs L a ccd cl outer) (call (.ref 220) [.int v1 t1, .int v2 t2, .int v3 t3, .int v4 t4, .int v5 t5]) Q E s := by
  k_dflt (refine' call_cls ?k1 ?k2 ?k3 ?k4 ?k5 ?k6 ?_; (case k1 => k_asm); (case k2 => k_asm); (case k3 => k_asm); (case k4 => k_is); (case k5 => k_is); (case k6 => k_is); k_whole; intro x' d' h' F' N' l1 l2; (try k_lt l1); (try k_lt2 l2); (try k_sweep))
  k_dflt (refine' code_def ?k1 ?k2 ?k3 ?k4 ?k5 ?kA ?kF ?kK ?k6 ?k7 ?k8 ?k9 ?kB ?_ ?c2 ?c3 ?c4 ?c5; (case kA => exact rfl); (case kF => exact rfl); (case kK => first | exact rfl | assumption); (case k1 => k_asm); (case k2 => k_asm); (case k3 => k_asm); (case k4 => k_asm); (case k5 => k_asm); (case k6 => k_is); (case k7 => k_is); (case k8 => ktr_room); (case k9 => first | exact BindsTo.of_eq rfl | exact binds_K (by k_in) rfl (by k_is) rfl rfl rfl); (case c5 => decide); (case kB => exact locs rfl); (case c2 => exact rfl); (case c3 => exact rfl); (case c4 => exact rfl); k_whole; intro g' L' h' FG' F' N' B' X' T'; (try dsimp only); (try k_fold))
  k_steps
  all_goals (refine' hret _ _ _ _ _ _ _ _ _ _ _ ?hF ?hN ?hl ?hx; (case hF => assumption); (case hN => ((first | rw [ordOf_n (by assumption), ordOf_n (by assumption)] | rw [ordOf_n (by assumption), ordOf_z (by assumption)] | rw [ordOf_z (by assumption), ordOf_n (by assumption)] | rw [ordOf_z (by assumption), ordOf_z (by assumption)]); assumption)); (case hl => assumption); (case hx => assumption))

theorem glue_parts (B : Below A₀ base outer h₀) (F : Fr h₀ L s.heap m) (X : (Mine.hd.heap_1 w.params).In h₀) (N : News h₀ L s.heap news) (T : Top pv lv mean mg mb h₀) (hk : cs.kind = .function) (hd : dp + 1 < recursionLimit)
  {x d : Addr} {v1 v2 v3 v4 v5 : Int} {k1 k2 k3 k4 k5 t1 t2 t3 t4 t5 : Tok} (hx : (x, instObj 220 d) ∈ news) (hg : (d, gObj w v1 v2 v3 v4 v5 k1 k2 k3 k4 k5 t1 t2 t3 t4 t5) ∈ news)
  (hret : ∀ r h' tk', Fr h₀ L h' m → News h₀ L h' ((r, tupObj [.int v1 t1, .int v2 t2, .int v3 t3, .int v4 t4, .int v5 t5]) :: news) → (∀ p ∈ news, p.1 < r) → Q (.ref r) { s with heap := h', toks := tk' }) :
  wpAny (model PySem.Challenge.rw_sq0037_01.row.prog w) (ktrTop dp un gd cn cs L a ccd cl outer) (call (.ref 174) [.ref x]) Q E s := by
  refine wpAny_call ?_
  k_dflt (refine' code_def ?k1 ?k2 ?k3 ?k4 ?k5 ?kA ?kF ?kK ?k6 ?k7 ?k8 ?k9 ?kB ?_ ?c2 ?c3 ?c4 ?c5; (case kA => exact rfl); (case kF => exact rfl); (case kK => first | exact rfl | assumption); (case k1 => k_asm); (case k2 => k_asm); (case k3 => k_asm); (case k4 => k_asm); (case k5 => k_asm); (case k6 => k_is); (case k7 => k_is); (case k8 => ktr_room); (case k9 => first | exact BindsTo.of_eq rfl | exact binds_K (by k_in) rfl (by k_is) rfl rfl rfl); (case c5 => decide); (case kB => exact locs rfl); (case c2 => exact rfl); (case c3 => exact rfl); (case c4 => exact rfl); k_whole; intro g' L' h' FG' F' N' B' X' T'; (try dsimp only); (try k_fold))
  k_steps
  exact hret _ _ _ (by assumption) (by assumption) (by assumption)
end

theorem lay8 : True := by
  k_with_none
  trivial
section
variable {dp un : Nat} {gd : Option (List Code)} {cn : Str} {cs : Scope} {a : Addr} {ccd : Value} {cl : List (Str × Addr)} {outer : List Env} {A₀ : Around} {base h₀ : Heap} {L : Addr} {m : Str → Option Value} {s : Shared} {Q E : Value → Shared → Prop} {mean : ExcName → Option Value} {mg mb : Str → Option Value} {w : World} {pv : Program} {lv : List Str} {news : List (Addr × Obj)}

theorem pow230 {prog : Program} {w : World} {A : Around} {E : Value → Shared → Prop} {s : Shared} {ta tb : Tok} {Q : Value → Shared → Prop} (h : Q (.int 1073741824 s.toks) { s with toks := s.toks + 1 }) :
    wpAny (model prog w) A (binaryOp .Pow (.int 2 ta) (.int 30 tb)) Q E s :=
  pow_int_small (by decide) (by decide) (by decide) (by
    have e : (2 : Int) ^ (30 : Int).toNat = 1073741824 := by decide +kernel
    rw [e]; exact h)
end
theorem lay9 : True := by
  (k_with "binaryOp Pow int int" => (k_here; (with_reducible show wpAny _ _ (binaryOp Operator.Pow (Value.int 2 _) (Value.int 30 _)) _ _ _); refine Mine.pow230 ?_; (try dsimp only)))
  trivial
section
variable {dp un : Nat} {gd : Option (List Code)} {cn : Str} {cs : Scope} {a : Addr} {ccd : Value} {cl : List (Str × Addr)} {outer : List Env} {A₀ : Around} {base h₀ : Heap} {L : Addr} {m : Str → Option Value} {s : Shared} {Q E : Value → Shared → Prop} {mean : ExcName → Option Value} {mg mb : Str → Option Value} {w : World} {pv : Program} {lv : List Str} {news : List (Addr × Obj)}

def absZ (v : Int) : Int := if v < 0 then -v else v
def nearZ (v up down : Int) : Int := if 0 < v then (absZ v * up).fdiv down else -((absZ v * up).fdiv down)
theorem nearZ_p {v up down : Int} (h : 0 < v) : nearZ v up down = (absZ v * up).fdiv down := if_pos h
theorem nearZ_n {v up down : Int} (h : ¬ 0 < v) : nearZ v up down = -((absZ v * up).fdiv down) := if_neg h

theorem near (B : Below A₀ base outer h₀) (F : Fr h₀ L s.heap m) (X : (Mine.hd.heap_1 w.params).In h₀) (N : News h₀ L s.heap news) (T : Top pv lv mean mg mb h₀) (hk : cs.kind = .function) (hd : dp + 1 < recursionLimit)
  {v up down : Int} {tv tu td : Tok} (h1 : -1073741823 ≤ v) (h1' : v ≤ 1073741823) (h2 : 1 ≤ up) (h2' : up ≤ 32767) (h3 : 1 ≤ down) (h3' : down ≤ 32767)
  (hret : ∀ t h' tk', Fr h₀ L h' m → News h₀ L h' news → Q (.int (nearZ v up down) t) { s with heap := h', toks := tk' }) :
  wpAny (model PySem.Challenge.rw_sq0037_01.row.prog w) (ktrTop dp un gd cn cs L a ccd cl outer) (call (.ref 456) [.int v tv, .int up tu, .int down td]) Q E s := by
  refine wpAny_call ?_
  k_dflt (refine' code_def ?k1 ?k2 ?k3 ?k4 ?k5 ?kA ?kF ?kK ?k6 ?k7 ?k8 ?k9 ?kB ?_ ?c2 ?c3 ?c4 ?c5; (case kA => exact rfl); (case kF => exact rfl); (case kK => first | exact rfl | assumption); (case k1 => k_asm); (case k2 => k_asm); (case k3 => k_asm); (case k4 => k_asm); (case k5 => k_asm); (case k6 => k_is); (case k7 => k_is); (case k8 => ktr_room); (case k9 => first | exact BindsTo.of_eq rfl | exact binds_K (by k_in) rfl (by k_is) rfl rfl rfl); (case c5 => decide); (case kB => exact locs rfl); (case c2 => exact rfl); (case c3 => exact rfl); (case c4 => exact rfl); k_whole; intro g' L' h' FG' F' N' B' X' T'; (try dsimp only); (try k_fold))
  k_steps
  · rw [nearZ_p (by assumption)] at hret
    exact hret _ _ _ (by assumption) (by assumption)
  · rw [nearZ_n (by assumption)] at hret
    exact hret _ _ _ (by assumption) (by assumption)
theorem sizes (B : Below A₀ base outer h₀) (F : Fr h₀ L s.heap m) (X : (Mine.hd.heap_1 w.params).In h₀) (N : News h₀ L s.heap news) (T : Top pv lv mean mg mb h₀) (hk : cs.kind = .function) (hd : dp + 1 < recursionLimit)
  (hret : ∀ r t1 t2 t3 t4 t5 t6 t7 t8 t9 h' tk', Fr h₀ L h' m → News h₀ L h' ((r, tupObj [.int 0 t1, .int 1 t2, .int (-1) t3, .int 65536 t4, .int 218453 t5, .int 72818 t6, .int (-98304) t7, .int 1073741823 t8, .int (-1073741823) t9]) :: news) → (∀ p ∈ news, p.1 < r) → Q (.ref r) { s with heap := h', toks := tk' }) :
  wpAny (model PySem.Challenge.rw_sq0037_01.row.prog w) (ktrTop dp un gd cn cs L a ccd cl outer) (call (.ref 419) []) Q E s := by
  refine wpAny_call ?_
  k_dflt (refine' code_def ?k1 ?k2 ?k3 ?k4 ?k5 ?kA ?kF ?kK ?k6 ?k7 ?k8 ?k9 ?kB ?_ ?c2 ?c3 ?c4 ?c5; (case kA => exact rfl); (case kF => exact rfl); (case kK => first | exact rfl | assumption); (case k1 => k_asm); (case k2 => k_asm); (case k3 => k_asm); (case k4 => k_asm); (case k5 => k_asm); (case k6 => k_is); (case k7 => k_is); (case k8 => ktr_room); (case k9 => first | exact BindsTo.of_eq rfl | exact binds_K (by k_in) rfl (by k_is) rfl rfl rfl); (case c5 => decide); (case kB => exact locs rfl); (case c2 => exact rfl); (case c3 => exact rfl); (case c4 => exact rfl); k_whole; intro g' L' h' FG' F' N' B' X' T'; (try dsimp only); (try k_fold))
  k_steps
  exact hret _ _ _ _ _ _ _ _ _ _ _ _ (by assumption) (by assumption) (by assumption)
theorem lbag (B : Below A₀ base outer h₀) (F : Fr h₀ L s.heap m) (X : (Mine.hd.heap_1 w.params).In h₀) (N : News h₀ L s.heap news) (T : Top pv lv mean mg mb h₀) (hk : cs.kind = .function) (hd : dp + 1 < recursionLimit) {c : Int} {tc : Tok} (hc : 0 ≤ c)
  (hret : ∀ r x y t1 t2 t3 h' tk', 0 ≤ y → y < 2147483648 → Fr h₀ L h' m → News h₀ L h' ((r, listOf #[.int x t1, .int y t2, .int 0 t3] 0) :: news) → (∀ p ∈ news, p.1 < r) → Q (.ref r) { s with heap := h', toks := tk' }) :
  wpAny (model PySem.Challenge.rw_sq0037_01.row.prog w) (ktrTop dp un gd cn cs L a ccd cl outer) (call (.ref 435) [.int c tc]) Q E s := by
  refine wpAny_call ?_
  k_dflt (refine' code_def ?k1 ?k2 ?k3 ?k4 ?k5 ?kA ?kF ?kK ?k6 ?k7 ?k8 ?k9 ?kB ?_ ?c2 ?c3 ?c4 ?c5; (case kA => exact rfl); (case kF => exact rfl); (case kK => first | exact rfl | assumption); (case k1 => k_asm); (case k2 => k_asm); (case k3 => k_asm); (case k4 => k_asm); (case k5 => k_asm); (case k6 => k_is); (case k7 => k_is); (case k8 => ktr_room); (case k9 => first | exact BindsTo.of_eq rfl | exact binds_K (by k_in) rfl (by k_is) rfl rfl rfl); (case c5 => decide); (case kB => exact locs rfl); (case c2 => exact rfl); (case c3 => exact rfl); (case c4 => exact rfl); k_whole; intro g' L' h' FG' F' N' B' X' T'; (try dsimp only); (try k_fold))
  k_steps
  refine hret _ _ _ _ _ _ _ _ (Int.fmod_nonneg_of_pos _ (show (0 : Int) < 2147483629 by decide)) (Int.lt_trans (Int.fmod_lt_of_pos _ (show (0 : Int) < 2147483629 by decide)) (by decide)) (by assumption) (by assumption) (by assumption)
end

theorem lay10 : True := by
  k_with_none
  trivial
theorem pw1 {y z : Int} (hy : 0 ≤ y) (hy' : y < 2147483648) (hz : 0 ≤ z) (hz' : z < 1000) : (y + 40961 * (z + 1) + 577).natAbs < 2 ^ 64 := by omega
theorem pw2 {A z : Int} (hz : 0 ≤ z) (hz' : z < 1000) : (A.fmod 2147483647 + 104729 * (z + 1)).natAbs < 2 ^ 64 := by
  have h1 := Int.fmod_nonneg_of_pos A (show (0 : Int) < 2147483647 by decide)
  have h2 := Int.fmod_lt_of_pos A (show (0 : Int) < 2147483647 by decide)
  omega
theorem lay11 : True := by
  (k_with "binaryOp Pow int int" => (k_here; (refine' pow_int_small (by decide) (by decide) ?a ?_; (case a => k_dflt (first | (refine pw1 ?_ ?_ ?_ ?_ <;> assumption) | (refine pw2 ?_ ?_ <;> assumption)))); (try dsimp only)))
  trivial
section
variable {dp un : Nat} {gd : Option (List Code)} {cn : Str} {cs : Scope} {a : Addr} {ccd : Value} {cl : List (Str × Addr)} {outer : List Env} {A₀ : Around} {base h₀ : Heap} {L : Addr} {m : Str → Option Value} {s : Shared} {Q E : Value → Shared → Prop} {mean : ExcName → Option Value} {mg mb : Str → Option Value} {w : World} {pv : Program} {lv : List Str}

theorem draw0 (B : Below A₀ base outer h₀) (F : Fr h₀ L s.heap m) (X : (Mine.hd.heap_1 w.params).In h₀) (T : Top pv lv mean mg mb h₀) (hk : cs.kind = .function) (hd : dp + 1 < recursionLimit) 
  {bag : Addr} {x y z : Int} {tx ty tz : Tok} {n : Nat} {rest : List (Addr × Obj)} (N : News h₀ L s.heap ((bag, listOf #[.int x tx, .int y ty, .int z tz] n) :: rest)) (hr : OwnOff rest [bag])
  (hy : 0 ≤ y) (hy' : y < 2147483648) (hz : 0 ≤ z) (hz' : z < 1000) {many : Int} {tm : Tok} (hm : 1 ≤ many) (hm' : many ≤ 40000)
  (hret : ∀ r tr x' tx' z' tz' h' tk', 0 ≤ r → r < many → 0 ≤ z' → z' ≤ z + 1 → Fr h₀ L h' m → News h₀ L h' ((bag, listOf #[.int x' tx', .int y ty, .int z' tz'] n) :: rest) → Q (.int r tr) { s with heap := h', toks := tk' }) :
  wpAny (model PySem.Challenge.rw_sq0037_01.row.prog w) (ktrTop dp un gd cn cs L a ccd cl outer) (call (.ref 442) [.ref bag, .int many tm]) Q E s := by
  refine wpAny_call ?_
  k_dflt cell_enter
  k_steps
  · refine' hret _ _ _ _ _ _ _ _ (Int.fmod_nonneg_of_pos _ ?_) (Int.fmod_lt_of_pos _ ?_) hz (Int.le_add_of_nonneg_right (by decide)) ?hF ?hN
    case hN => assumption
    case hF => assumption
    all_goals omega
  · refine' hret _ _ _ _ _ _ _ _ (Int.fmod_nonneg_of_pos _ ?_) (Int.fmod_lt_of_pos _ ?_) ?_ (Int.le_refl _) ?hF ?hN
    case hN => assumption
    case hF => assumption
    all_goals omega
theorem updF_head {h₀ h : Heap} {L d : Addr} {o : Obj} {news : List (Addr × Obj)} {u : Obj → List (Addr × Obj)} (U : UpdF d o news u) (N : News h₀ L h news) :
    ∃ rest, News h₀ L h ((d, o) :: rest) ∧ OwnOff rest [d] ∧ (∀ h' o', News h₀ L h' ((d, o') :: rest) → News h₀ L h' (u o')) ∧ (∀ (t : Nat) o', (∀ p ∈ (d, o') :: rest, p.1 < t) → ∀ p ∈ u o', p.1 < t) := by
  obtain ⟨pre, post, rfl, e2, hpre, hpost⟩ := U.split
  have mem : ∀ (o' : Obj) p, p ∈ pre ++ (d, o') :: post → p ∈ (d, o') :: (pre ++ post) := fun o' p hp => by
    rcases List.mem_append.mp hp with h | h
    · exact .tail _ (List.mem_append.mpr (.inl h))
    · rcases List.mem_cons.mp h with rfl | h
      · exact .head _
      · exact .tail _ (List.mem_append.mpr (.inr h))
  refine ⟨pre ++ post, fun p hp => N p ?_, fun p hp b hb => ?_, fun h' o' N' p hp => ?_, fun t o' l p hp => ?_⟩
  · rcases List.mem_cons.mp hp with rfl | hp
    · exact List.mem_append.mpr (.inr (.head _))
    · rcases List.mem_append.mp hp with h | h
      · exact List.mem_append.mpr (.inl h)
      · exact List.mem_append.mpr (.inr (.tail _ h))
  · rw [List.mem_singleton.mp hb]
    rcases List.mem_append.mp hp with h | h
    · exact hpre p h
    · exact hpost p h
  · rw [e2] at hp; exact N' p (mem o' p hp)
  · rw [e2] at hp; exact l p (mem o' p hp)

theorem draw (B : Below A₀ base outer h₀) (F : Fr h₀ L s.heap m) (X : (Mine.hd.heap_1 w.params).In h₀) {news : List (Addr × Obj)} (N : News h₀ L s.heap news) (T : Top pv lv mean mg mb h₀) (hk : cs.kind = .function) (hd : dp + 1 < recursionLimit)
  {bag : Addr} {x y z : Int} {tx ty tz : Tok} {n : Nat} {u : Obj → List (Addr × Obj)} (U : UpdF bag (listOf #[.int x tx, .int y ty, .int z tz] n) news u)
  (hy : 0 ≤ y) (hy' : y < 2147483648) (hz : 0 ≤ z) (hz' : z < 1000) {many : Int} {tm : Tok} (hm : 1 ≤ many) (hm' : many ≤ 40000)
  (hret : ∀ r tr x' tx' z' tz' h' tk', 0 ≤ r → r < many → 0 ≤ z' → z' ≤ z + 1 → Fr h₀ L h' m → News h₀ L h' (u (listOf #[.int x' tx', .int y ty, .int z' tz'] n)) → Q (.int r tr) { s with heap := h', toks := tk' }) :
  wpAny (model PySem.Challenge.rw_sq0037_01.row.prog w) (ktrTop dp un gd cn cs L a ccd cl outer) (call (.ref 442) [.ref bag, .int many tm]) Q E s := by
  obtain ⟨rest, N1, hr, back, _⟩ := updF_head U N
  exact draw0 B F X T hk hd N1 hr hy hy' hz hz' hm hm' fun r tr x' tx' z' tz' h' tk' a1 a2 a3 a4 F' N' => hret r tr x' tx' z' tz' h' tk' a1 a2 a3 a4 F' (back _ _ N')
end

theorem lay12 : True := by
  k_with_none
  trivial
section
variable {dp un : Nat} {gd : Option (List Code)} {cn : Str} {cs : Scope} {a : Addr} {ccd : Value} {cl : List (Str × Addr)} {outer : List Env} {A₀ : Around} {base h₀ : Heap} {L : Addr} {m : Str → Option Value} {s : Shared} {Q E : Value → Shared → Prop} {mean : ExcName → Option Value} {mg mb : Str → Option Value} {w : World} {pv : Program} {lv : List Str} {news : List (Addr × Obj)}
end
theorem lay13 : True := by
  (k_with "call ref" => (k_here; (with_reducible show wpAny _ _ (call (Value.ref 419) _) _ _ _); k_dflt (refine' Mine.sizes ?k1 ?k2 ?k3 ?k4 ?k5 ?kK ?kd  ?_; (case k1 => k_asm); (case k2 => k_asm); (case k3 => k_asm); (case k4 => k_asm); (case k5 => k_asm); (case kK => first | exact rfl | assumption); (case kd => ktr_room);  k_whole; intro r' t1' t2' t3' t4' t5' t6' t7' t8' t9' h' tk' F' N' l1; (try k_lt l1); (try dsimp only); (try k_sweep); (try k_fold))))
  (k_with "call ref" => (k_here; (with_reducible show wpAny _ _ (call (Value.ref 442) [Value.ref _, Value.int _ _]) _ _ _); k_dflt (refine' Mine.draw ?k1 ?k2 ?k3 ?k4 ?k5 ?kK ?kd ?U ?y1 ?y2 ?z1 ?z2 ?m1 ?m2 ?_; (case k1 => k_asm); (case k2 => k_asm); (case k3 => k_asm); (case k4 => k_asm); (case k5 => k_asm); (case kK => first | exact rfl | assumption); (case kd => ktr_room); (case U => k_updF); (case y1 => first | assumption | omega); (case y2 => first | assumption | omega); (case z1 => first | assumption | omega); (case z2 => first | assumption | omega); (case m1 => first | assumption | omega); (case m2 => first | assumption | omega); k_whole; intro d' td' x' tx' z' tz' h' tk' r1' r2' z1' z2' F' N'; (try dsimp only at N'); (try dsimp only); (try k_sweep); (try k_fold))))
  trivial
section
variable {dp un : Nat} {gd : Option (List Code)} {cn : Str} {cs : Scope} {a : Addr} {ccd : Value} {cl : List (Str × Addr)} {outer : List Env} {A₀ : Around} {base h₀ : Heap} {L : Addr} {m : Str → Option Value} {s : Shared} {Q E : Value → Shared → Prop} {mean : ExcName → Option Value} {mg mb : Str → Option Value} {w : World} {pv : Program} {lv : List Str} {news : List (Addr × Obj)}

theorem pick_b (n : Nat) : -1073741823 ≤ [0, 1, -1, 65536, 218453, 72818, -98304, 1073741823, (-1073741823 : Int)].getD n 0 ∧ [0, 1, -1, 65536, 218453, 72818, -98304, 1073741823, (-1073741823 : Int)].getD n 0 ≤ 1073741823 := by
  rcases n with _ | _ | _ | _ | _ | _ | _ | _ | _ | n <;> first | decide | simp
theorem news_over {h₀ h : Heap} {L : Addr} {p : Addr × Obj} {l l' : List (Addr × Obj)} (N : News h₀ L h (p :: l)) (M : News h₀ L h l') : News h₀ L h (p :: l') := fun q hq => by
  rcases List.mem_cons.mp hq with rfl | hq
  · exact N _ (.head _)
  · exact M _ hq
theorem news_tail {h₀ h : Heap} {L : Addr} {p : Addr × Obj} {l : List (Addr × Obj)} (N : News h₀ L h (p :: l)) : News h₀ L h l := fun q hq => N q (.tail _ hq)

theorem lparts0 (B : Below A₀ base outer h₀) (F : Fr h₀ L s.heap m) (X : (Mine.hd.heap_1 w.params).In h₀) (T : Top pv lv mean mg mb h₀) (hk : cs.kind = .function) (hd : dp + 2 < recursionLimit)
  {bag : Addr} {x y z : Int} {tx ty tz : Tok} {n : Nat} {rest : List (Addr × Obj)} (N : News h₀ L s.heap ((bag, listOf #[.int x tx, .int y ty, .int z tz] n) :: rest)) (hr : OwnOff rest [bag])
  (hy : 0 ≤ y) (hy' : y < 2147483648) (hz : 0 ≤ z) (hz' : z < 900)
  (hret : ∀ r w' st so sh ho t1 t2 t3 t4 t5 x' tx' z' tz' h' tk', -1073741823 ≤ w' → w' ≤ 1073741823 → -1073741823 ≤ st → st ≤ 1073741823 → -1073741823 ≤ sh → sh ≤ 1073741823 → 0 ≤ so → so ≤ 3 → 0 ≤ ho → ho ≤ 3 → (st = 0 → so = 0) → (sh = 0 → ho = 0) → 0 ≤ z' → z' ≤ z + 5 →
    Fr h₀ L h' m → News h₀ L h' ((r, tupObj [.int w' t1, .int st t2, .int so t3, .int sh t4, .int ho t5]) :: (bag, listOf #[.int x' tx', .int y ty, .int z' tz'] n) :: rest) → (∀ p ∈ (bag, listOf #[.int x' tx', .int y ty, .int z' tz'] n) :: rest, p.1 < r) → Q (.ref r) { s with heap := h', toks := tk' }) :
  wpAny (model PySem.Challenge.rw_sq0037_01.row.prog w) (ktrTop dp un gd cn cs L a ccd cl outer) (call (.ref 449) [.ref bag]) Q E s := by
  refine wpAny_call ?_
  k_dflt (refine' code_def ?k1 ?k2 ?k3 ?k4 ?k5 ?kA ?kF ?kK ?k6 ?k7 ?k8 ?k9 ?kB ?_ ?c2 ?c3 ?c4 ?c5; (case kA => exact rfl); (case kF => exact rfl); (case kK => first | exact rfl | assumption); (case k1 => k_asm); (case k2 => k_asm); (case k3 => k_asm); (case k4 => k_asm); (case k5 => k_asm); (case k6 => k_is); (case k7 => k_is); (case k8 => ktr_room); (case k9 => first | exact BindsTo.of_eq rfl | exact binds_K (by k_in) rfl (by k_is) rfl rfl rfl); (case c5 => decide); (case kB => exact locs rfl); (case c2 => exact rfl); (case c3 => exact rfl); (case c4 => exact rfl); k_whole; intro g' L' h' FG' F' N' B' X' T'; (try dsimp only); (try k_fold))
  k_steps
  all_goals (refine' hret _ _ _ _ _ _ _ _ _ _ _ _ _ _ _ _ _ ?b1 ?b2 ?b3 ?b4 ?b5 ?b6 ?b7 ?b8 ?b9 ?b10 ?o1 ?o2 ?z1 ?z2 ?hF ?hN ?hl; (case hN => (refine' cb_drop ?cbN ?cbS; (case cbN => assumption); (case cbS => (refine List.forall_mem_cons.mpr ⟨?_, List.forall_mem_cons.mpr ⟨?_, ?_⟩⟩; k_mem; k_mem; (intro p hp; (repeat (first | exact hp | refine List.Mem.tail _ ?_))))))); (case hF => assumption); (case hl => (rename (_ < _ ∧ _) => hl9; first | exact ktn_ltOf (l := (bag, _) :: rest) hl9 | exact ktn_ltOf (l := (bag, _) :: rest) hl9.2 | exact ktn_ltOf (l := (bag, _) :: rest) hl9.2.2 | exact ktn_ltOf (l := (bag, _) :: rest) hl9.2.2.2 | exact ktn_ltOf (l := (bag, _) :: rest) hl9.2.2.2.2)); (case b1 => (first | exact (Mine.pick_b _).1 | exact (Mine.pick_b _).2 | assumption | omega | decide)); (case b2 => (first | exact (Mine.pick_b _).1 | exact (Mine.pick_b _).2 | assumption | omega | decide)); (case b3 => (first | exact (Mine.pick_b _).1 | exact (Mine.pick_b _).2 | assumption | omega | decide)); (case b4 => (first | exact (Mine.pick_b _).1 | exact (Mine.pick_b _).2 | assumption | omega | decide)); (case b5 => (first | exact (Mine.pick_b _).1 | exact (Mine.pick_b _).2 | assumption | omega | decide)); (case b6 => (first | exact (Mine.pick_b _).1 | exact (Mine.pick_b _).2 | assumption | omega | decide)); (case b7 => (first | exact (Mine.pick_b _).1 | exact (Mine.pick_b _).2 | assumption | omega | decide)); (case b8 => (first | exact (Mine.pick_b _).1 | exact (Mine.pick_b _).2 | assumption | omega | decide)); (case b9 => (first | exact (Mine.pick_b _).1 | exact (Mine.pick_b _).2 | assumption | omega | decide)); (case b10 => (first | exact (Mine.pick_b _).1 | exact (Mine.pick_b _).2 | assumption | omega | decide)); (case o1 => (first | exact fun _ => rfl | exact fun h9 => absurd h9 (by assumption))); (case o2 => (first | exact fun _ => rfl | exact fun h9 => absurd h9 (by assumption))); (case z1 => (first | exact (Mine.pick_b _).1 | exact (Mine.pick_b _).2 | assumption | omega | decide)); (case z2 => (first | exact (Mine.pick_b _).1 | exact (Mine.pick_b _).2 | assumption | omega | decide)))

theorem lparts (B : Below A₀ base outer h₀) (F : Fr h₀ L s.heap m) (X : (Mine.hd.heap_1 w.params).In h₀) (N : News h₀ L s.heap news) (T : Top pv lv mean mg mb h₀) (hk : cs.kind = .function) (hd : dp + 2 < recursionLimit)
  {bag : Addr} {x y z : Int} {tx ty tz : Tok} {n : Nat} {u : Obj → List (Addr × Obj)} (U : UpdF bag (listOf #[.int x tx, .int y ty, .int z tz] n) news u)
  (hy : 0 ≤ y) (hy' : y < 2147483648) (hz : 0 ≤ z) (hz' : z < 900)
  (hret : ∀ r w' st so sh ho t1 t2 t3 t4 t5 x' tx' z' tz' h' tk', -1073741823 ≤ w' → w' ≤ 1073741823 → -1073741823 ≤ st → st ≤ 1073741823 → -1073741823 ≤ sh → sh ≤ 1073741823 → 0 ≤ so → so ≤ 3 → 0 ≤ ho → ho ≤ 3 → (st = 0 → so = 0) → (sh = 0 → ho = 0) → 0 ≤ z' → z' ≤ z + 5 →
    Fr h₀ L h' m → News h₀ L h' ((r, tupObj [.int w' t1, .int st t2, .int so t3, .int sh t4, .int ho t5]) :: u (listOf #[.int x' tx', .int y ty, .int z' tz'] n)) → (∀ p ∈ u (listOf #[.int x' tx', .int y ty, .int z' tz'] n), p.1 < r) → Q (.ref r) { s with heap := h', toks := tk' }) :
  wpAny (model PySem.Challenge.rw_sq0037_01.row.prog w) (ktrTop dp un gd cn cs L a ccd cl outer) (call (.ref 449) [.ref bag]) Q E s := by
  obtain ⟨rest, N1, hr, back, lt⟩ := updF_head U N
  exact lparts0 B F X T hk hd N1 hr hy hy' hz hz' fun r w' st so sh ho t1 t2 t3 t4 t5 x' tx' z' tz' h' tk' a1 a2 a3 a4 a5 a6 a7 a8 a9 a10 a11 a12 a13 a14 F' N' l => hret r w' st so sh ho t1 t2 t3 t4 t5 x' tx' z' tz' h' tk' a1 a2 a3 a4 a5 a6 a7 a8 a9 a10 a11 a12 a13 a14 F' (news_over N' (back _ _ (news_tail N'))) (lt _ _ l)
end

theorem lay14 : True := by
  k_with_none
  trivial
section
variable {dp un : Nat} {gd : Option (List Code)} {cn : Str} {cs : Scope} {a : Addr} {ccd : Value} {cl : List (Str × Addr)} {outer : List Env} {A₀ : Around} {base h₀ : Heap} {L : Addr} {m : Str → Option Value} {s : Shared} {Q E : Value → Shared → Prop} {mean : ExcName → Option Value} {mg mb : Str → Option Value} {w : World} {pv : Program} {lv : List Str} {news : List (Addr × Obj)}
end
theorem lay15 : True := by
  (k_with "call ref" => (k_here; (with_reducible show wpAny _ _ (call (Value.ref 89) [Value.int _ _, Value.int _ _, Value.int _ _]) _ _ _); k_dflt (refine' Mine.is_whole ?k1 ?k2 ?k3 ?k4 ?k5 ?kK ?kd  ?_; (case k1 => k_asm); (case k2 => k_asm); (case k3 => k_asm); (case k4 => k_asm); (case k5 => k_asm); (case kK => first | exact rfl | assumption); (case kd => ktr_room);  k_whole; intro h' tk' F' N';  (try dsimp only); (try k_sweep); (try k_fold))))
  (k_with "call ref" => (k_here; (with_reducible show wpAny _ _ (call (Value.ref 96) [Value.int _ _]) _ _ _); k_dflt (refine' Mine.check_whole ?k1 ?k2 ?k3 ?k4 ?k5 ?kK ?kd  ?_; (case k1 => k_asm); (case k2 => k_asm); (case k3 => k_asm); (case k4 => k_asm); (case k5 => k_asm); (case kK => first | exact rfl | assumption); (case kd => ktr_room);  k_whole; intro h' tk' F' N';  (try dsimp only); (try k_sweep); (try k_fold))))
  (k_with "call ref" => (k_here; (with_reducible show wpAny _ _ (call (Value.ref 103) [Value.int _ _]) _ _ _); k_dflt (refine' Mine.check_dimen ?k1 ?k2 ?k3 ?k4 ?k5 ?kK ?kd ?e1 ?e2 ?_; (case k1 => k_asm); (case k2 => k_asm); (case k3 => k_asm); (case k4 => k_asm); (case k5 => k_asm); (case kK => first | exact rfl | assumption); (case kd => ktr_room); (case e1 => first | assumption | omega); (case e2 => first | assumption | omega); k_whole; intro h' tk' F' N';  (try dsimp only); (try k_sweep); (try k_fold))))
  (k_with "call ref" => (k_here; (with_reducible show wpAny _ _ (call (Value.ref 220) [Value.int _ _, Value.int _ _, Value.int _ _, Value.int _ _, Value.int _ _]) _ _ _); k_dflt (refine' Mine.glue_new ?k1 ?k2 ?k3 ?k4 ?k5 ?kK ?kd ?e1 ?e2 ?e3 ?e4 ?e5 ?e6 ?e7 ?e8 ?e9 ?e10 ?_; (case k1 => k_asm); (case k2 => k_asm); (case k3 => k_asm); (case k4 => k_asm); (case k5 => k_asm); (case kK => first | exact rfl | assumption); (case kd => ktr_room); (case e1 => first | assumption | omega); (case e2 => first | assumption | omega); (case e3 => first | assumption | omega); (case e4 => first | assumption | omega); (case e5 => first | assumption | omega); (case e6 => first | assumption | omega); (case e7 => first | assumption | omega); (case e8 => first | assumption | omega); (case e9 => first | assumption | omega); (case e10 => first | assumption | omega); k_whole; intro x' d' k1' k2' k3' k4' k5' u3' u5' h' tk' F' N' l1 l2; (try k_lt l1); (try k_lt2 l2); (try dsimp only); (try k_sweep); (try k_fold))))
  (k_with "call ref" => (k_here; (with_reducible show wpAny _ _ (call (Value.ref 174) _) _ _ _); k_dflt (refine' Mine.glue_parts ?k1 ?k2 ?k3 ?k4 ?k5 ?kK ?kd ?hx ?hg ?_; (case k1 => k_asm); (case k2 => k_asm); (case k3 => k_asm); (case k4 => k_asm); (case k5 => k_asm); (case kK => first | exact rfl | assumption); (case kd => ktr_room); (case hx => k_mem); (case hg => k_mem); k_whole; intro r' h' tk' F' N' l1; (try k_lt l1); (try dsimp only); (try k_sweep); (try k_fold))))
  trivial
section
variable {dp un : Nat} {gd : Option (List Code)} {cn : Str} {cs : Scope} {a : Addr} {ccd : Value} {cl : List (Str × Addr)} {outer : List Env} {A₀ : Around} {base h₀ : Heap} {L : Addr} {m : Str → Option Value} {s : Shared} {Q E : Value → Shared → Prop} {mean : ExcName → Option Value} {mg mb : Str → Option Value} {w : World} {pv : Program} {lv : List Str} {news : List (Addr × Obj)}

abbrev fObj (w : World) (pl : Addr) (ks : Nat → Tok) (vs : Nat → Value) : Obj := dictOf
  [⟨PyData.keyHash w.params (Str.ofString "number"), .str (Str.ofString "number") (ks 0), vs 0⟩, ⟨PyData.keyHash w.params (Str.ofString "name"), .str (Str.ofString "name") (ks 1), vs 1⟩, ⟨PyData.keyHash w.params (Str.ofString "size"), .str (Str.ofString "size") (ks 2), vs 2⟩, ⟨PyData.keyHash w.params (Str.ofString "design"), .str (Str.ofString "design") (ks 3), vs 3⟩, ⟨PyData.keyHash w.params (Str.ofString "check"), .str (Str.ofString "check") (ks 4), vs 4⟩, ⟨PyData.keyHash w.params (Str.ofString "params"), .str (Str.ofString "params") (ks 5), .ref pl⟩, ⟨PyData.keyHash w.params (Str.ofString "chars"), .str (Str.ofString "chars") (ks 6), vs 6⟩, ⟨PyData.keyHash w.params (Str.ofString "program"), .str (Str.ofString "program") (ks 7), vs 7⟩, ⟨PyData.keyHash w.params (Str.ofString "kerns"), .str (Str.ofString "kerns") (ks 8), vs 8⟩, ⟨PyData.keyHash w.params (Str.ofString "boundary"), .str (Str.ofString "boundary") (ks 9), vs 9⟩, ⟨PyData.keyHash w.params (Str.ofString "edge_start"), .str (Str.ofString "edge_start") (ks 10), vs 10⟩, ⟨PyData.keyHash w.params (Str.ofString "hyphen_char"), .str (Str.ofString "hyphen_char") (ks 11), vs 11⟩, ⟨PyData.keyHash w.params (Str.ofString "skew_char"), .str (Str.ofString "skew_char") (ks 12), vs 12⟩] 13
def parZ (xs : List Int) (n : Int) : Int := if 1 ≤ n ∧ n ≤ (xs.length : Int) then xs.getD (n - 1).toNat 0 else 0
theorem parZ_in {xs : List Int} {n : Int} (h : 1 ≤ n) (h2 : n ≤ (xs.length : Int)) : parZ xs n = xs.getD (n - 1).toNat 0 := if_pos ⟨h, h2⟩
theorem parZ_hi {xs : List Int} {n : Int} (h : ¬ n ≤ (xs.length : Int)) : parZ xs n = 0 := if_neg fun q => h q.2
theorem parZ_lo {xs : List Int} {n : Int} (h : ¬ 1 ≤ n) : parZ xs n = 0 := if_neg fun q => h q.1

theorem absZ_ne {b : Int} (h : 1 ≤ b) : (if b < 0 then -b else b) ≠ 0 := by rw [if_neg (by omega)]; omega
theorem absZ_small {b : Int} (h : 1 ≤ b) (h2 : b ≤ 32767) : (if b < 0 then -b else b).natAbs < 1073741824 := by rw [if_neg (by omega)]; omega
theorem divmod_D {prog : Program} {w : World} {A : Around} {E : Value → Shared → Prop} {s : Shared} {h₀ : Heap} {L : Addr} {m : Str → Option Value} {news : List (Addr × Obj)} {a b : Int} {t u : Tok} {Q : Value → Shared → Prop}
    (F : Fr h₀ L s.heap m) (N : News h₀ L s.heap news) (hb : b ≠ 0) (hl : b.natAbs < 1073741824)
    (h : ∀ D h', Fr h₀ L h' m → News h₀ L h' ((D, tupObj [.int (a.fdiv b) s.toks, .int (a.fmod b) (s.toks + 1)]) :: news) → (∀ p ∈ news, p.1 < D) → Q (.ref D) { s with toks := s.toks + 1 + 1, heap := h' }) :
    wpAny (model prog w) A (call (.builtin "divmod") [.int a t, .int b u]) Q E s :=
  divmod_N F N hb (fun h' F' N' => h _ h' F' N' (fun p hp => Heap.lt_size (N p hp).1)) (Or.inl (PyProof.noPylong_small hl))
def overZ (v b : Int) : Int := if v < 0 then -((absZ v).fdiv (absZ b)) else (absZ v).fdiv (absZ b)
theorem ov_x1 {v b : Int} (h : (decide (v < 0) != decide (b < 0)) = true) (h2 : ¬ v < 0) (hb : 1 ≤ b) : False := by
  rw [decide_eq_false h2, decide_eq_false (by omega)] at h; cases h
theorem ov_x2 {v b : Int} (h : (decide (v < 0) != decide (b < 0)) = false) (h2 : v < 0) (hb : 1 ≤ b) : False := by
  rw [decide_eq_true h2, decide_eq_false (by omega)] at h; cases h
theorem overZ_n {v b : Int} (h : v < 0) : overZ v b = -((absZ v).fdiv (absZ b)) := if_pos h
theorem overZ_p {v b : Int} (h : ¬ v < 0) : overZ v b = (absZ v).fdiv (absZ b) := if_neg h
end
theorem lay16 : True := by
  (k_with "call builtin:divmod" => (k_here; (with_reducible show wpAny _ _ (call (Value.builtin "divmod") [Value.int _ _, Value.int _ _]) _ _ _); k_dflt (refine' Mine.divmod_D ?F ?N ?b ?l ?_; (case F => k_asm); (case N => k_asm); (case b => first | (refine Mine.absZ_ne ?_; assumption) | omega); (case l => first | (refine Mine.absZ_small ?_ ?_ <;> assumption) | omega); k_whole; intro D' h' F' N' l1; (try k_lt l1); (try dsimp only); (try k_sweep); (try k_fold))))
  (k_with "call builtin:len" => (k_here; (with_reducible show wpAny _ _ (call (Value.builtin "len") [Value.ref _]) _ _ _); k_dflt (refine' kst_len ?k1 ?k2 (IntsAre.length ?k3) ?k4 ?_; (case k1 => k_asm); (case k2 => k_mem); (case k3 => assumption); (case k4 => omega); k_whole; (try dsimp only))))
  trivial
section
variable {dp un : Nat} {gd : Option (List Code)} {cn : Str} {cs : Scope} {a : Addr} {ccd : Value} {cl : List (Str × Addr)} {outer : List Env} {A₀ : Around} {base h₀ : Heap} {L : Addr} {m : Str → Option Value} {s : Shared} {Q E : Value → Shared → Prop} {mean : ExcName → Option Value} {mg mb : Str → Option Value} {w : World} {pv : Program} {lv : List Str} {news : List (Addr × Obj)}

theorem param (B : Below A₀ base outer h₀) (F : Fr h₀ L s.heap m) (X : (Mine.hd.heap_1 w.params).In h₀) (N : News h₀ L s.heap news) (T : Top pv lv mean mg mb h₀) (hk : cs.kind = .function) (hd : dp + 2 < recursionLimit)
  {f d pl : Addr} {ks : Nat → Tok} {vs : Nat → Value} {ps : List Value} {xs : List Int} {pn : Nat} {k : Int} {tk : Tok} (hf : (f, instObj 377 d) ∈ news) (hfd : (d, fObj w pl ks vs) ∈ news) (hp : (pl, listOf ps.toArray pn) ∈ news) (hi : IntsAre ps xs) (hl : xs.length ≤ 64)
  (hret : ∀ t h' tk', Fr h₀ L h' m → News h₀ L h' news → Q (.int (parZ xs k) t) { s with heap := h', toks := tk' }) :
  wpAny (model PySem.Challenge.rw_sq0037_01.row.prog w) (ktrTop dp un gd cn cs L a ccd cl outer) (call (.ref 367) [.ref f, .int k tk]) Q E s := by
  refine wpAny_call ?_
  k_dflt (refine' code_def ?k1 ?k2 ?k3 ?k4 ?k5 ?kA ?kF ?kK ?k6 ?k7 ?k8 ?k9 ?kB ?_ ?c2 ?c3 ?c4 ?c5; (case kA => exact rfl); (case kF => exact rfl); (case kK => first | exact rfl | assumption); (case k1 => k_asm); (case k2 => k_asm); (case k3 => k_asm); (case k4 => k_asm); (case k5 => k_asm); (case k6 => k_is); (case k7 => k_is); (case k8 => ktr_room); (case k9 => first | exact BindsTo.of_eq rfl | exact binds_K (by k_in) rfl (by k_is) rfl rfl rfl); (case c5 => decide); (case kB => exact locs rfl); (case c2 => exact rfl); (case c3 => exact rfl); (case c4 => exact rfl); k_whole; intro g' L' h' FG' F' N' B' X' T'; (try dsimp only); (try k_fold))
  k_steps
  · rw [parZ_in (by assumption) (by assumption)] at hret
    exact hret _ _ _ (by assumption) (by assumption)
  · rw [parZ_hi (by assumption)] at hret
    exact hret _ _ _ (by assumption) (by assumption)
  · rw [parZ_lo (by assumption)] at hret
    exact hret _ _ _ (by assumption) (by assumption)
theorem over (B : Below A₀ base outer h₀) (F : Fr h₀ L s.heap m) (X : (Mine.hd.heap_1 w.params).In h₀) (N : News h₀ L s.heap news) (T : Top pv lv mean mg mb h₀) (hk : cs.kind = .function) (hd : dp + 2 < recursionLimit)
  {v b : Int} {tv tb : Tok} (hb : 1 ≤ b) (hb' : b ≤ 32767) (hv : -40000000000000 ≤ v) (hv' : v ≤ 40000000000000)
  (hret : ∀ r q t1 t2 h' tk', Fr h₀ L h' m → News h₀ L h' ((r, tupObj [.int (overZ v b) t1, .int q t2]) :: news) → (∀ p ∈ news, p.1 < r) → Q (.ref r) { s with heap := h', toks := tk' }) :
  wpAny (model PySem.Challenge.rw_sq0037_01.row.prog w) (ktrTop dp un gd cn cs L a ccd cl outer) (call (.ref 131) [.int v tv, .int b tb]) Q E s := by
  refine wpAny_call ?_
  k_dflt (refine' code_def ?k1 ?k2 ?k3 ?k4 ?k5 ?kA ?kF ?kK ?k6 ?k7 ?k8 ?k9 ?kB ?_ ?c2 ?c3 ?c4 ?c5; (case kA => exact rfl); (case kF => exact rfl); (case kK => first | exact rfl | assumption); (case k1 => k_asm); (case k2 => k_asm); (case k3 => k_asm); (case k4 => k_asm); (case k5 => k_asm); (case k6 => k_is); (case k7 => k_is); (case k8 => ktr_room); (case k9 => first | exact BindsTo.of_eq rfl | exact binds_K (by k_in) rfl (by k_is) rfl rfl rfl); (case c5 => decide); (case kB => exact locs rfl); (case c2 => exact rfl); (case c3 => exact rfl); (case c4 => exact rfl); k_whole; intro g' L' h' FG' F' N' B' X' T'; (try dsimp only); (try k_fold))
  k_steps
  · exfalso; omega
  · rw [overZ_n (by assumption)] at hret
    refine' hret _ _ _ _ _ _ ?hF ?hN ?hl
    case hN => (refine' cb_drop ?cbN ?cbS; (case cbN => assumption); (case cbS => (refine List.forall_mem_cons.mpr ⟨?_, ?_⟩; k_mem; (intro p hp; (repeat (first | exact hp | refine List.mem_append.mpr (.inr ?_) | refine List.mem_cons_of_mem _ ?_))))))
    case hF => assumption
    case hl => (first | assumption | (rename (_ < _ ∧ _) => hl9; first | exact ktn_ltOf (l := news) hl9 | exact ktn_ltOf (l := news) hl9.2 | exact ktn_ltOf (l := news) hl9.2.2 | exact ktn_ltOf (l := news) hl9.2.2.2 | exact ktn_ltOf (l := news) hl9.2.2.2.2 | exact ktn_ltOf (l := news) hl9.2.2.2.2.2 | exact ktn_ltOf (l := news) hl9.2.2.2.2.2.2))
  · exact (ov_x1 (by assumption) (by assumption) hb).elim
  · exact (ov_x2 (by assumption) (by assumption) hb).elim
  · rw [overZ_p (by assumption)] at hret
    refine' hret _ _ _ _ _ _ ?hF ?hN ?hl
    case hN => (refine' cb_drop ?cbN ?cbS; (case cbN => assumption); (case cbS => (refine List.forall_mem_cons.mpr ⟨?_, ?_⟩; k_mem; (intro p hp; (repeat (first | exact hp | refine List.mem_append.mpr (.inr ?_) | refine List.mem_cons_of_mem _ ?_))))))
    case hF => assumption
    case hl => (first | assumption | (rename (_ < _ ∧ _) => hl9; first | exact ktn_ltOf (l := news) hl9 | exact ktn_ltOf (l := news) hl9.2 | exact ktn_ltOf (l := news) hl9.2.2 | exact ktn_ltOf (l := news) hl9.2.2.2 | exact ktn_ltOf (l := news) hl9.2.2.2.2 | exact ktn_ltOf (l := news) hl9.2.2.2.2.2 | exact ktn_ltOf (l := news) hl9.2.2.2.2.2.2))

theorem mul_lo {v u : Int} (h1 : -1073741823 ≤ v) (h2 : v ≤ 1073741823) (h3 : 1 ≤ u) (h4 : u ≤ 32767) : -40000000000000 ≤ v * u := by
  have a : -1073741823 * u ≤ v * u := Int.mul_le_mul_of_nonneg_right h1 (by omega)
  omega
theorem mul_hi {v u : Int} (h1 : -1073741823 ≤ v) (h2 : v ≤ 1073741823) (h3 : 1 ≤ u) (h4 : u ≤ 32767) : v * u ≤ 40000000000000 := by
  have a : v * u ≤ 1073741823 * u := Int.mul_le_mul_of_nonneg_right h2 (by omega)
  omega
theorem near_over {v up down : Int} (h1 : 1 ≤ up) (h2 : 1 ≤ down) : overZ (v * up) down = nearZ v up down := by
  have hd : absZ down = down := if_neg (by omega)
  by_cases hv : 0 < v
  · have hp : 0 < v * up := Int.mul_pos hv (by omega)
    rw [overZ_p (by omega), nearZ_p hv, hd]
    have a : absZ (v * up) = v * up := if_neg (by omega)
    have b : absZ v = v := if_neg (by omega)
    rw [a, b]
  · by_cases h0 : v = 0
    · subst h0
      rw [overZ_p (by simp), nearZ_n (by decide), hd]
      simp [absZ]
    · have hn : v * up < 0 := Int.mul_neg_of_neg_of_pos (by omega) (by omega)
      rw [overZ_n hn, nearZ_n hv, hd]
      have a : absZ (v * up) = -(v * up) := if_pos hn
      have b : absZ v = -v := if_pos (by omega)
      rw [a, b, Int.neg_mul]
end
theorem lay17 : True := by
  (k_with "call ref" => (k_here; (with_reducible show wpAny _ _ (call (Value.ref 131) [Value.int _ _, Value.int _ _]) _ _ _); k_dflt (refine' Mine.over ?k1 ?k2 ?k3 ?k4 ?k5 ?kK ?kd ?e1 ?e2 ?e3 ?e4 ?_; (case k1 => k_asm); (case k2 => k_asm); (case k3 => k_asm); (case k4 => k_asm); (case k5 => k_asm); (case kK => first | exact rfl | assumption); (case kd => ktr_room); (case e1 => first | assumption | omega | (refine Mine.mul_lo ?_ ?_ ?_ ?_ <;> first | assumption | omega) | (refine Mine.mul_hi ?_ ?_ ?_ ?_ <;> first | assumption | omega)); (case e2 => first | assumption | omega | (refine Mine.mul_lo ?_ ?_ ?_ ?_ <;> first | assumption | omega) | (refine Mine.mul_hi ?_ ?_ ?_ ?_ <;> first | assumption | omega)); (case e3 => first | assumption | omega | (refine Mine.mul_lo ?_ ?_ ?_ ?_ <;> first | assumption | omega) | (refine Mine.mul_hi ?_ ?_ ?_ ?_ <;> first | assumption | omega)); (case e4 => first | assumption | omega | (refine Mine.mul_lo ?_ ?_ ?_ ?_ <;> first | assumption | omega) | (refine Mine.mul_hi ?_ ?_ ?_ ?_ <;> first | assumption | omega)); k_whole; intro r' q' t1' t2' h' tk' F' N' l1; (try k_lt l1); (try dsimp only); (try k_sweep); (try k_fold))))
  trivial
section
variable {dp un : Nat} {gd : Option (List Code)} {cn : Str} {cs : Scope} {a : Addr} {ccd : Value} {cl : List (Str × Addr)} {outer : List Env} {A₀ : Around} {base h₀ : Heap} {L : Addr} {m : Str → Option Value} {s : Shared} {Q E : Value → Shared → Prop} {mean : ExcName → Option Value} {mg mb : Str → Option Value} {w : World} {pv : Program} {lv : List Str} {news : List (Addr × Obj)}

theorem fraction (B : Below A₀ base outer h₀) (F : Fr h₀ L s.heap m) (X : (Mine.hd.heap_1 w.params).In h₀) (N : News h₀ L s.heap news) (T : Top pv lv mean mg mb h₀) (hk : cs.kind = .function) (hd : dp + 3 < recursionLimit)
  {v up down : Int} {tv tu td : Tok} (hv : -1073741823 ≤ v) (hv' : v ≤ 1073741823) (h1 : 1 ≤ up) (h1' : up ≤ 32767) (h2 : 1 ≤ down) (h2' : down ≤ 32767)
  (hq : -1073741823 ≤ nearZ v up down) (hq' : nearZ v up down ≤ 1073741823)
  (hret : ∀ r q t1 t2 h' tk', Fr h₀ L h' m → News h₀ L h' ((r, tupObj [.int (nearZ v up down) t1, .int q t2]) :: news) → (∀ p ∈ news, p.1 < r) → Q (.ref r) { s with heap := h', toks := tk' }) :
  wpAny (model PySem.Challenge.rw_sq0037_01.row.prog w) (ktrTop dp un gd cn cs L a ccd cl outer) (call (.ref 138) [.int v tv, .int up tu, .int down td]) Q E s := by
  rw [← near_over h1 h2] at hret hq hq'
  refine wpAny_call ?_
  k_dflt (refine' code_def ?k1 ?k2 ?k3 ?k4 ?k5 ?kA ?kF ?kK ?k6 ?k7 ?k8 ?k9 ?kB ?_ ?c2 ?c3 ?c4 ?c5; (case kA => exact rfl); (case kF => exact rfl); (case kK => first | exact rfl | assumption); (case k1 => k_asm); (case k2 => k_asm); (case k3 => k_asm); (case k4 => k_asm); (case k5 => k_asm); (case k6 => k_is); (case k7 => k_is); (case k8 => ktr_room); (case k9 => first | exact BindsTo.of_eq rfl | exact binds_K (by k_in) rfl (by k_is) rfl rfl rfl); (case c5 => decide); (case kB => exact locs rfl); (case c2 => exact rfl); (case c3 => exact rfl); (case c4 => exact rfl); k_whole; intro g' L' h' FG' F' N' B' X' T'; (try dsimp only); (try k_fold))
  k_steps
  refine' hret _ _ _ _ _ _ ?hF ?hN ?hl
  case hN => (refine' cb_drop ?cbN ?cbS; (case cbN => assumption); (case cbS => (refine List.forall_mem_cons.mpr ⟨?_, ?_⟩; k_mem; (intro p hp; (repeat (first | exact hp | refine List.mem_append.mpr (.inr ?_) | refine List.mem_cons_of_mem _ ?_))))))
  case hF => assumption
  case hl => (first | assumption | (rename (_ < _ ∧ _) => hl9; first | exact ktn_ltOf (l := news) hl9 | exact ktn_ltOf (l := news) hl9.2 | exact ktn_ltOf (l := news) hl9.2.2 | exact ktn_ltOf (l := news) hl9.2.2.2 | exact ktn_ltOf (l := news) hl9.2.2.2.2 | exact ktn_ltOf (l := news) hl9.2.2.2.2.2 | exact ktn_ltOf (l := news) hl9.2.2.2.2.2.2))
end

theorem lay18 : True := by
  k_with_none
  trivial
section
variable {dp un : Nat} {gd : Option (List Code)} {cn : Str} {cs : Scope} {a : Addr} {ccd : Value} {cl : List (Str × Addr)} {outer : List Env} {A₀ : Around} {base h₀ : Heap} {L : Addr} {m : Str → Option Value} {s : Shared} {Q E : Value → Shared → Prop} {mean : ExcName → Option Value} {mg mb : Str → Option Value} {w : World} {pv : Program} {lv : List Str} {news : List (Addr × Obj)}
end
local macro_rules | `(tactic| units_room) => `(tactic| ktr_units)
theorem lay19 : True := by
  (k_with "call ref" => (k_here; (with_reducible show wpAny _ _ (call (Value.ref 89) [Value.int _ _, Value.int _ _, Value.int _ _]) _ _ _); k_dflt (refine' Mine.is_whole ?k1 ?k2 ?k3 ?k4 ?k5 ?kK ?kd  ?_; (case k1 => k_asm); (case k2 => k_asm); (case k3 => k_asm); (case k4 => k_asm); (case k5 => k_asm); (case kK => first | exact rfl | assumption); (case kd => ktr_room);  k_whole; intro h' tk' F' N';  (try dsimp only); (try k_sweep); (try k_fold))))
  (k_with "call ref" => (k_here; (with_reducible show wpAny _ _ (call (Value.ref 96) [Value.int _ _]) _ _ _); k_dflt (refine' Mine.check_whole ?k1 ?k2 ?k3 ?k4 ?k5 ?kK ?kd  ?_; (case k1 => k_asm); (case k2 => k_asm); (case k3 => k_asm); (case k4 => k_asm); (case k5 => k_asm); (case kK => first | exact rfl | assumption); (case kd => ktr_room);  k_whole; intro h' tk' F' N';  (try dsimp only); (try k_sweep); (try k_fold))))
  (k_with "call ref" => (k_here; (with_reducible show wpAny _ _ (call (Value.ref 103) [Value.int _ _]) _ _ _); k_dflt (refine' Mine.check_dimen ?k1 ?k2 ?k3 ?k4 ?k5 ?kK ?kd ?e1 ?e2 ?_; (case k1 => k_asm); (case k2 => k_asm); (case k3 => k_asm); (case k4 => k_asm); (case k5 => k_asm); (case kK => first | exact rfl | assumption); (case kd => ktr_room); (case e1 => first | assumption | omega); (case e2 => first | assumption | omega); k_whole; intro h' tk' F' N';  (try dsimp only); (try k_sweep); (try k_fold))))
  (k_with "call ref" => (k_here; (with_reducible show wpAny _ _ (call (Value.ref 220) [Value.int _ _, Value.int _ _, Value.int _ _, Value.int _ _, Value.int _ _]) _ _ _); k_dflt (refine' Mine.glue_new ?k1 ?k2 ?k3 ?k4 ?k5 ?kK ?kd ?e1 ?e2 ?e3 ?e4 ?e5 ?e6 ?e7 ?e8 ?e9 ?e10 ?_; (case k1 => k_asm); (case k2 => k_asm); (case k3 => k_asm); (case k4 => k_asm); (case k5 => k_asm); (case kK => first | exact rfl | assumption); (case kd => ktr_room); (case e1 => first | assumption | omega); (case e2 => first | assumption | omega); (case e3 => first | assumption | omega); (case e4 => first | assumption | omega); (case e5 => first | assumption | omega); (case e6 => first | assumption | omega); (case e7 => first | assumption | omega); (case e8 => first | assumption | omega); (case e9 => first | assumption | omega); (case e10 => first | assumption | omega); k_whole; intro x' d' k1' k2' k3' k4' k5' u3' u5' h' tk' F' N' l1 l2; (try k_lt l1); (try k_lt2 l2); (try dsimp only); (try k_sweep); (try k_fold))))
  (k_with "call ref" => (k_here; (with_reducible show wpAny _ _ (call (Value.ref 174) _) _ _ _); k_dflt (refine' Mine.glue_parts ?k1 ?k2 ?k3 ?k4 ?k5 ?kK ?kd ?hx ?hg ?_; (case k1 => k_asm); (case k2 => k_asm); (case k3 => k_asm); (case k4 => k_asm); (case k5 => k_asm); (case kK => first | exact rfl | assumption); (case kd => ktr_room); (case hx => k_mem); (case hg => k_mem); k_whole; intro r' h' tk' F' N' l1; (try k_lt l1); (try dsimp only); (try k_sweep); (try k_fold))))
  (k_with "call ref" => (k_here; (with_reducible show wpAny _ _ (call (Value.ref 367) [Value.ref _, Value.int _ _]) _ _ _); k_dflt (refine' Mine.param ?k1 ?k2 ?k3 ?k4 ?k5 ?kK ?kd ?hf ?hfd ?hp ?hi ?hl ?_; (case k1 => k_asm); (case k2 => k_asm); (case k3 => k_asm); (case k4 => k_asm); (case k5 => k_asm); (case kK => first | exact rfl | assumption); (case kd => ktr_room); (case hf => k_mem); (case hfd => k_mem); (case hp => k_mem); (case hi => assumption); (case hl => first | assumption | omega); k_whole; intro t' h' tk' F' N';  (try dsimp only); (try k_sweep); (try k_fold))))
  (k_with "call ref" => (k_here; (with_reducible show wpAny _ _ (call (Value.ref 138) [Value.int _ _, Value.int _ _, Value.int _ _]) _ _ _); k_dflt (refine' Mine.fraction ?k1 ?k2 ?k3 ?k4 ?k5 ?kK ?kd ?e1 ?e2 ?e3 ?e4 ?e5 ?e6 ?e7 ?e8 ?_; (case k1 => k_asm); (case k2 => k_asm); (case k3 => k_asm); (case k4 => k_asm); (case k5 => k_asm); (case kK => first | exact rfl | assumption); (case kd => ktr_room); (case e1 => first | assumption | omega); (case e2 => first | assumption | omega); (case e3 => first | assumption | omega); (case e4 => first | assumption | omega); (case e5 => first | assumption | omega); (case e6 => first | assumption | omega); (case e7 => first | assumption | omega); (case e8 => first | assumption | omega); k_whole; intro r' q' t1' t2' h' tk' F' N' l1; (try k_lt l1); (try dsimp only); (try k_sweep); (try k_fold))))
  trivial
section
variable {dp un : Nat} {gd : Option (List Code)} {cn : Str} {cs : Scope} {a : Addr} {ccd : Value} {cl : List (Str × Addr)} {outer : List Env} {A₀ : Around} {base h₀ : Heap} {L : Addr} {m : Str → Option Value} {s : Shared} {Q E : Value → Shared → Prop} {mean : ExcName → Option Value} {mg mb : Str → Option Value} {w : World} {pv : Program} {lv : List Str} {news : List (Addr × Obj)}

theorem parZ_b {xs : List Int} (hxs : ∀ v ∈ xs, -1073741823 ≤ v ∧ v ≤ 1073741823) (n : Int) : -1073741823 ≤ parZ xs n ∧ parZ xs n ≤ 1073741823 := by
  unfold parZ
  split
  · rw [List.getD_eq_getElem?_getD]
    cases h : xs[(n - 1).toNat]? with
    | none => decide
    | some v => exact hxs v (List.mem_of_getElem? h)
  · decide
def isZ (v1 v2 v3 v4 v5 : Int) : Bool := v1 == 0 && (v2 == 0 && (v3 == 0 && (v4 == 0 && v5 == 0)))
def plainZ (g : Int → Int) (v1 v2 v3 v4 v5 : Int) : Int × Int × Int × Int × Int := if isZ v1 v2 v3 v4 v5 = true then (g 2, g 3, 0, g 4, 0) else (v1, v2, v3, v4, v5)
theorem plainZ_z {g : Int → Int} {v1 v2 v3 v4 v5 : Int} (h : (v1 == 0 && (v2 == 0 && (v3 == 0 && (v4 == 0 && v5 == 0)))) = true) : plainZ g v1 v2 v3 v4 v5 = (g 2, g 3, 0, g 4, 0) := if_pos h
theorem plainZ_n {g : Int → Int} {v1 v2 v3 v4 v5 : Int} (h : (v1 == 0 && (v2 == 0 && (v3 == 0 && (v4 == 0 && v5 == 0)))) = false) : plainZ g v1 v2 v3 v4 v5 = (v1, v2, v3, v4, v5) := if_neg (by unfold isZ; rw [h]; decide)
theorem ordOf_0 (v : Int) : ordOf v 0 = 0 := by unfold ordOf; split <;> rfl
theorem word_space (B : Below A₀ base outer h₀) (F : Fr h₀ L s.heap m) (X : (Mine.hd.heap_1 w.params).In h₀) (N : News h₀ L s.heap news) (T : Top pv lv mean mg mb h₀) (hk : cs.kind = .function) (hd : dp + 6 < recursionLimit)  (hu : un + 200 < cLine)
  {f d pl : Addr} {ks : Nat → Tok} {vs : Nat → Value} {ps : List Value} {xs : List Int} {pn : Nat} (hf : (f, instObj 377 d) ∈ news) (hfd : (d, fObj w pl ks vs) ∈ news) (hp : (pl, listOf ps.toArray pn) ∈ news) (hi : IntsAre ps xs) (hl : xs.length ≤ 64) (hxs : ∀ v ∈ xs, -1073741823 ≤ v ∧ v ≤ 1073741823)
  {x dx : Addr} {v1 v2 v3 v4 v5 : Int} {k1 k2 k3 k4 k5 t1 t2 t3 t4 t5 : Tok} (hx : (x, instObj 220 dx) ∈ news) (hg : (dx, gObj w v1 v2 v3 v4 v5 k1 k2 k3 k4 k5 t1 t2 t3 t4 t5) ∈ news) (b1 : -1073741823 ≤ v1 ∧ v1 ≤ 1073741823) (b2 : -1073741823 ≤ v2 ∧ v2 ≤ 1073741823) (b3 : 0 ≤ v3 ∧ v3 ≤ 3) (b4 : -1073741823 ≤ v4 ∧ v4 ≤ 1073741823) (b5 : 0 ≤ v5 ∧ v5 ≤ 3)
  (hret : ∀ y dy p1 p2 p3 p4 p5 j1 j2 j3 j4 j5 u1 u2 u3 u4 u5 more h' tk', plainZ (parZ xs) v1 v2 v3 v4 v5 = (p1, p2, p3, p4, p5) → -1073741823 ≤ p1 → p1 ≤ 1073741823 → -1073741823 ≤ p2 → p2 ≤ 1073741823 → 0 ≤ p3 → p3 ≤ 3 → -1073741823 ≤ p4 → p4 ≤ 1073741823 → 0 ≤ p5 → p5 ≤ 3 →
    Fr h₀ L h' m → News h₀ L h' (more ++ news) → (y, instObj 220 dy) ∈ more → (dy, gObj w p1 p2 p3 p4 p5 j1 j2 j3 j4 j5 u1 u2 u3 u4 u5) ∈ more → Q (.ref y) { s with heap := h', toks := tk' }) :
  wpAny (model PySem.Challenge.rw_sq0037_01.row.prog w) (ktrTop dp un gd cn cs L a ccd cl outer) (call (.ref 405) [.ref f, .ref x]) Q E s := by
  obtain ⟨p2, p2'⟩ := parZ_b hxs 2
  obtain ⟨p3, p3'⟩ := parZ_b hxs 3
  obtain ⟨p4, p4'⟩ := parZ_b hxs 4
  refine wpAny_call ?_
  k_dflt (refine' code_def ?k1 ?k2 ?k3 ?k4 ?k5 ?kA ?kF ?kK ?k6 ?k7 ?k8 ?k9 ?kB ?_ ?c2 ?c3 ?c4 ?c5; (case kA => exact rfl); (case kF => exact rfl); (case kK => first | exact rfl | assumption); (case k1 => k_asm); (case k2 => k_asm); (case k3 => k_asm); (case k4 => k_asm); (case k5 => k_asm); (case k6 => k_is); (case k7 => k_is); (case k8 => ktr_room); (case k9 => first | exact BindsTo.of_eq rfl | exact binds_K (by k_in) rfl (by k_is) rfl rfl rfl); (case c5 => decide); (case kB => exact locs rfl); (case c2 => exact rfl); (case c3 => exact rfl); (case c4 => exact rfl); k_whole; intro g' L' h' FG' F' N' B' X' T'; (try dsimp only); (try k_fold))
  k_steps
  · rw [plainZ_z (by assumption)] at hret
    refine' hret _ _ _ _ _ _ _ _ _ _ _ _ _ _ _ _ _ [_, _] _ _ rfl p2 p2' p3 p3' (by decide) (by decide) p4 p4' (by decide) (by decide) ?hF ?hN (.head _) (.tail _ (.head _))
    case hN => (rename News _ _ _ _ => hN9; rw [ordOf_0, ordOf_0] at hN9; refine' cb_drop hN9 ?cbS; (refine List.forall_mem_cons.mpr ⟨?_, List.forall_mem_cons.mpr ⟨?_, ?_⟩⟩; k_mem; k_mem; (intro p hp; (repeat (first | exact hp | refine List.mem_cons_of_mem _ ?_)))))
    case hF => assumption
  · rw [plainZ_n (by assumption)] at hret
    refine' hret x dx _ _ _ _ _ _ _ _ _ _ _ _ _ _ _ [(x, _), (dx, _)] _ _ rfl b1.1 b1.2 b2.1 b2.2 b3.1 b3.2 b4.1 b4.2 b5.1 b5.2 ?hF ?hN (.head _) (.tail _ (.head _))
    case hN => (refine' dup (dup ?hN9 hg) ?hx9; (case hN9 => (refine' cb_drop ?cbM ?cbT; (case cbM => assumption); (case cbT => (intro p hp; (repeat (first | exact hp | refine List.mem_append.mpr (.inr ?_) | refine List.mem_cons_of_mem _ ?_)))))); (case hx9 => exact .tail _ hx))
    case hF => assumption
end

theorem lay20 : True := by
  k_with_none
  trivial
section
variable {dp un : Nat} {gd : Option (List Code)} {cn : Str} {cs : Scope} {a : Addr} {ccd : Value} {cl : List (Str × Addr)} {outer : List Env} {A₀ : Around} {base h₀ : Heap} {L : Addr} {m : Str → Option Value} {s : Shared} {Q E : Value → Shared → Prop} {mean : ExcName → Option Value} {mg mb : Str → Option Value} {w : World} {pv : Program} {lv : List Str} {news : List (Addr × Obj)}
end
theorem lay21 : True := by
  (k_with "call ref" => (k_here; (with_reducible show wpAny _ _ (call (Value.ref 89) [Value.int _ _, Value.int _ _, Value.int _ _]) _ _ _); k_dflt (refine' Mine.is_whole ?k1 ?k2 ?k3 ?k4 ?k5 ?kK ?kd  ?_; (case k1 => k_asm); (case k2 => k_asm); (case k3 => k_asm); (case k4 => k_asm); (case k5 => k_asm); (case kK => first | exact rfl | assumption); (case kd => ktr_room);  k_whole; intro h' tk' F' N';  (try dsimp only); (try k_sweep); (try k_fold))))
  (k_with "call ref" => (k_here; (with_reducible show wpAny _ _ (call (Value.ref 367) [Value.ref _, Value.int _ _]) _ _ _); k_dflt (refine' Mine.param ?k1 ?k2 ?k3 ?k4 ?k5 ?kK ?kd ?hf ?hfd ?hp ?hi ?hl ?_; (case k1 => k_asm); (case k2 => k_asm); (case k3 => k_asm); (case k4 => k_asm); (case k5 => k_asm); (case kK => first | exact rfl | assumption); (case kd => ktr_room); (case hf => k_mem); (case hfd => k_mem); (case hp => k_mem); (case hi => assumption); (case hl => first | assumption | omega); k_whole; intro t' h' tk' F' N';  (try dsimp only); (try k_sweep); (try k_fold))))
  (k_with "call ref" => (k_here; (with_reducible show wpAny _ _ (call (Value.ref 138) [Value.int _ _, Value.int _ _, Value.int _ _]) _ _ _); k_dflt (refine' Mine.fraction ?k1 ?k2 ?k3 ?k4 ?k5 ?kK ?kd ?e1 ?e2 ?e3 ?e4 ?e5 ?e6 ?e7 ?e8 ?_; (case k1 => k_asm); (case k2 => k_asm); (case k3 => k_asm); (case k4 => k_asm); (case k5 => k_asm); (case kK => first | exact rfl | assumption); (case kd => ktr_room); (case e1 => first | assumption | omega); (case e2 => first | assumption | omega); (case e3 => first | assumption | omega); (case e4 => first | assumption | omega); (case e5 => first | assumption | omega); (case e6 => first | assumption | omega); (case e7 => first | assumption | omega); (case e8 => first | assumption | omega); k_whole; intro r' q' t1' t2' h' tk' F' N' l1; (try k_lt l1); (try dsimp only); (try k_sweep); (try k_fold))))
  (k_with "call ref" => (k_here; (with_reducible show wpAny _ _ (call (Value.ref 220) [Value.int _ _, Value.int _ _, Value.int _ _, Value.int _ _, Value.int _ _]) _ _ _); k_dflt (refine' Mine.glue_new ?k1 ?k2 ?k3 ?k4 ?k5 ?kK ?kd ?e1 ?e2 ?e3 ?e4 ?e5 ?e6 ?e7 ?e8 ?e9 ?e10 ?_; (case k1 => k_asm); (case k2 => k_asm); (case k3 => k_asm); (case k4 => k_asm); (case k5 => k_asm); (case kK => first | exact rfl | assumption); (case kd => ktr_room); (case e1 => first | assumption | omega); (case e2 => first | assumption | omega); (case e3 => first | assumption | omega); (case e4 => first | assumption | omega); (case e5 => first | assumption | omega); (case e6 => first | assumption | omega); (case e7 => first | assumption | omega); (case e8 => first | assumption | omega); (case e9 => first | assumption | omega); (case e10 => first | assumption | omega); k_whole; intro x' d' k1' k2' k3' k4' k5' u3' u5' h' tk' F' N' l1 l2; (try k_lt l1); (try k_lt2 l2); (try dsimp only); (try k_sweep); (try k_fold))))
  (k_with "call ref" => (k_here; (with_reducible show wpAny _ _ (call (Value.ref 174) _) _ _ _); k_dflt (refine' Mine.glue_parts ?k1 ?k2 ?k3 ?k4 ?k5 ?kK ?kd ?hx ?hg ?_; (case k1 => k_asm); (case k2 => k_asm); (case k3 => k_asm); (case k4 => k_asm); (case k5 => k_asm); (case kK => first | exact rfl | assumption); (case kd => ktr_room); (case hx => k_mem); (case hg => k_mem); k_whole; intro r' h' tk' F' N' l1; (try k_lt l1); (try dsimp only); (try k_sweep); (try k_fold))))
  trivial
section
variable {dp un : Nat} {gd : Option (List Code)} {cn : Str} {cs : Scope} {a : Addr} {ccd : Value} {cl : List (Str × Addr)} {outer : List Env} {A₀ : Around} {base h₀ : Heap} {L : Addr} {m : Str → Option Value} {s : Shared} {Q E : Value → Shared → Prop} {mean : ExcName → Option Value} {mg mb : Str → Option Value} {w : World} {pv : Program} {lv : List Str} {news : List (Addr × Obj)}

def coreZ (x pace : Int) (p : Int × Int × Int × Int × Int) : Option (Int × Int × Int × Int × Int) :=
  if -1073741823 ≤ p.1 + x ∧ p.1 + x ≤ 1073741823 ∧ -1073741823 ≤ nearZ p.2.1 pace 1000 ∧ nearZ p.2.1 pace 1000 ≤ 1073741823 ∧ -1073741823 ≤ nearZ p.2.2.2.1 1000 pace ∧ nearZ p.2.2.2.1 1000 pace ≤ 1073741823
  then some (p.1 + x, nearZ p.2.1 pace 1000, ordOf (nearZ p.2.1 pace 1000) p.2.2.1, nearZ p.2.2.2.1 1000 pace, ordOf (nearZ p.2.2.2.1 1000 pace) p.2.2.2.2) else none
theorem core_b {x pace p1 p2 p3 p4 p5 o1 o2 o3 o4 o5 : Int} (h : coreZ x pace (p1, p2, p3, p4, p5) = some (o1, o2, o3, o4, o5)) :
    -1073741823 ≤ p1 + x ∧ p1 + x ≤ 1073741823 ∧ -1073741823 ≤ nearZ p2 pace 1000 ∧ nearZ p2 pace 1000 ≤ 1073741823 ∧ -1073741823 ≤ nearZ p4 1000 pace ∧ nearZ p4 1000 pace ≤ 1073741823 ∧
    o1 = p1 + x ∧ o2 = nearZ p2 pace 1000 ∧ o3 = ordOf (nearZ p2 pace 1000) p3 ∧ o4 = nearZ p4 1000 pace ∧ o5 = ordOf (nearZ p4 1000 pace) p5 := by
  unfold coreZ at h
  split at h
  · rename_i q
    cases h
    exact ⟨q.1, q.2.1, q.2.2.1, q.2.2.2.1, q.2.2.2.2.1, q.2.2.2.2.2, rfl, rfl, rfl, rfl, rfl⟩
  · cases h
def tellZ (g : Int → Int) (pace v1 v2 v3 v4 v5 e1 e2 e3 e4 e5 : Int) : Option (Int × Int × Int × Int × Int) :=
  if 2000 ≤ pace ∧ isZ e1 e2 e3 e4 e5 = false then some (e1, e2, e3, e4, e5) else coreZ (if 2000 ≤ pace then g 7 else 0) pace (plainZ g v1 v2 v3 v4 v5)
theorem tell_far {g : Int → Int} {pace v1 v2 v3 v4 v5 e1 e2 e3 e4 e5 : Int} (h : 2000 ≤ pace) (hz : (e1 == 0 && (e2 == 0 && (e3 == 0 && (e4 == 0 && e5 == 0)))) = false) : tellZ g pace v1 v2 v3 v4 v5 e1 e2 e3 e4 e5 = some (e1, e2, e3, e4, e5) := if_pos ⟨h, hz⟩
theorem tell_zero {g : Int → Int} {pace v1 v2 v3 v4 v5 e1 e2 e3 e4 e5 : Int} (h : 2000 ≤ pace) (hz : (e1 == 0 && (e2 == 0 && (e3 == 0 && (e4 == 0 && e5 == 0)))) = true) : tellZ g pace v1 v2 v3 v4 v5 e1 e2 e3 e4 e5 = coreZ (g 7) pace (plainZ g v1 v2 v3 v4 v5) := by
  unfold tellZ
  rw [if_neg (fun q => by have := q.2; unfold isZ at this; rw [hz] at this; cases this), if_pos h]
theorem tell_near {g : Int → Int} {pace v1 v2 v3 v4 v5 e1 e2 e3 e4 e5 : Int} (h : ¬ 2000 ≤ pace) : tellZ g pace v1 v2 v3 v4 v5 e1 e2 e3 e4 e5 = coreZ 0 pace (plainZ g v1 v2 v3 v4 v5) := by
  unfold tellZ
  rw [if_neg (fun q => h q.1), if_neg h]
end
theorem lay22 : True := by
  (k_with "call ref" => (k_here; (with_reducible show wpAny _ _ (call (Value.ref 405) [Value.ref _, Value.ref _]) _ _ _); k_dflt (refine' Mine.word_space ?k1 ?k2 ?k3 ?k4 ?k5 ?kK ?kd ?ku ?hf ?hfd ?hp ?hi ?hl ?hxs ?hx ?hg ?b1 ?b2 ?b3 ?b4 ?b5 ?_; (case k1 => k_asm); (case k2 => k_asm); (case k3 => k_asm); (case k4 => k_asm); (case k5 => k_asm); (case kK => first | exact rfl | assumption); (case kd => ktr_room); (case ku => ktr_units); (case hf => k_mem); (case hfd => k_mem); (case hp => k_mem); (case hi => assumption); (case hl => first | assumption | omega); (case hxs => assumption); (case hx => k_mem); (case hg => k_mem); (case b1 => first | assumption | (refine ⟨?_, ?_⟩ <;> first | assumption | omega)); (case b2 => first | assumption | (refine ⟨?_, ?_⟩ <;> first | assumption | omega)); (case b3 => first | assumption | (refine ⟨?_, ?_⟩ <;> first | assumption | omega)); (case b4 => first | assumption | (refine ⟨?_, ?_⟩ <;> first | assumption | omega)); (case b5 => first | assumption | (refine ⟨?_, ?_⟩ <;> first | assumption | omega)); k_whole; intro y' dy' p1' p2' p3' p4' p5' j1' j2' j3' j4' j5' u1' u2' u3' u4' u5' more' h' tk' e' c1' c2' c3' c4' c5' c6' c7' c8' c9' c0' F' N' hy' hd'; (rename (Mine.coreZ _ _ _ = some _) => hc9); (rw [e'] at hc9); (obtain ⟨q1, q2, q3, q4, q5, q6, q7, q8, q9, q10, q11⟩ := Mine.core_b hc9); (try dsimp only); (try k_sweep); (try k_fold))))
  trivial
section
variable {dp un : Nat} {gd : Option (List Code)} {cn : Str} {cs : Scope} {a : Addr} {ccd : Value} {cl : List (Str × Addr)} {outer : List Env} {A₀ : Around} {base h₀ : Heap} {L : Addr} {m : Str → Option Value} {s : Shared} {Q E : Value → Shared → Prop} {mean : ExcName → Option Value} {mg mb : Str → Option Value} {w : World} {pv : Program} {lv : List Str} {news : List (Addr × Obj)}

theorem interword_ok (B : Below A₀ base outer h₀) (F : Fr h₀ L s.heap m) (X : (Mine.hd.heap_1 w.params).In h₀) (N : News h₀ L s.heap news) (T : Top pv lv mean mg mb h₀) (hk : cs.kind = .function) (hd : dp + 8 < recursionLimit)  (hu : un + 300 < cLine)
  {f d pl : Addr} {ks : Nat → Tok} {vs : Nat → Value} {ps : List Value} {xs : List Int} {pn : Nat} (hf : (f, instObj 377 d) ∈ news) (hfd : (d, fObj w pl ks vs) ∈ news) (hp : (pl, listOf ps.toArray pn) ∈ news) (hi : IntsAre ps xs) (hl : xs.length ≤ 64) (hxs : ∀ v ∈ xs, -1073741823 ≤ v ∧ v ≤ 1073741823)
  {x dx : Addr} {v1 v2 v3 v4 v5 : Int} {k1 k2 k3 k4 k5 t1 t2 t3 t4 t5 : Tok} (hx : (x, instObj 220 dx) ∈ news) (hg : (dx, gObj w v1 v2 v3 v4 v5 k1 k2 k3 k4 k5 t1 t2 t3 t4 t5) ∈ news) (b1 : -1073741823 ≤ v1 ∧ v1 ≤ 1073741823) (b2 : -1073741823 ≤ v2 ∧ v2 ≤ 1073741823) (b3 : 0 ≤ v3 ∧ v3 ≤ 3) (b4 : -1073741823 ≤ v4 ∧ v4 ≤ 1073741823) (b5 : 0 ≤ v5 ∧ v5 ≤ 3)
  {z dz : Addr} {e1 e2 e3 e4 e5 : Int} {i1 i2 i3 i4 i5 r1 r2 r3 r4 r5 : Tok} (hz : (z, instObj 220 dz) ∈ news) (hgz : (dz, gObj w e1 e2 e3 e4 e5 i1 i2 i3 i4 i5 r1 r2 r3 r4 r5) ∈ news)
  {pace : Int} {tp : Tok} (hp1 : 1 ≤ pace) (hp2 : pace ≤ 32767) {o1 o2 o3 o4 o5 : Int} (ht : tellZ (parZ xs) pace v1 v2 v3 v4 v5 e1 e2 e3 e4 e5 = some (o1, o2, o3, o4, o5))
  (hret : ∀ y dy j1 j2 j3 j4 j5 u1 u2 u3 u4 u5 more h' tk', Fr h₀ L h' m → News h₀ L h' (more ++ news) → (y, instObj 220 dy) ∈ more → (dy, gObj w o1 o2 o3 o4 o5 j1 j2 j3 j4 j5 u1 u2 u3 u4 u5) ∈ more → Q (.ref y) { s with heap := h', toks := tk' }) :
  wpAny (model PySem.Challenge.rw_sq0037_01.row.prog w) (ktrTop dp un gd cn cs L a ccd cl outer) (call (.ref 412) [.ref f, .int pace tp, .ref x, .ref z]) Q E s := by
  by_cases hfar : 2000 ≤ pace
  · cases hze : (e1 == 0 && (e2 == 0 && (e3 == 0 && (e4 == 0 && e5 == 0))))
    · rw [tell_far hfar hze] at ht
      cases ht
      refine wpAny_call ?_
      k_dflt (refine' code_def ?k1 ?k2 ?k3 ?k4 ?k5 ?kA ?kF ?kK ?k6 ?k7 ?k8 ?k9 ?kB ?_ ?c2 ?c3 ?c4 ?c5; (case kA => exact rfl); (case kF => exact rfl); (case kK => first | exact rfl | assumption); (case k1 => k_asm); (case k2 => k_asm); (case k3 => k_asm); (case k4 => k_asm); (case k5 => k_asm); (case k6 => k_is); (case k7 => k_is); (case k8 => ktr_room); (case k9 => first | exact BindsTo.of_eq rfl | exact binds_K (by k_in) rfl (by k_is) rfl rfl rfl); (case c5 => decide); (case kB => exact locs rfl); (case c2 => exact rfl); (case c3 => exact rfl); (case c4 => exact rfl); k_whole; intro g' L' h' FG' F' N' B' X' T'; (try dsimp only); (try k_fold))
      k_steps
      refine' hret z dz _ _ _ _ _ _ _ _ _ _ [(z, _), (dz, _)] _ _ ?hF ?hN (.head _) (.tail _ (.head _))
      case hN => (refine' dup (dup ?hN9 hgz) ?hx9; (case hN9 => (refine' cb_drop ?cbN ?cbS; (case cbN => assumption); (case cbS => (intro p hp; (repeat (first | exact hp | refine List.mem_append.mpr (.inr ?_) | refine List.mem_cons_of_mem _ ?_)))))); (case hx9 => exact .tail _ hz))
      case hF => assumption
    · rw [tell_zero hfar hze] at ht
      refine wpAny_call ?_
      k_dflt (refine' code_def ?k1 ?k2 ?k3 ?k4 ?k5 ?kA ?kF ?kK ?k6 ?k7 ?k8 ?k9 ?kB ?_ ?c2 ?c3 ?c4 ?c5; (case kA => exact rfl); (case kF => exact rfl); (case kK => first | exact rfl | assumption); (case k1 => k_asm); (case k2 => k_asm); (case k3 => k_asm); (case k4 => k_asm); (case k5 => k_asm); (case k6 => k_is); (case k7 => k_is); (case k8 => ktr_room); (case k9 => first | exact BindsTo.of_eq rfl | exact binds_K (by k_in) rfl (by k_is) rfl rfl rfl); (case c5 => decide); (case kB => exact locs rfl); (case c2 => exact rfl); (case c3 => exact rfl); (case c4 => exact rfl); k_whole; intro g' L' h' FG' F' N' B' X' T'; (try dsimp only); (try k_fold))
      k_steps
      (rename (o1 = _) => w1; rename (o2 = _) => w2; rename (o3 = _) => w3; rename (o4 = _) => w4; rename (o5 = _) => w5; subst w1 w2 w3 w4 w5)
      refine' hret _ _ _ _ _ _ _ _ _ _ _ _ [_, _] _ _ ?hF ?hN (.head _) (.tail _ (.head _))
      case hN => (refine' cb_drop ?cbN ?cbS; (case cbN => assumption); (case cbS => (refine List.forall_mem_cons.mpr ⟨?_, List.forall_mem_cons.mpr ⟨?_, ?_⟩⟩; k_mem; k_mem; (intro p hp; (repeat (first | exact hp | refine List.mem_append.mpr (.inr ?_) | refine List.mem_cons_of_mem _ ?_))))))
      case hF => assumption
  · rw [tell_near hfar] at ht
    refine wpAny_call ?_
    k_dflt (refine' code_def ?k1 ?k2 ?k3 ?k4 ?k5 ?kA ?kF ?kK ?k6 ?k7 ?k8 ?k9 ?kB ?_ ?c2 ?c3 ?c4 ?c5; (case kA => exact rfl); (case kF => exact rfl); (case kK => first | exact rfl | assumption); (case k1 => k_asm); (case k2 => k_asm); (case k3 => k_asm); (case k4 => k_asm); (case k5 => k_asm); (case k6 => k_is); (case k7 => k_is); (case k8 => ktr_room); (case k9 => first | exact BindsTo.of_eq rfl | exact binds_K (by k_in) rfl (by k_is) rfl rfl rfl); (case c5 => decide); (case kB => exact locs rfl); (case c2 => exact rfl); (case c3 => exact rfl); (case c4 => exact rfl); k_whole; intro g' L' h' FG' F' N' B' X' T'; (try dsimp only); (try k_fold))
    k_steps
    (rename (o1 = _) => w1; rename (o2 = _) => w2; rename (o3 = _) => w3; rename (o4 = _) => w4; rename (o5 = _) => w5; subst w1 w2 w3 w4 w5)
    refine' hret _ _ _ _ _ _ _ _ _ _ _ _ [_, _] _ _ ?hF ?hN (.head _) (.tail _ (.head _))
    case hN => (refine' cb_drop ?cbN ?cbS; (case cbN => assumption); (case cbS => (refine List.forall_mem_cons.mpr ⟨?_, List.forall_mem_cons.mpr ⟨?_, ?_⟩⟩; k_mem; k_mem; (intro p hp; (repeat (first | exact hp | refine List.mem_append.mpr (.inr ?_) | refine List.mem_cons_of_mem _ ?_))))))
    case hF => assumption
end

theorem lay23 : True := by
  k_with_none
  trivial

theorem pc52 (w : World) : PgC (Mine.hd.heap_1 w.params) 52 where
  pg := by kernel_rfl
  init := by kernel_rfl
  cls := ⟨_, by k_is, by kernel_rfl, by kernel_rfl⟩
  taker := by kernel_rfl
  set := by kernel_rfl
theorem pc64 (w : World) : PgC (Mine.hd.heap_1 w.params) 64 where
  pg := by kernel_rfl
  init := by kernel_rfl
  cls := ⟨_, by k_is, by kernel_rfl, by kernel_rfl⟩
  taker := by kernel_rfl
  set := by kernel_rfl
theorem pc76 (w : World) : PgC (Mine.hd.heap_1 w.params) 76 where
  pg := by kernel_rfl
  init := by kernel_rfl
  cls := ⟨_, by k_is, by kernel_rfl, by kernel_rfl⟩
  taker := by kernel_rfl
  set := by kernel_rfl
theorem fn36 (w : World) : typeIn (Mine.hd.heap_1 w.params) (.ref 36) = some (.type "function") := by kernel_rfl
section
variable {w : World} {pv : Program} {lv : List Str} {A A₀ : Around} {E : Value → Shared → Prop} {s : Shared} {env : Env} {outer : List Env} {C L : Addr} {base h₀ : Heap} {m : Str → Option Value} {news : List (Addr × Obj)}
  {u : Str} {tk : Tok} {mean : ExcName → Option Value} {mg mb : Str → Option Value}
theorem pg_throw (hA : A.frames = some (env :: outer)) (hf : env.frame = some L) (hke : env.scope.kind = .function) (hroom : A.depth + 1 < recursionLimit)
    (B : Below A₀ base outer h₀) (F : Fr h₀ L s.heap m) (X : (Mine.hd.heap_1 w.params).In h₀) (N : News h₀ L s.heap news) (T : Top pv lv mean mg mb h₀) (PC : PgC (Mine.hd.heap_1 w.params) C)
    (h : ∀ e t d h' tk', Fr h₀ L h' m → News h₀ L h' ((e, { cls := .ref C, dict := some d, data := .fields #[.ref t, .none, .none, .none, .bool false, .none] }) :: (t, tupObj [.str u tk]) :: news) → (∀ p ∈ news, p.1 < t) → t < e → E (.ref e) { s with heap := h', toks := tk' }) :
    wpAny (model PySem.Challenge.rw_sq0037_01.row.prog w) A (call (.ref C) [.str u tk]) (PgThrown (Mine.hd.heap_1 w.params) E) E s := by
  refine pg_call F X N PC.pg PC.init (fn36 w) fun e t h' F' N' l1 l2 => ?_
  refine pg_init (A := A.under (.builtin "type.__call__" ⟨.ref C :: [.str u tk], []⟩)) hA hf hke (by rw [depth_under_make]; exact hroom) B F' X T PC N' (fun p hp b hb => ?_) fun h'' tk' d od F'' N'' l3 => ?_
  · rw [List.mem_singleton.mp hb]
    rcases List.mem_cons.mp hp with rfl | hp
    · exact Nat.ne_of_lt l2
    · exact Nat.ne_of_lt (Nat.lt_trans (l1 p hp) l2)
  · exact ⟨rfl, e, C, t, d, rfl, PC.pg, X.keeps F''.keep, (N'' _ (.tail _ (.head _))).1, h e t d h'' tk' F'' (news_tail N'') l1 l2⟩
theorem pg_RaiseX {K : Frag} {M : Model} {f : Expr} {args : List Expr} {kws : List Keyword} {cpos pos : Pos} {Q : Flow → Shared → Prop} (_X : K.In h₀) (hh : A.handled = none)
    (h : wpAny M A (eval (.Call f args kws cpos) env) (PgThrown K E) E s) : wpAny M A (exec (.Raise (some (.Call f args kws cpos)) none pos) env) Q E s := pg_Raise hh h
end

theorem own_two {news : List (Addr × Obj)} {t e : Addr} (l1 : ∀ p ∈ news, p.1 < t) (l2 : t < e) : OwnOff news [e, t] := fun p hp b hb => by
  rcases List.mem_cons.mp hb with rfl | hb
  · exact Nat.ne_of_lt (Nat.lt_trans (l1 p hp) l2)
  · rw [List.mem_singleton.mp hb]
    exact Nat.ne_of_lt (l1 p hp)
section
variable {dp un : Nat} {gd : Option (List Code)} {cn : Str} {cs : Scope} {a : Addr} {ccd : Value} {cl : List (Str × Addr)} {outer : List Env} {A₀ : Around} {base h₀ : Heap} {L : Addr} {m : Str → Option Value} {s : Shared} {Q E : Value → Shared → Prop} {mean : ExcName → Option Value} {mg mb : Str → Option Value} {w : World} {pv : Program} {lv : List Str} {news : List (Addr × Obj)}
end
theorem lay24 : True := by
  (k_with "call ref" => (k_here; (with_reducible show wpAny _ _ (call (Value.ref 89) [Value.int _ _, Value.int _ _, Value.int _ _]) _ _ _); k_dflt (refine' Mine.is_whole ?k1 ?k2 ?k3 ?k4 ?k5 ?kK ?kd  ?_; (case k1 => k_asm); (case k2 => k_asm); (case k3 => k_asm); (case k4 => k_asm); (case k5 => k_asm); (case kK => first | exact rfl | assumption); (case kd => ktr_room);  k_whole; intro h' tk' F' N';  (try dsimp only); (try k_sweep); (try k_fold))))
  (k_with "call ref" => (k_here; (with_reducible show wpAny _ _ (call (Value.ref 96) [Value.int _ _]) _ _ _); k_dflt (refine' Mine.check_whole ?k1 ?k2 ?k3 ?k4 ?k5 ?kK ?kd  ?_; (case k1 => k_asm); (case k2 => k_asm); (case k3 => k_asm); (case k4 => k_asm); (case k5 => k_asm); (case kK => first | exact rfl | assumption); (case kd => ktr_room);  k_whole; intro h' tk' F' N';  (try dsimp only); (try k_sweep); (try k_fold))))
  (k_with "exec Raise some none" => (k_here; (with_reducible show wpAny _ _ (exec (Stmt.Raise (some (Expr.Call _ _ _ _)) none _) _) _ _ _); k_dflt (refine' Mine.pg_RaiseX ?X ?h ?_; (case X => k_asm); (case h => rfl); k_whole)))
  (k_with "call ref" => (k_here; (with_reducible show wpAny _ _ (call (Value.ref 52) [Value.str _ _]) _ _ _); k_dflt (refine' Mine.pg_throw ?A ?f ?ke ?ro ?k1 ?k2 ?k3 ?k4 ?k5 (Mine.pc52 _) ?_; (case A => exact rfl); (case f => exact rfl); (case ke => first | exact rfl | assumption); (case k1 => k_asm); (case k2 => k_asm); (case k3 => k_asm); (case k4 => k_asm); (case k5 => k_asm); (case ro => ktr_room); k_whole; intro e' t' d' h' tk' F' N' l1 l2; (try dsimp only); (try k_sweep))))
  (k_with "call ref" => (k_here; (with_reducible show wpAny _ _ (call (Value.ref 64) [Value.str _ _]) _ _ _); k_dflt (refine' Mine.pg_throw ?A ?f ?ke ?ro ?k1 ?k2 ?k3 ?k4 ?k5 (Mine.pc64 _) ?_; (case A => exact rfl); (case f => exact rfl); (case ke => first | exact rfl | assumption); (case k1 => k_asm); (case k2 => k_asm); (case k3 => k_asm); (case k4 => k_asm); (case k5 => k_asm); (case ro => ktr_room); k_whole; intro e' t' d' h' tk' F' N' l1 l2; (try dsimp only); (try k_sweep))))
  (k_with "call ref" => (k_here; (with_reducible show wpAny _ _ (call (Value.ref 76) [Value.str _ _]) _ _ _); k_dflt (refine' Mine.pg_throw ?A ?f ?ke ?ro ?k1 ?k2 ?k3 ?k4 ?k5 (Mine.pc76 _) ?_; (case A => exact rfl); (case f => exact rfl); (case ke => first | exact rfl | assumption); (case k1 => k_asm); (case k2 => k_asm); (case k3 => k_asm); (case k4 => k_asm); (case k5 => k_asm); (case ro => ktr_room); k_whole; intro e' t' d' h' tk' F' N' l1 l2; (try dsimp only); (try k_sweep))))
  (k_with "leaving ref" => (k_here; k_dflt (refine' Mine.pg_leave ?K ?F ?N ?c ?d ?r ?_ ?hk; (case K => k_asm); (case N => k_asm); (case F => k_asm); (case c => exact rfl); (case d => exact rfl); (case hk => exact rfl); (case r => (refine Mine.own_two ?_ ?_ <;> assumption)); k_whole; intro h' R' RK' U'; (try dsimp only at R' RK' U' ⊢))))
  trivial
section
variable {dp un : Nat} {gd : Option (List Code)} {cn : Str} {cs : Scope} {a : Addr} {ccd : Value} {cl : List (Str × Addr)} {outer : List Env} {A₀ : Around} {base h₀ : Heap} {L : Addr} {m : Str → Option Value} {s : Shared} {Q E : Value → Shared → Prop} {mean : ExcName → Option Value} {mg mb : Str → Option Value} {w : World} {pv : Program} {lv : List Str} {news : List (Addr × Obj)}

theorem check_dimen_over (B : Below A₀ base outer h₀) (F : Fr h₀ L s.heap m) (X : (Mine.hd.heap_1 w.params).In h₀) (N : News h₀ L s.heap news) (T : Top pv lv mean mg mb h₀) (hk : cs.kind = .function) (hd : dp + 4 < recursionLimit)
  {v : Int} {tv : Tok} (hv : ¬ (-1073741823 ≤ v ∧ v ≤ 1073741823))
  (hexc : ∀ e t vs' g h' tk', Fr h₀ L g m → RaisedS base g (envX cn cs L a ccd cl :: outer) e (.ref 64) t vs' news h' → g.UpToSlots h' → E (.ref e) { s with heap := h', toks := tk' }) :
  wpAny (model PySem.Challenge.rw_sq0037_01.row.prog w) (ktrTop dp un gd cn cs L a ccd cl outer) (call (.ref 103) [.int v tv]) Q E s := by
  refine wpAny_call ?_
  k_dflt (refine' code_def ?k1 ?k2 ?k3 ?k4 ?k5 ?kA ?kF ?kK ?k6 ?k7 ?k8 ?k9 ?kB ?_ ?c2 ?c3 ?c4 ?c5; (case kA => exact rfl); (case kF => exact rfl); (case kK => first | exact rfl | assumption); (case k1 => k_asm); (case k2 => k_asm); (case k3 => k_asm); (case k4 => k_asm); (case k5 => k_asm); (case k6 => k_is); (case k7 => k_is); (case k8 => ktr_room); (case k9 => first | exact BindsTo.of_eq rfl | exact binds_K (by k_in) rfl (by k_is) rfl rfl rfl); (case c5 => decide); (case kB => exact locs rfl); (case c2 => exact rfl); (case c3 => exact rfl); (case c4 => exact rfl); k_whole; intro g' L' h' FG' F' N' B' X' T'; (try dsimp only); (try k_fold))
  k_steps
  · exact hexc _ _ _ _ _ _ FG' (by assumption) (by assumption)
  · exact hexc _ _ _ _ _ _ FG' (by assumption) (by assumption)
end

theorem lay25 : True := by
  k_with_none
  trivial
section
variable {dp un : Nat} {gd : Option (List Code)} {cn : Str} {cs : Scope} {a : Addr} {ccd : Value} {cl : List (Str × Addr)} {outer : List Env} {A₀ : Around} {base h₀ : Heap} {L : Addr} {m : Str → Option Value} {s : Shared} {Q E : Value → Shared → Prop} {mean : ExcName → Option Value} {mg mb : Str → Option Value} {w : World} {pv : Program} {lv : List Str} {news : List (Addr × Obj)}
end
theorem lay26 : True := by
  (k_with "call ref" => (k_here; (with_reducible show wpAny _ _ (call (Value.ref 89) [Value.int _ _, Value.int _ _, Value.int _ _]) _ _ _); k_dflt (refine' Mine.is_whole ?k1 ?k2 ?k3 ?k4 ?k5 ?kK ?kd  ?_; (case k1 => k_asm); (case k2 => k_asm); (case k3 => k_asm); (case k4 => k_asm); (case k5 => k_asm); (case kK => first | exact rfl | assumption); (case kd => ktr_room);  k_whole; intro h' tk' F' N';  (try dsimp only); (try k_sweep); (try k_fold))))
  (k_with "call ref" => (k_here; (with_reducible show wpAny _ _ (call (Value.ref 96) [Value.int _ _]) _ _ _); k_dflt (refine' Mine.check_whole ?k1 ?k2 ?k3 ?k4 ?k5 ?kK ?kd  ?_; (case k1 => k_asm); (case k2 => k_asm); (case k3 => k_asm); (case k4 => k_asm); (case k5 => k_asm); (case kK => first | exact rfl | assumption); (case kd => ktr_room);  k_whole; intro h' tk' F' N';  (try dsimp only); (try k_sweep); (try k_fold))))
  (k_with "call ref" => (k_here; (with_reducible show wpAny _ _ (call (Value.ref 103) [Value.int _ _]) _ _ _); k_dflt (refine' Mine.check_dimen ?k1 ?k2 ?k3 ?k4 ?k5 ?kK ?kd ?e1 ?e2 ?_; (case k1 => k_asm); (case k2 => k_asm); (case k3 => k_asm); (case k4 => k_asm); (case k5 => k_asm); (case kK => first | exact rfl | assumption); (case kd => ktr_room); (case e1 => first | assumption | omega); (case e2 => first | assumption | omega); k_whole; intro h' tk' F' N';  (try dsimp only); (try k_sweep); (try k_fold))))
  (k_with "exec Raise some none" => (k_here; (with_reducible show wpAny _ _ (exec (Stmt.Raise (some (Expr.Call _ _ _ _)) none _) _) _ _ _); k_dflt (refine' Mine.pg_RaiseX ?X ?h ?_; (case X => k_asm); (case h => rfl); k_whole)))
  (k_with "call ref" => (k_here; (with_reducible show wpAny _ _ (call (Value.ref 52) [Value.str _ _]) _ _ _); k_dflt (refine' Mine.pg_throw ?A ?f ?ke ?ro ?k1 ?k2 ?k3 ?k4 ?k5 (Mine.pc52 _) ?_; (case A => exact rfl); (case f => exact rfl); (case ke => first | exact rfl | assumption); (case k1 => k_asm); (case k2 => k_asm); (case k3 => k_asm); (case k4 => k_asm); (case k5 => k_asm); (case ro => ktr_room); k_whole; intro e' t' d' h' tk' F' N' l1 l2; (try dsimp only); (try k_sweep))))
  (k_with "call ref" => (k_here; (with_reducible show wpAny _ _ (call (Value.ref 64) [Value.str _ _]) _ _ _); k_dflt (refine' Mine.pg_throw ?A ?f ?ke ?ro ?k1 ?k2 ?k3 ?k4 ?k5 (Mine.pc64 _) ?_; (case A => exact rfl); (case f => exact rfl); (case ke => first | exact rfl | assumption); (case k1 => k_asm); (case k2 => k_asm); (case k3 => k_asm); (case k4 => k_asm); (case k5 => k_asm); (case ro => ktr_room); k_whole; intro e' t' d' h' tk' F' N' l1 l2; (try dsimp only); (try k_sweep))))
  (k_with "call ref" => (k_here; (with_reducible show wpAny _ _ (call (Value.ref 76) [Value.str _ _]) _ _ _); k_dflt (refine' Mine.pg_throw ?A ?f ?ke ?ro ?k1 ?k2 ?k3 ?k4 ?k5 (Mine.pc76 _) ?_; (case A => exact rfl); (case f => exact rfl); (case ke => first | exact rfl | assumption); (case k1 => k_asm); (case k2 => k_asm); (case k3 => k_asm); (case k4 => k_asm); (case k5 => k_asm); (case ro => ktr_room); k_whole; intro e' t' d' h' tk' F' N' l1 l2; (try dsimp only); (try k_sweep))))
  (k_with "leaving ref" => (k_here; k_dflt (refine' Mine.pg_leave ?K ?F ?N ?c ?d ?r ?_ ?hk; (case K => k_asm); (case N => k_asm); (case F => k_asm); (case c => exact rfl); (case d => exact rfl); (case hk => exact rfl); (case r => (refine Mine.own_two ?_ ?_ <;> assumption)); k_whole; intro h' R' RK' U'; (try dsimp only at R' RK' U' ⊢))))
  (k_with "leaving ref" => (k_here; k_dflt (refine' leave_onS ?K ?F ?R ?U ?_; (case R => assumption); (case U => assumption); (case F => assumption); (case K => k_asm); k_whole; intro h' R' RK' U'; (try dsimp only at R' RK' U' ⊢))))
  (k_with "call builtin:len" => (k_here; (with_reducible show wpAny _ _ (call (Value.builtin "len") [Value.ref _]) _ _ _); k_dflt (refine' kst_len ?k1 ?k2 (IntsAre.length ?k3) ?k4 ?_; (case k1 => k_asm); (case k2 => k_mem); (case k3 => assumption); (case k4 => omega); k_whole; (try dsimp only))))
  trivial
section
variable {dp un : Nat} {gd : Option (List Code)} {cn : Str} {cs : Scope} {a : Addr} {ccd : Value} {cl : List (Str × Addr)} {outer : List Env} {A₀ : Around} {base h₀ : Heap} {L : Addr} {m : Str → Option Value} {s : Shared} {Q E : Value → Shared → Prop} {mean : ExcName → Option Value} {mg mb : Str → Option Value} {w : World} {pv : Program} {lv : List Str} {news : List (Addr × Obj)}

theorem check_whole_bool (B : Below A₀ base outer h₀) (F : Fr h₀ L s.heap m) (X : (Mine.hd.heap_1 w.params).In h₀) (N : News h₀ L s.heap news) (T : Top pv lv mean mg mb h₀) (hk : cs.kind = .function) (hd : dp + 4 < recursionLimit) {b : Bool}
  (hexc : ∀ e t vs' g h' tk', Fr h₀ L g m → RaisedS base g (envX cn cs L a ccd cl :: outer) e (.ref 52) t vs' news h' → g.UpToSlots h' → E (.ref e) { s with heap := h', toks := tk' }) :
  wpAny (model PySem.Challenge.rw_sq0037_01.row.prog w) (ktrTop dp un gd cn cs L a ccd cl outer) (call (.ref 96) [.bool b]) Q E s := by
  refine wpAny_call ?_
  k_dflt (refine' code_def ?k1 ?k2 ?k3 ?k4 ?k5 ?kA ?kF ?kK ?k6 ?k7 ?k8 ?k9 ?kB ?_ ?c2 ?c3 ?c4 ?c5; (case kA => exact rfl); (case kF => exact rfl); (case kK => first | exact rfl | assumption); (case k1 => k_asm); (case k2 => k_asm); (case k3 => k_asm); (case k4 => k_asm); (case k5 => k_asm); (case k6 => k_is); (case k7 => k_is); (case k8 => ktr_room); (case k9 => first | exact BindsTo.of_eq rfl | exact binds_K (by k_in) rfl (by k_is) rfl rfl rfl); (case c5 => decide); (case kB => exact locs rfl); (case c2 => exact rfl); (case c3 => exact rfl); (case c4 => exact rfl); k_whole; intro g' L' h' FG' F' N' B' X' T'; (try dsimp only); (try k_fold))
  k_steps
  all_goals exact hexc _ _ _ _ _ _ FG' (by assumption) (by assumption)
theorem check_whole_none (B : Below A₀ base outer h₀) (F : Fr h₀ L s.heap m) (X : (Mine.hd.heap_1 w.params).In h₀) (N : News h₀ L s.heap news) (T : Top pv lv mean mg mb h₀) (hk : cs.kind = .function) (hd : dp + 4 < recursionLimit)
  (hexc : ∀ e t vs' g h' tk', Fr h₀ L g m → RaisedS base g (envX cn cs L a ccd cl :: outer) e (.ref 52) t vs' news h' → g.UpToSlots h' → E (.ref e) { s with heap := h', toks := tk' }) :
  wpAny (model PySem.Challenge.rw_sq0037_01.row.prog w) (ktrTop dp un gd cn cs L a ccd cl outer) (call (.ref 96) [.none]) Q E s := by
  refine wpAny_call ?_
  k_dflt (refine' code_def ?k1 ?k2 ?k3 ?k4 ?k5 ?kA ?kF ?kK ?k6 ?k7 ?k8 ?k9 ?kB ?_ ?c2 ?c3 ?c4 ?c5; (case kA => exact rfl); (case kF => exact rfl); (case kK => first | exact rfl | assumption); (case k1 => k_asm); (case k2 => k_asm); (case k3 => k_asm); (case k4 => k_asm); (case k5 => k_asm); (case k6 => k_is); (case k7 => k_is); (case k8 => ktr_room); (case k9 => first | exact BindsTo.of_eq rfl | exact binds_K (by k_in) rfl (by k_is) rfl rfl rfl); (case c5 => decide); (case kB => exact locs rfl); (case c2 => exact rfl); (case c3 => exact rfl); (case c4 => exact rfl); k_whole; intro g' L' h' FG' F' N' B' X' T'; (try dsimp only); (try k_fold))
  k_steps
  all_goals exact hexc _ _ _ _ _ _ FG' (by assumption) (by assumption)
end
theorem lay27 : True := by
  (k_with "call ref" => (k_here; (with_reducible show wpAny _ _ (call (Value.ref 96) [Value.bool _]) _ _ _); k_dflt (refine' Mine.check_whole_bool ?k1 ?k2 ?k3 ?k4 ?k5 ?kK ?kd  ?_; (case k1 => k_asm); (case k2 => k_asm); (case k3 => k_asm); (case k4 => k_asm); (case k5 => k_asm); (case kK => first | exact rfl | assumption); (case kd => ktr_room);  k_whole; intro e' t' vs' g2' h' tk' F2' R' U';  (try dsimp only); (try k_sweep); (try k_fold))))
  (k_with "call ref" => (k_here; (with_reducible show wpAny _ _ (call (Value.ref 96) [Value.none]) _ _ _); k_dflt (refine' Mine.check_whole_none ?k1 ?k2 ?k3 ?k4 ?k5 ?kK ?kd  ?_; (case k1 => k_asm); (case k2 => k_asm); (case k3 => k_asm); (case k4 => k_asm); (case k5 => k_asm); (case kK => first | exact rfl | assumption); (case kd => ktr_room);  k_whole; intro e' t' vs' g2' h' tk' F2' R' U';  (try dsimp only); (try k_sweep); (try k_fold))))
  trivial
section
variable {dp un : Nat} {gd : Option (List Code)} {cn : Str} {cs : Scope} {a : Addr} {ccd : Value} {cl : List (Str × Addr)} {outer : List Env} {A₀ : Around} {base h₀ : Heap} {L : Addr} {m : Str → Option Value} {s : Shared} {Q E : Value → Shared → Prop} {mean : ExcName → Option Value} {mg mb : Str → Option Value} {w : World} {pv : Program} {lv : List Str} {news : List (Addr × Obj)}

theorem check_dimen_bool (B : Below A₀ base outer h₀) (F : Fr h₀ L s.heap m) (X : (Mine.hd.heap_1 w.params).In h₀) (N : News h₀ L s.heap news) (T : Top pv lv mean mg mb h₀) (hk : cs.kind = .function) (hd : dp + 5 < recursionLimit) {b : Bool}
  (hexc : ∀ e t vs' g h' tk', Fr h₀ L g m → RaisedS base g (envX cn cs L a ccd cl :: outer) e (.ref 52) t vs' news h' → g.UpToSlots h' → E (.ref e) { s with heap := h', toks := tk' }) :
  wpAny (model PySem.Challenge.rw_sq0037_01.row.prog w) (ktrTop dp un gd cn cs L a ccd cl outer) (call (.ref 103) [.bool b]) Q E s := by
  refine wpAny_call ?_
  k_dflt (refine' code_def ?k1 ?k2 ?k3 ?k4 ?k5 ?kA ?kF ?kK ?k6 ?k7 ?k8 ?k9 ?kB ?_ ?c2 ?c3 ?c4 ?c5; (case kA => exact rfl); (case kF => exact rfl); (case kK => first | exact rfl | assumption); (case k1 => k_asm); (case k2 => k_asm); (case k3 => k_asm); (case k4 => k_asm); (case k5 => k_asm); (case k6 => k_is); (case k7 => k_is); (case k8 => ktr_room); (case k9 => first | exact BindsTo.of_eq rfl | exact binds_K (by k_in) rfl (by k_is) rfl rfl rfl); (case c5 => decide); (case kB => exact locs rfl); (case c2 => exact rfl); (case c3 => exact rfl); (case c4 => exact rfl); k_whole; intro g' L' h' FG' F' N' B' X' T'; (try dsimp only); (try k_fold))
  k_steps
  all_goals exact hexc _ _ _ _ _ _ FG' (by assumption) (by assumption)
theorem check_dimen_none (B : Below A₀ base outer h₀) (F : Fr h₀ L s.heap m) (X : (Mine.hd.heap_1 w.params).In h₀) (N : News h₀ L s.heap news) (T : Top pv lv mean mg mb h₀) (hk : cs.kind = .function) (hd : dp + 5 < recursionLimit)
  (hexc : ∀ e t vs' g h' tk', Fr h₀ L g m → RaisedS base g (envX cn cs L a ccd cl :: outer) e (.ref 52) t vs' news h' → g.UpToSlots h' → E (.ref e) { s with heap := h', toks := tk' }) :
  wpAny (model PySem.Challenge.rw_sq0037_01.row.prog w) (ktrTop dp un gd cn cs L a ccd cl outer) (call (.ref 103) [.none]) Q E s := by
  refine wpAny_call ?_
  k_dflt (refine' code_def ?k1 ?k2 ?k3 ?k4 ?k5 ?kA ?kF ?kK ?k6 ?k7 ?k8 ?k9 ?kB ?_ ?c2 ?c3 ?c4 ?c5; (case kA => exact rfl); (case kF => exact rfl); (case kK => first | exact rfl | assumption); (case k1 => k_asm); (case k2 => k_asm); (case k3 => k_asm); (case k4 => k_asm); (case k5 => k_asm); (case k6 => k_is); (case k7 => k_is); (case k8 => ktr_room); (case k9 => first | exact BindsTo.of_eq rfl | exact binds_K (by k_in) rfl (by k_is) rfl rfl rfl); (case c5 => decide); (case kB => exact locs rfl); (case c2 => exact rfl); (case c3 => exact rfl); (case c4 => exact rfl); k_whole; intro g' L' h' FG' F' N' B' X' T'; (try dsimp only); (try k_fold))
  k_steps
  all_goals exact hexc _ _ _ _ _ _ FG' (by assumption) (by assumption)
end
theorem lay28 : True := by
  (k_with "call ref" => (k_here; (with_reducible show wpAny _ _ (call (Value.ref 103) [Value.bool _]) _ _ _); k_dflt (refine' Mine.check_dimen_bool ?k1 ?k2 ?k3 ?k4 ?k5 ?kK ?kd  ?_; (case k1 => k_asm); (case k2 => k_asm); (case k3 => k_asm); (case k4 => k_asm); (case k5 => k_asm); (case kK => first | exact rfl | assumption); (case kd => ktr_room);  k_whole; intro e' t' vs' g2' h' tk' F2' R' U';  (try dsimp only); (try k_sweep); (try k_fold))))
  (k_with "call ref" => (k_here; (with_reducible show wpAny _ _ (call (Value.ref 103) [Value.none]) _ _ _); k_dflt (refine' Mine.check_dimen_none ?k1 ?k2 ?k3 ?k4 ?k5 ?kK ?kd  ?_; (case k1 => k_asm); (case k2 => k_asm); (case k3 => k_asm); (case k4 => k_asm); (case k5 => k_asm); (case kK => first | exact rfl | assumption); (case kd => ktr_room);  k_whole; intro e' t' vs' g2' h' tk' F2' R' U';  (try dsimp only); (try k_sweep); (try k_fold))))
  (k_with "call ref" => (k_here; (with_reducible show wpAny _ _ (call (Value.ref 103) [Value.int _ _]) _ _ _); k_dflt (refine' Mine.check_dimen_over ?k1 ?k2 ?k3 ?k4 ?k5 ?kK ?kd ?hv ?_; (case k1 => k_asm); (case k2 => k_asm); (case k3 => k_asm); (case k4 => k_asm); (case k5 => k_asm); (case kK => first | exact rfl | assumption); (case kd => ktr_room); (case hv => first | assumption | omega); k_whole; intro e' t' vs' g2' h' tk' F2' R' U';  (try dsimp only); (try k_sweep); (try k_fold))))
  trivial
section
variable {dp un : Nat} {gd : Option (List Code)} {cn : Str} {cs : Scope} {a : Addr} {ccd : Value} {cl : List (Str × Addr)} {outer : List Env} {A₀ : Around} {base h₀ : Heap} {L : Addr} {m : Str → Option Value} {s : Shared} {Q E : Value → Shared → Prop} {mean : ExcName → Option Value} {mg mb : Str → Option Value} {w : World} {pv : Program} {lv : List Str} {news : List (Addr × Obj)}

theorem set_param_num (B : Below A₀ base outer h₀) (F : Fr h₀ L s.heap m) (X : (Mine.hd.heap_1 w.params).In h₀) (N : News h₀ L s.heap news) (T : Top pv lv mean mg mb h₀) (hk : cs.kind = .function) (hd : dp + 6 < recursionLimit) {f : Addr} {k : Int} {tk : Tok} {v : Value} (hk1 : ¬ (1 ≤ k ∧ k ≤ 64))
  (hexc : ∀ e t vs' g h' tk', Fr h₀ L g m → RaisedS base g (envX cn cs L a ccd cl :: outer) e (.ref 76) t vs' news h' → g.UpToSlots h' → E (.ref e) { s with heap := h', toks := tk' }) :
  wpAny (model PySem.Challenge.rw_sq0037_01.row.prog w) (ktrTop dp un gd cn cs L a ccd cl outer) (call (.ref 374) [.ref f, .int k tk, v]) Q E s := by
  refine wpAny_call ?_
  k_dflt (refine' code_def ?k1 ?k2 ?k3 ?k4 ?k5 ?kA ?kF ?kK ?k6 ?k7 ?k8 ?k9 ?kB ?_ ?c2 ?c3 ?c4 ?c5; (case kA => exact rfl); (case kF => exact rfl); (case kK => first | exact rfl | assumption); (case k1 => k_asm); (case k2 => k_asm); (case k3 => k_asm); (case k4 => k_asm); (case k5 => k_asm); (case k6 => k_is); (case k7 => k_is); (case k8 => ktr_room); (case k9 => first | exact BindsTo.of_eq rfl | exact binds_K (by k_in) rfl (by k_is) rfl rfl rfl); (case c5 => decide); (case kB => exact locs rfl); (case c2 => exact rfl); (case c3 => exact rfl); (case c4 => exact rfl); k_whole; intro g' L' h' FG' F' N' B' X' T'; (try dsimp only); (try k_fold))
  k_steps
  all_goals exact hexc _ _ _ _ _ _ FG' (by assumption) (by assumption)
theorem set_param_true (B : Below A₀ base outer h₀) (F : Fr h₀ L s.heap m) (X : (Mine.hd.heap_1 w.params).In h₀) (N : News h₀ L s.heap news) (T : Top pv lv mean mg mb h₀) (hk : cs.kind = .function) (hd : dp + 6 < recursionLimit) {f : Addr} {b : Bool} {v : Value}
  (hexc : ∀ e t vs' g h' tk', Fr h₀ L g m → RaisedS base g (envX cn cs L a ccd cl :: outer) e (.ref 76) t vs' news h' → g.UpToSlots h' → E (.ref e) { s with heap := h', toks := tk' }) :
  wpAny (model PySem.Challenge.rw_sq0037_01.row.prog w) (ktrTop dp un gd cn cs L a ccd cl outer) (call (.ref 374) [.ref f, .bool b, v]) Q E s := by
  refine wpAny_call ?_
  k_dflt (refine' code_def ?k1 ?k2 ?k3 ?k4 ?k5 ?kA ?kF ?kK ?k6 ?k7 ?k8 ?k9 ?kB ?_ ?c2 ?c3 ?c4 ?c5; (case kA => exact rfl); (case kF => exact rfl); (case kK => first | exact rfl | assumption); (case k1 => k_asm); (case k2 => k_asm); (case k3 => k_asm); (case k4 => k_asm); (case k5 => k_asm); (case k6 => k_is); (case k7 => k_is); (case k8 => ktr_room); (case k9 => first | exact BindsTo.of_eq rfl | exact binds_K (by k_in) rfl (by k_is) rfl rfl rfl); (case c5 => decide); (case kB => exact locs rfl); (case c2 => exact rfl); (case c3 => exact rfl); (case c4 => exact rfl); k_whole; intro g' L' h' FG' F' N' B' X' T'; (try dsimp only); (try k_fold))
  k_steps
  all_goals exact hexc _ _ _ _ _ _ FG' (by assumption) (by assumption)
theorem set_param_over (B : Below A₀ base outer h₀) (F : Fr h₀ L s.heap m) (X : (Mine.hd.heap_1 w.params).In h₀) (N : News h₀ L s.heap news) (T : Top pv lv mean mg mb h₀) (hk : cs.kind = .function) (hd : dp + 6 < recursionLimit) {f : Addr} {k v : Int} {tk tv : Tok} (hk1 : 1 ≤ k) (hk2 : k ≤ 64) (hv : ¬ (-1073741823 ≤ v ∧ v ≤ 1073741823))
  (hexc : ∀ e t vs' g h' tk', Fr h₀ L g m → RaisedS base g (envX cn cs L a ccd cl :: outer) e (.ref 64) t vs' news h' → g.UpToSlots h' → E (.ref e) { s with heap := h', toks := tk' }) :
  wpAny (model PySem.Challenge.rw_sq0037_01.row.prog w) (ktrTop dp un gd cn cs L a ccd cl outer) (call (.ref 374) [.ref f, .int k tk, .int v tv]) Q E s := by
  refine wpAny_call ?_
  k_dflt (refine' code_def ?k1 ?k2 ?k3 ?k4 ?k5 ?kA ?kF ?kK ?k6 ?k7 ?k8 ?k9 ?kB ?_ ?c2 ?c3 ?c4 ?c5; (case kA => exact rfl); (case kF => exact rfl); (case kK => first | exact rfl | assumption); (case k1 => k_asm); (case k2 => k_asm); (case k3 => k_asm); (case k4 => k_asm); (case k5 => k_asm); (case k6 => k_is); (case k7 => k_is); (case k8 => ktr_room); (case k9 => first | exact BindsTo.of_eq rfl | exact binds_K (by k_in) rfl (by k_is) rfl rfl rfl); (case c5 => decide); (case kB => exact locs rfl); (case c2 => exact rfl); (case c3 => exact rfl); (case c4 => exact rfl); k_whole; intro g' L' h' FG' F' N' B' X' T'; (try dsimp only); (try k_fold))
  k_steps
  all_goals exact hexc _ _ _ _ _ _ FG' (by assumption) (by assumption)
theorem set_param_abool (B : Below A₀ base outer h₀) (F : Fr h₀ L s.heap m) (X : (Mine.hd.heap_1 w.params).In h₀) (N : News h₀ L s.heap news) (T : Top pv lv mean mg mb h₀) (hk : cs.kind = .function) (hd : dp + 6 < recursionLimit) {f : Addr} {k : Int} {tk : Tok} {b : Bool} (hk1 : 1 ≤ k) (hk2 : k ≤ 64)
  (hexc : ∀ e t vs' g h' tk', Fr h₀ L g m → RaisedS base g (envX cn cs L a ccd cl :: outer) e (.ref 52) t vs' news h' → g.UpToSlots h' → E (.ref e) { s with heap := h', toks := tk' }) :
  wpAny (model PySem.Challenge.rw_sq0037_01.row.prog w) (ktrTop dp un gd cn cs L a ccd cl outer) (call (.ref 374) [.ref f, .int k tk, .bool b]) Q E s := by
  refine wpAny_call ?_
  k_dflt (refine' code_def ?k1 ?k2 ?k3 ?k4 ?k5 ?kA ?kF ?kK ?k6 ?k7 ?k8 ?k9 ?kB ?_ ?c2 ?c3 ?c4 ?c5; (case kA => exact rfl); (case kF => exact rfl); (case kK => first | exact rfl | assumption); (case k1 => k_asm); (case k2 => k_asm); (case k3 => k_asm); (case k4 => k_asm); (case k5 => k_asm); (case k6 => k_is); (case k7 => k_is); (case k8 => ktr_room); (case k9 => first | exact BindsTo.of_eq rfl | exact binds_K (by k_in) rfl (by k_is) rfl rfl rfl); (case c5 => decide); (case kB => exact locs rfl); (case c2 => exact rfl); (case c3 => exact rfl); (case c4 => exact rfl); k_whole; intro g' L' h' FG' F' N' B' X' T'; (try dsimp only); (try k_fold))
  k_steps
  all_goals exact hexc _ _ _ _ _ _ FG' (by assumption) (by assumption)
theorem set_param_anone (B : Below A₀ base outer h₀) (F : Fr h₀ L s.heap m) (X : (Mine.hd.heap_1 w.params).In h₀) (N : News h₀ L s.heap news) (T : Top pv lv mean mg mb h₀) (hk : cs.kind = .function) (hd : dp + 6 < recursionLimit) {f : Addr} {k : Int} {tk : Tok} (hk1 : 1 ≤ k) (hk2 : k ≤ 64)
  (hexc : ∀ e t vs' g h' tk', Fr h₀ L g m → RaisedS base g (envX cn cs L a ccd cl :: outer) e (.ref 52) t vs' news h' → g.UpToSlots h' → E (.ref e) { s with heap := h', toks := tk' }) :
  wpAny (model PySem.Challenge.rw_sq0037_01.row.prog w) (ktrTop dp un gd cn cs L a ccd cl outer) (call (.ref 374) [.ref f, .int k tk, .none]) Q E s := by
  refine wpAny_call ?_
  k_dflt (refine' code_def ?k1 ?k2 ?k3 ?k4 ?k5 ?kA ?kF ?kK ?k6 ?k7 ?k8 ?k9 ?kB ?_ ?c2 ?c3 ?c4 ?c5; (case kA => exact rfl); (case kF => exact rfl); (case kK => first | exact rfl | assumption); (case k1 => k_asm); (case k2 => k_asm); (case k3 => k_asm); (case k4 => k_asm); (case k5 => k_asm); (case k6 => k_is); (case k7 => k_is); (case k8 => ktr_room); (case k9 => first | exact BindsTo.of_eq rfl | exact binds_K (by k_in) rfl (by k_is) rfl rfl rfl); (case c5 => decide); (case kB => exact locs rfl); (case c2 => exact rfl); (case c3 => exact rfl); (case c4 => exact rfl); k_whole; intro g' L' h' FG' F' N' B' X' T'; (try dsimp only); (try k_fold))
  k_steps
  all_goals exact hexc _ _ _ _ _ _ FG' (by assumption) (by assumption)
end

theorem lay29 : True := by
  k_with_none
  trivial
section
variable {dp un : Nat} {gd : Option (List Code)} {cn : Str} {cs : Scope} {a : Addr} {ccd : Value} {cl : List (Str × Addr)} {outer : List Env} {A₀ : Around} {base h₀ : Heap} {L : Addr} {m : Str → Option Value} {s : Shared} {Q E : Value → Shared → Prop} {mean : ExcName → Option Value} {mg mb : Str → Option Value} {w : World} {pv : Program} {lv : List Str} {news : List (Addr × Obj)}
end
theorem lay30 : True := by
  (k_with "call ref" => (k_here; (with_reducible show wpAny _ _ (call (Value.ref 89) [Value.int _ _, Value.int _ _, Value.int _ _]) _ _ _); k_dflt (refine' Mine.is_whole ?k1 ?k2 ?k3 ?k4 ?k5 ?kK ?kd  ?_; (case k1 => k_asm); (case k2 => k_asm); (case k3 => k_asm); (case k4 => k_asm); (case k5 => k_asm); (case kK => first | exact rfl | assumption); (case kd => ktr_room);  k_whole; intro h' tk' F' N';  (try dsimp only); (try k_sweep); (try k_fold))))
  (k_with "call ref" => (k_here; (with_reducible show wpAny _ _ (call (Value.ref 96) [Value.int _ _]) _ _ _); k_dflt (refine' Mine.check_whole ?k1 ?k2 ?k3 ?k4 ?k5 ?kK ?kd  ?_; (case k1 => k_asm); (case k2 => k_asm); (case k3 => k_asm); (case k4 => k_asm); (case k5 => k_asm); (case kK => first | exact rfl | assumption); (case kd => ktr_room);  k_whole; intro h' tk' F' N';  (try dsimp only); (try k_sweep); (try k_fold))))
  (k_with "call ref" => (k_here; (with_reducible show wpAny _ _ (call (Value.ref 103) [Value.int _ _]) _ _ _); k_dflt (refine' Mine.check_dimen ?k1 ?k2 ?k3 ?k4 ?k5 ?kK ?kd ?e1 ?e2 ?_; (case k1 => k_asm); (case k2 => k_asm); (case k3 => k_asm); (case k4 => k_asm); (case k5 => k_asm); (case kK => first | exact rfl | assumption); (case kd => ktr_room); (case e1 => first | assumption | omega); (case e2 => first | assumption | omega); k_whole; intro h' tk' F' N';  (try dsimp only); (try k_sweep); (try k_fold))))
  (k_with "call builtin:len" => (k_here; (with_reducible show wpAny _ _ (call (Value.builtin "len") [Value.ref _]) _ _ _); k_dflt (refine' kst_len ?k1 ?k2 (IntsAre.length ?k3) ?k4 ?_; (case k1 => k_asm); (case k2 => k_mem); (case k3 => assumption); (case k4 => omega); k_whole; (try dsimp only))))
  trivial
section
variable {dp un : Nat} {gd : Option (List Code)} {cn : Str} {cs : Scope} {a : Addr} {ccd : Value} {cl : List (Str × Addr)} {outer : List Env} {A₀ : Around} {base h₀ : Heap} {L : Addr} {m : Str → Option Value} {s : Shared} {Q E : Value → Shared → Prop} {mean : ExcName → Option Value} {mg mb : Str → Option Value} {w : World} {pv : Program} {lv : List Str} {news : List (Addr × Obj)}

theorem parZ_app (xs : List Int) (j : Nat) (n : Int) : parZ (xs ++ List.replicate j 0) n = parZ xs n := by
  unfold parZ
  by_cases h : 1 ≤ n ∧ n ≤ (xs.length : Int)
  · rw [if_pos h, if_pos ⟨h.1, by rw [List.length_append]; omega⟩, List.getD_eq_getElem?_getD, List.getD_eq_getElem?_getD, List.getElem?_append_left (by omega)]
  · rw [if_neg h]
    split
    · rename_i q
      rw [List.getD_eq_getElem?_getD, List.getElem?_append_right (by omega), List.getElem?_replicate]
      split <;> rfl
    · rfl
theorem parZ_set {ys : List Int} {k v : Int} (n : Int) (h1 : 1 ≤ k) (h2 : k ≤ (ys.length : Int)) : parZ (ys.set (k - 1).toNat v) n = if n = k then v else parZ ys n := by
  unfold parZ
  rw [List.length_set]
  by_cases h : 1 ≤ n ∧ n ≤ (ys.length : Int)
  · rw [if_pos h, if_pos h]
    by_cases e : n = k
    · subst e
      rw [if_pos rfl, List.getD_eq_getElem?_getD, List.getElem?_set_self (by omega)]
      rfl
    · rw [if_neg e, List.getD_eq_getElem?_getD, List.getElem?_set_ne (by omega), ← List.getD_eq_getElem?_getD]
  · rw [if_neg h, if_neg h, if_neg (fun e => h (by subst e; exact ⟨h1, h2⟩))]
theorem set_all {xs : List Int} {j i : Nat} {v : Int} (h : ∀ z ∈ xs, -1073741823 ≤ z ∧ z ≤ 1073741823) (hv : -1073741823 ≤ v ∧ v ≤ 1073741823) : ∀ z ∈ (xs ++ List.replicate j 0).set i v, -1073741823 ≤ z ∧ z ≤ 1073741823 := fun z hz => by
  rcases List.mem_or_eq_of_mem_set hz with hz | rfl
  · rcases List.mem_append.mp hz with hz | hz
    · exact h z hz
    · rw [(List.mem_replicate.mp hz).2]; decide
  · exact hv
theorem set_param0 (B : Below A₀ base outer h₀) (F : Fr h₀ L s.heap m) (X : (Mine.hd.heap_1 w.params).In h₀) (T : Top pv lv mean mg mb h₀) (hk : cs.kind = .function) (hd : dp + 6 < recursionLimit) {rest : List (Addr × Obj)} {f d pl : Addr} {ks : Nat → Tok} {vs : Nat → Value} {ps : List Value} {xs : List Int} {pn : Nat}
  (hfd0 : f ≠ d) (hfp : f ≠ pl) (hdp : d ≠ pl) (hr : OwnOff rest [pl]) (N : News h₀ L s.heap ((f, instObj 377 d) :: (d, fObj w pl ks vs) :: (pl, listOf ps.toArray pn) :: rest)) (hi : IntsAre ps xs) (hl : xs.length ≤ 64)
  {k v : Int} {tk tv : Tok} (hk1 : 1 ≤ k) (hk2 : k ≤ 64) (hv : -1073741823 ≤ v) (hv' : v ≤ 1073741823) (hxs : ∀ z ∈ xs, -1073741823 ≤ z ∧ z ≤ 1073741823)
  (hret : ∀ ps' xs' pn' h' tk', IntsAre ps' xs' → xs'.length ≤ 64 → (∀ n, parZ xs' n = if n = k then v else parZ xs n) → (∀ z ∈ xs', -1073741823 ≤ z ∧ z ≤ 1073741823) → Fr h₀ L h' m → News h₀ L h' ((f, instObj 377 d) :: (d, fObj w pl ks vs) :: (pl, listOf ps'.toArray pn') :: rest) → Q .none { s with heap := h', toks := tk' }) :
  wpAny (model PySem.Challenge.rw_sq0037_01.row.prog w) (ktrTop dp un gd cn cs L a ccd cl outer) (call (.ref 374) [.ref f, .int k tk, .int v tv]) Q E s := by
  refine wpAny_call ?_
  k_dflt (refine' code_def ?k1 ?k2 ?k3 ?k4 ?k5 ?kA ?kF ?kK ?k6 ?k7 ?k8 ?k9 ?kB ?_ ?c2 ?c3 ?c4 ?c5; (case kA => exact rfl); (case kF => exact rfl); (case kK => first | exact rfl | assumption); (case k1 => k_asm); (case k2 => k_asm); (case k3 => k_asm); (case k4 => k_asm); (case k5 => k_asm); (case k6 => k_is); (case k7 => k_is); (case k8 => ktr_room); (case k9 => first | exact BindsTo.of_eq rfl | exact binds_K (by k_in) rfl (by k_is) rfl rfl rfl); (case c5 => decide); (case kB => exact locs rfl); (case c2 => exact rfl); (case c3 => exact rfl); (case c4 => exact rfl); k_whole; intro g' L' h' FG' F' N' B' X' T'; (try dsimp only); (try k_fold))
  repeat' (first | (k_unfold; (try dsimp only)) | ((fail_if_success (with_reducible show wpAny _ _ (exec (Stmt.While _ _ _ _) _) _ _ _)); first | walk1 | (dsimp only; walk1)))
  rename (Fr _ _ _ _) => F9
  rename (News _ _ _ _) => N9
  refine ksw_while (σ := List Value × List Int × Nat) (fun c => (f, instObj 377 d) :: (d, fObj w pl ks vs) :: (pl, listOf c.1.toArray c.2.2) :: rest) (fun _ => []) (fun c => IntsAre c.1 c.2.1) []
    (fun c => c.2.1.length ≤ 64 ∧ ∃ j, c.2.1 = xs ++ List.replicate j 0 ∧ (j = 0 ∨ (c.2.1.length : Int) ≤ k)) (fun c => (k - (c.2.1.length : Int)).toNat) (ps, xs, pn) F9 N9 hi (fun _ hp => nomatch hp) ⟨hl, 0, by simp, .inl rfl⟩ ?_
  clear F9 N9
  rintro ⟨qs, ys, qn⟩ u h tk hqi ⟨hq64, j, hj, hjk⟩ F9 N9
  dsimp only at hqi hq64 hj hjk F9 N9
  k_steps
  · (rename (News _ _ _ _) => N8; rw [List.push_toArray] at N8; obtain ⟨t0, N8⟩ : ∃ t0, News _ _ _ ((f, instObj 377 d) :: (d, fObj w pl ks vs) :: (pl, listOf (qs ++ [Value.int 0 t0]).toArray (qn + 1)) :: rest) := ⟨_, N8⟩)
    refine' ksw_end (qs ++ [.int 0 t0], ys ++ [0], qn + 1) ?F ?N ?hn ?hf ?hk ?hr ?hp ?hm
    case N => exact N8
    case F => assumption
    case hn => exact fun p hp => hp
    case hf => exact IntsAre.append hqi (.cons _ _ .nil)
    case hk => exact fun _ hp => nomatch hp
    case hr => exact fun _ _ _ => rfl
    case hp => exact ⟨by rw [List.length_append]; simp; omega, j + 1, by rw [hj, List.replicate_succ', List.append_assoc], .inr (by rw [List.length_append]; simp; omega)⟩
    case hm => (show (k - ((ys ++ [0]).length : Int)).toNat < (k - (ys.length : Int)).toNat; rw [List.length_append]; simp; omega)
  · subst hj
    refine' hret _ _ _ _ _ ?hi ?hl ?hg ?hb ?hF ?hN
    case hN => assumption
    case hF => assumption
    case hi => assumption
    case hl => (rw [List.length_set]; exact hq64)
    case hg => (intro n; rw [parZ_set n hk1 (by omega), parZ_app])
    case hb => exact set_all hxs ⟨hv, hv'⟩

theorem news_ne {h₀ h : Heap} {L a b : Addr} {o o' : Obj} {news : List (Addr × Obj)} (N : News h₀ L h news) (h1 : (a, o) ∈ news) (h2 : (b, o') ∈ news) (hc : o.cls ≠ o'.cls) : a ≠ b := fun e => by
  have e1 := (N _ h1).1
  have e2 := (N _ h2).1
  dsimp only at e1 e2
  rw [e, e2] at e1
  exact hc (congrArg Obj.cls (Option.some.inj e1)).symm
theorem set_param (B : Below A₀ base outer h₀) (F : Fr h₀ L s.heap m) (X : (Mine.hd.heap_1 w.params).In h₀) (N : News h₀ L s.heap news) (T : Top pv lv mean mg mb h₀) (hk : cs.kind = .function) (hd : dp + 6 < recursionLimit) {f d pl : Addr} {ks : Nat → Tok} {vs : Nat → Value} {ps : List Value} {xs : List Int} {pn : Nat} {u : Obj → List (Addr × Obj)}
  (U : UpdF pl (listOf ps.toArray pn) news u) (hf : (f, instObj 377 d) ∈ news) (hfd : (d, fObj w pl ks vs) ∈ news) (hi : IntsAre ps xs) (hl : xs.length ≤ 64)
  {k v : Int} {tk tv : Tok} (hk1 : 1 ≤ k) (hk2 : k ≤ 64) (hv : -1073741823 ≤ v) (hv' : v ≤ 1073741823) (hxs : ∀ z ∈ xs, -1073741823 ≤ z ∧ z ≤ 1073741823)
  (hret : ∀ ps' xs' pn' h' tk', IntsAre ps' xs' → xs'.length ≤ 64 → (∀ n, parZ xs' n = if n = k then v else parZ xs n) → (∀ z ∈ xs', -1073741823 ≤ z ∧ z ≤ 1073741823) → Fr h₀ L h' m → News h₀ L h' (u (listOf ps'.toArray pn')) → Q .none { s with heap := h', toks := tk' }) :
  wpAny (model PySem.Challenge.rw_sq0037_01.row.prog w) (ktrTop dp un gd cn cs L a ccd cl outer) (call (.ref 374) [.ref f, .int k tk, .int v tv]) Q E s := by
  obtain ⟨rest, N1, hr, back, _⟩ := updF_head U N
  have hpl : (pl, listOf ps.toArray pn) ∈ news := by
    obtain ⟨pre, post, e, _, _, _⟩ := U.split
    rw [e]
    exact List.mem_append.mpr (.inr (.head _))
  refine set_param0 B F X T hk hd (news_ne N hf hfd (by intro q; cases q)) (news_ne N hf hpl (by intro q; cases q)) (news_ne N hfd hpl (show (Value.type "dict") ≠ Value.type "list" from fun q => absurd (Value.type.inj q) (by decide))) hr (rest := rest) (ks := ks) (vs := vs) (pn := pn) (fun q hq => ?_) hi hl hk1 hk2 hv hv' hxs fun ps' xs' pn' h' tk' i1 i2 i3 i4 F' N' => hret ps' xs' pn' h' tk' i1 i2 i3 i4 F' (back _ _ fun q hq => N' q (.tail _ (.tail _ hq)))
  rcases List.mem_cons.mp hq with rfl | hq
  · exact N _ hf
  · rcases List.mem_cons.mp hq with rfl | hq
    · exact N _ hfd
    · exact N1 _ hq
end

theorem lay31 : True := by
  k_with_none
  trivial

section
variable {prog : Program} {w : World} {A₀ A : Around} {s : Shared} {base h₀ : Heap} {env : Env} {L : Addr} {m : Str → Option Value} {news : List (Addr × Obj)} {K : Frag} {p : Program} {loose : List Str} {mean : ExcName → Option Value} {mg mb : Str → Option Value}
    {R : Result → Shared → Prop} {name qual : Str} {params : Arguments} {body : List Stmt} {scope : Scope} {dV kV doc pm cdv ct oc : Value} {an od : Option Addr} {osl : Array (Option Value)} {f : Addr} {args : Args} {binds : List (Str × Value)}
theorem code_tryX (B : Below A₀ base [] h₀) (F : Fr h₀ L s.heap m) (X₀ : K.In h₀) (N : News h₀ L s.heap news) (T : Top p loose mean mg mb h₀) (hA : A.frames = some [env]) (hf : env.frame = some L) (hke : env.scope.kind = .function)
    (ho : K.lookup f = some ⟨oc, od, .func (fnOf name qual params body scope dV kV doc pm an cdv ct), osl⟩) (hcd : codeIn K cdv qual = true) (hroom : A.depth < recursionLimit)
    (hbind : BindsTo s (fnOf name qual params body scope dV kV doc pm an cdv ct) args binds) (hloc : ∀ y ∈ binds, scope.names.lookup y.1 = some .local)
    (h : ∀ g L' h₁, Fr h₀ L g m → Fr g L' h₁ (fun y => binds.reverse.lookup y) → News g L' h₁ news → Below A base [env] g → K.In g → Top p loose mean mg mb g → KtsDicts ([env].filterMap (·.frame)) g →
      wpAny (model prog w) (A.deeper (envOf qual scope L' f cdv)) (execs body (envOf qual scope L' f cdv))
        (fun fl s' => LeaveS0 ([env].filterMap (·.frame)) h₀ L m g R (match fl with | .ret v => v | _ => .none) s')
        (fun e s' => wpAny (model prog w) (A.deeper (envOf qual scope L' f cdv)) (leaving (envOf qual scope L' f cdv) e) (fun _ s'' => R (.error e) s'') (fun e' s'' => R (.error e') s'') s')
        { s with heap := h₁, toks := s.toks + binds.length })
    (hco : scope.isCoroutine = false) (hgen : scope.isGenerator = false) (hk : scope.kind = .function)
    (hcell : ∀ x ∈ scope.names, x.2 ≠ .cell) : codeAny (model prog w) A (.call (.ref f) args) R s := by
  have X := X₀.keeps F.keep
  have hfs : [env].filterMap (·.frame) = [L] := by simp [hf]
  refine codeAny_call_def (fd := fnOf name qual params body scope dV kV doc pm an cdv ct) (body := body) (binds := binds) hroom (X _ _ ho) rfl (T.nolimit.keeps F.keep) (codeRec_of X hcd) rfl hbind hcell hloc (fun h₁ hns hk₁ => ?_) hco hgen hk
  obtain ⟨FG, BG, st, _⟩ := groundX (R := R) B F N hA hf hke
  obtain ⟨oL, es, ep, hLg, hLd, hLk, hLf⟩ := FG.ns
  refine wpAny_mono (h _ s.heap.objs.size h₁ FG ⟨hns, fun b o e => hk₁ b o (of_hideAll _ e), Nat.le_of_eq (hideAll_size _ _)⟩
    (fun p hp => ⟨hk₁ _ _ (N p hp).1, Nat.ne_of_lt (Heap.lt_size (N p hp).1), hideAll_none _ (List.mem_map_of_mem hp)⟩) BG (X₀.keeps st) (T.keeps st) (fun b hb => by
      rw [hfs, List.mem_singleton] at hb
      subst hb
      exact ⟨oL, es, ep, hLg, hLd⟩)) (fun fl s' hl => ?_) fun _ _ y => y
  obtain ⟨g', L', m', news', T', F', N', k⟩ := hl
  rw [hfs] at T'
  have nL₀ : h₀.get? L = none := kts_self F
  obtain ⟨sl, hs⟩ := T'.up hLg
  refine k ⟨⟨_, es, ep, F'.keep _ _ hs, hLd, hLk, hLf⟩, fun b o e => F'.keep b o (T'.other b o (st b o e) (fun q => by
    rw [List.mem_singleton.mp q, nL₀] at e
    cases e)), F.above⟩ fun p hp => ⟨(N' p hp).1, fun q => ?_, ?_⟩
  · have := (N' p hp).2.2; rw [q, hs] at this; cases this
  · cases q : h₀.get? p.1 with
    | none => rfl
    | some o =>
      obtain ⟨sl', hs'⟩ := T'.up (st _ _ q)
      have := (N' p hp).2.2
      rw [hs'] at this
      cases this
end
section
variable {dp un : Nat} {gd : Option (List Code)} {cn : Str} {cs : Scope} {a : Addr} {ccd : Value} {cl : List (Str × Addr)} {A₀ : Around} {base h₀ : Heap} {L : Addr} {m : Str → Option Value} {s : Shared} {Q E : Value → Shared → Prop} {mean : ExcName → Option Value} {mg mb : Str → Option Value} {w : World} {pv : Program} {lv : List Str} {news : List (Addr × Obj)}
end
theorem lay32 : True := by
  (k_with "exec Raise some none" => (k_here; (with_reducible show wpAny _ _ (exec (Stmt.Raise (some (Expr.Call _ _ _ _)) none _) _) _ _ _); k_dflt (refine' Mine.pg_RaiseX ?X ?h ?_; (case X => k_asm); (case h => rfl); k_whole)))
  (k_with "call ref" => (k_here; (with_reducible show wpAny _ _ (call (Value.ref 52) [Value.str _ _]) _ _ _); k_dflt (refine' Mine.pg_throw ?A ?f ?ke ?ro ?k1 ?k2 ?k3 ?k4 ?k5 (Mine.pc52 _) ?_; (case A => exact rfl); (case f => exact rfl); (case ke => first | exact rfl | assumption); (case k1 => k_asm); (case k2 => k_asm); (case k3 => k_asm); (case k4 => k_asm); (case k5 => k_asm); (case ro => ktr_room); k_whole; intro e' t' d' h' tk' F' N' l1 l2; (try dsimp only); (try k_sweep))))
  (k_with "call ref" => (k_here; (with_reducible show wpAny _ _ (call (Value.ref 64) [Value.str _ _]) _ _ _); k_dflt (refine' Mine.pg_throw ?A ?f ?ke ?ro ?k1 ?k2 ?k3 ?k4 ?k5 (Mine.pc64 _) ?_; (case A => exact rfl); (case f => exact rfl); (case ke => first | exact rfl | assumption); (case k1 => k_asm); (case k2 => k_asm); (case k3 => k_asm); (case k4 => k_asm); (case k5 => k_asm); (case ro => ktr_room); k_whole; intro e' t' d' h' tk' F' N' l1 l2; (try dsimp only); (try k_sweep))))
  (k_with "call ref" => (k_here; (with_reducible show wpAny _ _ (call (Value.ref 76) [Value.str _ _]) _ _ _); k_dflt (refine' Mine.pg_throw ?A ?f ?ke ?ro ?k1 ?k2 ?k3 ?k4 ?k5 (Mine.pc76 _) ?_; (case A => exact rfl); (case f => exact rfl); (case ke => first | exact rfl | assumption); (case k1 => k_asm); (case k2 => k_asm); (case k3 => k_asm); (case k4 => k_asm); (case k5 => k_asm); (case ro => ktr_room); k_whole; intro e' t' d' h' tk' F' N' l1 l2; (try dsimp only); (try k_sweep))))
  (k_with "leaving ref" => (k_here; k_dflt (refine' Mine.pg_leave ?K ?F ?N ?c ?d ?r ?_ ?hk; (case K => k_asm); (case N => k_asm); (case F => k_asm); (case c => exact rfl); (case d => exact rfl); (case hk => exact rfl); (case r => (refine Mine.own_two ?_ ?_ <;> assumption)); k_whole; intro h' R' RK' U'; (try dsimp only at R' RK' U' ⊢))))
  (k_with "leaving ref" => (k_here; k_dflt (refine' leave_onS ?K ?F ?R ?U ?_; (case R => assumption); (case U => assumption); (case F => assumption); (case K => k_asm); k_whole; intro h' R' RK' U'; (try dsimp only at R' RK' U' ⊢))))
  (k_with "call ref" => (k_here; (with_reducible show wpAny _ _ (call (Value.ref 374) [Value.ref _, Value.int _ _, _]) _ _ _); k_dflt (refine' Mine.set_param_num ?k1 ?k2 ?k3 ?k4 ?k5 ?kK ?kd ?hv ?_; (case k1 => k_asm); (case k2 => k_asm); (case k3 => k_asm); (case k4 => k_asm); (case k5 => k_asm); (case kK => first | exact rfl | assumption); (case kd => ktr_room); (case hv => first | assumption | omega); k_whole; intro e' t' vs' g2' h' tk' F2' R' U';  (try dsimp only); (try k_sweep); (try k_fold))))
  (k_with "call ref" => (k_here; (with_reducible show wpAny _ _ (call (Value.ref 374) [Value.ref _, Value.bool _, _]) _ _ _); k_dflt (refine' Mine.set_param_true ?k1 ?k2 ?k3 ?k4 ?k5 ?kK ?kd  ?_; (case k1 => k_asm); (case k2 => k_asm); (case k3 => k_asm); (case k4 => k_asm); (case k5 => k_asm); (case kK => first | exact rfl | assumption); (case kd => ktr_room);  k_whole; intro e' t' vs' g2' h' tk' F2' R' U';  (try dsimp only); (try k_sweep); (try k_fold))))
  (k_with "call ref" => (k_here; (with_reducible show wpAny _ _ (call (Value.ref 374) [Value.ref _, Value.int _ _, Value.int _ _]) _ _ _); k_dflt (refine' Mine.set_param_over ?k1 ?k2 ?k3 ?k4 ?k5 ?kK ?kd ?hx ?hy ?hv ?_; (case k1 => k_asm); (case k2 => k_asm); (case k3 => k_asm); (case k4 => k_asm); (case k5 => k_asm); (case kK => first | exact rfl | assumption); (case kd => ktr_room); (case hx => first | assumption | omega); (case hy => first | assumption | omega); (case hv => first | assumption | omega); k_whole; intro e' t' vs' g2' h' tk' F2' R' U';  (try dsimp only); (try k_sweep); (try k_fold))))
  (k_with "call ref" => (k_here; (with_reducible show wpAny _ _ (call (Value.ref 374) [Value.ref _, Value.int _ _, Value.bool _]) _ _ _); k_dflt (refine' Mine.set_param_abool ?k1 ?k2 ?k3 ?k4 ?k5 ?kK ?kd ?hx ?hy ?_; (case k1 => k_asm); (case k2 => k_asm); (case k3 => k_asm); (case k4 => k_asm); (case k5 => k_asm); (case kK => first | exact rfl | assumption); (case kd => ktr_room); (case hx => first | assumption | omega); (case hy => first | assumption | omega); k_whole; intro e' t' vs' g2' h' tk' F2' R' U';  (try dsimp only); (try k_sweep); (try k_fold))))
  (k_with "call ref" => (k_here; (with_reducible show wpAny _ _ (call (Value.ref 374) [Value.ref _, Value.int _ _, Value.none]) _ _ _); k_dflt (refine' Mine.set_param_anone ?k1 ?k2 ?k3 ?k4 ?k5 ?kK ?kd ?hx ?hy ?_; (case k1 => k_asm); (case k2 => k_asm); (case k3 => k_asm); (case k4 => k_asm); (case k5 => k_asm); (case kK => first | exact rfl | assumption); (case kd => ktr_room); (case hx => first | assumption | omega); (case hy => first | assumption | omega); k_whole; intro e' t' vs' g2' h' tk' F2' R' U';  (try dsimp only); (try k_sweep); (try k_fold))))
  trivial
section
variable {dp un : Nat} {gd : Option (List Code)} {cn : Str} {cs : Scope} {a : Addr} {ccd : Value} {cl : List (Str × Addr)} {A₀ : Around} {base h₀ : Heap} {L : Addr} {m : Str → Option Value} {s : Shared} {Q E : Value → Shared → Prop} {mean : ExcName → Option Value} {mg mb : Str → Option Value} {w : World} {pv : Program} {lv : List Str} {news : List (Addr × Obj)}

theorem law_set_num (B : Below A₀ h₀ [] h₀) (F : Fr h₀ L s.heap m) (X : (Mine.hd.heap_1 w.params).In h₀) (N : News h₀ L s.heap news) (T : Top pv lv mean mg mb h₀) (hk : cs.kind = .function) (hd : dp + 9 < recursionLimit) {f d pl : Addr} {ks : Nat → Tok} {vs : Nat → Value} (hf : (f, instObj 377 d) ∈ news) (hfd : (d, fObj w pl ks vs) ∈ news) {k : Int} {tk : Tok} {v : Value} (hk1 : ¬ (1 ≤ k ∧ k ≤ 64))
  (hret : ∀ u h' tk', Fr h₀ L h' m → News h₀ L h' news → Q (.str "font" u) { s with heap := h', toks := tk' }) :
  wpAny (model PySem.Challenge.rw_sq0037_01.row.prog w) (ktrTop dp un gd cn cs L a ccd cl []) (call (.ref 477) [.ref f, .int k tk, v]) Q E s := by
  have XB := X
  have TB := T
  refine wpAny_call ?_
  k_dflt (refine' code_tryX ?k1 ?k2 ?k3 ?k4 ?k5 ?kA ?kF ?kK ?k6 ?k7 ?k8 ?k9 ?kB ?_ ?c2 ?c3 ?c4 ?c5; (case kA => exact rfl); (case kF => exact rfl); (case kK => first | exact rfl | assumption); (case k1 => assumption); (case k2 => assumption); (case k3 => assumption); (case k4 => assumption); (case k5 => assumption); (case k6 => k_is); (case k7 => k_is); (case k8 => ktr_room); (case k9 => first | exact BindsTo.of_eq rfl | exact binds_K (by k_in) rfl (by k_is) rfl rfl rfl); (case c5 => decide); (case kB => exact locs rfl); (case c2 => exact rfl); (case c3 => exact rfl); (case c4 => exact rfl); k_whole; intro g' L' h' FG' F' N' B' X' T' D'; (try dsimp only); (try k_fold))
  k_steps
  all_goals (refine' hret _ _ _ ?hF ?hN; (case hN => assumption); (case hF => assumption))

theorem law_set_true (B : Below A₀ h₀ [] h₀) (F : Fr h₀ L s.heap m) (X : (Mine.hd.heap_1 w.params).In h₀) (N : News h₀ L s.heap news) (T : Top pv lv mean mg mb h₀) (hk : cs.kind = .function) (hd : dp + 9 < recursionLimit) {f d pl : Addr} {ks : Nat → Tok} {vs : Nat → Value} (hf : (f, instObj 377 d) ∈ news) (hfd : (d, fObj w pl ks vs) ∈ news) {b : Bool} {v : Value}
  (hret : ∀ u h' tk', Fr h₀ L h' m → News h₀ L h' news → Q (.str "font" u) { s with heap := h', toks := tk' }) :
  wpAny (model PySem.Challenge.rw_sq0037_01.row.prog w) (ktrTop dp un gd cn cs L a ccd cl []) (call (.ref 477) [.ref f, .bool b, v]) Q E s := by
  have XB := X
  have TB := T
  refine wpAny_call ?_
  k_dflt (refine' code_tryX ?k1 ?k2 ?k3 ?k4 ?k5 ?kA ?kF ?kK ?k6 ?k7 ?k8 ?k9 ?kB ?_ ?c2 ?c3 ?c4 ?c5; (case kA => exact rfl); (case kF => exact rfl); (case kK => first | exact rfl | assumption); (case k1 => assumption); (case k2 => assumption); (case k3 => assumption); (case k4 => assumption); (case k5 => assumption); (case k6 => k_is); (case k7 => k_is); (case k8 => ktr_room); (case k9 => first | exact BindsTo.of_eq rfl | exact binds_K (by k_in) rfl (by k_is) rfl rfl rfl); (case c5 => decide); (case kB => exact locs rfl); (case c2 => exact rfl); (case c3 => exact rfl); (case c4 => exact rfl); k_whole; intro g' L' h' FG' F' N' B' X' T' D'; (try dsimp only); (try k_fold))
  k_steps
  all_goals (refine' hret _ _ _ ?hF ?hN; (case hN => assumption); (case hF => assumption))

theorem law_set_over (B : Below A₀ h₀ [] h₀) (F : Fr h₀ L s.heap m) (X : (Mine.hd.heap_1 w.params).In h₀) (N : News h₀ L s.heap news) (T : Top pv lv mean mg mb h₀) (hk : cs.kind = .function) (hd : dp + 9 < recursionLimit) {f d pl : Addr} {ks : Nat → Tok} {vs : Nat → Value} (hf : (f, instObj 377 d) ∈ news) (hfd : (d, fObj w pl ks vs) ∈ news) {k v : Int} {tk tv : Tok} (hk1 : 1 ≤ k) (hk2 : k ≤ 64) (hv : ¬ (-1073741823 ≤ v ∧ v ≤ 1073741823))
  (hret : ∀ u h' tk', Fr h₀ L h' m → News h₀ L h' news → Q (.str "overflow" u) { s with heap := h', toks := tk' }) :
  wpAny (model PySem.Challenge.rw_sq0037_01.row.prog w) (ktrTop dp un gd cn cs L a ccd cl []) (call (.ref 477) [.ref f, .int k tk, .int v tv]) Q E s := by
  have XB := X
  have TB := T
  refine wpAny_call ?_
  k_dflt (refine' code_tryX ?k1 ?k2 ?k3 ?k4 ?k5 ?kA ?kF ?kK ?k6 ?k7 ?k8 ?k9 ?kB ?_ ?c2 ?c3 ?c4 ?c5; (case kA => exact rfl); (case kF => exact rfl); (case kK => first | exact rfl | assumption); (case k1 => assumption); (case k2 => assumption); (case k3 => assumption); (case k4 => assumption); (case k5 => assumption); (case k6 => k_is); (case k7 => k_is); (case k8 => ktr_room); (case k9 => first | exact BindsTo.of_eq rfl | exact binds_K (by k_in) rfl (by k_is) rfl rfl rfl); (case c5 => decide); (case kB => exact locs rfl); (case c2 => exact rfl); (case c3 => exact rfl); (case c4 => exact rfl); k_whole; intro g' L' h' FG' F' N' B' X' T' D'; (try dsimp only); (try k_fold))
  k_steps
  all_goals (refine' hret _ _ _ ?hF ?hN; (case hN => assumption); (case hF => assumption))

theorem law_set_abool (B : Below A₀ h₀ [] h₀) (F : Fr h₀ L s.heap m) (X : (Mine.hd.heap_1 w.params).In h₀) (N : News h₀ L s.heap news) (T : Top pv lv mean mg mb h₀) (hk : cs.kind = .function) (hd : dp + 9 < recursionLimit) {f d pl : Addr} {ks : Nat → Tok} {vs : Nat → Value} (hf : (f, instObj 377 d) ∈ news) (hfd : (d, fObj w pl ks vs) ∈ news) {k : Int} {b : Bool} {tk : Tok} (hk1 : 1 ≤ k) (hk2 : k ≤ 64)
  (hret : ∀ u h' tk', Fr h₀ L h' m → News h₀ L h' news → Q (.str "argument" u) { s with heap := h', toks := tk' }) :
  wpAny (model PySem.Challenge.rw_sq0037_01.row.prog w) (ktrTop dp un gd cn cs L a ccd cl []) (call (.ref 477) [.ref f, .int k tk, .bool b]) Q E s := by
  have XB := X
  have TB := T
  refine wpAny_call ?_
  k_dflt (refine' code_tryX ?k1 ?k2 ?k3 ?k4 ?k5 ?kA ?kF ?kK ?k6 ?k7 ?k8 ?k9 ?kB ?_ ?c2 ?c3 ?c4 ?c5; (case kA => exact rfl); (case kF => exact rfl); (case kK => first | exact rfl | assumption); (case k1 => assumption); (case k2 => assumption); (case k3 => assumption); (case k4 => assumption); (case k5 => assumption); (case k6 => k_is); (case k7 => k_is); (case k8 => ktr_room); (case k9 => first | exact BindsTo.of_eq rfl | exact binds_K (by k_in) rfl (by k_is) rfl rfl rfl); (case c5 => decide); (case kB => exact locs rfl); (case c2 => exact rfl); (case c3 => exact rfl); (case c4 => exact rfl); k_whole; intro g' L' h' FG' F' N' B' X' T' D'; (try dsimp only); (try k_fold))
  k_steps
  all_goals (refine' hret _ _ _ ?hF ?hN; (case hN => assumption); (case hF => assumption))

theorem law_set_anone (B : Below A₀ h₀ [] h₀) (F : Fr h₀ L s.heap m) (X : (Mine.hd.heap_1 w.params).In h₀) (N : News h₀ L s.heap news) (T : Top pv lv mean mg mb h₀) (hk : cs.kind = .function) (hd : dp + 9 < recursionLimit) {f d pl : Addr} {ks : Nat → Tok} {vs : Nat → Value} (hf : (f, instObj 377 d) ∈ news) (hfd : (d, fObj w pl ks vs) ∈ news) {k : Int} {tk : Tok} (hk1 : 1 ≤ k) (hk2 : k ≤ 64)
  (hret : ∀ u h' tk', Fr h₀ L h' m → News h₀ L h' news → Q (.str "argument" u) { s with heap := h', toks := tk' }) :
  wpAny (model PySem.Challenge.rw_sq0037_01.row.prog w) (ktrTop dp un gd cn cs L a ccd cl []) (call (.ref 477) [.ref f, .int k tk, .none]) Q E s := by
  have XB := X
  have TB := T
  refine wpAny_call ?_
  k_dflt (refine' code_tryX ?k1 ?k2 ?k3 ?k4 ?k5 ?kA ?kF ?kK ?k6 ?k7 ?k8 ?k9 ?kB ?_ ?c2 ?c3 ?c4 ?c5; (case kA => exact rfl); (case kF => exact rfl); (case kK => first | exact rfl | assumption); (case k1 => assumption); (case k2 => assumption); (case k3 => assumption); (case k4 => assumption); (case k5 => assumption); (case k6 => k_is); (case k7 => k_is); (case k8 => ktr_room); (case k9 => first | exact BindsTo.of_eq rfl | exact binds_K (by k_in) rfl (by k_is) rfl rfl rfl); (case c5 => decide); (case kB => exact locs rfl); (case c2 => exact rfl); (case c3 => exact rfl); (case c4 => exact rfl); k_whole; intro g' L' h' FG' F' N' B' X' T' D'; (try dsimp only); (try k_fold))
  k_steps
  all_goals (refine' hret _ _ _ ?hF ?hN; (case hN => assumption); (case hF => assumption))
end
section
variable {dp un : Nat} {gd : Option (List Code)} {cn : Str} {cs : Scope} {a : Addr} {ccd : Value} {cl : List (Str × Addr)} {A₀ : Around} {base h₀ : Heap} {L : Addr} {m : Str → Option Value} {s : Shared} {Q E : Value → Shared → Prop} {mean : ExcName → Option Value} {mg mb : Str → Option Value} {w : World} {pv : Program} {lv : List Str} {news : List (Addr × Obj)}
end
theorem lay33 : True := by
  (k_with "call ref" => (k_here; (with_reducible show wpAny _ _ (call (Value.ref 374) [Value.ref _, Value.int _ _, Value.int _ _]) _ _ _); k_dflt (refine' Mine.set_param ?k1 ?k2 ?k3 ?k4 ?k5 ?kK ?kd ?U ?q2 ?q3 ?q6 ?q7 ?q8 ?q9 ?qa ?qb ?qc ?_; (case k1 => k_asm); (case k2 => k_asm); (case k3 => k_asm); (case k4 => k_asm); (case k5 => k_asm); (case kK => first | exact rfl | assumption); (case kd => ktr_room); (case U => first | assumption | k_updF); (case q2 => k_mem); (case q3 => k_mem); (case q6 => first | assumption | omega); (case q7 => first | assumption | omega); (case q8 => first | assumption | omega); (case q9 => first | assumption | omega); (case qa => first | assumption | omega); (case qb => first | assumption | omega); (case qc => first | assumption | omega); k_whole; intro ps' xs' pn' h' tk' I' l' g2' b' F' N'; (try dsimp only at N'); (try dsimp only); (try k_sweep); (try k_fold))))
  trivial
section
variable {dp un : Nat} {gd : Option (List Code)} {cn : Str} {cs : Scope} {a : Addr} {ccd : Value} {cl : List (Str × Addr)} {A₀ : Around} {base h₀ : Heap} {L : Addr} {m : Str → Option Value} {s : Shared} {Q E : Value → Shared → Prop} {mean : ExcName → Option Value} {mg mb : Str → Option Value} {w : World} {pv : Program} {lv : List Str} {news : List (Addr × Obj)}

theorem law_set_ok (B : Below A₀ h₀ [] h₀) (F : Fr h₀ L s.heap m) (X : (Mine.hd.heap_1 w.params).In h₀) (N : News h₀ L s.heap news) (T : Top pv lv mean mg mb h₀) (hk : cs.kind = .function) (hd : dp + 9 < recursionLimit) {f d pl : Addr} {ks : Nat → Tok} {vs : Nat → Value} {ps : List Value} {xs : List Int} {pn : Nat} {u : Obj → List (Addr × Obj)}
  (U : UpdF pl (listOf ps.toArray pn) news u) (hf : (f, instObj 377 d) ∈ news) (hfd : (d, fObj w pl ks vs) ∈ news) (hi : IntsAre ps xs) (hl : xs.length ≤ 64)
  {k v : Int} {tk tv : Tok} (hk1 : 1 ≤ k) (hk2 : k ≤ 64) (hv : -1073741823 ≤ v) (hv' : v ≤ 1073741823) (hxs : ∀ z ∈ xs, -1073741823 ≤ z ∧ z ≤ 1073741823)
  (hret : ∀ t ps' xs' pn' h' tk', IntsAre ps' xs' → xs'.length ≤ 64 → (∀ n, parZ xs' n = if n = k then v else parZ xs n) → (∀ z ∈ xs', -1073741823 ≤ z ∧ z ≤ 1073741823) → Fr h₀ L h' m → News h₀ L h' (u (listOf ps'.toArray pn')) → Q (.str "set" t) { s with heap := h', toks := tk' }) :
  wpAny (model PySem.Challenge.rw_sq0037_01.row.prog w) (ktrTop dp un gd cn cs L a ccd cl []) (call (.ref 477) [.ref f, .int k tk, .int v tv]) Q E s := by
  have XB := X
  have TB := T
  refine wpAny_call ?_
  k_dflt (refine' code_tryX ?k1 ?k2 ?k3 ?k4 ?k5 ?kA ?kF ?kK ?k6 ?k7 ?k8 ?k9 ?kB ?_ ?c2 ?c3 ?c4 ?c5; (case kA => exact rfl); (case kF => exact rfl); (case kK => first | exact rfl | assumption); (case k1 => assumption); (case k2 => assumption); (case k3 => assumption); (case k4 => assumption); (case k5 => assumption); (case k6 => k_is); (case k7 => k_is); (case k8 => ktr_room); (case k9 => first | exact BindsTo.of_eq rfl | exact binds_K (by k_in) rfl (by k_is) rfl rfl rfl); (case c5 => decide); (case kB => exact locs rfl); (case c2 => exact rfl); (case c3 => exact rfl); (case c4 => exact rfl); k_whole; intro g' L' h' FG' F' N' B' X' T' D'; (try dsimp only); (try k_fold))
  k_steps
  all_goals (refine' hret _ _ _ _ _ _ ?hI ?hl ?hg ?hb ?hF ?hN; (case hN => assumption); (case hF => assumption); (case hI => assumption); (case hl => assumption); (case hg => assumption); (case hb => assumption))
end

theorem lay34 : True := by
  k_with_none
  trivial

theorem raisedS_drop {base G : Heap} {l : List Env} {e t : Addr} {cls : Value} {vs : List Value} {big news : List (Addr × Obj)} {h : Heap} (R : RaisedS base G l e cls t vs big h) (hs : ∀ p ∈ news, p ∈ big) : RaisedS base G l e cls t vs news h := by
  obtain ⟨⟨B, hB, hBG, hl, hfl, hnew⟩, htup⟩ := R
  exact ⟨⟨B, hB, hBG, fun q hq => hl q (hs q hq), hfl, hnew⟩, htup⟩
section
variable {dp un : Nat} {gd : Option (List Code)} {cn : Str} {cs : Scope} {a : Addr} {ccd : Value} {cl : List (Str × Addr)} {outer : List Env} {A₀ : Around} {base h₀ : Heap} {L : Addr} {m : Str → Option Value} {s : Shared} {Q E : Value → Shared → Prop} {mean : ExcName → Option Value} {mg mb : Str → Option Value} {w : World} {pv : Program} {lv : List Str} {news : List (Addr × Obj)}
end
theorem lay35 : True := by
  (k_with "call ref" => (k_here; (with_reducible show wpAny _ _ (call (Value.ref 89) [Value.int _ _, Value.int _ _, Value.int _ _]) _ _ _); k_dflt (refine' Mine.is_whole ?k1 ?k2 ?k3 ?k4 ?k5 ?kK ?kd  ?_; (case k1 => k_asm); (case k2 => k_asm); (case k3 => k_asm); (case k4 => k_asm); (case k5 => k_asm); (case kK => first | exact rfl | assumption); (case kd => ktr_room);  k_whole; intro h' tk' F' N';  (try dsimp only); (try k_sweep); (try k_fold))))
  (k_with "call ref" => (k_here; (with_reducible show wpAny _ _ (call (Value.ref 96) [Value.int _ _]) _ _ _); k_dflt (refine' Mine.check_whole ?k1 ?k2 ?k3 ?k4 ?k5 ?kK ?kd  ?_; (case k1 => k_asm); (case k2 => k_asm); (case k3 => k_asm); (case k4 => k_asm); (case k5 => k_asm); (case kK => first | exact rfl | assumption); (case kd => ktr_room);  k_whole; intro h' tk' F' N';  (try dsimp only); (try k_sweep); (try k_fold))))
  (k_with "call ref" => (k_here; (with_reducible show wpAny _ _ (call (Value.ref 103) [Value.int _ _]) _ _ _); k_dflt (refine' Mine.check_dimen ?k1 ?k2 ?k3 ?k4 ?k5 ?kK ?kd ?e1 ?e2 ?_; (case k1 => k_asm); (case k2 => k_asm); (case k3 => k_asm); (case k4 => k_asm); (case k5 => k_asm); (case kK => first | exact rfl | assumption); (case kd => ktr_room); (case e1 => first | assumption | omega); (case e2 => first | assumption | omega); k_whole; intro h' tk' F' N';  (try dsimp only); (try k_sweep); (try k_fold))))
  (k_with "call ref" => (k_here; (with_reducible show wpAny _ _ (call (Value.ref 131) [Value.int _ _, Value.int _ _]) _ _ _); k_dflt (refine' Mine.over ?k1 ?k2 ?k3 ?k4 ?k5 ?kK ?kd ?e1 ?e2 ?e3 ?e4 ?_; (case k1 => k_asm); (case k2 => k_asm); (case k3 => k_asm); (case k4 => k_asm); (case k5 => k_asm); (case kK => first | exact rfl | assumption); (case kd => ktr_room); (case e1 => first | assumption | omega | (refine Mine.mul_lo ?_ ?_ ?_ ?_ <;> first | assumption | omega) | (refine Mine.mul_hi ?_ ?_ ?_ ?_ <;> first | assumption | omega)); (case e2 => first | assumption | omega | (refine Mine.mul_lo ?_ ?_ ?_ ?_ <;> first | assumption | omega) | (refine Mine.mul_hi ?_ ?_ ?_ ?_ <;> first | assumption | omega)); (case e3 => first | assumption | omega | (refine Mine.mul_lo ?_ ?_ ?_ ?_ <;> first | assumption | omega) | (refine Mine.mul_hi ?_ ?_ ?_ ?_ <;> first | assumption | omega)); (case e4 => first | assumption | omega | (refine Mine.mul_lo ?_ ?_ ?_ ?_ <;> first | assumption | omega) | (refine Mine.mul_hi ?_ ?_ ?_ ?_ <;> first | assumption | omega)); k_whole; intro r' q' t1' t2' h' tk' F' N' l1; (try k_lt l1); (try dsimp only); (try k_sweep); (try k_fold))))
  (k_with "exec Raise some none" => (k_here; (with_reducible show wpAny _ _ (exec (Stmt.Raise (some (Expr.Call _ _ _ _)) none _) _) _ _ _); k_dflt (refine' Mine.pg_RaiseX ?X ?h ?_; (case X => k_asm); (case h => rfl); k_whole)))
  (k_with "call ref" => (k_here; (with_reducible show wpAny _ _ (call (Value.ref 52) [Value.str _ _]) _ _ _); k_dflt (refine' Mine.pg_throw ?A ?f ?ke ?ro ?k1 ?k2 ?k3 ?k4 ?k5 (Mine.pc52 _) ?_; (case A => exact rfl); (case f => exact rfl); (case ke => first | exact rfl | assumption); (case k1 => k_asm); (case k2 => k_asm); (case k3 => k_asm); (case k4 => k_asm); (case k5 => k_asm); (case ro => ktr_room); k_whole; intro e' t' d' h' tk' F' N' l1 l2; (try dsimp only); (try k_sweep))))
  (k_with "call ref" => (k_here; (with_reducible show wpAny _ _ (call (Value.ref 64) [Value.str _ _]) _ _ _); k_dflt (refine' Mine.pg_throw ?A ?f ?ke ?ro ?k1 ?k2 ?k3 ?k4 ?k5 (Mine.pc64 _) ?_; (case A => exact rfl); (case f => exact rfl); (case ke => first | exact rfl | assumption); (case k1 => k_asm); (case k2 => k_asm); (case k3 => k_asm); (case k4 => k_asm); (case k5 => k_asm); (case ro => ktr_room); k_whole; intro e' t' d' h' tk' F' N' l1 l2; (try dsimp only); (try k_sweep))))
  (k_with "call ref" => (k_here; (with_reducible show wpAny _ _ (call (Value.ref 76) [Value.str _ _]) _ _ _); k_dflt (refine' Mine.pg_throw ?A ?f ?ke ?ro ?k1 ?k2 ?k3 ?k4 ?k5 (Mine.pc76 _) ?_; (case A => exact rfl); (case f => exact rfl); (case ke => first | exact rfl | assumption); (case k1 => k_asm); (case k2 => k_asm); (case k3 => k_asm); (case k4 => k_asm); (case k5 => k_asm); (case ro => ktr_room); k_whole; intro e' t' d' h' tk' F' N' l1 l2; (try dsimp only); (try k_sweep))))
  (k_with "leaving ref" => (k_here; k_dflt (refine' Mine.pg_leave ?K ?F ?N ?c ?d ?r ?_ ?hk; (case K => k_asm); (case N => k_asm); (case F => k_asm); (case c => exact rfl); (case d => exact rfl); (case hk => exact rfl); (case r => (refine Mine.own_two ?_ ?_ <;> assumption)); k_whole; intro h' R' RK' U'; (try dsimp only at R' RK' U' ⊢))))
  (k_with "leaving ref" => (k_here; k_dflt (refine' leave_onS ?K ?F ?R ?U ?_; (case R => assumption); (case U => assumption); (case F => assumption); (case K => k_asm); k_whole; intro h' R' RK' U'; (try dsimp only at R' RK' U' ⊢))))
  (k_with "call ref" => (k_here; (with_reducible show wpAny _ _ (call (Value.ref 103) [Value.int _ _]) _ _ _); k_dflt (refine' Mine.check_dimen_over ?k1 ?k2 ?k3 ?k4 ?k5 ?kK ?kd ?hv ?_; (case k1 => k_asm); (case k2 => k_asm); (case k3 => k_asm); (case k4 => k_asm); (case k5 => k_asm); (case kK => first | exact rfl | assumption); (case kd => ktr_room); (case hv => first | assumption | omega); k_whole; intro e' t' vs' g2' h' tk' F2' R' U';  (try dsimp only); (try k_sweep); (try k_fold))))
  trivial
section
variable {dp un : Nat} {gd : Option (List Code)} {cn : Str} {cs : Scope} {a : Addr} {ccd : Value} {cl : List (Str × Addr)} {outer : List Env} {A₀ : Around} {base h₀ : Heap} {L : Addr} {m : Str → Option Value} {s : Shared} {Q E : Value → Shared → Prop} {mean : ExcName → Option Value} {mg mb : Str → Option Value} {w : World} {pv : Program} {lv : List Str} {news : List (Addr × Obj)}

theorem fraction_over (B : Below A₀ base outer h₀) (F : Fr h₀ L s.heap m) (X : (Mine.hd.heap_1 w.params).In h₀) (N : News h₀ L s.heap news) (T : Top pv lv mean mg mb h₀) (hk : cs.kind = .function) (hd : dp + 5 < recursionLimit)
  {v up down : Int} {tv tu td : Tok} (hv : -1073741823 ≤ v) (hv' : v ≤ 1073741823) (h1 : 1 ≤ up) (h1' : up ≤ 32767) (h2 : 1 ≤ down) (h2' : down ≤ 32767)
  (hq : ¬ (-1073741823 ≤ nearZ v up down ∧ nearZ v up down ≤ 1073741823))
  (hexc : ∀ e t vs' g h' tk', Fr h₀ L g m → RaisedS base g (envX cn cs L a ccd cl :: outer) e (.ref 64) t vs' news h' → g.UpToSlots h' → E (.ref e) { s with heap := h', toks := tk' }) :
  wpAny (model PySem.Challenge.rw_sq0037_01.row.prog w) (ktrTop dp un gd cn cs L a ccd cl outer) (call (.ref 138) [.int v tv, .int up tu, .int down td]) Q E s := by
  rw [← near_over h1 h2] at hq
  refine wpAny_call ?_
  k_dflt (refine' code_def ?k1 ?k2 ?k3 ?k4 ?k5 ?kA ?kF ?kK ?k6 ?k7 ?k8 ?k9 ?kB ?_ ?c2 ?c3 ?c4 ?c5; (case kA => exact rfl); (case kF => exact rfl); (case kK => first | exact rfl | assumption); (case k1 => k_asm); (case k2 => k_asm); (case k3 => k_asm); (case k4 => k_asm); (case k5 => k_asm); (case k6 => k_is); (case k7 => k_is); (case k8 => ktr_room); (case k9 => first | exact BindsTo.of_eq rfl | exact binds_K (by k_in) rfl (by k_is) rfl rfl rfl); (case c5 => decide); (case kB => exact locs rfl); (case c2 => exact rfl); (case c3 => exact rfl); (case c4 => exact rfl); k_whole; intro g' L' h' FG' F' N' B' X' T'; (try dsimp only); (try k_fold))
  k_steps
  all_goals (refine' hexc _ _ _ _ _ _ FG' ?hR ?hU; (case hR => (refine' raisedS_drop ?rdR ?rdS; (case rdR => assumption); (case rdS => (intro p hp; (repeat (first | exact hp | refine List.mem_append.mpr (.inr ?_) | refine List.mem_cons_of_mem _ ?_)))))); (case hU => assumption))
theorem glue_over (B : Below A₀ base outer h₀) (F : Fr h₀ L s.heap m) (X : (Mine.hd.heap_1 w.params).In h₀) (N : News h₀ L s.heap news) (T : Top pv lv mean mg mb h₀) (hk : cs.kind = .function) (hd : dp + 7 < recursionLimit)
  {v1 v2 v3 v4 v5 : Int} {t1 t2 t3 t4 t5 : Tok} (hq : ¬ (-1073741823 ≤ v1 ∧ v1 ≤ 1073741823)) 
  (h3 : 0 ≤ v3) (h3' : v3 ≤ 3) (h5 : 0 ≤ v5) (h5' : v5 ≤ 3)
  (hexc : ∀ e t vs' g h' tk', Fr h₀ L g m → RaisedS base g (envX cn cs L a ccd cl :: outer) e (.ref 64) t vs' news h' → g.UpToSlots h' → E (.ref e) { s with heap := h', toks := tk' }) :
  wpAny (model PySem.Challenge.rw_sq0037_01.row.prog w) (ktrTop dp un gd cn cs L a ccd cl outer) (call (.ref 220) [.int v1 t1, .int v2 t2, .int v3 t3, .int v4 t4, .int v5 t5]) Q E s := by
  k_dflt (refine' call_cls ?k1 ?k2 ?k3 ?k4 ?k5 ?k6 ?_; (case k1 => k_asm); (case k2 => k_asm); (case k3 => k_asm); (case k4 => k_is); (case k5 => k_is); (case k6 => k_is); k_whole; intro x' d' h' F' N' l1 l2; (try k_lt l1); (try k_lt2 l2); (try k_sweep))
  k_dflt (refine' code_def ?k1 ?k2 ?k3 ?k4 ?k5 ?kA ?kF ?kK ?k6 ?k7 ?k8 ?k9 ?kB ?_ ?c2 ?c3 ?c4 ?c5; (case kA => exact rfl); (case kF => exact rfl); (case kK => first | exact rfl | assumption); (case k1 => k_asm); (case k2 => k_asm); (case k3 => k_asm); (case k4 => k_asm); (case k5 => k_asm); (case k6 => k_is); (case k7 => k_is); (case k8 => ktr_room); (case k9 => first | exact BindsTo.of_eq rfl | exact binds_K (by k_in) rfl (by k_is) rfl rfl rfl); (case c5 => decide); (case kB => exact locs rfl); (case c2 => exact rfl); (case c3 => exact rfl); (case c4 => exact rfl); k_whole; intro g' L' h' FG' F' N' B' X' T'; (try dsimp only); (try k_fold))
  k_steps
  all_goals (refine' hexc _ _ _ _ _ _ FG' ?hR ?hU; (case hR => (refine' raisedS_drop ?rdR ?rdS; (case rdR => assumption); (case rdS => (intro p hp; (repeat (first | exact hp | refine List.mem_append.mpr (.inr ?_) | refine List.mem_cons_of_mem _ ?_)))))); (case hU => assumption))
theorem interword_num (B : Below A₀ base outer h₀) (F : Fr h₀ L s.heap m) (X : (Mine.hd.heap_1 w.params).In h₀) (N : News h₀ L s.heap news) (T : Top pv lv mean mg mb h₀) (hk : cs.kind = .function) (hd : dp + 7 < recursionLimit) {f x z : Addr} {k : Int} {tk : Tok} (hk1 : ¬ (1 ≤ k ∧ k ≤ 32767))
  (hexc : ∀ e t vs' g h' tk', Fr h₀ L g m → RaisedS base g (envX cn cs L a ccd cl :: outer) e (.ref 52) t vs' news h' → g.UpToSlots h' → E (.ref e) { s with heap := h', toks := tk' }) :
  wpAny (model PySem.Challenge.rw_sq0037_01.row.prog w) (ktrTop dp un gd cn cs L a ccd cl outer) (call (.ref 412) [.ref f, .int k tk, .ref x, .ref z]) Q E s := by
  refine wpAny_call ?_
  k_dflt (refine' code_def ?k1 ?k2 ?k3 ?k4 ?k5 ?kA ?kF ?kK ?k6 ?k7 ?k8 ?k9 ?kB ?_ ?c2 ?c3 ?c4 ?c5; (case kA => exact rfl); (case kF => exact rfl); (case kK => first | exact rfl | assumption); (case k1 => k_asm); (case k2 => k_asm); (case k3 => k_asm); (case k4 => k_asm); (case k5 => k_asm); (case k6 => k_is); (case k7 => k_is); (case k8 => ktr_room); (case k9 => first | exact BindsTo.of_eq rfl | exact binds_K (by k_in) rfl (by k_is) rfl rfl rfl); (case c5 => decide); (case kB => exact locs rfl); (case c2 => exact rfl); (case c3 => exact rfl); (case c4 => exact rfl); k_whole; intro g' L' h' FG' F' N' B' X' T'; (try dsimp only); (try k_fold))
  k_steps
  all_goals (refine' hexc _ _ _ _ _ _ FG' ?hR ?hU; (case hR => (refine' raisedS_drop ?rdR ?rdS; (case rdR => assumption); (case rdS => (intro p hp; (repeat (first | exact hp | refine List.mem_append.mpr (.inr ?_) | refine List.mem_cons_of_mem _ ?_)))))); (case hU => assumption))
theorem interword_bool (B : Below A₀ base outer h₀) (F : Fr h₀ L s.heap m) (X : (Mine.hd.heap_1 w.params).In h₀) (N : News h₀ L s.heap news) (T : Top pv lv mean mg mb h₀) (hk : cs.kind = .function) (hd : dp + 7 < recursionLimit) {f x z : Addr} {b : Bool}
  (hexc : ∀ e t vs' g h' tk', Fr h₀ L g m → RaisedS base g (envX cn cs L a ccd cl :: outer) e (.ref 52) t vs' news h' → g.UpToSlots h' → E (.ref e) { s with heap := h', toks := tk' }) :
  wpAny (model PySem.Challenge.rw_sq0037_01.row.prog w) (ktrTop dp un gd cn cs L a ccd cl outer) (call (.ref 412) [.ref f, .bool b, .ref x, .ref z]) Q E s := by
  refine wpAny_call ?_
  k_dflt (refine' code_def ?k1 ?k2 ?k3 ?k4 ?k5 ?kA ?kF ?kK ?k6 ?k7 ?k8 ?k9 ?kB ?_ ?c2 ?c3 ?c4 ?c5; (case kA => exact rfl); (case kF => exact rfl); (case kK => first | exact rfl | assumption); (case k1 => k_asm); (case k2 => k_asm); (case k3 => k_asm); (case k4 => k_asm); (case k5 => k_asm); (case k6 => k_is); (case k7 => k_is); (case k8 => ktr_room); (case k9 => first | exact BindsTo.of_eq rfl | exact binds_K (by k_in) rfl (by k_is) rfl rfl rfl); (case c5 => decide); (case kB => exact locs rfl); (case c2 => exact rfl); (case c3 => exact rfl); (case c4 => exact rfl); k_whole; intro g' L' h' FG' F' N' B' X' T'; (try dsimp only); (try k_fold))
  k_steps
  all_goals (refine' hexc _ _ _ _ _ _ FG' ?hR ?hU; (case hR => (refine' raisedS_drop ?rdR ?rdS; (case rdR => assumption); (case rdS => (intro p hp; (repeat (first | exact hp | refine List.mem_append.mpr (.inr ?_) | refine List.mem_cons_of_mem _ ?_)))))); (case hU => assumption))
end

theorem lay36 : True := by
  k_with_none
  trivial

structure PlainIs (g : Int → Int) (v1 v2 v3 v4 v5 p1 p2 p3 p4 p5 : Int) : Prop where
  e : plainZ g v1 v2 v3 v4 v5 = (p1, p2, p3, p4, p5)
theorem plain_is {g : Int → Int} {v1 v2 v3 v4 v5 p1 p2 p3 p4 p5 q1 q2 q3 q4 q5 : Int} (h : PlainIs g v1 v2 v3 v4 v5 p1 p2 p3 p4 p5) (h' : plainZ g v1 v2 v3 v4 v5 = (q1, q2, q3, q4, q5)) : p1 = q1 ∧ p2 = q2 ∧ p3 = q3 ∧ p4 = q4 ∧ p5 = q5 := by
  have e := h.e.symm.trans h'
  cases e
  exact ⟨rfl, rfl, rfl, rfl, rfl⟩
theorem core_none {x pace p1 p2 p3 p4 p5 : Int} (h : coreZ x pace (p1, p2, p3, p4, p5) = none) :
    ¬ (-1073741823 ≤ nearZ p2 pace 1000 ∧ nearZ p2 pace 1000 ≤ 1073741823) ∨
    (-1073741823 ≤ nearZ p2 pace 1000 ∧ nearZ p2 pace 1000 ≤ 1073741823 ∧ ¬ (-1073741823 ≤ nearZ p4 1000 pace ∧ nearZ p4 1000 pace ≤ 1073741823)) ∨
    (-1073741823 ≤ nearZ p2 pace 1000 ∧ nearZ p2 pace 1000 ≤ 1073741823 ∧ -1073741823 ≤ nearZ p4 1000 pace ∧ nearZ p4 1000 pace ≤ 1073741823 ∧ ¬ (-1073741823 ≤ p1 + x ∧ p1 + x ≤ 1073741823)) := by
  unfold coreZ at h
  split at h
  · cases h
  · rename_i q
    dsimp only at q
    by_cases a : -1073741823 ≤ nearZ p2 pace 1000 ∧ nearZ p2 pace 1000 ≤ 1073741823
    · by_cases b : -1073741823 ≤ nearZ p4 1000 pace ∧ nearZ p4 1000 pace ≤ 1073741823
      · exact .inr (.inr ⟨a.1, a.2, b.1, b.2, fun c => q ⟨c.1, c.2, a.1, a.2, b.1, b.2⟩⟩)
      · exact .inr (.inl ⟨a.1, a.2, b⟩)
    · exact .inl a
section
variable {dp un : Nat} {gd : Option (List Code)} {cn : Str} {cs : Scope} {a : Addr} {ccd : Value} {cl : List (Str × Addr)} {outer : List Env} {A₀ : Around} {base h₀ : Heap} {L : Addr} {m : Str → Option Value} {s : Shared} {Q E : Value → Shared → Prop} {mean : ExcName → Option Value} {mg mb : Str → Option Value} {w : World} {pv : Program} {lv : List Str} {news : List (Addr × Obj)}
end
theorem lay37 : True := by
  (k_with "call ref" => (k_here; (with_reducible show wpAny _ _ (call (Value.ref 89) [Value.int _ _, Value.int _ _, Value.int _ _]) _ _ _); k_dflt (refine' Mine.is_whole ?k1 ?k2 ?k3 ?k4 ?k5 ?kK ?kd  ?_; (case k1 => k_asm); (case k2 => k_asm); (case k3 => k_asm); (case k4 => k_asm); (case k5 => k_asm); (case kK => first | exact rfl | assumption); (case kd => ktr_room);  k_whole; intro h' tk' F' N';  (try dsimp only); (try k_sweep); (try k_fold))))
  (k_with "call ref" => (k_here; (with_reducible show wpAny _ _ (call (Value.ref 367) [Value.ref _, Value.int _ _]) _ _ _); k_dflt (refine' Mine.param ?k1 ?k2 ?k3 ?k4 ?k5 ?kK ?kd ?hf ?hfd ?hp ?hi ?hl ?_; (case k1 => k_asm); (case k2 => k_asm); (case k3 => k_asm); (case k4 => k_asm); (case k5 => k_asm); (case kK => first | exact rfl | assumption); (case kd => ktr_room); (case hf => k_mem); (case hfd => k_mem); (case hp => k_mem); (case hi => assumption); (case hl => first | assumption | omega); k_whole; intro t' h' tk' F' N';  (try dsimp only); (try k_sweep); (try k_fold))))
  (k_with "call ref" => (k_here; (with_reducible show wpAny _ _ (call (Value.ref 138) [Value.int _ _, Value.int _ _, Value.int _ _]) _ _ _); k_dflt (refine' Mine.fraction ?k1 ?k2 ?k3 ?k4 ?k5 ?kK ?kd ?e1 ?e2 ?e3 ?e4 ?e5 ?e6 ?e7 ?e8 ?_; (case k1 => k_asm); (case k2 => k_asm); (case k3 => k_asm); (case k4 => k_asm); (case k5 => k_asm); (case kK => first | exact rfl | assumption); (case kd => ktr_room); (case e1 => first | assumption | omega); (case e2 => first | assumption | omega); (case e3 => first | assumption | omega); (case e4 => first | assumption | omega); (case e5 => first | assumption | omega); (case e6 => first | assumption | omega); (case e7 => first | assumption | omega); (case e8 => first | assumption | omega); k_whole; intro r' q' t1' t2' h' tk' F' N' l1; (try k_lt l1); (try dsimp only); (try k_sweep); (try k_fold))))
  (k_with "call ref" => (k_here; (with_reducible show wpAny _ _ (call (Value.ref 220) [Value.int _ _, Value.int _ _, Value.int _ _, Value.int _ _, Value.int _ _]) _ _ _); k_dflt (refine' Mine.glue_new ?k1 ?k2 ?k3 ?k4 ?k5 ?kK ?kd ?e1 ?e2 ?e3 ?e4 ?e5 ?e6 ?e7 ?e8 ?e9 ?e10 ?_; (case k1 => k_asm); (case k2 => k_asm); (case k3 => k_asm); (case k4 => k_asm); (case k5 => k_asm); (case kK => first | exact rfl | assumption); (case kd => ktr_room); (case e1 => first | assumption | omega); (case e2 => first | assumption | omega); (case e3 => first | assumption | omega); (case e4 => first | assumption | omega); (case e5 => first | assumption | omega); (case e6 => first | assumption | omega); (case e7 => first | assumption | omega); (case e8 => first | assumption | omega); (case e9 => first | assumption | omega); (case e10 => first | assumption | omega); k_whole; intro x' d' k1' k2' k3' k4' k5' u3' u5' h' tk' F' N' l1 l2; (try k_lt l1); (try k_lt2 l2); (try dsimp only); (try k_sweep); (try k_fold))))
  (k_with "call ref" => (k_here; (with_reducible show wpAny _ _ (call (Value.ref 174) _) _ _ _); k_dflt (refine' Mine.glue_parts ?k1 ?k2 ?k3 ?k4 ?k5 ?kK ?kd ?hx ?hg ?_; (case k1 => k_asm); (case k2 => k_asm); (case k3 => k_asm); (case k4 => k_asm); (case k5 => k_asm); (case kK => first | exact rfl | assumption); (case kd => ktr_room); (case hx => k_mem); (case hg => k_mem); k_whole; intro r' h' tk' F' N' l1; (try k_lt l1); (try dsimp only); (try k_sweep); (try k_fold))))
  (k_with "leaving ref" => (k_here; k_dflt (refine' leave_onS ?K ?F ?R ?U ?_; (case R => assumption); (case U => assumption); (case F => assumption); (case K => k_asm); k_whole; intro h' R' RK' U'; (try dsimp only at R' RK' U' ⊢))))
  (k_with "call ref" => (k_here; (with_reducible show wpAny _ _ (call (Value.ref 405) [Value.ref _, Value.ref _]) _ _ _); k_dflt (refine' Mine.word_space ?k1 ?k2 ?k3 ?k4 ?k5 ?kK ?kd ?ku ?hf ?hfd ?hp ?hi ?hl ?hxs ?hx ?hg ?b1 ?b2 ?b3 ?b4 ?b5 ?_; (case k1 => k_asm); (case k2 => k_asm); (case k3 => k_asm); (case k4 => k_asm); (case k5 => k_asm); (case kK => first | exact rfl | assumption); (case kd => ktr_room); (case ku => ktr_units); (case hf => k_mem); (case hfd => k_mem); (case hp => k_mem); (case hi => assumption); (case hl => first | assumption | omega); (case hxs => assumption); (case hx => k_mem); (case hg => k_mem); (case b1 => first | assumption | (refine ⟨?_, ?_⟩ <;> first | assumption | omega)); (case b2 => first | assumption | (refine ⟨?_, ?_⟩ <;> first | assumption | omega)); (case b3 => first | assumption | (refine ⟨?_, ?_⟩ <;> first | assumption | omega)); (case b4 => first | assumption | (refine ⟨?_, ?_⟩ <;> first | assumption | omega)); (case b5 => first | assumption | (refine ⟨?_, ?_⟩ <;> first | assumption | omega)); k_whole; intro y' dy' p1' p2' p3' p4' p5' j1' j2' j3' j4' j5' u1' u2' u3' u4' u5' more' h' tk' e' c1' c2' c3' c4' c5' c6' c7' c8' c9' c0' F' N' hy' hd'; (rename (Mine.PlainIs _ _ _ _ _ _ _ _ _ _ _) => hc9); (obtain ⟨z1, z2, z3, z4, z5⟩ := Mine.plain_is hc9 e'); (subst z1 z2 z3 z4 z5); (try dsimp only); (try k_sweep); (try k_fold))))
  (k_with "call ref" => (k_here; (with_reducible show wpAny _ _ (call (Value.ref 220) [Value.int _ _, Value.int _ _, Value.int _ _, Value.int _ _, Value.int _ _]) _ _ _); k_dflt (refine' Mine.glue_over ?k1 ?k2 ?k3 ?k4 ?k5 ?kK ?kd ?e1 ?e2 ?e3 ?e4 ?e5 ?_; (case k1 => k_asm); (case k2 => k_asm); (case k3 => k_asm); (case k4 => k_asm); (case k5 => k_asm); (case kK => first | exact rfl | assumption); (case kd => ktr_room); (case e1 => first | assumption | omega); (case e2 => first | assumption | omega); (case e3 => first | assumption | omega); (case e4 => first | assumption | omega); (case e5 => first | assumption | omega); k_whole; intro e' t' vs' g2' h' tk' F2' R' U';  (try dsimp only); (try k_sweep); (try k_fold))))
  (k_with "call ref" => (k_here; (with_reducible show wpAny _ _ (call (Value.ref 138) [Value.int _ _, Value.int _ _, Value.int _ _]) _ _ _); k_dflt (refine' Mine.fraction_over ?k1 ?k2 ?k3 ?k4 ?k5 ?kK ?kd ?e1 ?e2 ?e3 ?e4 ?e5 ?e6 ?e7 ?_; (case k1 => k_asm); (case k2 => k_asm); (case k3 => k_asm); (case k4 => k_asm); (case k5 => k_asm); (case kK => first | exact rfl | assumption); (case kd => ktr_room); (case e7 => assumption); (case e1 => first | assumption | omega); (case e2 => first | assumption | omega); (case e3 => first | assumption | omega); (case e4 => first | assumption | omega); (case e5 => first | assumption | omega); (case e6 => first | assumption | omega); k_whole; intro e' t' vs' g2' h' tk' F2' R' U';  (try dsimp only); (try k_sweep); (try k_fold))))
  trivial
section
variable {dp un : Nat} {gd : Option (List Code)} {cn : Str} {cs : Scope} {a : Addr} {ccd : Value} {cl : List (Str × Addr)} {outer : List Env} {A₀ : Around} {base h₀ : Heap} {L : Addr} {m : Str → Option Value} {s : Shared} {Q E : Value → Shared → Prop} {mean : ExcName → Option Value} {mg mb : Str → Option Value} {w : World} {pv : Program} {lv : List Str} {news : List (Addr × Obj)}

theorem interword_f0 (B : Below A₀ base outer h₀) (F : Fr h₀ L s.heap m) (X : (Mine.hd.heap_1 w.params).In h₀) (N : News h₀ L s.heap news) (T : Top pv lv mean mg mb h₀) (hk : cs.kind = .function) (hd : dp + 10 < recursionLimit)  (hu : un + 300 < cLine)
  {f d pl : Addr} {ks : Nat → Tok} {vs : Nat → Value} {ps : List Value} {xs : List Int} {pn : Nat} (hf : (f, instObj 377 d) ∈ news) (hfd : (d, fObj w pl ks vs) ∈ news) (hp : (pl, listOf ps.toArray pn) ∈ news) (hi : IntsAre ps xs) (hl : xs.length ≤ 64) (hxs : ∀ v ∈ xs, -1073741823 ≤ v ∧ v ≤ 1073741823)
  {x dx : Addr} {v1 v2 v3 v4 v5 : Int} {k1 k2 k3 k4 k5 t1 t2 t3 t4 t5 : Tok} (hx : (x, instObj 220 dx) ∈ news) (hg : (dx, gObj w v1 v2 v3 v4 v5 k1 k2 k3 k4 k5 t1 t2 t3 t4 t5) ∈ news) (b1 : -1073741823 ≤ v1 ∧ v1 ≤ 1073741823) (b2 : -1073741823 ≤ v2 ∧ v2 ≤ 1073741823) (b3 : 0 ≤ v3 ∧ v3 ≤ 3) (b4 : -1073741823 ≤ v4 ∧ v4 ≤ 1073741823) (b5 : 0 ≤ v5 ∧ v5 ≤ 3)
  {z dz : Addr} {e1 e2 e3 e4 e5 : Int} {i1 i2 i3 i4 i5 r1 r2 r3 r4 r5 : Tok} (hz : (z, instObj 220 dz) ∈ news) (hgz : (dz, gObj w e1 e2 e3 e4 e5 i1 i2 i3 i4 i5 r1 r2 r3 r4 r5) ∈ news)
  {pace : Int} {tp : Tok} (hp1 : 1 ≤ pace) (hp2 : pace ≤ 32767) (hfar : 2000 ≤ pace) (hze : (e1 == 0 && (e2 == 0 && (e3 == 0 && (e4 == 0 && e5 == 0)))) = true) {q1 q2 q3 q4 q5 : Int} (hP : PlainIs (parZ xs) v1 v2 v3 v4 v5 q1 q2 q3 q4 q5) (hq : ¬ (-1073741823 ≤ nearZ q2 pace 1000 ∧ nearZ q2 pace 1000 ≤ 1073741823))
  (hexc : ∀ e t vs' g h' tk', Fr h₀ L g m → RaisedS base g (envX cn cs L a ccd cl :: outer) e (.ref 64) t vs' news h' → g.UpToSlots h' → E (.ref e) { s with heap := h', toks := tk' }) :
  wpAny (model PySem.Challenge.rw_sq0037_01.row.prog w) (ktrTop dp un gd cn cs L a ccd cl outer) (call (.ref 412) [.ref f, .int pace tp, .ref x, .ref z]) Q E s := by
  refine wpAny_call ?_
  k_dflt (refine' code_def ?k1 ?k2 ?k3 ?k4 ?k5 ?kA ?kF ?kK ?k6 ?k7 ?k8 ?k9 ?kB ?_ ?c2 ?c3 ?c4 ?c5; (case kA => exact rfl); (case kF => exact rfl); (case kK => first | exact rfl | assumption); (case k1 => k_asm); (case k2 => k_asm); (case k3 => k_asm); (case k4 => k_asm); (case k5 => k_asm); (case k6 => k_is); (case k7 => k_is); (case k8 => ktr_room); (case k9 => first | exact BindsTo.of_eq rfl | exact binds_K (by k_in) rfl (by k_is) rfl rfl rfl); (case c5 => decide); (case kB => exact locs rfl); (case c2 => exact rfl); (case c3 => exact rfl); (case c4 => exact rfl); k_whole; intro g' L' h' FG' F' N' B' X' T'; (try dsimp only); (try k_fold))
  k_steps
  all_goals (refine' hexc _ _ _ _ _ _ FG' ?hR ?hU; (case hR => (refine' raisedS_drop ?rdR ?rdS; (case rdR => assumption); (case rdS => (intro p hp; (repeat (first | exact hp | refine List.mem_append.mpr (.inr ?_) | refine List.mem_cons_of_mem _ ?_)))))); (case hU => assumption))

theorem interword_f1 (B : Below A₀ base outer h₀) (F : Fr h₀ L s.heap m) (X : (Mine.hd.heap_1 w.params).In h₀) (N : News h₀ L s.heap news) (T : Top pv lv mean mg mb h₀) (hk : cs.kind = .function) (hd : dp + 10 < recursionLimit)  (hu : un + 300 < cLine)
  {f d pl : Addr} {ks : Nat → Tok} {vs : Nat → Value} {ps : List Value} {xs : List Int} {pn : Nat} (hf : (f, instObj 377 d) ∈ news) (hfd : (d, fObj w pl ks vs) ∈ news) (hp : (pl, listOf ps.toArray pn) ∈ news) (hi : IntsAre ps xs) (hl : xs.length ≤ 64) (hxs : ∀ v ∈ xs, -1073741823 ≤ v ∧ v ≤ 1073741823)
  {x dx : Addr} {v1 v2 v3 v4 v5 : Int} {k1 k2 k3 k4 k5 t1 t2 t3 t4 t5 : Tok} (hx : (x, instObj 220 dx) ∈ news) (hg : (dx, gObj w v1 v2 v3 v4 v5 k1 k2 k3 k4 k5 t1 t2 t3 t4 t5) ∈ news) (b1 : -1073741823 ≤ v1 ∧ v1 ≤ 1073741823) (b2 : -1073741823 ≤ v2 ∧ v2 ≤ 1073741823) (b3 : 0 ≤ v3 ∧ v3 ≤ 3) (b4 : -1073741823 ≤ v4 ∧ v4 ≤ 1073741823) (b5 : 0 ≤ v5 ∧ v5 ≤ 3)
  {z dz : Addr} {e1 e2 e3 e4 e5 : Int} {i1 i2 i3 i4 i5 r1 r2 r3 r4 r5 : Tok} (hz : (z, instObj 220 dz) ∈ news) (hgz : (dz, gObj w e1 e2 e3 e4 e5 i1 i2 i3 i4 i5 r1 r2 r3 r4 r5) ∈ news)
  {pace : Int} {tp : Tok} (hp1 : 1 ≤ pace) (hp2 : pace ≤ 32767) (hfar : 2000 ≤ pace) (hze : (e1 == 0 && (e2 == 0 && (e3 == 0 && (e4 == 0 && e5 == 0)))) = true) {q1 q2 q3 q4 q5 : Int} (hP : PlainIs (parZ xs) v1 v2 v3 v4 v5 q1 q2 q3 q4 q5) (hq1 : -1073741823 ≤ nearZ q2 pace 1000) (hq2 : nearZ q2 pace 1000 ≤ 1073741823) (hq : ¬ (-1073741823 ≤ nearZ q4 1000 pace ∧ nearZ q4 1000 pace ≤ 1073741823))
  (hexc : ∀ e t vs' g h' tk', Fr h₀ L g m → RaisedS base g (envX cn cs L a ccd cl :: outer) e (.ref 64) t vs' news h' → g.UpToSlots h' → E (.ref e) { s with heap := h', toks := tk' }) :
  wpAny (model PySem.Challenge.rw_sq0037_01.row.prog w) (ktrTop dp un gd cn cs L a ccd cl outer) (call (.ref 412) [.ref f, .int pace tp, .ref x, .ref z]) Q E s := by
  refine wpAny_call ?_
  k_dflt (refine' code_def ?k1 ?k2 ?k3 ?k4 ?k5 ?kA ?kF ?kK ?k6 ?k7 ?k8 ?k9 ?kB ?_ ?c2 ?c3 ?c4 ?c5; (case kA => exact rfl); (case kF => exact rfl); (case kK => first | exact rfl | assumption); (case k1 => k_asm); (case k2 => k_asm); (case k3 => k_asm); (case k4 => k_asm); (case k5 => k_asm); (case k6 => k_is); (case k7 => k_is); (case k8 => ktr_room); (case k9 => first | exact BindsTo.of_eq rfl | exact binds_K (by k_in) rfl (by k_is) rfl rfl rfl); (case c5 => decide); (case kB => exact locs rfl); (case c2 => exact rfl); (case c3 => exact rfl); (case c4 => exact rfl); k_whole; intro g' L' h' FG' F' N' B' X' T'; (try dsimp only); (try k_fold))
  k_steps
  all_goals (refine' hexc _ _ _ _ _ _ FG' ?hR ?hU; (case hR => (refine' raisedS_drop ?rdR ?rdS; (case rdR => assumption); (case rdS => (intro p hp; (repeat (first | exact hp | refine List.mem_append.mpr (.inr ?_) | refine List.mem_cons_of_mem _ ?_)))))); (case hU => assumption))

theorem interword_f2 (B : Below A₀ base outer h₀) (F : Fr h₀ L s.heap m) (X : (Mine.hd.heap_1 w.params).In h₀) (N : News h₀ L s.heap news) (T : Top pv lv mean mg mb h₀) (hk : cs.kind = .function) (hd : dp + 10 < recursionLimit)  (hu : un + 300 < cLine)
  {f d pl : Addr} {ks : Nat → Tok} {vs : Nat → Value} {ps : List Value} {xs : List Int} {pn : Nat} (hf : (f, instObj 377 d) ∈ news) (hfd : (d, fObj w pl ks vs) ∈ news) (hp : (pl, listOf ps.toArray pn) ∈ news) (hi : IntsAre ps xs) (hl : xs.length ≤ 64) (hxs : ∀ v ∈ xs, -1073741823 ≤ v ∧ v ≤ 1073741823)
  {x dx : Addr} {v1 v2 v3 v4 v5 : Int} {k1 k2 k3 k4 k5 t1 t2 t3 t4 t5 : Tok} (hx : (x, instObj 220 dx) ∈ news) (hg : (dx, gObj w v1 v2 v3 v4 v5 k1 k2 k3 k4 k5 t1 t2 t3 t4 t5) ∈ news) (b1 : -1073741823 ≤ v1 ∧ v1 ≤ 1073741823) (b2 : -1073741823 ≤ v2 ∧ v2 ≤ 1073741823) (b3 : 0 ≤ v3 ∧ v3 ≤ 3) (b4 : -1073741823 ≤ v4 ∧ v4 ≤ 1073741823) (b5 : 0 ≤ v5 ∧ v5 ≤ 3)
  {z dz : Addr} {e1 e2 e3 e4 e5 : Int} {i1 i2 i3 i4 i5 r1 r2 r3 r4 r5 : Tok} (hz : (z, instObj 220 dz) ∈ news) (hgz : (dz, gObj w e1 e2 e3 e4 e5 i1 i2 i3 i4 i5 r1 r2 r3 r4 r5) ∈ news)
  {pace : Int} {tp : Tok} (hp1 : 1 ≤ pace) (hp2 : pace ≤ 32767) (hfar : 2000 ≤ pace) (hze : (e1 == 0 && (e2 == 0 && (e3 == 0 && (e4 == 0 && e5 == 0)))) = true) {q1 q2 q3 q4 q5 : Int} (hP : PlainIs (parZ xs) v1 v2 v3 v4 v5 q1 q2 q3 q4 q5) (hq1 : -1073741823 ≤ nearZ q2 pace 1000) (hq2 : nearZ q2 pace 1000 ≤ 1073741823) (hq3 : -1073741823 ≤ nearZ q4 1000 pace) (hq4 : nearZ q4 1000 pace ≤ 1073741823) (hq : ¬ (-1073741823 ≤ q1 + parZ xs 7 ∧ q1 + parZ xs 7 ≤ 1073741823))
  (hexc : ∀ e t vs' g h' tk', Fr h₀ L g m → RaisedS base g (envX cn cs L a ccd cl :: outer) e (.ref 64) t vs' news h' → g.UpToSlots h' → E (.ref e) { s with heap := h', toks := tk' }) :
  wpAny (model PySem.Challenge.rw_sq0037_01.row.prog w) (ktrTop dp un gd cn cs L a ccd cl outer) (call (.ref 412) [.ref f, .int pace tp, .ref x, .ref z]) Q E s := by
  refine wpAny_call ?_
  k_dflt (refine' code_def ?k1 ?k2 ?k3 ?k4 ?k5 ?kA ?kF ?kK ?k6 ?k7 ?k8 ?k9 ?kB ?_ ?c2 ?c3 ?c4 ?c5; (case kA => exact rfl); (case kF => exact rfl); (case kK => first | exact rfl | assumption); (case k1 => k_asm); (case k2 => k_asm); (case k3 => k_asm); (case k4 => k_asm); (case k5 => k_asm); (case k6 => k_is); (case k7 => k_is); (case k8 => ktr_room); (case k9 => first | exact BindsTo.of_eq rfl | exact binds_K (by k_in) rfl (by k_is) rfl rfl rfl); (case c5 => decide); (case kB => exact locs rfl); (case c2 => exact rfl); (case c3 => exact rfl); (case c4 => exact rfl); k_whole; intro g' L' h' FG' F' N' B' X' T'; (try dsimp only); (try k_fold))
  k_steps
  all_goals (refine' hexc _ _ _ _ _ _ FG' ?hR ?hU; (case hR => (refine' raisedS_drop ?rdR ?rdS; (case rdR => assumption); (case rdS => (intro p hp; (repeat (first | exact hp | refine List.mem_append.mpr (.inr ?_) | refine List.mem_cons_of_mem _ ?_)))))); (case hU => assumption))

theorem interword_n0 (B : Below A₀ base outer h₀) (F : Fr h₀ L s.heap m) (X : (Mine.hd.heap_1 w.params).In h₀) (N : News h₀ L s.heap news) (T : Top pv lv mean mg mb h₀) (hk : cs.kind = .function) (hd : dp + 10 < recursionLimit)  (hu : un + 300 < cLine)
  {f d pl : Addr} {ks : Nat → Tok} {vs : Nat → Value} {ps : List Value} {xs : List Int} {pn : Nat} (hf : (f, instObj 377 d) ∈ news) (hfd : (d, fObj w pl ks vs) ∈ news) (hp : (pl, listOf ps.toArray pn) ∈ news) (hi : IntsAre ps xs) (hl : xs.length ≤ 64) (hxs : ∀ v ∈ xs, -1073741823 ≤ v ∧ v ≤ 1073741823)
  {x dx : Addr} {v1 v2 v3 v4 v5 : Int} {k1 k2 k3 k4 k5 t1 t2 t3 t4 t5 : Tok} (hx : (x, instObj 220 dx) ∈ news) (hg : (dx, gObj w v1 v2 v3 v4 v5 k1 k2 k3 k4 k5 t1 t2 t3 t4 t5) ∈ news) (b1 : -1073741823 ≤ v1 ∧ v1 ≤ 1073741823) (b2 : -1073741823 ≤ v2 ∧ v2 ≤ 1073741823) (b3 : 0 ≤ v3 ∧ v3 ≤ 3) (b4 : -1073741823 ≤ v4 ∧ v4 ≤ 1073741823) (b5 : 0 ≤ v5 ∧ v5 ≤ 3)
  {z dz : Addr} {e1 e2 e3 e4 e5 : Int} {i1 i2 i3 i4 i5 r1 r2 r3 r4 r5 : Tok} (hz : (z, instObj 220 dz) ∈ news) (hgz : (dz, gObj w e1 e2 e3 e4 e5 i1 i2 i3 i4 i5 r1 r2 r3 r4 r5) ∈ news)
  {pace : Int} {tp : Tok} (hp1 : 1 ≤ pace) (hp2 : pace ≤ 32767) (hfar : ¬ 2000 ≤ pace) {q1 q2 q3 q4 q5 : Int} (hP : PlainIs (parZ xs) v1 v2 v3 v4 v5 q1 q2 q3 q4 q5) (hq : ¬ (-1073741823 ≤ nearZ q2 pace 1000 ∧ nearZ q2 pace 1000 ≤ 1073741823))
  (hexc : ∀ e t vs' g h' tk', Fr h₀ L g m → RaisedS base g (envX cn cs L a ccd cl :: outer) e (.ref 64) t vs' news h' → g.UpToSlots h' → E (.ref e) { s with heap := h', toks := tk' }) :
  wpAny (model PySem.Challenge.rw_sq0037_01.row.prog w) (ktrTop dp un gd cn cs L a ccd cl outer) (call (.ref 412) [.ref f, .int pace tp, .ref x, .ref z]) Q E s := by
  refine wpAny_call ?_
  k_dflt (refine' code_def ?k1 ?k2 ?k3 ?k4 ?k5 ?kA ?kF ?kK ?k6 ?k7 ?k8 ?k9 ?kB ?_ ?c2 ?c3 ?c4 ?c5; (case kA => exact rfl); (case kF => exact rfl); (case kK => first | exact rfl | assumption); (case k1 => k_asm); (case k2 => k_asm); (case k3 => k_asm); (case k4 => k_asm); (case k5 => k_asm); (case k6 => k_is); (case k7 => k_is); (case k8 => ktr_room); (case k9 => first | exact BindsTo.of_eq rfl | exact binds_K (by k_in) rfl (by k_is) rfl rfl rfl); (case c5 => decide); (case kB => exact locs rfl); (case c2 => exact rfl); (case c3 => exact rfl); (case c4 => exact rfl); k_whole; intro g' L' h' FG' F' N' B' X' T'; (try dsimp only); (try k_fold))
  k_steps
  all_goals (refine' hexc _ _ _ _ _ _ FG' ?hR ?hU; (case hR => (refine' raisedS_drop ?rdR ?rdS; (case rdR => assumption); (case rdS => (intro p hp; (repeat (first | exact hp | refine List.mem_append.mpr (.inr ?_) | refine List.mem_cons_of_mem _ ?_)))))); (case hU => assumption))

theorem interword_n1 (B : Below A₀ base outer h₀) (F : Fr h₀ L s.heap m) (X : (Mine.hd.heap_1 w.params).In h₀) (N : News h₀ L s.heap news) (T : Top pv lv mean mg mb h₀) (hk : cs.kind = .function) (hd : dp + 10 < recursionLimit)  (hu : un + 300 < cLine)
  {f d pl : Addr} {ks : Nat → Tok} {vs : Nat → Value} {ps : List Value} {xs : List Int} {pn : Nat} (hf : (f, instObj 377 d) ∈ news) (hfd : (d, fObj w pl ks vs) ∈ news) (hp : (pl, listOf ps.toArray pn) ∈ news) (hi : IntsAre ps xs) (hl : xs.length ≤ 64) (hxs : ∀ v ∈ xs, -1073741823 ≤ v ∧ v ≤ 1073741823)
  {x dx : Addr} {v1 v2 v3 v4 v5 : Int} {k1 k2 k3 k4 k5 t1 t2 t3 t4 t5 : Tok} (hx : (x, instObj 220 dx) ∈ news) (hg : (dx, gObj w v1 v2 v3 v4 v5 k1 k2 k3 k4 k5 t1 t2 t3 t4 t5) ∈ news) (b1 : -1073741823 ≤ v1 ∧ v1 ≤ 1073741823) (b2 : -1073741823 ≤ v2 ∧ v2 ≤ 1073741823) (b3 : 0 ≤ v3 ∧ v3 ≤ 3) (b4 : -1073741823 ≤ v4 ∧ v4 ≤ 1073741823) (b5 : 0 ≤ v5 ∧ v5 ≤ 3)
  {z dz : Addr} {e1 e2 e3 e4 e5 : Int} {i1 i2 i3 i4 i5 r1 r2 r3 r4 r5 : Tok} (hz : (z, instObj 220 dz) ∈ news) (hgz : (dz, gObj w e1 e2 e3 e4 e5 i1 i2 i3 i4 i5 r1 r2 r3 r4 r5) ∈ news)
  {pace : Int} {tp : Tok} (hp1 : 1 ≤ pace) (hp2 : pace ≤ 32767) (hfar : ¬ 2000 ≤ pace) {q1 q2 q3 q4 q5 : Int} (hP : PlainIs (parZ xs) v1 v2 v3 v4 v5 q1 q2 q3 q4 q5) (hq1 : -1073741823 ≤ nearZ q2 pace 1000) (hq2 : nearZ q2 pace 1000 ≤ 1073741823) (hq : ¬ (-1073741823 ≤ nearZ q4 1000 pace ∧ nearZ q4 1000 pace ≤ 1073741823))
  (hexc : ∀ e t vs' g h' tk', Fr h₀ L g m → RaisedS base g (envX cn cs L a ccd cl :: outer) e (.ref 64) t vs' news h' → g.UpToSlots h' → E (.ref e) { s with heap := h', toks := tk' }) :
  wpAny (model PySem.Challenge.rw_sq0037_01.row.prog w) (ktrTop dp un gd cn cs L a ccd cl outer) (call (.ref 412) [.ref f, .int pace tp, .ref x, .ref z]) Q E s := by
  refine wpAny_call ?_
  k_dflt (refine' code_def ?k1 ?k2 ?k3 ?k4 ?k5 ?kA ?kF ?kK ?k6 ?k7 ?k8 ?k9 ?kB ?_ ?c2 ?c3 ?c4 ?c5; (case kA => exact rfl); (case kF => exact rfl); (case kK => first | exact rfl | assumption); (case k1 => k_asm); (case k2 => k_asm); (case k3 => k_asm); (case k4 => k_asm); (case k5 => k_asm); (case k6 => k_is); (case k7 => k_is); (case k8 => ktr_room); (case k9 => first | exact BindsTo.of_eq rfl | exact binds_K (by k_in) rfl (by k_is) rfl rfl rfl); (case c5 => decide); (case kB => exact locs rfl); (case c2 => exact rfl); (case c3 => exact rfl); (case c4 => exact rfl); k_whole; intro g' L' h' FG' F' N' B' X' T'; (try dsimp only); (try k_fold))
  k_steps
  all_goals (refine' hexc _ _ _ _ _ _ FG' ?hR ?hU; (case hR => (refine' raisedS_drop ?rdR ?rdS; (case rdR => assumption); (case rdS => (intro p hp; (repeat (first | exact hp | refine List.mem_append.mpr (.inr ?_) | refine List.mem_cons_of_mem _ ?_)))))); (case hU => assumption))

theorem interword_n2 (B : Below A₀ base outer h₀) (F : Fr h₀ L s.heap m) (X : (Mine.hd.heap_1 w.params).In h₀) (N : News h₀ L s.heap news) (T : Top pv lv mean mg mb h₀) (hk : cs.kind = .function) (hd : dp + 10 < recursionLimit)  (hu : un + 300 < cLine)
  {f d pl : Addr} {ks : Nat → Tok} {vs : Nat → Value} {ps : List Value} {xs : List Int} {pn : Nat} (hf : (f, instObj 377 d) ∈ news) (hfd : (d, fObj w pl ks vs) ∈ news) (hp : (pl, listOf ps.toArray pn) ∈ news) (hi : IntsAre ps xs) (hl : xs.length ≤ 64) (hxs : ∀ v ∈ xs, -1073741823 ≤ v ∧ v ≤ 1073741823)
  {x dx : Addr} {v1 v2 v3 v4 v5 : Int} {k1 k2 k3 k4 k5 t1 t2 t3 t4 t5 : Tok} (hx : (x, instObj 220 dx) ∈ news) (hg : (dx, gObj w v1 v2 v3 v4 v5 k1 k2 k3 k4 k5 t1 t2 t3 t4 t5) ∈ news) (b1 : -1073741823 ≤ v1 ∧ v1 ≤ 1073741823) (b2 : -1073741823 ≤ v2 ∧ v2 ≤ 1073741823) (b3 : 0 ≤ v3 ∧ v3 ≤ 3) (b4 : -1073741823 ≤ v4 ∧ v4 ≤ 1073741823) (b5 : 0 ≤ v5 ∧ v5 ≤ 3)
  {z dz : Addr} {e1 e2 e3 e4 e5 : Int} {i1 i2 i3 i4 i5 r1 r2 r3 r4 r5 : Tok} (hz : (z, instObj 220 dz) ∈ news) (hgz : (dz, gObj w e1 e2 e3 e4 e5 i1 i2 i3 i4 i5 r1 r2 r3 r4 r5) ∈ news)
  {pace : Int} {tp : Tok} (hp1 : 1 ≤ pace) (hp2 : pace ≤ 32767) (hfar : ¬ 2000 ≤ pace) {q1 q2 q3 q4 q5 : Int} (hP : PlainIs (parZ xs) v1 v2 v3 v4 v5 q1 q2 q3 q4 q5) (hq1 : -1073741823 ≤ nearZ q2 pace 1000) (hq2 : nearZ q2 pace 1000 ≤ 1073741823) (hq3 : -1073741823 ≤ nearZ q4 1000 pace) (hq4 : nearZ q4 1000 pace ≤ 1073741823) (hq : ¬ (-1073741823 ≤ q1 + 0 ∧ q1 + 0 ≤ 1073741823))
  (hexc : ∀ e t vs' g h' tk', Fr h₀ L g m → RaisedS base g (envX cn cs L a ccd cl :: outer) e (.ref 64) t vs' news h' → g.UpToSlots h' → E (.ref e) { s with heap := h', toks := tk' }) :
  wpAny (model PySem.Challenge.rw_sq0037_01.row.prog w) (ktrTop dp un gd cn cs L a ccd cl outer) (call (.ref 412) [.ref f, .int pace tp, .ref x, .ref z]) Q E s := by
  refine wpAny_call ?_
  k_dflt (refine' code_def ?k1 ?k2 ?k3 ?k4 ?k5 ?kA ?kF ?kK ?k6 ?k7 ?k8 ?k9 ?kB ?_ ?c2 ?c3 ?c4 ?c5; (case kA => exact rfl); (case kF => exact rfl); (case kK => first | exact rfl | assumption); (case k1 => k_asm); (case k2 => k_asm); (case k3 => k_asm); (case k4 => k_asm); (case k5 => k_asm); (case k6 => k_is); (case k7 => k_is); (case k8 => ktr_room); (case k9 => first | exact BindsTo.of_eq rfl | exact binds_K (by k_in) rfl (by k_is) rfl rfl rfl); (case c5 => decide); (case kB => exact locs rfl); (case c2 => exact rfl); (case c3 => exact rfl); (case c4 => exact rfl); k_whole; intro g' L' h' FG' F' N' B' X' T'; (try dsimp only); (try k_fold))
  k_steps
  all_goals (refine' hexc _ _ _ _ _ _ FG' ?hR ?hU; (case hR => (refine' raisedS_drop ?rdR ?rdS; (case rdR => assumption); (case rdS => (intro p hp; (repeat (first | exact hp | refine List.mem_append.mpr (.inr ?_) | refine List.mem_cons_of_mem _ ?_)))))); (case hU => assumption))

theorem interword_over (B : Below A₀ base outer h₀) (F : Fr h₀ L s.heap m) (X : (Mine.hd.heap_1 w.params).In h₀) (N : News h₀ L s.heap news) (T : Top pv lv mean mg mb h₀) (hk : cs.kind = .function) (hd : dp + 10 < recursionLimit)  (hu : un + 300 < cLine)
  {f d pl : Addr} {ks : Nat → Tok} {vs : Nat → Value} {ps : List Value} {xs : List Int} {pn : Nat} (hf : (f, instObj 377 d) ∈ news) (hfd : (d, fObj w pl ks vs) ∈ news) (hp : (pl, listOf ps.toArray pn) ∈ news) (hi : IntsAre ps xs) (hl : xs.length ≤ 64) (hxs : ∀ v ∈ xs, -1073741823 ≤ v ∧ v ≤ 1073741823)
  {x dx : Addr} {v1 v2 v3 v4 v5 : Int} {k1 k2 k3 k4 k5 t1 t2 t3 t4 t5 : Tok} (hx : (x, instObj 220 dx) ∈ news) (hg : (dx, gObj w v1 v2 v3 v4 v5 k1 k2 k3 k4 k5 t1 t2 t3 t4 t5) ∈ news) (b1 : -1073741823 ≤ v1 ∧ v1 ≤ 1073741823) (b2 : -1073741823 ≤ v2 ∧ v2 ≤ 1073741823) (b3 : 0 ≤ v3 ∧ v3 ≤ 3) (b4 : -1073741823 ≤ v4 ∧ v4 ≤ 1073741823) (b5 : 0 ≤ v5 ∧ v5 ≤ 3)
  {z dz : Addr} {e1 e2 e3 e4 e5 : Int} {i1 i2 i3 i4 i5 r1 r2 r3 r4 r5 : Tok} (hz : (z, instObj 220 dz) ∈ news) (hgz : (dz, gObj w e1 e2 e3 e4 e5 i1 i2 i3 i4 i5 r1 r2 r3 r4 r5) ∈ news)
  {pace : Int} {tp : Tok} (hp1 : 1 ≤ pace) (hp2 : pace ≤ 32767) (ht : tellZ (parZ xs) pace v1 v2 v3 v4 v5 e1 e2 e3 e4 e5 = none)
  (hexc : ∀ e t vs' g h' tk', Fr h₀ L g m → RaisedS base g (envX cn cs L a ccd cl :: outer) e (.ref 64) t vs' news h' → g.UpToSlots h' → E (.ref e) { s with heap := h', toks := tk' }) :
  wpAny (model PySem.Challenge.rw_sq0037_01.row.prog w) (ktrTop dp un gd cn cs L a ccd cl outer) (call (.ref 412) [.ref f, .int pace tp, .ref x, .ref z]) Q E s := by
  obtain ⟨q1, q2, q3, q4, q5, hP⟩ : ∃ q1 q2 q3 q4 q5, PlainIs (parZ xs) v1 v2 v3 v4 v5 q1 q2 q3 q4 q5 := ⟨_, _, _, _, _, ⟨rfl⟩⟩
  by_cases hfar : 2000 ≤ pace
  · cases hze : (e1 == 0 && (e2 == 0 && (e3 == 0 && (e4 == 0 && e5 == 0))))
    · rw [tell_far hfar hze] at ht
      cases ht
    · rw [tell_zero hfar hze, hP.e] at ht
      rcases core_none ht with a | ⟨a, b, c⟩ | ⟨a, b, c, d, e⟩
      · exact interword_f0 B F X N T hk hd hu hf hfd hp hi hl hxs hx hg b1 b2 b3 b4 b5 hz hgz hp1 hp2 hfar hze hP a hexc
      · exact interword_f1 B F X N T hk hd hu hf hfd hp hi hl hxs hx hg b1 b2 b3 b4 b5 hz hgz hp1 hp2 hfar hze hP a b c hexc
      · exact interword_f2 B F X N T hk hd hu hf hfd hp hi hl hxs hx hg b1 b2 b3 b4 b5 hz hgz hp1 hp2 hfar hze hP a b c d e hexc
  · rw [tell_near hfar, hP.e] at ht
    rcases core_none ht with a | ⟨a, b, c⟩ | ⟨a, b, c, d, e⟩
    · exact interword_n0 B F X N T hk hd hu hf hfd hp hi hl hxs hx hg b1 b2 b3 b4 b5 hz hgz hp1 hp2 hfar hP a hexc
    · exact interword_n1 B F X N T hk hd hu hf hfd hp hi hl hxs hx hg b1 b2 b3 b4 b5 hz hgz hp1 hp2 hfar hP a b c hexc
    · exact interword_n2 B F X N T hk hd hu hf hfd hp hi hl hxs hx hg b1 b2 b3 b4 b5 hz hgz hp1 hp2 hfar hP a b c d e hexc
end

theorem lay38 : True := by
  k_with_none
  trivial
section
variable {dp un : Nat} {gd : Option (List Code)} {cn : Str} {cs : Scope} {a : Addr} {ccd : Value} {cl : List (Str × Addr)} {A₀ : Around} {base h₀ : Heap} {L : Addr} {m : Str → Option Value} {s : Shared} {Q E : Value → Shared → Prop} {mean : ExcName → Option Value} {mg mb : Str → Option Value} {w : World} {pv : Program} {lv : List Str} {news : List (Addr × Obj)}
end
theorem lay39 : True := by
  (k_with "call ref" => (k_here; (with_reducible show wpAny _ _ (call (Value.ref 174) _) _ _ _); k_dflt (refine' Mine.glue_parts ?k1 ?k2 ?k3 ?k4 ?k5 ?kK ?kd ?hx ?hg ?_; (case k1 => k_asm); (case k2 => k_asm); (case k3 => k_asm); (case k4 => k_asm); (case k5 => k_asm); (case kK => first | exact rfl | assumption); (case kd => ktr_room); (case hx => k_mem); (case hg => k_mem); k_whole; intro r' h' tk' F' N' l1; (try k_lt l1); (try dsimp only); (try k_sweep); (try k_fold))))
  (k_with "leaving ref" => (k_here; k_dflt (refine' leave_onS ?K ?F ?R ?U ?_; (case R => assumption); (case U => assumption); (case F => assumption); (case K => k_asm); k_whole; intro h' R' RK' U'; (try dsimp only at R' RK' U' ⊢))))
  (k_with "call ref" => (k_here; (with_reducible show wpAny _ _ (call (Value.ref 412) [Value.ref _, Value.int _ _, Value.ref _, Value.ref _]) _ _ _); k_dflt (refine' Mine.interword_ok ?k1 ?k2 ?k3 ?k4 ?k5 ?kK ?kd ?ku ?hf ?hfd ?hp ?hi ?hl ?hxs ?hx ?hg ?b1 ?b2 ?b3 ?b4 ?b5 ?hz ?hgz ?p1 ?p2 ?ht ?_; (case k1 => k_asm); (case k2 => k_asm); (case k3 => k_asm); (case k4 => k_asm); (case k5 => k_asm); (case kK => first | exact rfl | assumption); (case kd => ktr_room); (case ku => ktr_units); (case hf => k_mem); (case hfd => k_mem); (case hp => k_mem); (case hi => assumption); (case hl => first | assumption | omega); (case hxs => assumption); (case hx => k_mem); (case hg => k_mem); (case b1 => first | assumption | (refine ⟨?_, ?_⟩ <;> first | assumption | omega)); (case b2 => first | assumption | (refine ⟨?_, ?_⟩ <;> first | assumption | omega)); (case b3 => first | assumption | (refine ⟨?_, ?_⟩ <;> first | assumption | omega)); (case b4 => first | assumption | (refine ⟨?_, ?_⟩ <;> first | assumption | omega)); (case b5 => first | assumption | (refine ⟨?_, ?_⟩ <;> first | assumption | omega)); (case hz => k_mem); (case hgz => k_mem); (case p1 => first | assumption | omega); (case p2 => first | assumption | omega); (case ht => assumption); k_whole; intro y' dy' j1' j2' j3' j4' j5' u1' u2' u3' u4' u5' more' h' tk' F' N' hy' hd';  (try dsimp only); (try k_sweep); (try k_fold))))
  (k_with "call ref" => (k_here; (with_reducible show wpAny _ _ (call (Value.ref 412) [Value.ref _, Value.int _ _, Value.ref _, Value.ref _]) _ _ _); k_dflt (refine' Mine.interword_over ?k1 ?k2 ?k3 ?k4 ?k5 ?kK ?kd ?ku ?hf ?hfd ?hp ?hi ?hl ?hxs ?hx ?hg ?b1 ?b2 ?b3 ?b4 ?b5 ?hz ?hgz ?p1 ?p2 ?ht ?_; (case k1 => k_asm); (case k2 => k_asm); (case k3 => k_asm); (case k4 => k_asm); (case k5 => k_asm); (case kK => first | exact rfl | assumption); (case kd => ktr_room); (case ku => ktr_units); (case hf => k_mem); (case hfd => k_mem); (case hp => k_mem); (case hi => assumption); (case hl => first | assumption | omega); (case hxs => assumption); (case hx => k_mem); (case hg => k_mem); (case b1 => first | assumption | (refine ⟨?_, ?_⟩ <;> first | assumption | omega)); (case b2 => first | assumption | (refine ⟨?_, ?_⟩ <;> first | assumption | omega)); (case b3 => first | assumption | (refine ⟨?_, ?_⟩ <;> first | assumption | omega)); (case b4 => first | assumption | (refine ⟨?_, ?_⟩ <;> first | assumption | omega)); (case b5 => first | assumption | (refine ⟨?_, ?_⟩ <;> first | assumption | omega)); (case hz => k_mem); (case hgz => k_mem); (case p1 => first | assumption | omega); (case p2 => first | assumption | omega); (case ht => assumption); k_whole; intro e' t' vs' g2' h' tk' F2' R' U';  (try dsimp only); (try k_sweep); (try k_fold))))
  (k_with "call ref" => (k_here; (with_reducible show wpAny _ _ (call (Value.ref 412) [Value.ref _, Value.int _ _, Value.ref _, Value.ref _]) _ _ _); k_dflt (refine' Mine.interword_num ?k1 ?k2 ?k3 ?k4 ?k5 ?kK ?kd ?hv ?_; (case k1 => k_asm); (case k2 => k_asm); (case k3 => k_asm); (case k4 => k_asm); (case k5 => k_asm); (case kK => first | exact rfl | assumption); (case kd => ktr_room); (case hv => first | assumption | omega); k_whole; intro e' t' vs' g2' h' tk' F2' R' U';  (try dsimp only); (try k_sweep); (try k_fold))))
  (k_with "call ref" => (k_here; (with_reducible show wpAny _ _ (call (Value.ref 412) [Value.ref _, Value.bool _, Value.ref _, Value.ref _]) _ _ _); k_dflt (refine' Mine.interword_bool ?k1 ?k2 ?k3 ?k4 ?k5 ?kK ?kd  ?_; (case k1 => k_asm); (case k2 => k_asm); (case k3 => k_asm); (case k4 => k_asm); (case k5 => k_asm); (case kK => first | exact rfl | assumption); (case kd => ktr_room);  k_whole; intro e' t' vs' g2' h' tk' F2' R' U';  (try dsimp only); (try k_sweep); (try k_fold))))
  trivial
section
variable {dp un : Nat} {gd : Option (List Code)} {cn : Str} {cs : Scope} {a : Addr} {ccd : Value} {cl : List (Str × Addr)} {A₀ : Around} {base h₀ : Heap} {L : Addr} {m : Str → Option Value} {s : Shared} {Q E : Value → Shared → Prop} {mean : ExcName → Option Value} {mg mb : Str → Option Value} {w : World} {pv : Program} {lv : List Str} {news : List (Addr × Obj)}

theorem told_num (B : Below A₀ h₀ [] h₀) (F : Fr h₀ L s.heap m) (X : (Mine.hd.heap_1 w.params).In h₀) (N : News h₀ L s.heap news) (T : Top pv lv mean mg mb h₀) (hk : cs.kind = .function) (hd : dp + 11 < recursionLimit) {f x z : Addr} {k : Int} {tk : Tok} (hk1 : ¬ (1 ≤ k ∧ k ≤ 32767))
  (hret : ∀ u h' tk', Fr h₀ L h' m → News h₀ L h' news → Q (.str "argument" u) { s with heap := h', toks := tk' }) :
  wpAny (model PySem.Challenge.rw_sq0037_01.row.prog w) (ktrTop dp un gd cn cs L a ccd cl []) (call (.ref 470) [.ref f, .int k tk, .ref x, .ref z]) Q E s := by
  have XB := X
  have TB := T
  refine wpAny_call ?_
  k_dflt (refine' code_tryX ?k1 ?k2 ?k3 ?k4 ?k5 ?kA ?kF ?kK ?k6 ?k7 ?k8 ?k9 ?kB ?_ ?c2 ?c3 ?c4 ?c5; (case kA => exact rfl); (case kF => exact rfl); (case kK => first | exact rfl | assumption); (case k1 => assumption); (case k2 => assumption); (case k3 => assumption); (case k4 => assumption); (case k5 => assumption); (case k6 => k_is); (case k7 => k_is); (case k8 => ktr_room); (case k9 => first | exact BindsTo.of_eq rfl | exact binds_K (by k_in) rfl (by k_is) rfl rfl rfl); (case c5 => decide); (case kB => exact locs rfl); (case c2 => exact rfl); (case c3 => exact rfl); (case c4 => exact rfl); k_whole; intro g' L' h' FG' F' N' B' X' T' D'; (try dsimp only); (try k_fold))
  k_steps
  all_goals (refine' hret _ _ _ ?hF ?hN; (case hN => assumption); (case hF => assumption))
theorem told_bool (B : Below A₀ h₀ [] h₀) (F : Fr h₀ L s.heap m) (X : (Mine.hd.heap_1 w.params).In h₀) (N : News h₀ L s.heap news) (T : Top pv lv mean mg mb h₀) (hk : cs.kind = .function) (hd : dp + 11 < recursionLimit) {f x z : Addr} {b : Bool}
  (hret : ∀ u h' tk', Fr h₀ L h' m → News h₀ L h' news → Q (.str "argument" u) { s with heap := h', toks := tk' }) :
  wpAny (model PySem.Challenge.rw_sq0037_01.row.prog w) (ktrTop dp un gd cn cs L a ccd cl []) (call (.ref 470) [.ref f, .bool b, .ref x, .ref z]) Q E s := by
  have XB := X
  have TB := T
  refine wpAny_call ?_
  k_dflt (refine' code_tryX ?k1 ?k2 ?k3 ?k4 ?k5 ?kA ?kF ?kK ?k6 ?k7 ?k8 ?k9 ?kB ?_ ?c2 ?c3 ?c4 ?c5; (case kA => exact rfl); (case kF => exact rfl); (case kK => first | exact rfl | assumption); (case k1 => assumption); (case k2 => assumption); (case k3 => assumption); (case k4 => assumption); (case k5 => assumption); (case k6 => k_is); (case k7 => k_is); (case k8 => ktr_room); (case k9 => first | exact BindsTo.of_eq rfl | exact binds_K (by k_in) rfl (by k_is) rfl rfl rfl); (case c5 => decide); (case kB => exact locs rfl); (case c2 => exact rfl); (case c3 => exact rfl); (case c4 => exact rfl); k_whole; intro g' L' h' FG' F' N' B' X' T' D'; (try dsimp only); (try k_fold))
  k_steps
  all_goals (refine' hret _ _ _ ?hF ?hN; (case hN => assumption); (case hF => assumption))
theorem told_over (B : Below A₀ h₀ [] h₀) (F : Fr h₀ L s.heap m) (X : (Mine.hd.heap_1 w.params).In h₀) (N : News h₀ L s.heap news) (T : Top pv lv mean mg mb h₀) (hk : cs.kind = .function) (hd : dp + 12 < recursionLimit)  (hu : un + 400 < cLine)
  {f d pl : Addr} {ks : Nat → Tok} {vs : Nat → Value} {ps : List Value} {xs : List Int} {pn : Nat} (hf : (f, instObj 377 d) ∈ news) (hfd : (d, fObj w pl ks vs) ∈ news) (hp : (pl, listOf ps.toArray pn) ∈ news) (hi : IntsAre ps xs) (hl : xs.length ≤ 64) (hxs : ∀ v ∈ xs, -1073741823 ≤ v ∧ v ≤ 1073741823)
  {x dx : Addr} {v1 v2 v3 v4 v5 : Int} {k1 k2 k3 k4 k5 t1 t2 t3 t4 t5 : Tok} (hx : (x, instObj 220 dx) ∈ news) (hg : (dx, gObj w v1 v2 v3 v4 v5 k1 k2 k3 k4 k5 t1 t2 t3 t4 t5) ∈ news) (b1 : -1073741823 ≤ v1 ∧ v1 ≤ 1073741823) (b2 : -1073741823 ≤ v2 ∧ v2 ≤ 1073741823) (b3 : 0 ≤ v3 ∧ v3 ≤ 3) (b4 : -1073741823 ≤ v4 ∧ v4 ≤ 1073741823) (b5 : 0 ≤ v5 ∧ v5 ≤ 3)
  {z dz : Addr} {e1 e2 e3 e4 e5 : Int} {i1 i2 i3 i4 i5 r1 r2 r3 r4 r5 : Tok} (hz : (z, instObj 220 dz) ∈ news) (hgz : (dz, gObj w e1 e2 e3 e4 e5 i1 i2 i3 i4 i5 r1 r2 r3 r4 r5) ∈ news)
  {pace : Int} {tp : Tok} (hp1 : 1 ≤ pace) (hp2 : pace ≤ 32767) (ht : tellZ (parZ xs) pace v1 v2 v3 v4 v5 e1 e2 e3 e4 e5 = none)
  (hret : ∀ u h' tk', Fr h₀ L h' m → News h₀ L h' news → Q (.str "overflow" u) { s with heap := h', toks := tk' }) :
  wpAny (model PySem.Challenge.rw_sq0037_01.row.prog w) (ktrTop dp un gd cn cs L a ccd cl []) (call (.ref 470) [.ref f, .int pace tp, .ref x, .ref z]) Q E s := by
  have XB := X
  have TB := T
  refine wpAny_call ?_
  k_dflt (refine' code_tryX ?k1 ?k2 ?k3 ?k4 ?k5 ?kA ?kF ?kK ?k6 ?k7 ?k8 ?k9 ?kB ?_ ?c2 ?c3 ?c4 ?c5; (case kA => exact rfl); (case kF => exact rfl); (case kK => first | exact rfl | assumption); (case k1 => assumption); (case k2 => assumption); (case k3 => assumption); (case k4 => assumption); (case k5 => assumption); (case k6 => k_is); (case k7 => k_is); (case k8 => ktr_room); (case k9 => first | exact BindsTo.of_eq rfl | exact binds_K (by k_in) rfl (by k_is) rfl rfl rfl); (case c5 => decide); (case kB => exact locs rfl); (case c2 => exact rfl); (case c3 => exact rfl); (case c4 => exact rfl); k_whole; intro g' L' h' FG' F' N' B' X' T' D'; (try dsimp only); (try k_fold))
  k_steps
  all_goals (refine' hret _ _ _ ?hF ?hN; (case hN => assumption); (case hF => assumption))
theorem told_ok (B : Below A₀ h₀ [] h₀) (F : Fr h₀ L s.heap m) (X : (Mine.hd.heap_1 w.params).In h₀) (N : News h₀ L s.heap news) (T : Top pv lv mean mg mb h₀) (hk : cs.kind = .function) (hd : dp + 12 < recursionLimit)  (hu : un + 400 < cLine)
  {f d pl : Addr} {ks : Nat → Tok} {vs : Nat → Value} {ps : List Value} {xs : List Int} {pn : Nat} (hf : (f, instObj 377 d) ∈ news) (hfd : (d, fObj w pl ks vs) ∈ news) (hp : (pl, listOf ps.toArray pn) ∈ news) (hi : IntsAre ps xs) (hl : xs.length ≤ 64) (hxs : ∀ v ∈ xs, -1073741823 ≤ v ∧ v ≤ 1073741823)
  {x dx : Addr} {v1 v2 v3 v4 v5 : Int} {k1 k2 k3 k4 k5 t1 t2 t3 t4 t5 : Tok} (hx : (x, instObj 220 dx) ∈ news) (hg : (dx, gObj w v1 v2 v3 v4 v5 k1 k2 k3 k4 k5 t1 t2 t3 t4 t5) ∈ news) (b1 : -1073741823 ≤ v1 ∧ v1 ≤ 1073741823) (b2 : -1073741823 ≤ v2 ∧ v2 ≤ 1073741823) (b3 : 0 ≤ v3 ∧ v3 ≤ 3) (b4 : -1073741823 ≤ v4 ∧ v4 ≤ 1073741823) (b5 : 0 ≤ v5 ∧ v5 ≤ 3)
  {z dz : Addr} {e1 e2 e3 e4 e5 : Int} {i1 i2 i3 i4 i5 r1 r2 r3 r4 r5 : Tok} (hz : (z, instObj 220 dz) ∈ news) (hgz : (dz, gObj w e1 e2 e3 e4 e5 i1 i2 i3 i4 i5 r1 r2 r3 r4 r5) ∈ news)
  {pace : Int} {tp : Tok} (hp1 : 1 ≤ pace) (hp2 : pace ≤ 32767) {o1 o2 o3 o4 o5 : Int} (ht : tellZ (parZ xs) pace v1 v2 v3 v4 v5 e1 e2 e3 e4 e5 = some (o1, o2, o3, o4, o5))
  (hret : ∀ r t1 t2 t3 t4 t5 h' tk', Fr h₀ L h' m → News h₀ L h' ((r, tupObj [.int o1 t1, .int o2 t2, .int o3 t3, .int o4 t4, .int o5 t5]) :: news) → Q (.ref r) { s with heap := h', toks := tk' }) :
  wpAny (model PySem.Challenge.rw_sq0037_01.row.prog w) (ktrTop dp un gd cn cs L a ccd cl []) (call (.ref 470) [.ref f, .int pace tp, .ref x, .ref z]) Q E s := by
  have XB := X
  have TB := T
  refine wpAny_call ?_
  k_dflt (refine' code_tryX ?k1 ?k2 ?k3 ?k4 ?k5 ?kA ?kF ?kK ?k6 ?k7 ?k8 ?k9 ?kB ?_ ?c2 ?c3 ?c4 ?c5; (case kA => exact rfl); (case kF => exact rfl); (case kK => first | exact rfl | assumption); (case k1 => assumption); (case k2 => assumption); (case k3 => assumption); (case k4 => assumption); (case k5 => assumption); (case k6 => k_is); (case k7 => k_is); (case k8 => ktr_room); (case k9 => first | exact BindsTo.of_eq rfl | exact binds_K (by k_in) rfl (by k_is) rfl rfl rfl); (case c5 => decide); (case kB => exact locs rfl); (case c2 => exact rfl); (case c3 => exact rfl); (case c4 => exact rfl); k_whole; intro g' L' h' FG' F' N' B' X' T' D'; (try dsimp only); (try k_fold))
  k_steps
  refine' hret _ _ _ _ _ _ _ _ ?hF ?hN
  case hN => (refine' cb_drop ?cbN ?cbS; (case cbN => assumption); (case cbS => (refine List.forall_mem_cons.mpr ⟨?_, ?_⟩; k_mem; (intro p hp; (repeat (first | exact hp | refine List.mem_append.mpr (.inr ?_) | refine List.mem_cons_of_mem _ ?_))))))
  case hF => assumption
end

theorem lay40 : True := by
  k_with_none
  trivial

theorem max3_N {prog : Program} {w : World} {A : Around} {E : Value → Shared → Prop} {s : Shared} {h₀ : Heap} {L : Addr} {m : Str → Option Value} {news : List (Addr × Obj)} {a b c : Int} {t u x : Tok} {Q : Value → Shared → Prop} (hh : A.handled = none) (F : Fr h₀ L s.heap m) (N : News h₀ L s.heap news)
    (h : ∀ v tv h' tk, Fr h₀ L h' m → News h₀ L h' news → a ≤ v → b ≤ v → c ≤ v → (v = a ∨ v = b ∨ v = c) → Q (.int v tv) { s with heap := h', toks := tk }) :
    wpAny (model prog w) A (call (.builtin "max") [.int a t, .int b u, .int c x]) Q E s :=
  max_three_ints hh fun h' tk hk => by
    have k := fun v tv => h v tv h' tk (F.grownK hk) (N.grown hk)
    by_cases hba : b > a
    · rw [if_pos hba]
      by_cases hc : c > b
      · rw [if_pos hc]; exact k c x (by omega) (by omega) (by omega) (.inr (.inr rfl))
      · rw [if_neg hc]; exact k b u (by omega) (by omega) (by omega) (.inr (.inl rfl))
    · rw [if_neg hba]
      by_cases hc : c > a
      · rw [if_pos hc]; exact k c x (by omega) (by omega) (by omega) (.inr (.inr rfl))
      · rw [if_neg hc]; exact k a t (by omega) (by omega) (by omega) (.inl rfl)

theorem abs_le {x v : Int} (h : (if x < 0 then -x else x) ≤ v) : -v ≤ x ∧ x ≤ v := by
  split at h <;> omega
theorem core_in {x pace p1 p2 p3 p4 p5 v o3 o5 : Int} (h1 : (if p1 + x < 0 then -(p1 + x) else p1 + x) ≤ v) (h2 : (if nearZ p2 pace 1000 < 0 then -nearZ p2 pace 1000 else nearZ p2 pace 1000) ≤ v) (h3 : (if nearZ p4 1000 pace < 0 then -nearZ p4 1000 pace else nearZ p4 1000 pace) ≤ v)
    (h : ¬ 1073741824 ≤ v) (e3 : ordOf (nearZ p2 pace 1000) p3 = o3) (e5 : ordOf (nearZ p4 1000 pace) p5 = o5) : coreZ x pace (p1, p2, p3, p4, p5) = some (p1 + x, nearZ p2 pace 1000, o3, nearZ p4 1000 pace, o5) := by
  obtain ⟨a1, a2⟩ := abs_le h1
  obtain ⟨b1, b2⟩ := abs_le h2
  obtain ⟨c1, c2⟩ := abs_le h3
  subst e3 e5
  exact if_pos ⟨by dsimp only; omega, by dsimp only; omega, by dsimp only; omega, by dsimp only; omega, by dsimp only; omega, by dsimp only; omega⟩
theorem core_out {x pace p1 p2 p3 p4 p5 v : Int} (h : 1073741824 ≤ v) (hx : v = (if p1 + x < 0 then -(p1 + x) else p1 + x) ∨ v = (if nearZ p2 pace 1000 < 0 then -nearZ p2 pace 1000 else nearZ p2 pace 1000) ∨ v = (if nearZ p4 1000 pace < 0 then -nearZ p4 1000 pace else nearZ p4 1000 pace)) :
    coreZ x pace (p1, p2, p3, p4, p5) = none := by
  refine if_neg fun q => ?_
  dsimp only at q
  obtain ⟨a1, a2, b1, b2, c1, c2⟩ := q
  rcases hx with e | e | e <;> (split at e <;> omega)
section
variable {g : Int → Int} {pace v1 v2 v3 v4 v5 e1 e2 e3 e4 e5 : Int}
theorem tl_zz (h : 2000 ≤ pace) (hz : (e1 == 0 && (e2 == 0 && (e3 == 0 && (e4 == 0 && e5 == 0)))) = true) (hw : (v1 == 0 && (v2 == 0 && (v3 == 0 && (v4 == 0 && v5 == 0)))) = true) :
    tellZ g pace v1 v2 v3 v4 v5 e1 e2 e3 e4 e5 = coreZ (g 7) pace (g 2, g 3, 0, g 4, 0) := by rw [tell_zero h hz, plainZ_z hw]
theorem tl_zn (h : 2000 ≤ pace) (hz : (e1 == 0 && (e2 == 0 && (e3 == 0 && (e4 == 0 && e5 == 0)))) = true) (hw : (v1 == 0 && (v2 == 0 && (v3 == 0 && (v4 == 0 && v5 == 0)))) = false) :
    tellZ g pace v1 v2 v3 v4 v5 e1 e2 e3 e4 e5 = coreZ (g 7) pace (v1, v2, v3, v4, v5) := by rw [tell_zero h hz, plainZ_n hw]
theorem tl_nz (h : ¬ 2000 ≤ pace) (hw : (v1 == 0 && (v2 == 0 && (v3 == 0 && (v4 == 0 && v5 == 0)))) = true) :
    tellZ g pace v1 v2 v3 v4 v5 e1 e2 e3 e4 e5 = coreZ 0 pace (g 2, g 3, 0, g 4, 0) := by rw [tell_near h, plainZ_z hw]
theorem tl_nn (h : ¬ 2000 ≤ pace) (hw : (v1 == 0 && (v2 == 0 && (v3 == 0 && (v4 == 0 && v5 == 0)))) = false) :
    tellZ g pace v1 v2 v3 v4 v5 e1 e2 e3 e4 e5 = coreZ 0 pace (v1, v2, v3, v4, v5) := by rw [tell_near h, plainZ_n hw]
end
section
variable {dp un : Nat} {gd : Option (List Code)} {cn : Str} {cs : Scope} {a : Addr} {ccd : Value} {cl : List (Str × Addr)} {outer : List Env} {A₀ : Around} {base h₀ : Heap} {L : Addr} {m : Str → Option Value} {s : Shared} {Q E : Value → Shared → Prop} {mean : ExcName → Option Value} {mg mb : Str → Option Value} {w : World} {pv : Program} {lv : List Str} {news : List (Addr × Obj)}
end
theorem lay41 : True := by
  (k_with "call ref" => (k_here; (with_reducible show wpAny _ _ (call (Value.ref 456) [Value.int _ _, Value.int _ _, Value.int _ _]) _ _ _); k_dflt (refine' Mine.near ?k1 ?k2 ?k3 ?k4 ?k5 ?kK ?kd ?e1 ?e2 ?e3 ?e4 ?e5 ?e6 ?_; (case k1 => k_asm); (case k2 => k_asm); (case k3 => k_asm); (case k4 => k_asm); (case k5 => k_asm); (case kK => first | exact rfl | assumption); (case kd => ktr_room); (case e1 => first | assumption | omega); (case e2 => first | assumption | omega); (case e3 => first | assumption | omega); (case e4 => first | assumption | omega); (case e5 => first | assumption | omega); (case e6 => first | assumption | omega); k_whole; intro t' h' tk' F' N';  (try dsimp only); (try k_sweep); (try k_fold))))
  (k_with "binaryOp Pow int int" => (k_here; (with_reducible show wpAny _ _ (binaryOp Operator.Pow (Value.int 2 _) (Value.int 30 _)) _ _ _); refine Mine.pow230 ?_; (try dsimp only)))
  (k_with "call builtin:max" => (k_here; (with_reducible show wpAny _ _ (call (Value.builtin "max") [Value.int _ _, Value.int _ _, Value.int _ _]) _ _ _); k_dflt (refine' Mine.max3_N ?H ?F ?N ?_; (case H => first | exact rfl | assumption); (case F => k_asm); (case N => k_asm); k_whole; intro v' t' h' tk' F' N' x1 x2 x3 x4; (try dsimp only); (try k_sweep); (try k_fold))))
  trivial
section
variable {dp un : Nat} {gd : Option (List Code)} {cn : Str} {cs : Scope} {a : Addr} {ccd : Value} {cl : List (Str × Addr)} {outer : List Env} {A₀ : Around} {base h₀ : Heap} {L : Addr} {m : Str → Option Value} {s : Shared} {Q E : Value → Shared → Prop} {mean : ExcName → Option Value} {mg mb : Str → Option Value} {w : World} {pv : Program} {lv : List Str} {news : List (Addr × Obj)}

theorem space_num (B : Below A₀ base outer h₀) (F : Fr h₀ L s.heap m) (X : (Mine.hd.heap_1 w.params).In h₀) (N : News h₀ L s.heap news) (T : Top pv lv mean mg mb h₀) (hk : cs.kind = .function) (hd : dp + 3 < recursionLimit) {kd wd ed : Addr} {k : Int} {tk : Tok} (hk1 : ¬ (1 ≤ k ∧ k ≤ 32767))
  (hret : ∀ u h' tk', Fr h₀ L h' m → News h₀ L h' news → Q (.str "argument" u) { s with heap := h', toks := tk' }) :
  wpAny (model PySem.Challenge.rw_sq0037_01.row.prog w) (ktrTop dp un gd cn cs L a ccd cl outer) (call (.ref 463) [.ref kd, .int k tk, .ref wd, .ref ed]) Q E s := by
  refine wpAny_call ?_
  k_dflt (refine' code_def ?k1 ?k2 ?k3 ?k4 ?k5 ?kA ?kF ?kK ?k6 ?k7 ?k8 ?k9 ?kB ?_ ?c2 ?c3 ?c4 ?c5; (case kA => exact rfl); (case kF => exact rfl); (case kK => first | exact rfl | assumption); (case k1 => k_asm); (case k2 => k_asm); (case k3 => k_asm); (case k4 => k_asm); (case k5 => k_asm); (case k6 => k_is); (case k7 => k_is); (case k8 => ktr_room); (case k9 => first | exact BindsTo.of_eq rfl | exact binds_K (by k_in) rfl (by k_is) rfl rfl rfl); (case c5 => decide); (case kB => exact locs rfl); (case c2 => exact rfl); (case c3 => exact rfl); (case c4 => exact rfl); k_whole; intro g' L' h' FG' F' N' B' X' T'; (try dsimp only); (try k_fold))
  k_steps
  all_goals first | (exfalso; omega) | (refine' hret _ _ _ ?hF ?hN; (case hN => assumption); (case hF => assumption))
theorem space_bool (B : Below A₀ base outer h₀) (F : Fr h₀ L s.heap m) (X : (Mine.hd.heap_1 w.params).In h₀) (N : News h₀ L s.heap news) (T : Top pv lv mean mg mb h₀) (hk : cs.kind = .function) (hd : dp + 3 < recursionLimit) {kd wd ed : Addr} {b : Bool}
  (hret : ∀ u h' tk', Fr h₀ L h' m → News h₀ L h' news → Q (.str "argument" u) { s with heap := h', toks := tk' }) :
  wpAny (model PySem.Challenge.rw_sq0037_01.row.prog w) (ktrTop dp un gd cn cs L a ccd cl outer) (call (.ref 463) [.ref kd, .bool b, .ref wd, .ref ed]) Q E s := by
  refine wpAny_call ?_
  k_dflt (refine' code_def ?k1 ?k2 ?k3 ?k4 ?k5 ?kA ?kF ?kK ?k6 ?k7 ?k8 ?k9 ?kB ?_ ?c2 ?c3 ?c4 ?c5; (case kA => exact rfl); (case kF => exact rfl); (case kK => first | exact rfl | assumption); (case k1 => k_asm); (case k2 => k_asm); (case k3 => k_asm); (case k4 => k_asm); (case k5 => k_asm); (case k6 => k_is); (case k7 => k_is); (case k8 => ktr_room); (case k9 => first | exact BindsTo.of_eq rfl | exact binds_K (by k_in) rfl (by k_is) rfl rfl rfl); (case c5 => decide); (case kB => exact locs rfl); (case c2 => exact rfl); (case c3 => exact rfl); (case c4 => exact rfl); k_whole; intro g' L' h' FG' F' N' B' X' T'; (try dsimp only); (try k_fold))
  k_steps
  all_goals (refine' hret _ _ _ ?hF ?hN; (case hN => assumption); (case hF => assumption))
theorem space_in (B : Below A₀ base outer h₀) (F : Fr h₀ L s.heap m) (X : (Mine.hd.heap_1 w.params).In h₀) (N : News h₀ L s.heap news) (T : Top pv lv mean mg mb h₀) (hk : cs.kind = .function) (hd : dp + 4 < recursionLimit)  (hu : un + 400 < cLine) {kd : Addr} {ko : Obj} {kvs : List (Int × Value)} {c : List (Int × Int)} (hm : (kd, ko) ∈ news) (hlo : (kd == sysModules) = false) (hdk : ko.IsDictOf (PySem.intKind PySem.Challenge.rw_sq0037_01.row.prog w) kvs) (hfk : PyProof.V.FlatPairs PyData.int kvs (kdfD c))  (hcb : ∀ n, -1073741823 ≤ kdfLook c n 0 ∧ kdfLook c n 0 ≤ 1073741823)
  {wd : Addr} {v1 v2 v3 v4 v5 : Int} {t1 t2 t3 t4 t5 : Tok} (hw : (wd, tupObj [.int v1 t1, .int v2 t2, .int v3 t3, .int v4 t4, .int v5 t5]) ∈ news) (b1 : -1073741823 ≤ v1 ∧ v1 ≤ 1073741823) (b2 : -1073741823 ≤ v2 ∧ v2 ≤ 1073741823) (b3 : 0 ≤ v3 ∧ v3 ≤ 3) (b4 : -1073741823 ≤ v4 ∧ v4 ≤ 1073741823) (b5 : 0 ≤ v5 ∧ v5 ≤ 3)
  {ed : Addr} {e1 e2 e3 e4 e5 : Int} {r1 r2 r3 r4 r5 : Tok} (he : (ed, tupObj [.int e1 r1, .int e2 r2, .int e3 r3, .int e4 r4, .int e5 r5]) ∈ news)
  {pace : Int} {tp : Tok} (hp1 : 1 ≤ pace) (hp2 : pace ≤ 32767)
  (hover : tellZ (fun n => kdfLook c n 0) pace v1 v2 v3 v4 v5 e1 e2 e3 e4 e5 = none → ∀ u h' tk', Fr h₀ L h' m → News h₀ L h' news → Q (.str "overflow" u) { s with heap := h', toks := tk' })
  (hok : ∀ o1 o2 o3 o4 o5, tellZ (fun n => kdfLook c n 0) pace v1 v2 v3 v4 v5 e1 e2 e3 e4 e5 = some (o1, o2, o3, o4, o5) → ∀ r k1 k2 k3 k4 k5 h' tk', Fr h₀ L h' m → News h₀ L h' ((r, tupObj [.int o1 k1, .int o2 k2, .int o3 k3, .int o4 k4, .int o5 k5]) :: news) → Q (.ref r) { s with heap := h', toks := tk' }) :
  wpAny (model PySem.Challenge.rw_sq0037_01.row.prog w) (ktrTop dp un gd cn cs L a ccd cl outer) (call (.ref 463) [.ref kd, .int pace tp, .ref wd, .ref ed]) Q E s := by
  obtain ⟨p2, p2'⟩ := hcb 2
  obtain ⟨p3, p3'⟩ := hcb 3
  obtain ⟨p4, p4'⟩ := hcb 4
  obtain ⟨p7, p7'⟩ := hcb 7
  obtain ⟨b1, b1'⟩ := b1
  obtain ⟨b2, b2'⟩ := b2
  obtain ⟨b4, b4'⟩ := b4
  refine wpAny_call ?_
  k_dflt (refine' code_def ?k1 ?k2 ?k3 ?k4 ?k5 ?kA ?kF ?kK ?k6 ?k7 ?k8 ?k9 ?kB ?_ ?c2 ?c3 ?c4 ?c5; (case kA => exact rfl); (case kF => exact rfl); (case kK => first | exact rfl | assumption); (case k1 => k_asm); (case k2 => k_asm); (case k3 => k_asm); (case k4 => k_asm); (case k5 => k_asm); (case k6 => k_is); (case k7 => k_is); (case k8 => ktr_room); (case k9 => first | exact BindsTo.of_eq rfl | exact binds_K (by k_in) rfl (by k_is) rfl rfl rfl); (case c5 => decide); (case kB => exact locs rfl); (case c2 => exact rfl); (case c3 => exact rfl); (case c4 => exact rfl); k_whole; intro g' L' h' FG' F' N' B' X' T'; (try dsimp only); (try k_fold))
  k_steps
  all_goals first
    | (refine' hok _ _ _ _ _ (tell_far ?hT1 ?hT2) _ _ _ _ _ _ _ _ ?hF ?hN; (case hT1 => assumption); (case hT2 => assumption); (case hN => (refine' dup ?hN9 ?hm9; (case hN9 => (refine' cb_drop ?cbN ?cbS; (case cbN => assumption); (case cbS => (intro p hp; (repeat (first | exact hp | refine List.mem_append.mpr (.inr ?_) | refine List.mem_cons_of_mem _ ?_)))))); (case hm9 => exact he))); (case hF => assumption))
    | (refine' hover (Eq.trans ?hT (core_out ?h1 ?h2)) _ _ _ ?hF ?hN; (case hT => first | exact tl_zz (by assumption) (by assumption) (by assumption) | exact tl_zn (by assumption) (by assumption) (by assumption) | exact tl_nz (by assumption) (by assumption) | exact tl_nn (by assumption) (by assumption)); (case h1 => assumption); (case h2 => assumption); (case hN => (refine' cb_drop ?cbN ?cbS; (case cbN => assumption); (case cbS => (intro p hp; (repeat (first | exact hp | refine List.mem_append.mpr (.inr ?_) | refine List.mem_cons_of_mem _ ?_)))))); (case hF => assumption))
    | (refine' hok _ _ _ _ _ (Eq.trans ?hT (core_in ?h1 ?h2 ?h3 ?h4 ?e3 ?e5)) _ _ _ _ _ _ _ _ ?hF ?hN; (case hN => (refine' cb_drop ?cbN ?cbS; (case cbN => assumption); (case cbS => (refine List.forall_mem_cons.mpr ⟨?_, ?_⟩; k_mem; (intro p hp; (repeat (first | exact hp | refine List.mem_append.mpr (.inr ?_) | refine List.mem_cons_of_mem _ ?_))))))); (case hT => first | exact tl_zz (by assumption) (by assumption) (by assumption) | exact tl_zn (by assumption) (by assumption) (by assumption) | exact tl_nz (by assumption) (by assumption) | exact tl_nn (by assumption) (by assumption)); (case h1 => assumption); (case h2 => assumption); (case h3 => assumption); (case h4 => assumption); (case e3 => first | exact ordOf_n (by assumption) | exact ordOf_z (by assumption)); (case e5 => first | exact ordOf_n (by assumption) | exact ordOf_z (by assumption)); (case hF => assumption))
end

theorem lay42 : True := by
  k_with_none
  trivial
section
variable {dp un : Nat} {gd : Option (List Code)} {cn : Str} {cs : Scope} {a : Addr} {ccd : Value} {cl : List (Str × Addr)} {outer : List Env} {A₀ : Around} {base h₀ : Heap} {L : Addr} {m : Str → Option Value} {s : Shared} {Q E : Value → Shared → Prop} {mean : ExcName → Option Value} {mg mb : Str → Option Value} {w : World} {pv : Program} {lv : List Str} {news : List (Addr × Obj)}
end
theorem lay43 : True := by
  (k_with "binaryOp Pow int int" => (k_here; (with_reducible show wpAny _ _ (binaryOp Operator.Pow (Value.int 2 _) (Value.int 30 _)) _ _ _); refine Mine.pow230 ?_; (try dsimp only)))
  trivial
section
variable {dp un : Nat} {gd : Option (List Code)} {cn : Str} {cs : Scope} {a : Addr} {ccd : Value} {cl : List (Str × Addr)} {outer : List Env} {A₀ : Around} {base h₀ : Heap} {L : Addr} {m : Str → Option Value} {s : Shared} {Q E : Value → Shared → Prop} {mean : ExcName → Option Value} {mg mb : Str → Option Value} {w : World} {pv : Program} {lv : List Str} {news : List (Addr × Obj)}

theorem fits_num_int (B : Below A₀ base outer h₀) (F : Fr h₀ L s.heap m) (X : (Mine.hd.heap_1 w.params).In h₀) (N : News h₀ L s.heap news) (T : Top pv lv mean mg mb h₀) (hk : cs.kind = .function) (hd : dp + 2 < recursionLimit)  (hu : un + 200 < cLine) {kd : Addr} {u : Tok} {k : Int} {tk : Tok} (hk1 : ¬ (1 ≤ k ∧ k ≤ 64)) {v : Int} {tv : Tok}
  (hret : ∀ h' tk', Fr h₀ L h' m → News h₀ L h' news → Q (.bool true) { s with heap := h', toks := tk' }) :
  wpAny (model PySem.Challenge.rw_sq0037_01.row.prog w) (ktrTop dp un gd cn cs L a ccd cl outer) (call (.ref 484) [.str "font" u, .ref kd, .int k tk, .int v tv]) Q E s := by
  refine wpAny_call ?_
  k_dflt (refine' code_def ?k1 ?k2 ?k3 ?k4 ?k5 ?kA ?kF ?kK ?k6 ?k7 ?k8 ?k9 ?kB ?_ ?c2 ?c3 ?c4 ?c5; (case kA => exact rfl); (case kF => exact rfl); (case kK => first | exact rfl | assumption); (case k1 => k_asm); (case k2 => k_asm); (case k3 => k_asm); (case k4 => k_asm); (case k5 => k_asm); (case k6 => k_is); (case k7 => k_is); (case k8 => ktr_room); (case k9 => first | exact BindsTo.of_eq rfl | exact binds_K (by k_in) rfl (by k_is) rfl rfl rfl); (case c5 => decide); (case kB => exact locs rfl); (case c2 => exact rfl); (case c3 => exact rfl); (case c4 => exact rfl); k_whole; intro g' L' h' FG' F' N' B' X' T'; (try dsimp only); (try k_fold))
  k_steps
  all_goals first | (exfalso; omega) | (refine' hret _ _ ?hF ?hN; (case hN => (refine' cb_drop ?cbN ?cbS; (case cbN => assumption); (case cbS => (intro p hp; (repeat (first | exact hp | refine List.mem_append.mpr (.inr ?_) | refine List.mem_cons_of_mem _ ?_)))))); (case hF => assumption))

theorem fits_num_bool (B : Below A₀ base outer h₀) (F : Fr h₀ L s.heap m) (X : (Mine.hd.heap_1 w.params).In h₀) (N : News h₀ L s.heap news) (T : Top pv lv mean mg mb h₀) (hk : cs.kind = .function) (hd : dp + 2 < recursionLimit)  (hu : un + 200 < cLine) {kd : Addr} {u : Tok} {k : Int} {tk : Tok} (hk1 : ¬ (1 ≤ k ∧ k ≤ 64)) {b : Bool}
  (hret : ∀ h' tk', Fr h₀ L h' m → News h₀ L h' news → Q (.bool true) { s with heap := h', toks := tk' }) :
  wpAny (model PySem.Challenge.rw_sq0037_01.row.prog w) (ktrTop dp un gd cn cs L a ccd cl outer) (call (.ref 484) [.str "font" u, .ref kd, .int k tk, .bool b]) Q E s := by
  refine wpAny_call ?_
  k_dflt (refine' code_def ?k1 ?k2 ?k3 ?k4 ?k5 ?kA ?kF ?kK ?k6 ?k7 ?k8 ?k9 ?kB ?_ ?c2 ?c3 ?c4 ?c5; (case kA => exact rfl); (case kF => exact rfl); (case kK => first | exact rfl | assumption); (case k1 => k_asm); (case k2 => k_asm); (case k3 => k_asm); (case k4 => k_asm); (case k5 => k_asm); (case k6 => k_is); (case k7 => k_is); (case k8 => ktr_room); (case k9 => first | exact BindsTo.of_eq rfl | exact binds_K (by k_in) rfl (by k_is) rfl rfl rfl); (case c5 => decide); (case kB => exact locs rfl); (case c2 => exact rfl); (case c3 => exact rfl); (case c4 => exact rfl); k_whole; intro g' L' h' FG' F' N' B' X' T'; (try dsimp only); (try k_fold))
  k_steps
  all_goals first | (exfalso; omega) | (refine' hret _ _ ?hF ?hN; (case hN => (refine' cb_drop ?cbN ?cbS; (case cbN => assumption); (case cbS => (intro p hp; (repeat (first | exact hp | refine List.mem_append.mpr (.inr ?_) | refine List.mem_cons_of_mem _ ?_)))))); (case hF => assumption))

theorem fits_num_none (B : Below A₀ base outer h₀) (F : Fr h₀ L s.heap m) (X : (Mine.hd.heap_1 w.params).In h₀) (N : News h₀ L s.heap news) (T : Top pv lv mean mg mb h₀) (hk : cs.kind = .function) (hd : dp + 2 < recursionLimit)  (hu : un + 200 < cLine) {kd : Addr} {u : Tok} {k : Int} {tk : Tok} (hk1 : ¬ (1 ≤ k ∧ k ≤ 64))
  (hret : ∀ h' tk', Fr h₀ L h' m → News h₀ L h' news → Q (.bool true) { s with heap := h', toks := tk' }) :
  wpAny (model PySem.Challenge.rw_sq0037_01.row.prog w) (ktrTop dp un gd cn cs L a ccd cl outer) (call (.ref 484) [.str "font" u, .ref kd, .int k tk, .none]) Q E s := by
  refine wpAny_call ?_
  k_dflt (refine' code_def ?k1 ?k2 ?k3 ?k4 ?k5 ?kA ?kF ?kK ?k6 ?k7 ?k8 ?k9 ?kB ?_ ?c2 ?c3 ?c4 ?c5; (case kA => exact rfl); (case kF => exact rfl); (case kK => first | exact rfl | assumption); (case k1 => k_asm); (case k2 => k_asm); (case k3 => k_asm); (case k4 => k_asm); (case k5 => k_asm); (case k6 => k_is); (case k7 => k_is); (case k8 => ktr_room); (case k9 => first | exact BindsTo.of_eq rfl | exact binds_K (by k_in) rfl (by k_is) rfl rfl rfl); (case c5 => decide); (case kB => exact locs rfl); (case c2 => exact rfl); (case c3 => exact rfl); (case c4 => exact rfl); k_whole; intro g' L' h' FG' F' N' B' X' T'; (try dsimp only); (try k_fold))
  k_steps
  all_goals first | (exfalso; omega) | (refine' hret _ _ ?hF ?hN; (case hN => (refine' cb_drop ?cbN ?cbS; (case cbN => assumption); (case cbS => (intro p hp; (repeat (first | exact hp | refine List.mem_append.mpr (.inr ?_) | refine List.mem_cons_of_mem _ ?_)))))); (case hF => assumption))

theorem fits_true_int (B : Below A₀ base outer h₀) (F : Fr h₀ L s.heap m) (X : (Mine.hd.heap_1 w.params).In h₀) (N : News h₀ L s.heap news) (T : Top pv lv mean mg mb h₀) (hk : cs.kind = .function) (hd : dp + 2 < recursionLimit)  (hu : un + 200 < cLine) {kd : Addr} {u : Tok} {b : Bool} {v : Int} {tv : Tok}
  (hret : ∀ h' tk', Fr h₀ L h' m → News h₀ L h' news → Q (.bool true) { s with heap := h', toks := tk' }) :
  wpAny (model PySem.Challenge.rw_sq0037_01.row.prog w) (ktrTop dp un gd cn cs L a ccd cl outer) (call (.ref 484) [.str "font" u, .ref kd, .bool b, .int v tv]) Q E s := by
  refine wpAny_call ?_
  k_dflt (refine' code_def ?k1 ?k2 ?k3 ?k4 ?k5 ?kA ?kF ?kK ?k6 ?k7 ?k8 ?k9 ?kB ?_ ?c2 ?c3 ?c4 ?c5; (case kA => exact rfl); (case kF => exact rfl); (case kK => first | exact rfl | assumption); (case k1 => k_asm); (case k2 => k_asm); (case k3 => k_asm); (case k4 => k_asm); (case k5 => k_asm); (case k6 => k_is); (case k7 => k_is); (case k8 => ktr_room); (case k9 => first | exact BindsTo.of_eq rfl | exact binds_K (by k_in) rfl (by k_is) rfl rfl rfl); (case c5 => decide); (case kB => exact locs rfl); (case c2 => exact rfl); (case c3 => exact rfl); (case c4 => exact rfl); k_whole; intro g' L' h' FG' F' N' B' X' T'; (try dsimp only); (try k_fold))
  k_steps
  all_goals first | (exfalso; omega) | (refine' hret _ _ ?hF ?hN; (case hN => (refine' cb_drop ?cbN ?cbS; (case cbN => assumption); (case cbS => (intro p hp; (repeat (first | exact hp | refine List.mem_append.mpr (.inr ?_) | refine List.mem_cons_of_mem _ ?_)))))); (case hF => assumption))

theorem fits_true_bool (B : Below A₀ base outer h₀) (F : Fr h₀ L s.heap m) (X : (Mine.hd.heap_1 w.params).In h₀) (N : News h₀ L s.heap news) (T : Top pv lv mean mg mb h₀) (hk : cs.kind = .function) (hd : dp + 2 < recursionLimit)  (hu : un + 200 < cLine) {kd : Addr} {u : Tok} {b d : Bool}
  (hret : ∀ h' tk', Fr h₀ L h' m → News h₀ L h' news → Q (.bool true) { s with heap := h', toks := tk' }) :
  wpAny (model PySem.Challenge.rw_sq0037_01.row.prog w) (ktrTop dp un gd cn cs L a ccd cl outer) (call (.ref 484) [.str "font" u, .ref kd, .bool b, .bool d]) Q E s := by
  refine wpAny_call ?_
  k_dflt (refine' code_def ?k1 ?k2 ?k3 ?k4 ?k5 ?kA ?kF ?kK ?k6 ?k7 ?k8 ?k9 ?kB ?_ ?c2 ?c3 ?c4 ?c5; (case kA => exact rfl); (case kF => exact rfl); (case kK => first | exact rfl | assumption); (case k1 => k_asm); (case k2 => k_asm); (case k3 => k_asm); (case k4 => k_asm); (case k5 => k_asm); (case k6 => k_is); (case k7 => k_is); (case k8 => ktr_room); (case k9 => first | exact BindsTo.of_eq rfl | exact binds_K (by k_in) rfl (by k_is) rfl rfl rfl); (case c5 => decide); (case kB => exact locs rfl); (case c2 => exact rfl); (case c3 => exact rfl); (case c4 => exact rfl); k_whole; intro g' L' h' FG' F' N' B' X' T'; (try dsimp only); (try k_fold))
  k_steps
  all_goals first | (exfalso; omega) | (refine' hret _ _ ?hF ?hN; (case hN => (refine' cb_drop ?cbN ?cbS; (case cbN => assumption); (case cbS => (intro p hp; (repeat (first | exact hp | refine List.mem_append.mpr (.inr ?_) | refine List.mem_cons_of_mem _ ?_)))))); (case hF => assumption))

theorem fits_true_none (B : Below A₀ base outer h₀) (F : Fr h₀ L s.heap m) (X : (Mine.hd.heap_1 w.params).In h₀) (N : News h₀ L s.heap news) (T : Top pv lv mean mg mb h₀) (hk : cs.kind = .function) (hd : dp + 2 < recursionLimit)  (hu : un + 200 < cLine) {kd : Addr} {u : Tok} {b : Bool}
  (hret : ∀ h' tk', Fr h₀ L h' m → News h₀ L h' news → Q (.bool true) { s with heap := h', toks := tk' }) :
  wpAny (model PySem.Challenge.rw_sq0037_01.row.prog w) (ktrTop dp un gd cn cs L a ccd cl outer) (call (.ref 484) [.str "font" u, .ref kd, .bool b, .none]) Q E s := by
  refine wpAny_call ?_
  k_dflt (refine' code_def ?k1 ?k2 ?k3 ?k4 ?k5 ?kA ?kF ?kK ?k6 ?k7 ?k8 ?k9 ?kB ?_ ?c2 ?c3 ?c4 ?c5; (case kA => exact rfl); (case kF => exact rfl); (case kK => first | exact rfl | assumption); (case k1 => k_asm); (case k2 => k_asm); (case k3 => k_asm); (case k4 => k_asm); (case k5 => k_asm); (case k6 => k_is); (case k7 => k_is); (case k8 => ktr_room); (case k9 => first | exact BindsTo.of_eq rfl | exact binds_K (by k_in) rfl (by k_is) rfl rfl rfl); (case c5 => decide); (case kB => exact locs rfl); (case c2 => exact rfl); (case c3 => exact rfl); (case c4 => exact rfl); k_whole; intro g' L' h' FG' F' N' B' X' T'; (try dsimp only); (try k_fold))
  k_steps
  all_goals first | (exfalso; omega) | (refine' hret _ _ ?hF ?hN; (case hN => (refine' cb_drop ?cbN ?cbS; (case cbN => assumption); (case cbS => (intro p hp; (repeat (first | exact hp | refine List.mem_append.mpr (.inr ?_) | refine List.mem_cons_of_mem _ ?_)))))); (case hF => assumption))

theorem fits_abool (B : Below A₀ base outer h₀) (F : Fr h₀ L s.heap m) (X : (Mine.hd.heap_1 w.params).In h₀) (N : News h₀ L s.heap news) (T : Top pv lv mean mg mb h₀) (hk : cs.kind = .function) (hd : dp + 2 < recursionLimit)  (hu : un + 200 < cLine) {kd : Addr} {u : Tok} {k : Int} {tk : Tok} (hk1 : 1 ≤ k) (hk2 : k ≤ 64) {b : Bool}
  (hret : ∀ h' tk', Fr h₀ L h' m → News h₀ L h' news → Q (.bool true) { s with heap := h', toks := tk' }) :
  wpAny (model PySem.Challenge.rw_sq0037_01.row.prog w) (ktrTop dp un gd cn cs L a ccd cl outer) (call (.ref 484) [.str "argument" u, .ref kd, .int k tk, .bool b]) Q E s := by
  refine wpAny_call ?_
  k_dflt (refine' code_def ?k1 ?k2 ?k3 ?k4 ?k5 ?kA ?kF ?kK ?k6 ?k7 ?k8 ?k9 ?kB ?_ ?c2 ?c3 ?c4 ?c5; (case kA => exact rfl); (case kF => exact rfl); (case kK => first | exact rfl | assumption); (case k1 => k_asm); (case k2 => k_asm); (case k3 => k_asm); (case k4 => k_asm); (case k5 => k_asm); (case k6 => k_is); (case k7 => k_is); (case k8 => ktr_room); (case k9 => first | exact BindsTo.of_eq rfl | exact binds_K (by k_in) rfl (by k_is) rfl rfl rfl); (case c5 => decide); (case kB => exact locs rfl); (case c2 => exact rfl); (case c3 => exact rfl); (case c4 => exact rfl); k_whole; intro g' L' h' FG' F' N' B' X' T'; (try dsimp only); (try k_fold))
  k_steps
  all_goals first | (exfalso; omega) | (refine' hret _ _ ?hF ?hN; (case hN => (refine' cb_drop ?cbN ?cbS; (case cbN => assumption); (case cbS => (intro p hp; (repeat (first | exact hp | refine List.mem_append.mpr (.inr ?_) | refine List.mem_cons_of_mem _ ?_)))))); (case hF => assumption))

theorem fits_anone (B : Below A₀ base outer h₀) (F : Fr h₀ L s.heap m) (X : (Mine.hd.heap_1 w.params).In h₀) (N : News h₀ L s.heap news) (T : Top pv lv mean mg mb h₀) (hk : cs.kind = .function) (hd : dp + 2 < recursionLimit)  (hu : un + 200 < cLine) {kd : Addr} {u : Tok} {k : Int} {tk : Tok} (hk1 : 1 ≤ k) (hk2 : k ≤ 64)
  (hret : ∀ h' tk', Fr h₀ L h' m → News h₀ L h' news → Q (.bool true) { s with heap := h', toks := tk' }) :
  wpAny (model PySem.Challenge.rw_sq0037_01.row.prog w) (ktrTop dp un gd cn cs L a ccd cl outer) (call (.ref 484) [.str "argument" u, .ref kd, .int k tk, .none]) Q E s := by
  refine wpAny_call ?_
  k_dflt (refine' code_def ?k1 ?k2 ?k3 ?k4 ?k5 ?kA ?kF ?kK ?k6 ?k7 ?k8 ?k9 ?kB ?_ ?c2 ?c3 ?c4 ?c5; (case kA => exact rfl); (case kF => exact rfl); (case kK => first | exact rfl | assumption); (case k1 => k_asm); (case k2 => k_asm); (case k3 => k_asm); (case k4 => k_asm); (case k5 => k_asm); (case k6 => k_is); (case k7 => k_is); (case k8 => ktr_room); (case k9 => first | exact BindsTo.of_eq rfl | exact binds_K (by k_in) rfl (by k_is) rfl rfl rfl); (case c5 => decide); (case kB => exact locs rfl); (case c2 => exact rfl); (case c3 => exact rfl); (case c4 => exact rfl); k_whole; intro g' L' h' FG' F' N' B' X' T'; (try dsimp only); (try k_fold))
  k_steps
  all_goals first | (exfalso; omega) | (refine' hret _ _ ?hF ?hN; (case hN => (refine' cb_drop ?cbN ?cbS; (case cbN => assumption); (case cbS => (intro p hp; (repeat (first | exact hp | refine List.mem_append.mpr (.inr ?_) | refine List.mem_cons_of_mem _ ?_)))))); (case hF => assumption))

theorem fits_over (B : Below A₀ base outer h₀) (F : Fr h₀ L s.heap m) (X : (Mine.hd.heap_1 w.params).In h₀) (N : News h₀ L s.heap news) (T : Top pv lv mean mg mb h₀) (hk : cs.kind = .function) (hd : dp + 2 < recursionLimit)  (hu : un + 200 < cLine) {kd : Addr} {u : Tok} {k : Int} {tk : Tok} (hk1 : 1 ≤ k) (hk2 : k ≤ 64) {v : Int} {tv : Tok} (hv : ¬ (-1073741823 ≤ v ∧ v ≤ 1073741823))
  (hret : ∀ h' tk', Fr h₀ L h' m → News h₀ L h' news → Q (.bool true) { s with heap := h', toks := tk' }) :
  wpAny (model PySem.Challenge.rw_sq0037_01.row.prog w) (ktrTop dp un gd cn cs L a ccd cl outer) (call (.ref 484) [.str "overflow" u, .ref kd, .int k tk, .int v tv]) Q E s := by
  refine wpAny_call ?_
  k_dflt (refine' code_def ?k1 ?k2 ?k3 ?k4 ?k5 ?kA ?kF ?kK ?k6 ?k7 ?k8 ?k9 ?kB ?_ ?c2 ?c3 ?c4 ?c5; (case kA => exact rfl); (case kF => exact rfl); (case kK => first | exact rfl | assumption); (case k1 => k_asm); (case k2 => k_asm); (case k3 => k_asm); (case k4 => k_asm); (case k5 => k_asm); (case k6 => k_is); (case k7 => k_is); (case k8 => ktr_room); (case k9 => first | exact BindsTo.of_eq rfl | exact binds_K (by k_in) rfl (by k_is) rfl rfl rfl); (case c5 => decide); (case kB => exact locs rfl); (case c2 => exact rfl); (case c3 => exact rfl); (case c4 => exact rfl); k_whole; intro g' L' h' FG' F' N' B' X' T'; (try dsimp only); (try k_fold))
  k_steps
  all_goals first | (exfalso; omega) | (refine' hret _ _ ?hF ?hN; (case hN => (refine' cb_drop ?cbN ?cbS; (case cbN => assumption); (case cbS => (intro p hp; (repeat (first | exact hp | refine List.mem_append.mpr (.inr ?_) | refine List.mem_cons_of_mem _ ?_)))))); (case hF => assumption))

theorem fits_set0 (B : Below A₀ base outer h₀) (F : Fr h₀ L s.heap m) (X : (Mine.hd.heap_1 w.params).In h₀) {kd : Addr} {ko : Obj} {kvs : List (Int × Value)} {c : List (Int × Int)} {rest : List (Addr × Obj)} {t : Tok} {k v : Int} {tk tv : Tok} (N : News h₀ L s.heap ((kd, ko) :: rest)) (T : Top pv lv mean mg mb h₀) (hk : cs.kind = .function) (hd : dp + 2 < recursionLimit)  (hu : un + 200 < cLine)
  (hr : OwnOff rest [kd]) (hdk : ko.IsDictOf (PySem.intKind PySem.Challenge.rw_sq0037_01.row.prog w) kvs) (hfk : PyProof.V.FlatPairs PyData.int kvs (kdfD c)) (hcl : c.length ≤ 16777216) (hk1 : 1 ≤ k) (hk2 : k ≤ 64) (hv : -1073741823 ≤ v) (hv' : v ≤ 1073741823)
  (hret : ∀ o' kvs' h' tk', o'.IsDictOf (PySem.intKind PySem.Challenge.rw_sq0037_01.row.prog w) kvs' → PyProof.V.FlatPairs PyData.int kvs' (kdfD (kdfPut c k v)) → Fr h₀ L h' m → News h₀ L h' ((kd, o') :: rest) → Q (.bool true) { s with heap := h', toks := tk' }) :
  wpAny (model PySem.Challenge.rw_sq0037_01.row.prog w) (ktrTop dp un gd cn cs L a ccd cl outer) (call (.ref 484) [.str "set" t, .ref kd, .int k tk, .int v tv]) Q E s := by
  refine wpAny_call ?_
  k_dflt (refine' code_def ?k1 ?k2 ?k3 ?k4 ?k5 ?kA ?kF ?kK ?k6 ?k7 ?k8 ?k9 ?kB ?_ ?c2 ?c3 ?c4 ?c5; (case kA => exact rfl); (case kF => exact rfl); (case kK => first | exact rfl | assumption); (case k1 => k_asm); (case k2 => k_asm); (case k3 => k_asm); (case k4 => k_asm); (case k5 => k_asm); (case k6 => k_is); (case k7 => k_is); (case k8 => ktr_room); (case k9 => first | exact BindsTo.of_eq rfl | exact binds_K (by k_in) rfl (by k_is) rfl rfl rfl); (case c5 => decide); (case kB => exact locs rfl); (case c2 => exact rfl); (case c3 => exact rfl); (case c4 => exact rfl); k_whole; intro g' L' h' FG' F' N' B' X' T'; (try dsimp only); (try k_fold))
  k_steps
  all_goals first | (exfalso; omega) | (refine' hret _ _ _ _ ?h1 ?h2 ?hF ?hN; (case hN => (refine' cb_drop ?cbN ?cbS; (case cbN => assumption); (case cbS => (refine List.forall_mem_cons.mpr ⟨?_, ?_⟩; k_mem; (intro p hp; (repeat (first | exact hp | refine List.mem_append.mpr (.inr ?_) | refine List.mem_cons_of_mem _ ?_))))))); (case hF => assumption); (case h1 => assumption); (case h2 => assumption))
theorem fits_set (B : Below A₀ base outer h₀) (F : Fr h₀ L s.heap m) (X : (Mine.hd.heap_1 w.params).In h₀) (N : News h₀ L s.heap news) (T : Top pv lv mean mg mb h₀) (hk : cs.kind = .function) (hd : dp + 2 < recursionLimit)  (hu : un + 200 < cLine) {kd : Addr} {ko : Obj} {kvs : List (Int × Value)} {c : List (Int × Int)} {u : Obj → List (Addr × Obj)} {t : Tok} {k v : Int} {tk tv : Tok}
  (U : UpdF kd ko news u) (hdk : ko.IsDictOf (PySem.intKind PySem.Challenge.rw_sq0037_01.row.prog w) kvs) (hfk : PyProof.V.FlatPairs PyData.int kvs (kdfD c)) (hcl : c.length ≤ 16777216) (hk1 : 1 ≤ k) (hk2 : k ≤ 64) (hv : -1073741823 ≤ v) (hv' : v ≤ 1073741823)
  (hret : ∀ o' kvs' h' tk', o'.IsDictOf (PySem.intKind PySem.Challenge.rw_sq0037_01.row.prog w) kvs' → PyProof.V.FlatPairs PyData.int kvs' (kdfD (kdfPut c k v)) → Fr h₀ L h' m → News h₀ L h' (u o') → Q (.bool true) { s with heap := h', toks := tk' }) :
  wpAny (model PySem.Challenge.rw_sq0037_01.row.prog w) (ktrTop dp un gd cn cs L a ccd cl outer) (call (.ref 484) [.str "set" t, .ref kd, .int k tk, .int v tv]) Q E s := by
  obtain ⟨rest, N1, hr, back, _⟩ := updF_head U N
  exact fits_set0 B F X N1 T hk hd hu hr hdk hfk hcl hk1 hk2 hv hv' fun o' kvs' h' tk' a b F' N' => hret o' kvs' h' tk' a b F' (back _ _ N')
end

theorem lay44 : True := by
  k_with_none
  trivial

def WhichV (v : Value) : Prop := (∃ k t, v = .int k t) ∨ ∃ b, v = .bool b
def AmountV (v : Value) : Prop := (∃ k t, v = .int k t) ∨ (∃ b, v = .bool b) ∨ v = .none
inductive Refused : Value → Value → Str → Prop where
  | num {k : Int} {t : Tok} {v : Value} (h : ¬ (1 ≤ k ∧ k ≤ 64)) : Refused (.int k t) v "font"
  | bool {b : Bool} {v : Value} : Refused (.bool b) v "font"
  | abool {k : Int} {t : Tok} {b : Bool} (h : 1 ≤ k) (h' : k ≤ 64) : Refused (.int k t) (.bool b) "argument"
  | anone {k : Int} {t : Tok} (h : 1 ≤ k) (h' : k ≤ 64) : Refused (.int k t) .none "argument"
  | over {k v : Int} {t tv : Tok} (h : 1 ≤ k) (h' : k ≤ 64) (hv : ¬ (-1073741823 ≤ v ∧ v ≤ 1073741823)) : Refused (.int k t) (.int v tv) "overflow"
section
variable {dp un : Nat} {gd : Option (List Code)} {cn : Str} {cs : Scope} {a : Addr} {ccd : Value} {cl : List (Str × Addr)} {A₀ : Around} {base h₀ : Heap} {L : Addr} {m : Str → Option Value} {s : Shared} {Q E : Value → Shared → Prop} {mean : ExcName → Option Value} {mg mb : Str → Option Value} {w : World} {pv : Program} {lv : List Str} {news : List (Addr × Obj)}

theorem law_set (B : Below A₀ h₀ [] h₀) (F : Fr h₀ L s.heap m) (X : (Mine.hd.heap_1 w.params).In h₀) (N : News h₀ L s.heap news) (T : Top pv lv mean mg mb h₀) (hk : cs.kind = .function) (hd : dp + 9 < recursionLimit) {f d pl : Addr} {ks : Nat → Tok} {vs : Nat → Value} {ps : List Value} {xs : List Int} {pn : Nat} {u : Obj → List (Addr × Obj)}
  (U : UpdF pl (listOf ps.toArray pn) news u) (hf : (f, instObj 377 d) ∈ news) (hfd : (d, fObj w pl ks vs) ∈ news) (hi : IntsAre ps xs) (hl : xs.length ≤ 64) (hxs : ∀ z ∈ xs, -1073741823 ≤ z ∧ z ≤ 1073741823)
  {which amount : Value} (hw : WhichV which) (ha : AmountV amount)
  (hR : ∀ word, Refused which amount word → ∀ t h' tk', Fr h₀ L h' m → News h₀ L h' news → Q (.str word t) { s with heap := h', toks := tk' })
  (hS : ∀ k tk v tv, which = .int k tk → amount = .int v tv → 1 ≤ k → k ≤ 64 → -1073741823 ≤ v → v ≤ 1073741823 → ∀ t ps' xs' pn' h' tk', IntsAre ps' xs' → xs'.length ≤ 64 → (∀ n, parZ xs' n = if n = k then v else parZ xs n) → (∀ z ∈ xs', -1073741823 ≤ z ∧ z ≤ 1073741823) → Fr h₀ L h' m → News h₀ L h' (u (listOf ps'.toArray pn')) → Q (.str "set" t) { s with heap := h', toks := tk' }) :
  wpAny (model PySem.Challenge.rw_sq0037_01.row.prog w) (ktrTop dp un gd cn cs L a ccd cl []) (call (.ref 477) [.ref f, which, amount]) Q E s := by
  rcases hw with ⟨k, tk, rfl⟩ | ⟨b, rfl⟩
  · by_cases hk1 : 1 ≤ k ∧ k ≤ 64
    · obtain ⟨hk1, hk2⟩ := hk1
      rcases ha with ⟨v, tv, rfl⟩ | ⟨b, rfl⟩ | rfl
      · by_cases hv : -1073741823 ≤ v ∧ v ≤ 1073741823
        · exact law_set_ok B F X N T hk hd U hf hfd hi hl hk1 hk2 hv.1 hv.2 hxs (hS k tk v tv rfl rfl hk1 hk2 hv.1 hv.2)
        · exact law_set_over B F X N T hk hd hf hfd hk1 hk2 hv (hR _ (.over hk1 hk2 hv))
      · exact law_set_abool B F X N T hk hd hf hfd hk1 hk2 (hR _ (.abool hk1 hk2))
      · exact law_set_anone B F X N T hk hd hf hfd hk1 hk2 (hR _ (.anone hk1 hk2))
    · exact law_set_num B F X N T hk hd hf hfd hk1 (hR _ (.num hk1))
  · exact law_set_true B F X N T hk hd hf hfd (hR _ .bool)
end
section
variable {dp un : Nat} {gd : Option (List Code)} {cn : Str} {cs : Scope} {a : Addr} {ccd : Value} {cl : List (Str × Addr)} {outer : List Env} {A₀ : Around} {base h₀ : Heap} {L : Addr} {m : Str → Option Value} {s : Shared} {Q E : Value → Shared → Prop} {mean : ExcName → Option Value} {mg mb : Str → Option Value} {w : World} {pv : Program} {lv : List Str} {news : List (Addr × Obj)}

theorem fits_ref (B : Below A₀ base outer h₀) (F : Fr h₀ L s.heap m) (X : (Mine.hd.heap_1 w.params).In h₀) (N : News h₀ L s.heap news) (T : Top pv lv mean mg mb h₀) (hk : cs.kind = .function) (hd : dp + 2 < recursionLimit)  (hu : un + 200 < cLine) {kd : Addr} {u : Tok} {which amount : Value} {word : Str} (ha : AmountV amount) (hr : Refused which amount word)
  (hret : ∀ h' tk', Fr h₀ L h' m → News h₀ L h' news → Q (.bool true) { s with heap := h', toks := tk' }) :
  wpAny (model PySem.Challenge.rw_sq0037_01.row.prog w) (ktrTop dp un gd cn cs L a ccd cl outer) (call (.ref 484) [.str word u, .ref kd, which, amount]) Q E s := by
  cases hr with
  | num h =>
    rcases ha with ⟨v, tv, rfl⟩ | ⟨b, rfl⟩ | rfl
    · exact fits_num_int B F X N T hk hd hu h hret
    · exact fits_num_bool B F X N T hk hd hu h hret
    · exact fits_num_none B F X N T hk hd hu h hret
  | bool =>
    rcases ha with ⟨v, tv, rfl⟩ | ⟨b, rfl⟩ | rfl
    · exact fits_true_int B F X N T hk hd hu hret
    · exact fits_true_bool B F X N T hk hd hu hret
    · exact fits_true_none B F X N T hk hd hu hret
  | abool h h' => exact fits_abool B F X N T hk hd hu h h' hret
  | anone h h' => exact fits_anone B F X N T hk hd hu h h' hret
  | over h h' hv => exact fits_over B F X N T hk hd hu h h' hv hret
theorem put_look {c : List (Int × Int)} {k v n : Int} : kdfLook (kdfPut c k v) n 0 = if n = k then v else kdfLook c n 0 := by
  unfold kdfLook kdfPut
  by_cases hc : (c.any fun p => decide (p.1 = k)) = true
  · rw [if_pos hc]
    induction c with
    | nil => simp at hc
    | cons p c ih =>
      by_cases hp : p.1 = k
      · by_cases hn : n = k
        · subst hn; simp [hp]
        · have hpn : ¬ p.1 = n := fun e => hn (by rw [← e, hp])
          rw [if_neg hn]
          rw [List.map_cons, if_pos (decide_eq_true hp), List.find?_cons, List.find?_cons]
          dsimp only
          rw [decide_eq_false hpn]
          dsimp only
          clear ih hc
          congr 1
          induction c with
          | nil => rfl
          | cons q c ih =>
            rw [List.map_cons, List.find?_cons, List.find?_cons]
            by_cases hq : q.1 = k
            · have hqn : ¬ q.1 = n := fun e => hn (by rw [← e, hq])
              rw [if_pos (decide_eq_true hq)]
              dsimp only
              rw [decide_eq_false hqn]
              exact ih
            · rw [if_neg (by simp [hq])]
              by_cases hqn : q.1 = n
              · rw [decide_eq_true hqn]
              · rw [decide_eq_false hqn]; exact ih
      · have hc' : (c.any fun p => decide (p.1 = k)) = true := by simpa [hp] using hc
        have ih := ih hc'
        rw [List.map_cons, if_neg (by simp [hp]), List.find?_cons, List.find?_cons]
        by_cases hpn : p.1 = n
        · have hn : ¬ n = k := fun e => hp (by rw [hpn, e])
          rw [if_neg hn, decide_eq_true hpn]
        · rw [decide_eq_false hpn]
          exact ih
  · rw [if_neg hc, List.find?_append]
    by_cases hn : n = k
    · subst hn
      have : c.find? (fun p => decide (p.1 = n)) = none := by
        rw [List.find?_eq_none]
        intro x hx hxn
        exact hc (List.any_eq_true.mpr ⟨x, hx, hxn⟩)
      rw [this]; simp
    · have hk : ¬ k = n := fun e => hn e.symm
      simp [hk, hn]
end

theorem lay45 : True := by
  k_with_none
  trivial

theorem chosen_nn (n : Nat) : 0 ≤ [1000000000494453249, 1000000000000000606, 4711, 815, (20011 : Int)].getD n 0 := by
  rcases n with _ | _ | _ | _ | _ | n <;> first | decide | simp
theorem len_h0 {prog : Program} {w : World} {A : Around} {E : Value → Shared → Prop} {s : Shared} {h₀ : Heap} {L l : Addr} {m : Str → Option Value} {vs : List Value} {ns : List Int} {Q : Value → Shared → Prop} (F : Fr h₀ L s.heap m) (hL : h₀.IsList l vs.toArray) (hI : IntsAre vs ns) (hn : ns.length ≤ 63)
    (h : ∀ t tk, Q (.int (ns.length : Int) t) { s with toks := tk }) : wpAny (model prog w) A (call (.builtin "len") [.ref l]) Q E s := by
  have e : vs.toArray.size = ns.length := by simp [hI.length]
  refine len_list (F.lst hL) (by rw [e]; omega) ?_
  rw [e]
  exact h _ _
section
variable {dp un : Nat} {gd : Option (List Code)} {cn : Str} {cs : Scope} {a : Addr} {ccd : Value} {cl : List (Str × Addr)} {outer : List Env} {A₀ : Around} {base h₀ : Heap} {L : Addr} {m : Str → Option Value} {s : Shared} {Q E : Value → Shared → Prop} {mean : ExcName → Option Value} {mg mb : Str → Option Value} {w : World} {pv : Program} {lv : List Str} {news : List (Addr × Obj)}
end
theorem lay46 : True := by
  (k_with "call builtin:len" => (k_here; (with_reducible show wpAny _ _ (call (Value.builtin "len") [Value.ref _]) _ _ _); k_dflt (refine' Mine.len_h0 ?F ?L ?I ?n ?_; (case F => k_asm); (case L => assumption); (case I => assumption); (case n => assumption); k_whole; intro t' tk'; (try dsimp only))))
  trivial
section
variable {dp un : Nat} {gd : Option (List Code)} {cn : Str} {cs : Scope} {a : Addr} {ccd : Value} {cl : List (Str × Addr)} {outer : List Env} {A₀ : Around} {base h₀ : Heap} {L : Addr} {m : Str → Option Value} {s : Shared} {Q E : Value → Shared → Prop} {mean : ExcName → Option Value} {mg mb : Str → Option Value} {w : World} {pv : Program} {lv : List Str} {news : List (Addr × Obj)}

theorem cell (B : Below A₀ base outer h₀) (F : Fr h₀ L s.heap m) (X : (Mine.hd.heap_1 w.params).In h₀) (N : News h₀ L s.heap news) (T : Top pv lv mean mg mb h₀) (hk : cs.kind = .function) (hd : dp + 2 < recursionLimit) {l : Addr} {vs : List Value} {ns : List Int} (hL : h₀.IsList l vs.toArray) (hI : IntsAre vs ns) (hn : ns.length ≤ 63) {k : Int} {tk : Tok} (h0 : 0 ≤ k) (h1 : k < (ns.length : Int) ∨ k < 5)
  (hret : ∀ c t h' tk', 0 ≤ c → Fr h₀ L h' m → News h₀ L h' news → Q (.int c t) { s with heap := h', toks := tk' }) :
  wpAny (model PySem.Challenge.rw_sq0037_01.row.prog w) (ktrTop dp un gd cn cs L a ccd cl outer) (call (.ref 428) [.ref l, .int k tk]) Q E s := by
  refine wpAny_call ?_
  k_dflt (refine' code_def ?k1 ?k2 ?k3 ?k4 ?k5 ?kA ?kF ?kK ?k6 ?k7 ?k8 ?k9 ?kB ?_ ?c2 ?c3 ?c4 ?c5; (case kA => exact rfl); (case kF => exact rfl); (case kK => first | exact rfl | assumption); (case k1 => k_asm); (case k2 => k_asm); (case k3 => k_asm); (case k4 => k_asm); (case k5 => k_asm); (case k6 => k_is); (case k7 => k_is); (case k8 => ktr_room); (case k9 => first | exact BindsTo.of_eq rfl | exact binds_K (by k_in) rfl (by k_is) rfl rfl rfl); (case c5 => decide); (case kB => exact locs rfl); (case c2 => exact rfl); (case c3 => exact rfl); (case c4 => exact rfl); k_whole; intro g' L' h' FG' F' N' B' X' T'; (try dsimp only); (try k_fold))
  have hL2 := FG'.lst hL
  k_steps
  · refine' hret _ _ _ _ ?hc ?hF ?hN
    case hN => assumption
    case hF => assumption
    case hc => split <;> omega
  · refine' hret _ _ _ _ ?hc ?hF ?hN
    case hN => assumption
    case hF => assumption
    case hc => exact chosen_nn _
end

theorem lay47 : True := by
  k_with_none
  trivial

section
variable {prog : Program} {w : World} {A₀ A : Around} {s : Shared} {base h₀ : Heap} {env : Env} {outer : List Env} {L : Addr} {m : Str → Option Value} {news : List (Addr × Obj)} {K : Frag} {p : Program} {loose : List Str} {mean : ExcName → Option Value} {mg mb : Str → Option Value}
    {R : Result → Shared → Prop} {name qual : Str} {params : Arguments} {body : List Stmt} {scope : Scope} {dV kV doc pm cdv ct oc : Value} {an od : Option Addr} {osl : Array (Option Value)} {f : Addr} {args : Args} {binds : List (Str × Value)}
theorem code_defG (B : Below A₀ base outer h₀) (F : Fr h₀ L s.heap m) (X₀ : K.In h₀) (N : News h₀ L s.heap news) (T : Top p loose mean mg mb h₀) (hA : A.frames = some (env :: outer)) (hf : env.frame = some L) (hke : env.scope.kind = .function)
    (ho : K.lookup f = some ⟨oc, od, .func (fnOf name qual params body scope dV kV doc pm an cdv ct), osl⟩) (hcd : codeIn K cdv qual = true) (hroom : A.depth < recursionLimit)
    (hbind : BindsTo s (fnOf name qual params body scope dV kV doc pm an cdv ct) args binds) (hloc : ∀ y ∈ binds, scope.names.lookup y.1 = some .local)
    (h : ∀ g L' h₁, Fr h₀ L g m → Fr g L' h₁ (fun y => binds.reverse.lookup y) → News g L' h₁ [] → Below A base (env :: outer) g → K.In g → Top p loose mean mg mb g → (∀ b o, s.heap.get? b = some o → g.get? b = some o) →
      wpAny (model prog w) (A.deeper (envOf qual scope L' f cdv)) (execs body (envOf qual scope L' f cdv))
        (fun fl s' => LeaveK h₀ L m g (fun r s'' => News h₀ L s''.heap news → R r s'') (match fl with | .ret v => v | _ => .none) s')
        (fun e s' => wpAny (model prog w) (A.deeper (envOf qual scope L' f cdv)) (leaving (envOf qual scope L' f cdv) e) (fun _ s'' => R (.error e) s'') (fun e' s'' => R (.error e') s'') s')
        { s with heap := h₁, toks := s.toks + binds.length })
    (hco : scope.isCoroutine = false) (hgen : scope.isGenerator = false) (hk : scope.kind = .function)
    (hcell : ∀ x ∈ scope.names, x.2 ≠ .cell) : codeAny (model prog w) A (.call (.ref f) args) R s := by
  have X := X₀.keeps F.keep
  have hg : ∀ b o, s.heap.get? b = some o → (hideAll s.heap ([] : List Addr)).get? b = some o := fun b o e => hideAll_get _ e (fun z => nomatch z)
  refine codeAny_call_def (fd := fnOf name qual params body scope dV kV doc pm an cdv ct) (body := body) (binds := binds) hroom (X _ _ ho) rfl (T.nolimit.keeps F.keep) (codeRec_of X hcd) rfl hbind hcell hloc (fun h₁ hns hk₁ => ?_) hco hgen hk
  obtain ⟨FG, BG, st, lv⟩ := groundX (R := fun r s'' => News h₀ L s''.heap news → R r s'') B F (News.nil (h₀ := h₀) (L := L) (h := s.heap)) hA hf hke
  refine wpAny_mono (h _ s.heap.objs.size h₁ FG ⟨hns, fun b o e => hk₁ b o (of_hideAll _ e), Nat.le_of_eq (hideAll_size _ _)⟩ (fun p hp => nomatch hp) BG (X₀.keeps st) (T.keeps st) hg) (fun fl s' hl => ?_) fun _ _ y => y
  have hl' := hl
  obtain ⟨L', m', news', F', N', k⟩ := hl'
  exact lv _ _ hl fun q hq => ⟨F'.keep _ _ (hg _ _ (N q hq).1), (N q hq).2⟩
end

theorem iter_tupS {prog : Program} {w : World} {A : Around} {E : Value → Shared → Prop} {s : Shared} {env : Env} {h₀ : Heap} {x : Str} {body : List Stmt} {Q : Flow → Shared → Prop} {t : Addr} {vs : List Value} {ns : List Int} {m₀ : Str → Option Value} {news : List (Addr × Obj)}
    (R : (Str → Option Value) → List (Addr × Obj) → Prop)
    (hh : A.handled = none) (hT : h₀.IsTuple t vs.toArray) (hi : IntsAre vs ns) (F : Fr h₀ env.locals s.heap m₀) (N : News h₀ env.locals s.heap news) (hR : R m₀ news)
    (turn : ∀ k t m₁ nx h tk own, k ∈ ns → OwnOff own (news.map (·.1)) → R m₁ nx → Fr h₀ env.locals h (fun y => if y = x then some (.int k t) else m₁ y) → News h₀ env.locals h (nx ++ own) →
      wpAny (model prog w) A (execs body env) (InvPostN h₀ env.locals R own (news.map (·.1)) { s with heap := h, toks := tk } Q) E { s with heap := h, toks := tk })
    (done : ∀ m₁ nx h tk, R m₁ nx → Fr h₀ env.locals h m₁ → News h₀ env.locals h nx → Q .next { s with heap := h, toks := tk }) :
    wpAny (model prog w) A (pyIter (.ref t)) (fun it s₂ => LoopAtV prog w A h₀ env x body Q E it s₂) E s := by
  obtain ⟨ot, hot, hoc, on, hod⟩ := id hT
  have hTs : s.heap.IsTuple t vs.toArray := ⟨ot, F.keep _ _ hot, hoc, on, hod⟩
  have hlt : t < h₀.objs.size := Heap.lt_size hot
  have hne : t ≠ s.heap.objs.size := Nat.ne_of_lt (Nat.lt_trans (Nat.lt_of_lt_of_le hlt F.above) F.ns.lt)
  refine wpAny_pyIter_tuple hTs ?_
  have W := Walks.tuple (prog := prog) (w := w) hh s.heap.objs.size t hne vs.toArray
  have hlen : vs.toArray.size = ns.length := by simp [hi.length]
  rw [hlen] at W
  refine loop_accS (σ := Unit) (ks := ns) (fun _ m nx => R m nx) (fun a _ => a) () W ⟨rfl, ?_⟩ ?_ ?_ ?_ ?_ ⟨⟨_, Heap.get?_push_size _ rfl, rfl, rfl⟩, ⟨ot, Heap.get?_push_of_some _ (F.keep _ _ hot), hoc, on, hod⟩⟩ (F.push _) (fun p hp => ⟨Heap.get?_push_of_some _ (N p hp).1, (N p hp).2⟩) hR ?_ ?_
  · intro i v hin hP
    obtain ⟨tk, hx⟩ := hi.get i ns[i] (by simp [hin])
    refine ⟨ns[i], tk, by simp [hin], ?_⟩
    have hP' : vs[i]? = some v := by simpa using hP
    rw [hx] at hP'
    exact (Option.some.inj hP').symm
  · intro hm
    rcases List.mem_cons.mp hm with e | hm
    · exact absurd F.ns.lt (e ▸ Nat.lt_irrefl _)
    · exact absurd (Nat.lt_of_lt_of_le hlt F.above) ((List.mem_singleton.mp hm) ▸ Nat.lt_irrefl _)
  · intro b hb
    rw [List.mem_singleton.mp hb]
    exact next_is_new F
  · intro p hp hI
    exact absurd (Heap.lt_size (N p hp).1) ((List.mem_singleton.mp hI) ▸ Nat.lt_irrefl _)
  · intro p hp hI
    rcases List.mem_cons.mp hI with e | hI
    · exact absurd (Heap.lt_size (N p hp).1) (e ▸ Nat.lt_irrefl _)
    · have h3 := (N p hp).2.2
      rw [List.mem_singleton.mp hI, hot] at h3
      cases h3
  · intro k tk _ m₁ nx h tk' own hk ho hr F' N'
    exact turn k tk m₁ nx h tk' own hk ho hr F' N'
  · exact done
section
variable {dp un : Nat} {gd : Option (List Code)} {cn : Str} {cs : Scope} {a : Addr} {ccd : Value} {cl : List (Str × Addr)} {outer : List Env} {A₀ : Around} {base h₀ : Heap} {L : Addr} {m : Str → Option Value} {s : Shared} {Q E : Value → Shared → Prop} {mean : ExcName → Option Value} {mg mb : Str → Option Value} {w : World} {pv : Program} {lv : List Str} {news : List (Addr × Obj)}
end
theorem lay48 : True := by
  (k_with "call ref" => (k_here; (with_reducible show wpAny _ _ (call (Value.ref 89) [Value.int _ _, Value.int _ _, Value.int _ _]) _ _ _); k_dflt (refine' Mine.is_whole ?k1 ?k2 ?k3 ?k4 ?k5 ?kK ?kd  ?_; (case k1 => k_asm); (case k2 => k_asm); (case k3 => k_asm); (case k4 => k_asm); (case k5 => k_asm); (case kK => first | exact rfl | assumption); (case kd => ktr_room);  k_whole; intro h' tk' F' N';  (try dsimp only); (try k_sweep); (try k_fold))))
  trivial
section
variable {dp un : Nat} {gd : Option (List Code)} {cn : Str} {cs : Scope} {a : Addr} {ccd : Value} {cl : List (Str × Addr)} {outer : List Env} {A₀ : Around} {base h₀ : Heap} {L : Addr} {m : Str → Option Value} {s : Shared} {Q E : Value → Shared → Prop} {mean : ExcName → Option Value} {mg mb : Str → Option Value} {w : World} {pv : Program} {lv : List Str} {news : List (Addr × Obj)}

theorem check_sizes (B : Below A₀ base outer h₀) (F : Fr h₀ L s.heap m) (X : (Mine.hd.heap_1 w.params).In h₀) (N : News h₀ L s.heap news) (T : Top pv lv mean mg mb h₀) (hk : cs.kind = .function) (hd : dp + 3 < recursionLimit) {pr : Addr} {ps : List Value} {xs : List Int} (hp : s.heap.IsTuple pr ps.toArray) (hi : IntsAre ps xs) (hl : xs.length ≤ 64) (hxs : ∀ v ∈ xs, -1073741823 ≤ v ∧ v ≤ 1073741823)
  (hret : ∀ h' tk', Fr h₀ L h' m → News h₀ L h' news → Q .none { s with heap := h', toks := tk' }) :
  wpAny (model PySem.Challenge.rw_sq0037_01.row.prog w) (ktrTop dp un gd cn cs L a ccd cl outer) (call (.ref 252) [.ref pr]) Q E s := by
  refine wpAny_call ?_
  k_dflt (refine' Mine.code_defG ?k1 ?k2 ?k3 ?k4 ?k5 ?kA ?kF ?kK ?k6 ?k7 ?k8 ?k9 ?kB ?_ ?c2 ?c3 ?c4 ?c5; (case kA => exact rfl); (case kF => exact rfl); (case kK => first | exact rfl | assumption); (case k1 => k_asm); (case k2 => k_asm); (case k3 => k_asm); (case k4 => k_asm); (case k5 => k_asm); (case k6 => k_is); (case k7 => k_is); (case k8 => ktr_room); (case k9 => first | exact BindsTo.of_eq rfl | exact binds_K (by k_in) rfl (by k_is) rfl rfl rfl); (case c5 => decide); (case kB => exact locs rfl); (case c2 => exact rfl); (case c3 => exact rfl); (case c4 => exact rfl); k_whole; intro g' L' h' FG' F' N' B' X' T' G'; (try dsimp only); (try k_fold))
  have hT : g'.IsTuple pr ps.toArray := hp.at fun o e => G' _ o e
  clear G'
  k_steps
  rename (Fr _ _ _ _) => F9
  rename (News _ _ _ _) => N9
  refine iter_tupS (fun _ nx => nx = []) rfl hT ‹IntsAre ps xs› F9 N9 rfl ?_ ?_
  · rintro k t m₁ nx h tk own hk' ho rfl F8 N8
    obtain ⟨q1, q2⟩ := hxs k hk'
    k_steps
    refine' ⟨_, _, _, _, [], rfl, ?F, ?N, (fun p hp => nomatch hp), ?o, rfl, rfl⟩
    case N => assumption
    case F => assumption
    case o => (intro p hp; first | exact hp | exact List.mem_append.mpr (.inr hp))
  · rintro m₁ nx h tk rfl F8 N8
    k_steps
    refine' hret _ _ ?hF ?hN
    case hN => assumption
    case hF => assumption
end

theorem lay49 : True := by
  k_with_none
  trivial

section
variable {prog : Program} {w : World} {A₀ A : Around} {s : Shared} {base h₀ : Heap} {env : Env} {outer : List Env} {L : Addr} {m : Str → Option Value} {news : List (Addr × Obj)} {K : Frag} {p : Program} {loose : List Str} {mean : ExcName → Option Value} {mg mb : Str → Option Value}
    {R : Result → Shared → Prop} {name qual : Str} {params : Arguments} {body : List Stmt} {scope : Scope} {dV kV doc pm cdv ct oc : Value} {an od : Option Addr} {osl : Array (Option Value)} {f : Addr} {args : Args} {binds : List (Str × Value)}
theorem code_defS (sub : List (Addr × Obj)) (B : Below A₀ base outer h₀) (F : Fr h₀ L s.heap m) (X₀ : K.In h₀) (N : News h₀ L s.heap news) (T : Top p loose mean mg mb h₀) (hA : A.frames = some (env :: outer)) (hf : env.frame = some L) (hke : env.scope.kind = .function)
    (ho : K.lookup f = some ⟨oc, od, .func (fnOf name qual params body scope dV kV doc pm an cdv ct), osl⟩) (hcd : codeIn K cdv qual = true) (hroom : A.depth < recursionLimit)
    (hbind : BindsTo s (fnOf name qual params body scope dV kV doc pm an cdv ct) args binds) (hloc : ∀ y ∈ binds, scope.names.lookup y.1 = some .local)
    (hsub : ∀ q ∈ sub, q ∈ news)
    (h : ∀ g L' h₁, Fr h₀ L g m → Fr g L' h₁ (fun y => binds.reverse.lookup y) → News g L' h₁ sub → Below A base (env :: outer) g → K.In g → Top p loose mean mg mb g →
      wpAny (model prog w) (A.deeper (envOf qual scope L' f cdv)) (execs body (envOf qual scope L' f cdv))
        (fun fl s' => LeaveK h₀ L m g (fun r s'' => (∀ l, News h₀ L s''.heap (l ++ sub) → News h₀ L s''.heap (l ++ news)) → R r s'') (match fl with | .ret v => v | _ => .none) s')
        (fun e s' => wpAny (model prog w) (A.deeper (envOf qual scope L' f cdv)) (leaving (envOf qual scope L' f cdv) e) (fun _ s'' => R (.error e) s'') (fun e' s'' => R (.error e') s'') s')
        { s with heap := h₁, toks := s.toks + binds.length })
    (hco : scope.isCoroutine = false) (hgen : scope.isGenerator = false) (hk : scope.kind = .function)
    (hcell : ∀ x ∈ scope.names, x.2 ≠ .cell) : codeAny (model prog w) A (.call (.ref f) args) R s := by
  have X := X₀.keeps F.keep
  have Ns : News h₀ L s.heap sub := fun q hq => N q (hsub q hq)
  refine codeAny_call_def (fd := fnOf name qual params body scope dV kV doc pm an cdv ct) (body := body) (binds := binds) hroom (X _ _ ho) rfl (T.nolimit.keeps F.keep) (codeRec_of X hcd) rfl hbind hcell hloc (fun h₁ hns hk₁ => ?_) hco hgen hk
  obtain ⟨FG, BG, st, lv⟩ := groundX (R := fun r s'' => (∀ l, News h₀ L s''.heap (l ++ sub) → News h₀ L s''.heap (l ++ news)) → R r s'') B F Ns hA hf hke
  refine wpAny_mono (h _ s.heap.objs.size h₁ FG ⟨hns, fun b o e => hk₁ b o (of_hideAll _ e), Nat.le_of_eq (hideAll_size _ _)⟩
    (fun q hq => ⟨hk₁ _ _ (Ns q hq).1, Nat.ne_of_lt (Heap.lt_size (Ns q hq).1), hideAll_none _ (List.mem_map_of_mem hq)⟩) BG (X₀.keeps st) (T.keeps st)) (fun fl s' hl => ?_) fun _ _ y => y
  have hl' := hl
  obtain ⟨L', m', news', F', N', k⟩ := hl'
  refine lv _ _ hl fun l NL q hq => ?_
  rcases List.mem_append.mp hq with hq | hq
  · exact NL q (List.mem_append.mpr (.inl hq))
  · by_cases hin : q.1 ∈ sub.map (·.1)
    · obtain ⟨r, hr, e⟩ := List.mem_map.mp hin
      have e1 := (N q hq).1
      have e2 := (Ns r hr).1
      rw [e, e1] at e2
      have : q = r := Prod.ext e.symm (Option.some.inj e2)
      exact this ▸ NL r (List.mem_append.mpr (.inr hr))
    · exact ⟨F'.keep _ _ (hideAll_get _ (N q hq).1 hin), (N q hq).2⟩
end
section
variable {prog : Program} {w : World} {A : Around} {E : Value → Shared → Prop} {s : Shared}
theorem part_ {v : Value} {o : Option Int} (p : IsPart v o) {Q : Option Int → Shared → Prop} (h : Q o s) : wpAny (model prog w) A (Builtin.Slice.slicePartIndex v) Q E s := by
  cases p with
  | none => exact slicePart_none h
  | int i t => exact slicePart_int h
theorem sliceApplied_ {sl : Addr} {n : Nat} {vl vu : Value} {lo hi : Option Int} {x y : Int} {Q : Int × Int × Nat → Shared → Prop} (hs : s.heap.IsSliceOf sl vl vu .none) (pl : IsPart vl lo) (pu : IsPart vu hi)
    (he : Builtin.Slice.sliceAdjust lo hi 1 (n : Int) = (x, y)) (h : Q (x, 1, Builtin.Slice.slicePlaces x y 1) s) :
    wpAny (model prog w) A (Builtin.Slice.sliceApplied (.ref sl) (pure (n : Int))) Q E s := by
  obtain ⟨os, hos, hcs, hds⟩ := id hs
  unfold Builtin.Slice.sliceApplied Builtin.Slice.sliceFields
  refine wpAny_bind (wpAny_bind (wpAny_field hos hds (x := vl) rfl (wpAny_bind (wpAny_field hos hds (x := vu) rfl (wpAny_bind (wpAny_field hos hds (x := .none) rfl (wpAny_pure ?_)))))))
  refine wpAny_bind (slicePart_none ?_)
  show wpAny _ _ (if ((1 : Int) == 0) = true then _ else _) _ _ s
  rw [if_neg (by decide)]
  refine wpAny_bind (part_ pl (wpAny_bind (part_ pu (wpAny_bind (wpAny_pure ?_)))))
  show wpAny _ _ (match Builtin.Slice.sliceAdjust lo hi 1 (n : Int) with | (lo, hi) => pure (lo, (1 : Int), Builtin.Slice.slicePlaces lo hi 1)) _ _ s
  rw [he]
  exact wpAny_pure h
theorem getItem_tupS {t sl : Addr} {items : Array Value} {vl vu : Value} {lo hi : Option Int} {x y : Int} {zs : List Value} {Q : Value → Shared → Prop} (ht : IsTup s.heap t items) (hs : s.heap.IsSliceOf sl vl vu .none) (pl : IsPart vl lo) (pu : IsPart vu hi)
    (he : Builtin.Slice.sliceAdjust lo hi 1 (items.size : Int) = (x, y)) (hno : (x == 0 && (1 : Int) == 1 && Builtin.Slice.slicePlaces x y 1 == items.size) = false)
    (hz : (List.range (Builtin.Slice.slicePlaces x y 1)).filterMap (fun (k : Nat) => items[(x + (k : Int) * 1).toNat]?) = zs) (hzs : zs.length ≤ sizeLine)
    (h : Q (.ref s.heap.objs.size) { s with heap := s.heap.push { cls := .type "tuple", data := .seq zs.toArray } }) : wpAny (model prog w) A (getItem (.ref t) (.ref sl)) Q E s := by
  have hsz : sizeOk (.seq zs.toArray) := by
    show zs.toArray.size ≤ sizeLine
    rw [List.size_toArray]; exact hzs
  obtain ⟨os, hos, hcs, hds⟩ := id hs
  have hTs : s.TypeIs (.ref sl) "slice" := ⟨os, hos, hcs⟩
  unfold getItem
  try with_reducible refine wpAny_holding ?_
  first | refine wpAny_bind (wpAny_pure ?_) | skip
  refine wpAny_bind (wpAny_sequenceKey ht.typeIs (by decide) ?_)
  refine wpAny_bind (wpAny_callSpecial?_slot (name := Str.ofString "__getitem__") ht.typeIs slot_tuple_getitem
    (wpAny_call_entry slot_tuple_getitem ht.typeIs entry_tuple_getitem ?_ (args_tuple_getitem _ _)))
  show wpAny _ _ (Builtin.Tuple.tupleItemsOf (.ref t) >>= _) _ _ s
  refine wpAny_bind (tupleItemsOf_ ht ?_)
  refine wpAny_bind (wpAny_typeOf hTs ?_)
  rw [if_pos (by decide)]
  refine wpAny_bind (sliceApplied_ hs pl pu he ?_)
  show wpAny _ _ (if (x == 0 && (1 : Int) == 1 && Builtin.Slice.slicePlaces x y 1 == items.size) = true then _ else _) _ _ s
  rw [if_neg (by rw [hno]; decide), hz]
  first
    | exact wpAny_bind (m := Builtin.Tuple.tupleExact _) (wpAny_newObj_type (wpAny_pure ⟨_, rfl, wpAny_pure h⟩) hsz)
    | exact wpAny_bind (m := Builtin.Tuple.tupleExact _) (wpAny_newObj_type (wpAny_bind (wpAny_pure (wpAny_pure ⟨_, rfl, wpAny_pure h⟩))) hsz)
    | exact wpAny_bind (wpAny_bind (m := Builtin.Tuple.tupleExact _) (wpAny_newObj_type (wpAny_pure (wpAny_pure ⟨_, rfl, wpAny_pure h⟩)) hsz))
    | exact wpAny_bind (wpAny_bind (m := Builtin.Tuple.tupleExact _) (wpAny_newObj_type (wpAny_pure ⟨_, rfl, wpAny_pure h⟩) hsz))
theorem slice_tup {h₀ : Heap} {L : Addr} {m : Str → Option Value} {news : List (Addr × Obj)} {value slice : PySem.Expr} {t : Addr} {vs : List Value} {vl vu : Value} {lo hi : Option Int} {x y : Int} {zs : List Value} {Q : Value → Shared → Prop}
    (F : Fr h₀ L s.heap m) (N : News h₀ L s.heap news) (hm : (t, tupObj vs) ∈ news) (pl : IsPart vl lo) (pu : IsPart vu hi)
    (he : Builtin.Slice.sliceAdjust lo hi 1 (vs.toArray.size : Int) = (x, y)) (hno : (x == 0 && (1 : Int) == 1 && Builtin.Slice.slicePlaces x y 1 == vs.toArray.size) = false)
    (hz : (List.range (Builtin.Slice.slicePlaces x y 1)).filterMap (fun (k : Nat) => vs.toArray[(x + (k : Int) * 1).toNat]?) = zs) (hzs : zs.length ≤ sizeLine)
    (hs : subscripted slice false (.ref t) (.ref s.heap.objs.size) = operate [.ref s.heap.objs.size, .ref t] (getItem (.ref t) (.ref s.heap.objs.size)))
    (hg : ∀ r, letTemporaryGo value (.ref t) r = pure ())
    (h : ∀ D h', Fr h₀ L h' m → News h₀ L h' ((D, tupObj zs) :: news) → (∀ p ∈ news, p.1 < D) → Q (.ref D) { s with heap := h' }) :
    wpAny (model prog w) A (subscriptTail value slice (.ref t) (.ref s.heap.objs.size)) Q E { s with heap := s.heap.push { cls := .type "slice", data := .fields #[vl, vu, .none] } } := by
  have ht : IsTup s.heap t vs.toArray := ⟨_, (N _ hm).1, rfl, _, rfl⟩
  have ht' : IsTup (s.heap.push { cls := .type "slice", data := .fields #[vl, vu, .none] }) t vs.toArray := ht.keeps fun _ _ e => Heap.get?_push_of_some _ e
  refine subscriptTail_ops (s := { s with heap := s.heap.push { cls := .type "slice", data := .fields #[vl, vu, .none] } }) ht'.typeIs slot_tuple_getitem.lookup
    (getItem_tupS ht' (Heap.IsSliceOf.new ..) pl pu he hno hz hzs ?_) hs hg
  have N1 := News.push (F.push { cls := .type "slice", data := .fields #[vl, vu, .none] }) (N.grown fun _ _ e => Heap.get?_push_of_some _ e) (tupObj zs)
  rw [Heap.size_push] at N1
  show Q (.ref (s.heap.push _).objs.size) _
  rw [Heap.size_push]
  exact h _ _ ((F.push _).push _) N1 fun p hp => Nat.lt_succ_of_lt (Heap.lt_size (N p hp).1)
theorem slice17 {h₀ : Heap} {L : Addr} {m : Str → Option Value} {news : List (Addr × Obj)} {value slice : PySem.Expr} {t : Addr} {a b c d e f g : Value} {u v : Tok} {Q : Value → Shared → Prop}
    (F : Fr h₀ L s.heap m) (N : News h₀ L s.heap news) (hm : (t, tupObj [a, b, c, d, e, f, g]) ∈ news)
    (hs : subscripted slice false (.ref t) (.ref s.heap.objs.size) = operate [.ref s.heap.objs.size, .ref t] (getItem (.ref t) (.ref s.heap.objs.size)))
    (hg : ∀ r, letTemporaryGo value (.ref t) r = pure ())
    (h : ∀ D h', Fr h₀ L h' m → News h₀ L h' ((D, tupObj [b, c, d, e, f, g]) :: news) → (∀ p ∈ news, p.1 < D) → Q (.ref D) { s with heap := h' }) :
    wpAny (model prog w) A (subscriptTail value slice (.ref t) (.ref s.heap.objs.size)) Q E { s with heap := s.heap.push { cls := .type "slice", data := .fields #[.int 1 u, .int 7 v, .none] } } :=
  slice_tup F N hm (.int 1 u) (.int 7 v) (x := 1) (y := 7) rfl rfl rfl (Nat.le_of_ble_eq_true rfl) hs hg h
theorem slice4 {h₀ : Heap} {L : Addr} {m : Str → Option Value} {news : List (Addr × Obj)} {value slice : PySem.Expr} {t : Addr} {a b c d e f : Value} {v : Tok} {Q : Value → Shared → Prop}
    (F : Fr h₀ L s.heap m) (N : News h₀ L s.heap news) (hm : (t, tupObj [a, b, c, d, e, f]) ∈ news)
    (hs : subscripted slice false (.ref t) (.ref s.heap.objs.size) = operate [.ref s.heap.objs.size, .ref t] (getItem (.ref t) (.ref s.heap.objs.size)))
    (hg : ∀ r, letTemporaryGo value (.ref t) r = pure ())
    (h : ∀ D h', Fr h₀ L h' m → News h₀ L h' ((D, tupObj [a, b, c, d]) :: news) → (∀ p ∈ news, p.1 < D) → Q (.ref D) { s with heap := h' }) :
    wpAny (model prog w) A (subscriptTail value slice (.ref t) (.ref s.heap.objs.size)) Q E { s with heap := s.heap.push { cls := .type "slice", data := .fields #[.none, .int 4 v, .none] } } :=
  slice_tup F N hm .none (.int 4 v) (x := 0) (y := 4) rfl rfl rfl (Nat.le_of_ble_eq_true rfl) hs hg h
end
theorem lay50 : True := by
  (k_with "subscriptTail Name Slice ref ref" => (k_here; (with_reducible show wpAny _ _ (subscriptTail _ (PySem.Expr.Slice _ _ none _) (Value.ref _) (Value.ref _)) _ _ _); k_dflt (refine' Mine.slice17 ?F ?N ?m ?s ?g ?_; (case F => k_asm); (case N => k_asm); (case m => k_mem); (case s => with_unfolding_all rfl); (case g => kmk_pure)); intro D' h' F' N' l1; (try k_lt l1); (try k_sweep)))
  (k_with "subscriptTail Name Slice ref ref" => (k_here; (with_reducible show wpAny _ _ (subscriptTail _ (PySem.Expr.Slice _ _ none _) (Value.ref _) (Value.ref _)) _ _ _); k_dflt (refine' Mine.slice4 ?F ?N ?m ?s ?g ?_; (case F => k_asm); (case N => k_asm); (case m => k_mem); (case s => with_unfolding_all rfl); (case g => kmk_pure)); intro D' h' F' N' l1; (try k_lt l1); (try k_sweep)))
  trivial
section
variable {prog : Program} {w : World} {A : Around} {E : Value → Shared → Prop} {s : Shared} {h₀ : Heap} {L : Addr} {m : Str → Option Value} {news : List (Addr × Obj)} {t : Addr} {ps : List Value} {xs : List Int} {Q : Value → Shared → Prop}
theorem len_tupI (N : News h₀ L s.heap news) (hm : (t, tupObj ps) ∈ news) (hi : IntsAre ps xs) (hl : xs.length ≤ 64) (h : ∀ u tk, Q (.int (xs.length : Int) u) { s with toks := tk }) :
    wpAny (model prog w) A (call (.builtin "len") [.ref t]) Q E s := by
  have e : ps.toArray.size = xs.length := by simp [hi.length]
  refine kun_lenT (k := (xs.length : Int)) ⟨_, (N _ hm).1, rfl, _, rfl⟩ (by rw [e]) (by omega) (h _ _)
theorem list_tupI (F : Fr h₀ L s.heap m) (N : News h₀ L s.heap news) (hm : (t, tupObj ps) ∈ news) (hi : IntsAre ps xs) (hl : xs.length ≤ 64)
    (h : ∀ D c h', Fr h₀ L h' m → News h₀ L h' ((D, listOf ps.toArray c) :: news) → (∀ q ∈ news, q.1 < D) → Q (.ref D) { s with heap := h' }) : wpAny (model prog w) A (call (.type "list") [.ref t]) Q E s :=
  kup_listOfT F N hm (by simp) h (by rw [PySem.sizeLine_eq]; simp [hi.length]; omega)
end

theorem tup4 {h₀ h : Heap} {L : Addr} {news : List (Addr × Obj)} {t : Addr} {t1 t2 t3 t4 : Tok} (N : News h₀ L h news) (hm : (t, tupObj [.int 327680 t1, .int 0 t2, .int 0 t3, .int 0 t4]) ∈ news) : h.IsTuple t [Value.int 327680 t1, .int 0 t2, .int 0 t3, .int 0 t4].toArray := News.isTup N hm
theorem ints4 {t1 t2 t3 t4 : Tok} : IntsAre [Value.int 327680 t1, .int 0 t2, .int 0 t3, .int 0 t4] [327680, 0, 0, 0] := .cons _ _ (.cons _ _ (.cons _ _ (.cons _ _ .nil)))
section
variable {dp un : Nat} {gd : Option (List Code)} {cn : Str} {cs : Scope} {a : Addr} {ccd : Value} {cl : List (Str × Addr)} {outer : List Env} {A₀ : Around} {base h₀ : Heap} {L : Addr} {m : Str → Option Value} {s : Shared} {Q E : Value → Shared → Prop} {mean : ExcName → Option Value} {mg mb : Str → Option Value} {w : World} {pv : Program} {lv : List Str} {news : List (Addr × Obj)}
end
theorem lay51 : True := by
  (k_with "call ref" => (k_here; (with_reducible show wpAny _ _ (call (Value.ref 89) [Value.int _ _, Value.int _ _, Value.int _ _]) _ _ _); k_dflt (refine' Mine.is_whole ?k1 ?k2 ?k3 ?k4 ?k5 ?kK ?kd  ?_; (case k1 => k_asm); (case k2 => k_asm); (case k3 => k_asm); (case k4 => k_asm); (case k5 => k_asm); (case kK => first | exact rfl | assumption); (case kd => ktr_room);  k_whole; intro h' tk' F' N';  (try dsimp only); (try k_sweep); (try k_fold))))
  (k_with "call ref" => (k_here; (with_reducible show wpAny _ _ (call (Value.ref 252) [Value.ref _]) _ _ _); k_dflt (refine' Mine.check_sizes ?k1 ?k2 ?k3 ?k4 ?k5 ?kK ?kd ?T ?I ?l ?x ?_; (case k1 => k_asm); (case k2 => k_asm); (case k3 => k_asm); (case k4 => k_asm); (case k5 => k_asm); (case kK => first | exact rfl | assumption); (case kd => ktr_room); (case T => exact Mine.tup4 (by k_asm) (by k_mem)); (case I => exact Mine.ints4); (case l => decide); (case x => decide); k_whole; intro h' tk' F' N';  (try dsimp only); (try k_sweep); (try k_fold))))
  trivial
section
variable {dp un : Nat} {gd : Option (List Code)} {cn : Str} {cs : Scope} {a : Addr} {ccd : Value} {cl : List (Str × Addr)} {outer : List Env} {A₀ : Around} {base h₀ : Heap} {L : Addr} {m : Str → Option Value} {s : Shared} {Q E : Value → Shared → Prop} {mean : ExcName → Option Value} {mg mb : Str → Option Value} {w : World} {pv : Program} {lv : List Str} {news : List (Addr × Obj)}

theorem chars1 (B : Below A₀ base outer h₀) (F : Fr h₀ L s.heap m) (X : (Mine.hd.heap_1 w.params).In h₀) (N : News h₀ L s.heap news) (T : Top pv lv mean mg mb h₀) (hk : cs.kind = .function) (hd : dp + 5 < recursionLimit) {cd D : Addr} {co : Obj} {t1 t2 t3 t4 t5 t6 : Tok} (hlo : (cd == sysModules) = false) (hdk : co.IsDictOf (PySem.intKind PySem.Challenge.rw_sq0037_01.row.prog w) [(65, .ref D)]) (hcd : (cd, co) ∈ news) (hD : (D, tupObj [.int 327680 t1, .int 0 t2, .int 0 t3, .int 0 t4, .int 0 t5, .int 0 t6]) ∈ news) {tk : Tok}
  (hret : ∀ h' tk', Fr h₀ L h' m → News h₀ L h' news → Q .none { s with heap := h', toks := tk' }) :
  wpAny (model PySem.Challenge.rw_sq0037_01.row.prog w) (ktrTop dp un gd cn cs L a ccd cl outer) (call (.ref 266) [.ref cd, .int 0 tk]) Q E s := by
  refine wpAny_call ?_
  k_dflt (refine' Mine.code_defS [(cd, co), (D, tupObj [.int 327680 t1, .int 0 t2, .int 0 t3, .int 0 t4, .int 0 t5, .int 0 t6])] ?k1 ?k2 ?k3 ?k4 ?k5 ?kA ?kF ?kK ?k6 ?k7 ?k8 ?k9 ?kB ?kS ?_ ?c2 ?c3 ?c4 ?c5; (case kA => exact rfl); (case kF => exact rfl); (case kK => first | exact rfl | assumption); (case k1 => k_asm); (case k2 => k_asm); (case k3 => k_asm); (case k4 => k_asm); (case k5 => k_asm); (case k6 => k_is); (case k7 => k_is); (case k8 => ktr_room); (case k9 => first | exact BindsTo.of_eq rfl | exact binds_K (by k_in) rfl (by k_is) rfl rfl rfl); (case c5 => decide); (case kB => exact locs rfl); (case kS => exact List.forall_mem_cons.mpr ⟨hcd, List.forall_mem_cons.mpr ⟨hD, fun _ z => nomatch z⟩⟩); (case c2 => exact rfl); (case c3 => exact rfl); (case c4 => exact rfl); k_whole; intro g' L' h' FG' F' N' B' X' T'; (try dsimp only); (try k_fold))
  k_steps
  all_goals (rename (∀ l, News _ _ _ _ → News _ _ _ _) => up9; refine' hret _ _ ?hF ?hN; (case hN => (refine' up9 [] ?hN9; (case hN9 => (refine' cb_drop ?cbN ?cbS; (case cbN => assumption); (case cbS => (intro p hp; (repeat (first | exact hp | refine List.mem_append.mpr (.inr ?_) | refine List.mem_cons_of_mem _ ?_)))))))); (case hF => assumption))
end

theorem lay52 : True := by
  k_with_none
  trivial
section
variable {dp un : Nat} {gd : Option (List Code)} {cn : Str} {cs : Scope} {a : Addr} {ccd : Value} {cl : List (Str × Addr)} {outer : List Env} {A₀ : Around} {base h₀ : Heap} {L : Addr} {m : Str → Option Value} {s : Shared} {Q E : Value → Shared → Prop} {mean : ExcName → Option Value} {mg mb : Str → Option Value} {w : World} {pv : Program} {lv : List Str} {news : List (Addr × Obj)}
end
theorem lay53 : True := by
  (k_with "call ref" => (k_here; (with_reducible show wpAny _ _ (call (Value.ref 89) [Value.int _ _, Value.int _ _, Value.int _ _]) _ _ _); k_dflt (refine' Mine.is_whole ?k1 ?k2 ?k3 ?k4 ?k5 ?kK ?kd  ?_; (case k1 => k_asm); (case k2 => k_asm); (case k3 => k_asm); (case k4 => k_asm); (case k5 => k_asm); (case kK => first | exact rfl | assumption); (case kd => ktr_room);  k_whole; intro h' tk' F' N';  (try dsimp only); (try k_sweep); (try k_fold))))
  trivial
section
variable {dp un : Nat} {gd : Option (List Code)} {cn : Str} {cs : Scope} {a : Addr} {ccd : Value} {cl : List (Str × Addr)} {outer : List Env} {A₀ : Around} {base h₀ : Heap} {L : Addr} {m : Str → Option Value} {s : Shared} {Q E : Value → Shared → Prop} {mean : ExcName → Option Value} {mg mb : Str → Option Value} {w : World} {pv : Program} {lv : List Str} {news : List (Addr × Obj)}

theorem larger1 (B : Below A₀ base outer h₀) (F : Fr h₀ L s.heap m) (X : (Mine.hd.heap_1 w.params).In h₀) (N : News h₀ L s.heap news) (T : Top pv lv mean mg mb h₀) (hk : cs.kind = .function) (hd : dp + 5 < recursionLimit) {cd D : Addr} {co : Obj} {t1 t2 t3 t4 t5 t6 : Tok} (hlo : (cd == sysModules) = false) (hdk : co.IsDictOf (PySem.intKind PySem.Challenge.rw_sq0037_01.row.prog w) [(65, .ref D)]) (hcd : (cd, co) ∈ news) (hD : (D, tupObj [.int 327680 t1, .int 0 t2, .int 0 t3, .int 0 t4, .int 0 t5, .int 0 t6]) ∈ news)
  (hret : ∀ h' tk', Fr h₀ L h' m → News h₀ L h' news → Q .none { s with heap := h', toks := tk' }) :
  wpAny (model PySem.Challenge.rw_sq0037_01.row.prog w) (ktrTop dp un gd cn cs L a ccd cl outer) (call (.ref 273) [.ref cd]) Q E s := by
  refine wpAny_call ?_
  k_dflt (refine' Mine.code_defS [(cd, co), (D, tupObj [.int 327680 t1, .int 0 t2, .int 0 t3, .int 0 t4, .int 0 t5, .int 0 t6])] ?k1 ?k2 ?k3 ?k4 ?k5 ?kA ?kF ?kK ?k6 ?k7 ?k8 ?k9 ?kB ?kS ?_ ?c2 ?c3 ?c4 ?c5; (case kA => exact rfl); (case kF => exact rfl); (case kK => first | exact rfl | assumption); (case k1 => k_asm); (case k2 => k_asm); (case k3 => k_asm); (case k4 => k_asm); (case k5 => k_asm); (case k6 => k_is); (case k7 => k_is); (case k8 => ktr_room); (case k9 => first | exact BindsTo.of_eq rfl | exact binds_K (by k_in) rfl (by k_is) rfl rfl rfl); (case c5 => decide); (case kB => exact locs rfl); (case kS => exact List.forall_mem_cons.mpr ⟨hcd, List.forall_mem_cons.mpr ⟨hD, fun _ z => nomatch z⟩⟩); (case c2 => exact rfl); (case c3 => exact rfl); (case c4 => exact rfl); k_whole; intro g' L' h' FG' F' N' B' X' T'; (try dsimp only); (try k_fold))
  k_steps
  all_goals (rename (∀ l, News _ _ _ _ → News _ _ _ _) => up9; refine' hret _ _ ?hF ?hN; (case hN => (refine' up9 [] ?hN9; (case hN9 => (refine' cb_drop ?cbN ?cbS; (case cbN => assumption); (case cbS => (intro p hp; (repeat (first | exact hp | refine List.mem_append.mpr (.inr ?_) | refine List.mem_cons_of_mem _ ?_)))))))); (case hF => assumption))
end

theorem lay54 : True := by
  k_with_none
  trivial
theorem enumerate_newT (t : Addr) (items : Array Value) (n : Nat) (dct : Option Addr) (sl : Array (Option Value)) :
    Meets (Builtin.«enumerate.__new__» ⟨[.type "enumerate", .ref t], []⟩) (fun _ R s => s.heap.get? t = some { cls := .type "tuple", dict := dct, data := .seq items n, slots := sl } ∧
      R (.ok (.ret (.ref (s.heap.push { cls := .type "tuple_iterator", data := .fields #[.ref t, .int 0 0] }).objs.size)))
        { s with heap := (s.heap.push { cls := .type "tuple_iterator", data := .fields #[.ref t, .int 0 0] }).push { cls := .type "enumerate", data := .fields #[.none, .bool false, .ref s.heap.objs.size, rawInt 0, .none, .none] } }) :=
  .of_wp fun prog w A R s h => by
    obtain ⟨hp, g, d, tk, os⟩ := s; obtain ⟨hl, h⟩ := h
    have hsub := sub_enumerate
    have hT : Heap.IsTuple (Shared.heap ⟨hp, g, d, tk, os⟩) t items := ⟨_, hl, rfl, n, rfl⟩
    wp_walk using AutoSeq1.wpAny_loadPart' hl
    refine wpAny_stack_any fun st => wpAny_pure ?_
    split
    · rename_i c _ _ _ _ _
      cases (c == Value.type "enumerate")
      · wp_walk using AutoSeq1.wpAny_loadPart' hl, wpAny_pyIter_tuple hT
        exact ⟨_, rfl, h⟩
      · wp_walk using AutoSeq1.wpAny_loadPart' hl, wpAny_pyIter_tuple hT
        exact ⟨_, rfl, h⟩
    · wp_walk using AutoSeq1.wpAny_loadPart' hl, wpAny_pyIter_tuple hT
      exact ⟨_, rfl, h⟩
section
variable {prog : Program} {w : World} {A : Around} {E : Value → Shared → Prop} {s : Shared}
theorem enumerate_tup {t : Addr} {items : Array Value} {Q : Value → Shared → Prop} (hT : s.heap.IsTuple t items)
    (h : ∀ h', IsEnum h' (s.heap.objs.size + 1) s.heap.objs.size 0 .none → h'.IsTupleIter s.heap.objs.size t 0 →
      (∀ b o, s.heap.get? b = some o → h'.get? b = some o) → Q (.ref (s.heap.objs.size + 1)) { s with heap := h' }) :
    wpAny (model prog w) A (call (.type "enumerate") [.ref t]) Q E s := by
  obtain ⟨⟨c, dct, dt, sl⟩, hl, hc, n, hd⟩ := hT
  replace hc : c = .type "tuple" := hc
  replace hd : dt = .seq items n := hd
  subst hc hd
  refine callType_new F.called_enumerate (by decide) (F.typeCall_enumerate_1 _) (F.newCall_enumerate_1 _) (fun obj => F.args_object_init_2 obj _) F.entry_enumerate_new
    (enumerate_newT t items n dct sl) ⟨hl, ?_⟩
  have hz : (s.heap.push { cls := .type "tuple_iterator", data := .fields #[.ref t, .int 0 0] }).objs.size = s.heap.objs.size + 1 := Heap.size_push ..
  show _ ∧ _
  rw [hz]
  have he : IsEnum ((s.heap.push { cls := .type "tuple_iterator", data := .fields #[.ref t, .int 0 0] }).push
      { cls := .type "enumerate", data := .fields #[.none, .bool false, .ref s.heap.objs.size, rawInt 0, .none, .none] }) (s.heap.objs.size + 1) s.heap.objs.size 0 .none := by
    have := Heap.get?_push_size (s.heap.push { cls := .type "tuple_iterator", data := .fields #[.ref t, .int 0 0] })
      (o := { cls := .type "enumerate", data := .fields #[.none, .bool false, .ref s.heap.objs.size, rawInt 0, .none, .none] }) rfl
    rw [hz] at this; exact this
  exact ⟨⟨_, he, rfl⟩, h _ he ⟨_, Heap.get?_push_of_some _ (Heap.get?_push_size _ rfl), rfl, rfl⟩ fun b o x => Heap.get?_push_of_some _ (Heap.get?_push_of_some _ x)⟩
theorem nextOf_tup_end {it t : Addr} {i : Nat} {items : Array Value} {Q : Value → Shared → Prop} (hh : A.handled = none)
    (hit : s.heap.IsTupleIter it t i) (ht : s.heap.IsTuple t items) (hx : items[i]? = none)
    (hE : ∀ h' e, Heap.ExtBut it s.heap h' → (∃ o, h'.get? e = some o ∧ o.cls = .type "StopIteration") → E (.ref e) { s with heap := h' }) :
    wpAny (model prog w) A (Builtin.SmallTypes.nextOf (.ref it)) Q E s := by
  obtain ⟨o, ho, hc, hd⟩ := id hit
  obtain ⟨ol, hol, _, nl, hdl⟩ := ht
  unfold Builtin.SmallTypes.nextOf
  refine wpAny_bind (wpAny_callSpecial?_slot (name := Str.ofString "__next__") hit.typeIs F.slot_tuple_iterator_next
    (wpAny_call_entry F.slot_tuple_iterator_next hit.typeIs F.entry_tuple_iterator_next ?_ (F.args_tuple_iterator_next_1 _)))
  show wpAny _ _ (field (.ref it) 0 >>= _) _ _ s
  refine wpAny_bind (wpAny_field ho hd (x := .ref t) rfl ?_)
  show wpAny _ _ (if (Value.ref t == Value.none) = true then _ else _) _ _ s
  rw [if_neg (show ¬ ((Value.ref t == Value.none) = true) from Bool.false_ne_true)]
  show wpAny _ _ (field (.ref it) 1 >>= _) _ _ s
  refine wpAny_bind (wpAny_field ho hd (x := .int i 0) rfl ?_)
  show wpAny _ _ (seqItems? (.ref t) >>= _) _ _ s
  refine wpAny_bind (wpAny_seqItems hol hdl ?_)
  simp only [Int.toNat_natCast, hx]
  refine wpAny_bind (wpAny_rule (wpAny_bind (wpAny_setField ho hd (by simp) ?_)))
  show wpAny _ _ (newExc (.type "StopIteration") [] >>= _) _ _ _
  refine wpAny_bind ?_
  simp only [newExc, newTuple]
  refine wpAny_bind (wpAny_newObj_type ?_ (by size_fits))
  refine wpAny_bind (m := firstArgMember _ _) (wpAny_of_eq (a := Value.none) (by first | rfl | (simp only [firstArgMember]; rfl)) ?_)
  refine wpAny_newObj_type ?_ (by size_fits)
  simp only [raiseNew]
  refine wpAny_bind (wpAny_handled ?_)
  first | rw [show A.in1.handled = none from hh] | rw [hh]
  refine wpAny_bind (wpAny_pure (wpAny_throw ?_))
  exact hE _ _ (((Heap.SameBut.update ..).extBut.push _).push _) ⟨_, Heap.get?_push_size _ rfl, rfl⟩
theorem draws_tup0 (hh : A.handled = none) (it t : Addr) :
    Draws prog w A it [it, t] 0 (fun _ _ => False) (fun _ h => h.IsTupleIter it t 0 ∧ h.IsTuple t #[]) where
  live := fun _ _ st => let ⟨o, ho, _⟩ := st.1; ⟨o, ho⟩
  frame := fun _ _ _ st hk => ⟨let ⟨o, ho, r⟩ := st.1; ⟨o, hk it (by simp) o ho, r⟩, let ⟨o, ho, r⟩ := st.2; ⟨o, hk t (by simp) o ho, r⟩⟩
  item := fun i s Q E hi _ _ => absurd hi (Nat.not_lt_zero _)
  done := fun s Q E st hE => nextOf_tup_end hh st.1 st.2 (by simp) hE
theorem loop_tup0 {h₀ : Heap} {env : Env} {m : Str → Option Value} {news : List (Addr × Obj)} {t : Addr} {xi xc : Str} {body : List Stmt} {Q : Flow → Shared → Prop} (hh : A.handled = none) (hT : h₀.IsTuple t #[]) (F : Fr h₀ env.locals s.heap m) (N : News h₀ env.locals s.heap news)
    (done : ∀ h' tk, Fr h₀ env.locals h' m → News h₀ env.locals h' news → Q .next { s with heap := h', toks := tk }) :
    wpAny (model prog w) A (call (.type "enumerate") [.ref t]) (fun xv s₁ => wpAny (model prog w) A (pyIter xv) (fun it s₂ => PairAt3 prog w A h₀ env xi xc body Q E it s₂) E s₁) E s := by
  have hTs : s.heap.IsTuple t #[] := let ⟨o, ho, r⟩ := hT; ⟨o, F.keep _ _ ho, r⟩
  obtain ⟨ot, hot, _⟩ := id hT
  have hlt : t < h₀.objs.size := Heap.lt_size hot
  have hLs : env.locals < s.heap.objs.size := F.ns.lt
  have hab : h₀.objs.size ≤ env.locals := F.above
  have hl2 : t < s.heap.objs.size := Nat.lt_trans (Nat.lt_of_lt_of_le hlt hab) hLs
  refine enumerate_tup hTs fun h' he hit hk => ?_
  have F' : Fr h₀ env.locals h' m := ⟨F.ns.keeps hk, fun b o e => hk b o (F.keep b o e), F.above⟩
  have N' : News h₀ env.locals h' news := fun p hp => ⟨hk _ _ (N p hp).1, (N p hp).2⟩
  have S : PairSrc prog w A E h₀ env ItemKind.int ([] : List Int) (.ref (s.heap.objs.size + 1)) { s with heap := h' } m news := by
    refine enumSrc (draws_tup0 (A := A.in1) hh s.heap.objs.size t) he ⟨hit, let ⟨o, ho, r⟩ := hTs; ⟨o, hk _ _ ho, r⟩⟩ (Nat.succ_ne_self _) ?_ (by simp) ?_
      (Heap.get?_none_of_le (Nat.le_trans hab (Nat.le_of_lt (Nat.lt_succ_of_lt hLs)))) (Heap.get?_none_of_le (Nat.le_trans hab (Nat.le_of_lt hLs))) ?_ rfl (fun i x hx => hx.elim) F' N'
    · intro hm
      rcases List.mem_cons.mp hm with e | hm
      · exact Nat.succ_ne_self _ e
      · exact Nat.ne_of_gt (Nat.lt_succ_of_lt hl2) (List.mem_singleton.mp hm)
    · intro hm
      rcases List.mem_cons.mp hm with e | hm
      · exact Nat.ne_of_lt (Nat.lt_succ_of_lt hLs) e
      · rcases List.mem_cons.mp hm with e | hm
        · exact Nat.ne_of_lt hLs e
        · exact Nat.ne_of_gt (Nat.lt_of_lt_of_le hlt hab) (List.mem_singleton.mp hm)
    · intro b hb q hq e
      have hq1 : q.1 < s.heap.objs.size := Heap.lt_size (N q hq).1
      rcases List.mem_cons.mp hb with e1 | hb
      · exact Nat.ne_of_gt (Nat.lt_succ_of_lt hq1) (e1.symm.trans e)
      · rcases List.mem_cons.mp hb with e1 | hb
        · exact Nat.ne_of_gt hq1 (e1.symm.trans e)
        · have e2 := List.mem_singleton.mp hb
          have hn := (N q hq).2.2
          rw [← e, e2, hot] at hn
          cases hn
  refine S xi xc body Q (fun _ m' n' => m' = m ∧ n' = news) ⟨rfl, rfl⟩ (fun i a t v m₁ news₁ s₁ own _ ha => nomatch ha) ?_
  rintro h'' tk m' news' F'' N'' _ ⟨rfl, rfl⟩
  exact done h'' tk F'' N''
end
theorem topT0 {K : Frag} {h₀ : Heap} {t : Addr} {n : Nat} {d : Option Addr} {sl : Array (Option Value)} (X : K.In h₀) (ho : K.lookup t = some { cls := .type "tuple", dict := d, data := .seq #[] n, slots := sl }) : h₀.IsTuple t #[] := ⟨_, X _ _ ho, rfl, n, rfl⟩
theorem lay55 : True := by
  (k_with "call type:enumerate" => (k_here; (with_reducible show wpAny _ _ (call (Value.type _) [Value.ref _]) (fun xv s₁ => wpAny _ _ (pyIter xv) (fun it s₂ => PairAt3 _ _ _ _ _ _ _ _ _ _ it s₂) _ s₁) _ _); k_dflt (refine' Mine.loop_tup0 ?H ?T ?F ?N ?_; (case H => exact rfl); (case F => k_asm); (case N => k_asm); (case T => exact Mine.topT0 (by k_asm) (by k_is))); intro h' tk' F' N'; (try dsimp only)))
  trivial
section
variable {dp un : Nat} {gd : Option (List Code)} {cn : Str} {cs : Scope} {a : Addr} {ccd : Value} {cl : List (Str × Addr)} {outer : List Env} {A₀ : Around} {base h₀ : Heap} {L : Addr} {m : Str → Option Value} {s : Shared} {Q E : Value → Shared → Prop} {mean : ExcName → Option Value} {mg mb : Str → Option Value} {w : World} {pv : Program} {lv : List Str} {news : List (Addr × Obj)}
end
theorem lay56 : True := by
  (k_with "call ref" => (k_here; (with_reducible show wpAny _ _ (call (Value.ref 89) [Value.int _ _, Value.int _ _, Value.int _ _]) _ _ _); k_dflt (refine' Mine.is_whole ?k1 ?k2 ?k3 ?k4 ?k5 ?kK ?kd  ?_; (case k1 => k_asm); (case k2 => k_asm); (case k3 => k_asm); (case k4 => k_asm); (case k5 => k_asm); (case kK => first | exact rfl | assumption); (case kd => ktr_room);  k_whole; intro h' tk' F' N';  (try dsimp only); (try k_sweep); (try k_fold))))
  trivial
section
variable {dp un : Nat} {gd : Option (List Code)} {cn : Str} {cs : Scope} {a : Addr} {ccd : Value} {cl : List (Str × Addr)} {outer : List Env} {A₀ : Around} {base h₀ : Heap} {L : Addr} {m : Str → Option Value} {s : Shared} {Q E : Value → Shared → Prop} {mean : ExcName → Option Value} {mg mb : Str → Option Value} {w : World} {pv : Program} {lv : List Str} {news : List (Addr × Obj)}

theorem program1 (B : Below A₀ base outer h₀) (F : Fr h₀ L s.heap m) (X : (Mine.hd.heap_1 w.params).In h₀) (N : News h₀ L s.heap news) (T : Top pv lv mean mg mb h₀) (hk : cs.kind = .function) (hd : dp + 5 < recursionLimit) {cd : Addr} {tk : Tok}
  (hret : ∀ h' tk', Fr h₀ L h' m → News h₀ L h' news → Q .none { s with heap := h', toks := tk' }) :
  wpAny (model PySem.Challenge.rw_sq0037_01.row.prog w) (ktrTop dp un gd cn cs L a ccd cl outer) (call (.ref 280) [.ref 389, .ref 390, .ref cd, .int 256 tk]) Q E s := by
  refine wpAny_call ?_
  k_dflt (refine' Mine.code_defS [] ?k1 ?k2 ?k3 ?k4 ?k5 ?kA ?kF ?kK ?k6 ?k7 ?k8 ?k9 ?kB ?kS ?_ ?c2 ?c3 ?c4 ?c5; (case kA => exact rfl); (case kF => exact rfl); (case kK => first | exact rfl | assumption); (case k1 => k_asm); (case k2 => k_asm); (case k3 => k_asm); (case k4 => k_asm); (case k5 => k_asm); (case k6 => k_is); (case k7 => k_is); (case k8 => ktr_room); (case k9 => first | exact BindsTo.of_eq rfl | exact binds_K (by k_in) rfl (by k_is) rfl rfl rfl); (case c5 => decide); (case kB => exact locs rfl); (case kS => exact fun _ z => nomatch z); (case c2 => exact rfl); (case c3 => exact rfl); (case c4 => exact rfl); k_whole; intro g' L' h' FG' F' N' B' X' T'; (try dsimp only); (try k_fold))
  k_steps
  all_goals (rename (∀ l, News _ _ _ _ → News _ _ _ _) => up9; refine' hret _ _ ?hF ?hN; (case hN => (refine' up9 [] ?hN9; (case hN9 => (refine' cb_drop ?cbN ?cbS; (case cbN => assumption); (case cbS => (intro p hp; (repeat (first | exact hp | refine List.mem_append.mpr (.inr ?_) | refine List.mem_cons_of_mem _ ?_)))))))); (case hF => assumption))
theorem left1 (B : Below A₀ base outer h₀) (F : Fr h₀ L s.heap m) (X : (Mine.hd.heap_1 w.params).In h₀) (N : News h₀ L s.heap news) (T : Top pv lv mean mg mb h₀) (hk : cs.kind = .function) (hd : dp + 5 < recursionLimit)
  (hret : ∀ t h' tk', Fr h₀ L h' m → News h₀ L h' news → Q (.int (-1) t) { s with heap := h', toks := tk' }) :
  wpAny (model PySem.Challenge.rw_sq0037_01.row.prog w) (ktrTop dp un gd cn cs L a ccd cl outer) (call (.ref 287) [.ref 389]) Q E s := by
  refine wpAny_call ?_
  k_dflt (refine' Mine.code_defS [] ?k1 ?k2 ?k3 ?k4 ?k5 ?kA ?kF ?kK ?k6 ?k7 ?k8 ?k9 ?kB ?kS ?_ ?c2 ?c3 ?c4 ?c5; (case kA => exact rfl); (case kF => exact rfl); (case kK => first | exact rfl | assumption); (case k1 => k_asm); (case k2 => k_asm); (case k3 => k_asm); (case k4 => k_asm); (case k5 => k_asm); (case k6 => k_is); (case k7 => k_is); (case k8 => ktr_room); (case k9 => first | exact BindsTo.of_eq rfl | exact binds_K (by k_in) rfl (by k_is) rfl rfl rfl); (case c5 => decide); (case kB => exact locs rfl); (case kS => exact fun _ z => nomatch z); (case c2 => exact rfl); (case c3 => exact rfl); (case c4 => exact rfl); k_whole; intro g' L' h' FG' F' N' B' X' T'; (try dsimp only); (try k_fold))
  k_steps
  all_goals (rename (∀ l, News _ _ _ _ → News _ _ _ _) => up9; refine' hret _ _ _ ?hF ?hN; (case hN => (refine' up9 [] ?hN9; (case hN9 => (refine' cb_drop ?cbN ?cbS; (case cbN => assumption); (case cbS => (intro p hp; (repeat (first | exact hp | refine List.mem_append.mpr (.inr ?_) | refine List.mem_cons_of_mem _ ?_)))))))); (case hF => assumption))
end

theorem lay57 : True := by
  k_with_none
  trivial
section
variable {prog : Program} {w : World} {A₀ A : Around} {s : Shared} {base h₀ : Heap} {env : Env} {outer : List Env} {L : Addr} {m : Str → Option Value} {rest : List (Addr × Obj)} {K : Frag} {p : Program} {loose : List Str} {mean : ExcName → Option Value} {mg mb : Str → Option Value}
    {R : Result → Shared → Prop} {name qual : Str} {params : Arguments} {body : List Stmt} {scope : Scope} {dV kV doc pm cdv ct oc : Value} {an od : Option Addr} {osl : Array (Option Value)} {f : Addr} {args : Args} {binds : List (Str × Value)}
theorem code_defC (chg keep : List (Addr × Obj)) (B : Below A₀ base outer h₀) (F : Fr h₀ L s.heap m) (X₀ : K.In h₀) (N : News h₀ L s.heap (chg ++ rest)) (T : Top p loose mean mg mb h₀) (hA : A.frames = some (env :: outer)) (hf : env.frame = some L) (hke : env.scope.kind = .function)
    (ho : K.lookup f = some ⟨oc, od, .func (fnOf name qual params body scope dV kV doc pm an cdv ct), osl⟩) (hcd : codeIn K cdv qual = true) (hroom : A.depth < recursionLimit)
    (hbind : BindsTo s (fnOf name qual params body scope dV kV doc pm an cdv ct) args binds) (hloc : ∀ y ∈ binds, scope.names.lookup y.1 = some .local)
    (hkeep : ∀ q ∈ keep, q ∈ rest) (hoff : ∀ q ∈ rest, q.1 ∉ chg.map (·.1))
    (h : ∀ g L' h₁, Fr h₀ L g m → Fr g L' h₁ (fun y => binds.reverse.lookup y) → News g L' h₁ (chg ++ keep) → Below A base (env :: outer) g → K.In g → Top p loose mean mg mb g →
      wpAny (model prog w) (A.deeper (envOf qual scope L' f cdv)) (execs body (envOf qual scope L' f cdv))
        (fun fl s' => LeaveK h₀ L m g (fun r s'' => (∀ l, News h₀ L s''.heap (l ++ keep) → News h₀ L s''.heap (l ++ rest)) → R r s'') (match fl with | .ret v => v | _ => .none) s')
        (fun e s' => wpAny (model prog w) (A.deeper (envOf qual scope L' f cdv)) (leaving (envOf qual scope L' f cdv) e) (fun _ s'' => R (.error e) s'') (fun e' s'' => R (.error e') s'') s')
        { s with heap := h₁, toks := s.toks + binds.length })
    (hco : scope.isCoroutine = false) (hgen : scope.isGenerator = false) (hk : scope.kind = .function)
    (hcell : ∀ x ∈ scope.names, x.2 ≠ .cell) : codeAny (model prog w) A (.call (.ref f) args) R s := by
  have X := X₀.keeps F.keep
  have hck : ∀ q ∈ chg ++ keep, q ∈ chg ++ rest := fun q hq => (List.mem_append.mp hq).elim (fun h => List.mem_append.mpr (.inl h)) fun h => List.mem_append.mpr (.inr (hkeep q h))
  have Ns : News h₀ L s.heap (chg ++ keep) := fun q hq => N q (hck q hq)
  refine codeAny_call_def (fd := fnOf name qual params body scope dV kV doc pm an cdv ct) (body := body) (binds := binds) hroom (X _ _ ho) rfl (T.nolimit.keeps F.keep) (codeRec_of X hcd) rfl hbind hcell hloc (fun h₁ hns hk₁ => ?_) hco hgen hk
  obtain ⟨FG, BG, st, lv⟩ := groundX (R := fun r s'' => (∀ l, News h₀ L s''.heap (l ++ keep) → News h₀ L s''.heap (l ++ rest)) → R r s'') B F Ns hA hf hke
  refine wpAny_mono (h _ s.heap.objs.size h₁ FG ⟨hns, fun b o e => hk₁ b o (of_hideAll _ e), Nat.le_of_eq (hideAll_size _ _)⟩
    (fun q hq => ⟨hk₁ _ _ (Ns q hq).1, Nat.ne_of_lt (Heap.lt_size (Ns q hq).1), hideAll_none _ (List.mem_map_of_mem hq)⟩) BG (X₀.keeps st) (T.keeps st)) (fun fl s' hl => ?_) fun _ _ y => y
  have hl' := hl
  obtain ⟨L', m', news', F', N', k⟩ := hl'
  refine lv _ _ hl fun l NL q hq => ?_
  rcases List.mem_append.mp hq with hq | hq
  · exact NL q (List.mem_append.mpr (.inl hq))
  · have Nq := N q (List.mem_append.mpr (.inr hq))
    by_cases hin : q.1 ∈ (chg ++ keep).map (·.1)
    · obtain ⟨r, hr, e⟩ := List.mem_map.mp hin
      rcases List.mem_append.mp hr with hr1 | hr2
      · exact absurd (e ▸ List.mem_map_of_mem hr1) (hoff q hq)
      · have e1 := Nq.1
        have e2 := (Ns r hr).1
        rw [e, e1] at e2
        have : q = r := Prod.ext e.symm (Option.some.inj e2)
        exact this ▸ NL r (List.mem_append.mpr (.inr hr2))
    · exact ⟨F'.keep _ _ (hideAll_get _ Nq.1 hin), Nq.2⟩
end
theorem dict_obj {prog : Program} {w : World} {A : Around} {E : Value → Shared → Prop} {s : Shared} {h₀ : Heap} {L src : Addr} {m : Str → Option Value} {news : List (Addr × Obj)} {co : Obj} {kv : List (Int × Value)} {Q : Value → Shared → Prop} (F : Fr h₀ L s.heap m) (N : News h₀ L s.heap news)
    (lo : (src == sysModules) = false) (hd : co.IsDictOf (PySem.intKind prog w) kv) (hm : (src, co) ∈ news) (hsz : kv.length ≤ sizeLine)
    (k : ∀ d h' o, Fr h₀ L h' m → News h₀ L h' ((d, o) :: news) → (∀ p ∈ news, p.1 < d) → Q (.ref d) { s with heap := h' }) :
    wpAny (model prog w) A (call (.type "dict") [.ref src]) Q E s := by
  refine kt_call_dict lo (Heap.dictOf_iff.mpr ⟨co, (N _ hm).1, hd⟩) hsz fun h' hm' hs => ?_
  obtain ⟨o', ho', _⟩ := Heap.dictOf_iff.mp hm'
  have N1 := News.push F N { cls := .type "dict", data := .dict #[] }
  exact k _ h' o' ((F.push _).change hs (N1 _ (.head _)).2.1 (N1.fresh (.head _))) (N1.setHead N.apart hs ho') fun p hp => Heap.lt_size (N p hp).1
theorem lay58 : True := by
  (k_with "call type:dict" => (k_here; (with_reducible show wpAny _ _ (call (Value.type "dict") [Value.ref _]) _ _ _); k_dflt (refine' Mine.dict_obj ?F ?N ?a ?b ?c ?z ?_; (case F => k_asm); (case N => k_asm); (case b => with_reducible assumption); (case c => k_mem); (case a => with_reducible assumption); (case z => exact Nat.le_of_ble_eq_true rfl)); intro d' h' o' F' N' l1; (try k_lt l1); (try k_sweep)))
  (k_with "call type:tuple" => (k_here; (with_reducible show wpAny _ _ (call (Value.type "tuple") [Value.ref _]) _ _ _); k_dflt (refine' call_tuple_tup ?T ?_; (case T => exact kun_topT (by k_asm) (by k_asm) (by k_is))); (try dsimp only)))
  trivial

def tabV (l : List Value) (i : Nat) : Value := l.getD i .none
def tabK (l : List Tok) (i : Nat) : Tok := l.getD i 0
section
variable {dp un : Nat} {gd : Option (List Code)} {cn : Str} {cs : Scope} {a : Addr} {ccd : Value} {cl : List (Str × Addr)} {outer : List Env} {A₀ : Around} {base h₀ : Heap} {L : Addr} {m : Str → Option Value} {s : Shared} {Q E : Value → Shared → Prop} {mean : ExcName → Option Value} {mg mb : Str → Option Value} {w : World} {pv : Program} {lv : List Str} {news : List (Addr × Obj)}
end
theorem lay59 : True := by
  (k_with "call builtin:len" => (k_here; (with_reducible show wpAny _ _ (call (Value.builtin "len") [Value.ref _]) _ _ _); k_dflt (refine' Mine.len_tupI ?N ?m ?i ?l ?_; (case N => k_asm); (case m => k_mem); (case i => assumption); (case l => omega)); intro t' tk'; (try dsimp only)))
  (k_with "call type:list" => (k_here; (with_reducible show wpAny _ _ (call (Value.type "list") [Value.ref _]) _ _ _); k_dflt (refine' Mine.list_tupI ?F ?N ?m ?i ?l ?_; (case F => k_asm); (case N => k_asm); (case m => k_mem); (case i => assumption); (case l => omega)); intro D' c' h' F' N' l1; (try k_lt l1); (try k_sweep)))
  (k_with "call ref" => (k_here; (with_reducible show wpAny _ _ (call (Value.ref 89) [Value.int _ _, Value.int _ _, Value.int _ _]) _ _ _); k_dflt (refine' Mine.is_whole ?k1 ?k2 ?k3 ?k4 ?k5 ?kK ?kd  ?_; (case k1 => k_asm); (case k2 => k_asm); (case k3 => k_asm); (case k4 => k_asm); (case k5 => k_asm); (case kK => first | exact rfl | assumption); (case kd => ktr_room);  k_whole; intro h' tk' F' N';  (try dsimp only); (try k_sweep); (try k_fold))))
  (k_with "call ref" => (k_here; (with_reducible show wpAny _ _ (call (Value.ref 252) [Value.ref _]) _ _ _); k_dflt (refine' Mine.check_sizes ?k1 ?k2 ?k3 ?k4 ?k5 ?kK ?kd ?T ?I ?l ?x ?_; (case k1 => k_asm); (case k2 => k_asm); (case k3 => k_asm); (case k4 => k_asm); (case k5 => k_asm); (case kK => first | exact rfl | assumption); (case kd => ktr_room); (case T => first | exact News.isTup (by k_asm) (by k_mem) | exact kun_topT (by k_asm) (by k_asm) (by k_is)); (case I => first | assumption | (repeat (first | exact IntsAre.nil | refine IntsAre.cons _ _ ?_))); (case l => first | assumption | omega | decide); (case x => first | assumption | decide); k_whole; intro h' tk' F' N';  (try dsimp only); (try k_sweep); (try k_fold))))
  (k_with "call ref" => (k_here; (with_reducible show wpAny _ _ (call (Value.ref 266) [Value.ref _, Value.int 0 _]) _ _ _); k_dflt (refine' Mine.chars1 ?k1 ?k2 ?k3 ?k4 ?k5 ?kK ?kd ?a ?b ?c ?d ?_; (case k1 => k_asm); (case k2 => k_asm); (case k3 => k_asm); (case k4 => k_asm); (case k5 => k_asm); (case kK => first | exact rfl | assumption); (case kd => ktr_room); (case b => with_reducible assumption); (case a => with_reducible assumption); (case c => k_mem); (case d => k_mem); k_whole; intro h' tk' F' N';  (try dsimp only); (try k_sweep); (try k_fold))))
  (k_with "call ref" => (k_here; (with_reducible show wpAny _ _ (call (Value.ref 273) [Value.ref _]) _ _ _); k_dflt (refine' Mine.larger1 ?k1 ?k2 ?k3 ?k4 ?k5 ?kK ?kd ?a ?b ?c ?d ?_; (case k1 => k_asm); (case k2 => k_asm); (case k3 => k_asm); (case k4 => k_asm); (case k5 => k_asm); (case kK => first | exact rfl | assumption); (case kd => ktr_room); (case b => with_reducible assumption); (case a => with_reducible assumption); (case c => k_mem); (case d => k_mem); k_whole; intro h' tk' F' N';  (try dsimp only); (try k_sweep); (try k_fold))))
  (k_with "call ref" => (k_here; (with_reducible show wpAny _ _ (call (Value.ref 280) [Value.ref 389, Value.ref 390, Value.ref _, Value.int 256 _]) _ _ _); k_dflt (refine' Mine.program1 ?k1 ?k2 ?k3 ?k4 ?k5 ?kK ?kd  ?_; (case k1 => k_asm); (case k2 => k_asm); (case k3 => k_asm); (case k4 => k_asm); (case k5 => k_asm); (case kK => first | exact rfl | assumption); (case kd => ktr_room);  k_whole; intro h' tk' F' N';  (try dsimp only); (try k_sweep); (try k_fold))))
  (k_with "call ref" => (k_here; (with_reducible show wpAny _ _ (call (Value.ref 287) [Value.ref 389]) _ _ _); k_dflt (refine' Mine.left1 ?k1 ?k2 ?k3 ?k4 ?k5 ?kK ?kd  ?_; (case k1 => k_asm); (case k2 => k_asm); (case k3 => k_asm); (case k4 => k_asm); (case k5 => k_asm); (case kK => first | exact rfl | assumption); (case kd => ktr_room);  k_whole; intro t' h' tk' F' N';  (try dsimp only); (try k_sweep); (try k_fold))))
  trivial
section
variable {dp un : Nat} {gd : Option (List Code)} {cn : Str} {cs : Scope} {a : Addr} {ccd : Value} {cl : List (Str × Addr)} {outer : List Env} {A₀ : Around} {base h₀ : Heap} {L : Addr} {m : Str → Option Value} {s : Shared} {Q E : Value → Shared → Prop} {mean : ExcName → Option Value} {mg mb : Str → Option Value} {w : World} {pv : Program} {lv : List Str} {news : List (Addr × Obj)}

theorem off2 {news : List (Addr × Obj)} {x d : Addr} {o1 o2 : Obj} (l1 : ∀ p ∈ news, p.1 < d) (l2 : d < x) : ∀ q ∈ news, q.1 ∉ [(x, o1), (d, o2)].map (·.1) := fun q hq hin => by
  have h := l1 q hq
  rcases List.mem_cons.mp hin with e | hin
  · exact absurd (Nat.lt_trans h l2) (e ▸ Nat.lt_irrefl _)
  · exact absurd h ((List.mem_singleton.mp hin) ▸ Nat.lt_irrefl _)
theorem font_new (B : Below A₀ base outer h₀) (F : Fr h₀ L s.heap m) (X : (Mine.hd.heap_1 w.params).In h₀) (N : News h₀ L s.heap news) (T : Top pv lv mean mg mb h₀) (hk : cs.kind = .function) (hd : dp + 7 < recursionLimit) {cd D : Addr} {co : Obj} {t1 t2 t3 t4 t5 t6 : Tok} (hlo : (cd == sysModules) = false) (hdk : co.IsDictOf (PySem.intKind PySem.Challenge.rw_sq0037_01.row.prog w) [(65, .ref D)]) (hcd : (cd, co) ∈ news) (hD : (D, tupObj [.int 327680 t1, .int 0 t2, .int 0 t3, .int 0 t4, .int 0 t5, .int 0 t6]) ∈ news) {pr : Addr} {ps : List Value} {xs : List Int} (hp : (pr, tupObj ps) ∈ news) (hi : IntsAre ps xs) (hl : xs.length ≤ 8) (hxs : ∀ v ∈ xs, -1073741823 ≤ v ∧ v ≤ 1073741823) {u1 u2 u3 u4 : Tok}
  (hret : ∀ f d pl ks vs pn h' tk', Fr h₀ L h' m → News h₀ L h' ((f, instObj 377 d) :: (d, fObj w pl ks vs) :: (pl, listOf ps.toArray pn) :: news) → Q (.ref f) { s with heap := h', toks := tk' }) :
  wpAny (model PySem.Challenge.rw_sq0037_01.row.prog w) (ktrTop dp un gd cn cs L a ccd cl outer) (call (.ref 377) [.int 1 u1, .str (Str.ofString "f" ++ Str.ofString "a") u2, .int 655360 u3, .ref pr, .ref cd, .ref 389, .ref 390, .int 256 u4]) Q E s := by
  k_dflt (refine' call_cls ?k1 ?k2 ?k3 ?k4 ?k5 ?k6 ?_; (case k1 => k_asm); (case k2 => k_asm); (case k3 => k_asm); (case k4 => k_is); (case k5 => k_is); (case k6 => k_is); k_whole; intro x' d' h' F' N' l1 l2)
  have l3 := And.intro (ltN (l1 _ hcd)) (And.intro (ltN (l1 _ hD)) (ltN (l1 _ hp)))
  dsimp only at l3
  have l4 : ∀ q ∈ news, q.1 ∉ [(x', instObj 377 d'), (d', dictOf [] 0)].map (·.1) := Mine.off2 l1 l2
  k_lt2 l2
  k_dflt (refine' Mine.code_defC [(x', instObj 377 d'), (d', dictOf [] 0)] [(cd, co), (D, tupObj [.int 327680 t1, .int 0 t2, .int 0 t3, .int 0 t4, .int 0 t5, .int 0 t6]), (pr, tupObj ps)] ?k1 ?k2 ?k3 ?k4 ?k5 ?kA ?kF ?kK ?k6 ?k7 ?k8 ?k9 ?kB ?kS ?kO ?_ ?c2 ?c3 ?c4 ?c5; (case kA => exact rfl); (case kF => exact rfl); (case kK => first | exact rfl | assumption); (case k1 => k_asm); (case k2 => k_asm); (case k3 => k_asm); (case k4 => k_asm); (case k5 => k_asm); (case k6 => k_is); (case k7 => k_is); (case k8 => ktr_room); (case k9 => first | exact BindsTo.of_eq rfl | exact binds_K (by k_in) rfl (by k_is) rfl rfl rfl); (case c5 => decide); (case kB => exact locs rfl); (case kS => exact List.forall_mem_cons.mpr ⟨hcd, List.forall_mem_cons.mpr ⟨hD, List.forall_mem_cons.mpr ⟨hp, fun _ z => nomatch z⟩⟩⟩); (case kO => exact l4); (case c2 => exact rfl); (case c3 => exact rfl); (case c4 => exact rfl); k_whole; intro g' L' h' FG' F' N' B' X' T'; (simp only [List.cons_append, List.nil_append] at N'); (try dsimp only); (try k_fold))
  k_steps
  
  
  all_goals (rename (∀ l, News _ _ _ _ → News _ _ _ _) => up9; refine' hret _ _ _ (tabK [_, _, _, _, _, _, _, _, _, _, _, _, _]) (tabV [_, _, _, _, _, .none, _, _, _, _, _, _, _]) _ _ _ ?hF ?hN; (case hN => (refine' up9 [_, _, _] ?hN9; (case hN9 => (refine' cb_drop ?cbN ?cbS; (case cbN => assumption); (case cbS => (refine List.forall_mem_cons.mpr ⟨?_, List.forall_mem_cons.mpr ⟨?_, List.forall_mem_cons.mpr ⟨?_, ?_⟩⟩⟩; k_mem; k_mem; k_mem; (intro p hp; (repeat (first | exact hp | refine List.mem_append.mpr (.inr ?_) | refine List.mem_cons_of_mem _ ?_))))))))); (case hF => assumption))
end

theorem lay60 : True := by
  k_with_none
  trivial
section
variable {dp un : Nat} {gd : Option (List Code)} {cn : Str} {cs : Scope} {a : Addr} {ccd : Value} {cl : List (Str × Addr)} {outer : List Env} {A₀ : Around} {base h₀ : Heap} {L : Addr} {m : Str → Option Value} {s : Shared} {Q E : Value → Shared → Prop} {mean : ExcName → Option Value} {mg mb : Str → Option Value} {w : World} {pv : Program} {lv : List Str} {news : List (Addr × Obj)}
end
theorem lay61 : True := by
  (k_with "subscriptTail Name Slice ref ref" => (k_here; (with_reducible show wpAny _ _ (subscriptTail _ (PySem.Expr.Slice _ _ none _) (Value.ref _) (Value.ref _)) _ _ _); k_dflt (refine' Mine.slice17 ?F ?N ?m ?s ?g ?_; (case F => k_asm); (case N => k_asm); (case m => k_mem); (case s => with_unfolding_all rfl); (case g => kmk_pure)); intro D' h' F' N' l1; (try k_lt l1); (try k_sweep)))
  (k_with "subscriptTail Name Slice ref ref" => (k_here; (with_reducible show wpAny _ _ (subscriptTail _ (PySem.Expr.Slice _ _ none _) (Value.ref _) (Value.ref _)) _ _ _); k_dflt (refine' Mine.slice4 ?F ?N ?m ?s ?g ?_; (case F => k_asm); (case N => k_asm); (case m => k_mem); (case s => with_unfolding_all rfl); (case g => kmk_pure)); intro D' h' F' N' l1; (try k_lt l1); (try k_sweep)))
  (k_with "call ref" => (k_here; (with_reducible show wpAny _ _ (call (Value.ref 89) [Value.int _ _, Value.int _ _, Value.int _ _]) _ _ _); k_dflt (refine' Mine.is_whole ?k1 ?k2 ?k3 ?k4 ?k5 ?kK ?kd  ?_; (case k1 => k_asm); (case k2 => k_asm); (case k3 => k_asm); (case k4 => k_asm); (case k5 => k_asm); (case kK => first | exact rfl | assumption); (case kd => ktr_room);  k_whole; intro h' tk' F' N';  (try dsimp only); (try k_sweep); (try k_fold))))
  (k_with "call ref" => (k_here; (with_reducible show wpAny _ _ (call (Value.ref 377) _) _ _ _); k_dflt (refine' Mine.font_new ?k1 ?k2 ?k3 ?k4 ?k5 ?kK ?kd ?a ?b ?c ?d ?hp ?hi ?hl ?hxs ?_; (case k1 => k_asm); (case k2 => k_asm); (case k3 => k_asm); (case k4 => k_asm); (case k5 => k_asm); (case kK => first | exact rfl | assumption); (case kd => ktr_room); (case b => with_reducible assumption); (case a => with_reducible assumption); (case c => k_mem); (case d => k_mem); (case hp => k_mem); (case hi => assumption); (case hl => assumption); (case hxs => assumption); k_whole; intro f' d' pl' ks' vs' pn' h' tk' F' N';  (try dsimp only); (try k_sweep); (try k_fold))))
  trivial
section
variable {dp un : Nat} {gd : Option (List Code)} {cn : Str} {cs : Scope} {a : Addr} {ccd : Value} {cl : List (Str × Addr)} {outer : List Env} {A₀ : Around} {base h₀ : Heap} {L : Addr} {m : Str → Option Value} {s : Shared} {Q E : Value → Shared → Prop} {mean : ExcName → Option Value} {mg mb : Str → Option Value} {w : World} {pv : Program} {lv : List Str} {news : List (Addr × Obj)}

theorem font_rows (B : Below A₀ base outer h₀) (F : Fr h₀ L s.heap m) (X : (Mine.hd.heap_1 w.params).In h₀) (N : News h₀ L s.heap news) (T : Top pv lv mean mg mb h₀) (hk : cs.kind = .function) (hd : dp + 8 < recursionLimit) {ra ro pr : Addr} {ps : List Value} {xs : List Int} {rn : Nat} {t0 t1 t2 t3 t4 : Tok} (hp : (pr, tupObj ps) ∈ news) (hi : IntsAre ps xs) (hl : xs.length ≤ 8) (hxs : ∀ v ∈ xs, -1073741823 ≤ v ∧ v ≤ 1073741823)
  (hra : (ra, listOf #[.ref ro] rn) ∈ news) (hro : (ro, tupObj [.int 65 t1, .int 327680 t2, .int 0 t3, .int 0 t4]) ∈ news)
  (hret : ∀ f d pl ks vs pn h' tk', Fr h₀ L h' m → News h₀ L h' ((f, instObj 377 d) :: (d, fObj w pl ks vs) :: (pl, listOf ps.toArray pn) :: news) → Q (.ref f) { s with heap := h', toks := tk' }) :
  wpAny (model PySem.Challenge.rw_sq0037_01.row.prog w) (ktrTop dp un gd cn cs L a ccd cl outer) (call (.ref 398) [.int 1 t0, .ref ra, .ref pr]) Q E s := by
  refine wpAny_call ?_
  k_dflt (refine' Mine.code_defS [(ra, listOf #[.ref ro] rn), (ro, tupObj [.int 65 t1, .int 327680 t2, .int 0 t3, .int 0 t4]), (pr, tupObj ps)] ?k1 ?k2 ?k3 ?k4 ?k5 ?kA ?kF ?kK ?k6 ?k7 ?k8 ?k9 ?kB ?kS ?_ ?c2 ?c3 ?c4 ?c5; (case kA => exact rfl); (case kF => exact rfl); (case kK => first | exact rfl | assumption); (case k1 => k_asm); (case k2 => k_asm); (case k3 => k_asm); (case k4 => k_asm); (case k5 => k_asm); (case k6 => k_is); (case k7 => k_is); (case k8 => ktr_room); (case k9 => first | exact BindsTo.of_eq rfl | exact binds_K (by k_in) rfl (by k_is) rfl rfl rfl); (case c5 => decide); (case kB => exact locs rfl); (case kS => exact List.forall_mem_cons.mpr ⟨hra, List.forall_mem_cons.mpr ⟨hro, List.forall_mem_cons.mpr ⟨hp, fun _ z => nomatch z⟩⟩⟩); (case c2 => exact rfl); (case c3 => exact rfl); (case c4 => exact rfl); k_whole; intro g' L' h' FG' F' N' B' X' T'; (try dsimp only); (try k_fold))
  k_steps
  
  
  all_goals (rename (∀ l, News _ _ _ _ → News _ _ _ _) => up9; refine' hret _ _ _ _ _ _ _ _ ?hF ?hN; (case hN => (refine' up9 [_, _, _] ?hN9; (case hN9 => (refine' cb_drop ?cbN ?cbS; (case cbN => assumption); (case cbS => (refine List.forall_mem_cons.mpr ⟨?_, List.forall_mem_cons.mpr ⟨?_, List.forall_mem_cons.mpr ⟨?_, ?_⟩⟩⟩; k_mem; k_mem; k_mem; (intro p hp; (repeat (first | exact hp | refine List.mem_append.mpr (.inr ?_) | refine List.mem_cons_of_mem _ ?_))))))))); (case hF => assumption))
end

theorem lay62 : True := by
  k_with_none
  trivial

def pN (l : List Stmt) (i : Nat) : Stmt := l.getD i default
def pB (o : Option Obj) : List Stmt := match o with
  | some ⟨_, _, .func fd, _⟩ => (match fd.body with | .stmts b => b | _ => [])
  | _ => []
def pSc (o : Option Obj) (d : Scope) : Scope := match o with
  | some ⟨_, _, .func fd, _⟩ => fd.scope
  | _ => d
def pQ (o : Option Obj) (d : Str) : Str := match o with
  | some ⟨_, _, .func fd, _⟩ => fd.qualname
  | _ => d
def pFor : Stmt → List Stmt
  | .For _ _ b _ _ => b
  | _ => []
def pTg (d : PySem.Expr) : Stmt → PySem.Expr
  | .For t _ _ _ _ => t
  | _ => d
def pIt (d : PySem.Expr) : Stmt → PySem.Expr
  | .For _ t _ _ _ => t
  | _ => d
def pOre : Stmt → List Stmt
  | .For _ _ _ r _ => r
  | _ => []
def pTst (d : PySem.Expr) : Stmt → PySem.Expr
  | .If t _ _ _ => t
  | _ => d
def pThn : Stmt → List Stmt
  | .If _ b _ _ => b
  | _ => []
def pEls : Stmt → List Stmt
  | .If _ _ b _ => b
  | _ => []
section
variable {prog : Program} {w : World} {A : Around} {E : Value → Shared → Prop} {s : Shared} {env : Env} {h₀ : Heap} {target : PySem.Expr} {body : List Stmt} {Q : Flow → Shared → Prop} {ws : List (Addr × String)} {keep : List (Addr × Obj)}
theorem allObj_mono : ∀ {ws : List (Addr × String)} {k k' : List (Addr × Obj) → Prop}, AllObj ws k → (∀ its, k its → k' its) → AllObj ws k'
  | [], _, _, h, f => f _ h
  | _ :: _, _, _, h, f => fun o e => allObj_mono (h o e) fun its => f _
theorem unrPost_mono {L : Addr} {s₁ : Shared} {its : List (Addr × Obj)} {r r' : (Str → Option Value) → List (Addr × Obj) → Prop} (f : ∀ m n, r m n → r' m n) : ∀ fl s₂, UnrPostW h₀ L s₁ its r Q fl s₂ → UnrPostW h₀ L s₁ its r' Q fl s₂
  | .ret _, _, h => h
  | .brk, _, h => h
  | .next, _, ⟨h', tk, m', n', a, b, c, d, e⟩ => ⟨h', tk, m', n', a, b, c, d, f _ _ e⟩
  | .cont, _, ⟨h', tk, m', n', a, b, c, d, e⟩ => ⟨h', tk, m', n', a, b, c, d, f _ _ e⟩
theorem items_ind (J : List Itm → (Str → Option Value) → List (Addr × Obj) → Prop)
    (turn : ∀ a r m nw v h tk, J (a :: r) m nw → a.Is v h → Fr h₀ env.locals h m → AllObj ws (fun its => News h₀ env.locals h (its ++ nw) →
      wpAny (model prog w) A (assign target env v) (fun _ s₂ => wpAny (model prog w) A (execs body env) (UnrPostW h₀ env.locals { s with heap := h, toks := tk } its (fun m' n' => SubL keep n' ∧ J r m' n') Q) E s₂) E { s with heap := h, toks := tk }))
    (done : ∀ m nw h tk, J [] m nw → Fr h₀ env.locals h m → News h₀ env.locals h nw → Q .next { s with heap := h, toks := tk }) :
    ∀ xs m nw, J xs m nw → ItemsRest prog w A E h₀ env target body Q s ws keep xs m nw
  | [], m, nw, hJ => fun h tk F N => done m nw h tk hJ F N
  | a :: r, m, nw, hJ => fun v h tk e F => allObj_mono (turn a r m nw v h tk hJ e F) fun its k N =>
      wpAny_mono (k N) (fun _ _ q => wpAny_mono q (fun fl s₂ => unrPost_mono (fun m' n' z => ⟨z.1, items_ind J turn done r m' n' z.2⟩) fl s₂) fun _ _ e => e) fun _ _ e => e
end
theorem map_has2 {m : Str → Option Value} {a b : Str} {va vb : Option Value} (ha : m a = va) (hb : m b = vb) : m = fun y => if y = a then va else if y = b then vb else m y := by
  funext y
  by_cases h1 : y = a
  · rw [if_pos h1, h1, ha]
  · rw [if_neg h1]
    by_cases h2 : y = b
    · rw [if_pos h2, h2, hb]
    · rw [if_neg h2]
theorem map_has3 {m : Str → Option Value} {a b c : Str} {va vb vc : Option Value} (ha : m a = va) (hb : m b = vb) (hc : m c = vc) : m = fun y => if y = a then va else if y = b then vb else if y = c then vc else m y := by
  funext y
  by_cases h1 : y = a
  · rw [if_pos h1, h1, ha]
  · rw [if_neg h1]
    by_cases h2 : y = b
    · rw [if_pos h2, h2, hb]
    · rw [if_neg h2]
      by_cases h3 : y = c
      · rw [if_pos h3, h3, hc]
      · rw [if_neg h3]
theorem fr_has3 {h₀ h : Heap} {L : Addr} {m : Str → Option Value} {a b c : Str} {va vb vc : Option Value} (F : Fr h₀ L h m) (ha : m a = va) (hb : m b = vb) (hc : m c = vc) : Fr h₀ L h (fun y => if y = a then va else if y = b then vb else if y = c then vc else m y) := by
  rw [← map_has3 ha hb hc]; exact F
theorem put_len {c : List (Int × Int)} {k v : Int} : (kdfPut c k v).length ≤ c.length + 1 := by
  unfold kdfPut
  split
  · rw [List.length_map]; omega
  · rw [List.length_append]; simp
section
variable {dp un : Nat} {gd : Option (List Code)}      {A₀ : Around} {base h₀ : Heap} {L : Addr} {m : Str → Option Value} {s : Shared} {Q : Flow → Shared → Prop} {E : Value → Shared → Prop} {mean : ExcName → Option Value} {mg mb : Str → Option Value} {w : World} {pv : Program} {lv : List Str} {news : List (Addr × Obj)}
variable {cn : Str} {a : Addr} {ccd : Value} {name qual : Str} {params : Arguments} {s1 s2 s3 s4 s5 b1 lp rt : Stmt} {tg it tst : PySem.Expr} {t1 t2 t3 e1 e2 e3 e4 e5 e6 : Stmt} {ore : List Stmt} {ps ps2 pos : Pos} {scope : Scope} {dV kV doc pm cdv ct oc : Value} {an od : Option Addr} {osl : Array (Option Value)}
end
theorem lay63 : True := by
  (k_with "call ref" => (k_here; (with_reducible show wpAny _ _ (call (Value.ref 367) [Value.ref _, Value.int _ _]) _ _ _); k_dflt (refine' Mine.param ?k1 ?k2 ?k3 ?k4 ?k5 ?kK ?kd ?hf ?hfd ?hp ?hi ?hl ?_; (case k1 => k_asm); (case k2 => k_asm); (case k3 => k_asm); (case k4 => k_asm); (case k5 => k_asm); (case kK => first | exact rfl | assumption); (case kd => ktr_room); (case hf => k_mem); (case hfd => k_mem); (case hp => k_mem); (case hi => assumption); (case hl => assumption); k_whole; intro t' h' tk' F' N';  (try dsimp only); (try k_sweep); (try k_fold))))
  trivial
section
variable {dp un : Nat} {gd : Option (List Code)}      {A₀ : Around} {base h₀ : Heap} {L : Addr} {m : Str → Option Value} {s : Shared} {Q : Flow → Shared → Prop} {E : Value → Shared → Prop} {mean : ExcName → Option Value} {mg mb : Str → Option Value} {w : World} {pv : Program} {lv : List Str} {news : List (Addr × Obj)}
variable {cn : Str} {a : Addr} {ccd : Value} {name qual : Str} {params : Arguments} {s1 s2 s3 s4 s5 b1 lp rt : Stmt} {tg it tst : PySem.Expr} {t1 t2 t3 e1 e2 e3 e4 e5 e6 : Stmt} {ore : List Stmt} {ps ps2 pos : Pos} {scope : Scope} {dV kV doc pm cdv ct oc : Value} {an od : Option Addr} {osl : Array (Option Value)}

theorem params16 (ho : (Mine.hd.heap_1 w.params).lookup 489 = some ⟨oc, od, .func (fnOf name qual params [s1, s2, s3, s4, s5, .For tg it [b1, .If tst [t1, t2, t3] [e1, e2, e3, e4, e5, e6] ps, lp] ore pos, rt] scope dV kV doc pm an cdv ct), osl⟩) (B : Below A₀ h₀ [] h₀) (X : (Mine.hd.heap_1 w.params).In h₀) (T : Top pv lv mean mg mb h₀) (hd : dp + 40 < recursionLimit) (hu : un + 2000 < cLine) (hE : PassesOwn (model PySem.Challenge.rw_sq0037_01.row.prog w) (ktrTop dp un gd qual scope L a ccd [(Str.ofString "bag", L + 1)] []) (envX qual scope L a ccd [(Str.ofString "bag", L + 1)]) E) {m : Str → Option Value} {l f d pl kd : Addr} (F : Fr h₀ L s.heap (fun y => if y = Str.ofString "script" then some (.ref l) else if y = Str.ofString "font" then some (.ref f) else if y = Str.ofString "known" then some (.ref kd) else m y)) (N : News h₀ L s.heap news) {ks : Nat → Tok} {vs : Nat → Value} {qs : List Value} {xs : List Int} {pn : Nat} {ko : Obj} {kvs : List (Int × Value)} {c : List (Int × Int)} (hf : (f, instObj 377 d) ∈ news) (hfd : (d, fObj w pl ks vs) ∈ news) (hp : (pl, listOf qs.toArray pn) ∈ news) (hk : (kd, ko) ∈ news) (hi : IntsAre qs xs) (hl : xs.length ≤ 64) (hlo : (kd == sysModules) = false) (hdk : ko.IsDictOf (PySem.intKind PySem.Challenge.rw_sq0037_01.row.prog w) kvs) (hfk : PyProof.V.FlatPairs PyData.int kvs (kdfD c)) (hg : ∀ n, parZ xs n = kdfLook c n 0)
  (hret : ∀ (m' : Str → Option Value) h' tk', Fr h₀ L h' (fun y => if y = Str.ofString "script" then some (.ref l) else if y = Str.ofString "font" then some (.ref f) else if y = Str.ofString "known" then some (.ref kd) else m' y) → News h₀ L h' news → Q .next { s with heap := h', toks := tk' }) :
  wpAny (model PySem.Challenge.rw_sq0037_01.row.prog w) (ktrTop dp un gd qual scope L a ccd [(Str.ofString "bag", L + 1)] []) (exec lp (envX qual scope L a ccd [(Str.ofString "bag", L + 1)])) Q E s := by
  have eo := ho.symm.trans (by k_is)
  have hq8 : qual = _ := congrArg (fun o => pQ o qual) eo
  have hq9 : scope = _ := congrArg (fun o => pSc o scope) eo
  have hp0 : lp = _ := congrArg (fun o => pN (pFor (pN (pB o) 5)) 2) eo
  clear eo ho
  dsimp only [pQ, pSc, pB, pFor, pThn, pEls, pTst, pTg, pIt, pOre, pN, fnOf, List.getD, List.getElem?_cons_zero, List.getElem?_cons_succ, Option.getD] at hq8 hq9 hp0
  subst hq8 hq9 hp0
  refine @For_turns _ _ _ _ _ (envX _ _ L a ccd [(Str.ofString "bag", L + 1)]) h₀ _ _ _ _ _ _ F ?_ (fun _ => rfl) hE
  repeat' (first | (k_unfold; (try dsimp only)) | ((fail_if_success (with_reducible show wpAny _ _ (pyIter (Value.ref _)) (fun it s₂ => TurnsAt _ _ _ _ _ _ _ _ _ it s₂) _ _)); first | walk1 | (dsimp only; walk1)))
  rename (Fr _ _ _ _) => F9
  rename (News _ _ _ _) => N9
  refine iter_tupTurns rfl F9 N9 (.head _) rfl rfl ?_
  intro I lI
  refine items_ind (fun r m' nw => nw = _ :: news ∧ (∃ m₁ : Str → Option Value, m' = fun y => if y = Str.ofString "script" then some (.ref l) else if y = Str.ofString "font" then some (.ref f) else if y = Str.ofString "known" then some (.ref kd) else m₁ y) ∧ ∀ i ∈ r, ∃ k t, i = Itm.val (.int k t)) ?_ ?_ _ _ _ ⟨rfl, ⟨m, rfl⟩, ?_⟩
  · have lI' := fun p hp => Nat.ne_of_lt (lI p hp)
    clear F9 N9 lI
    rintro i r m₁ nw v h8 tk8 ⟨rfl, ⟨m₂, rfl⟩, hall⟩ ha F8
    obtain ⟨k, t, rfl⟩ := hall i (.head _)
    have hall' : ∀ i ∈ r, ∃ k t, i = Itm.val (.int k t) := fun i hi => hall i (.tail _ hi)
    clear hall
    replace ha : v = .int k t := ha
    subst ha
    refine AllObj.cons (fun o' hc' => AllObj.nil (fun N8 => ?_))
    simp only [List.cons_append, List.nil_append] at N8
    k_steps
    · exact absurd (hg k) (by assumption)
    · rename (Fr _ _ _ _) => F7
      rename (News _ _ _ _) => N7
      refine ⟨_, _, _, _ :: news, rfl, F7, fun p hp => N7 p ?_, fun p hp q hq => ?_, ⟨.head _, trivial⟩, rfl, ⟨_, map_has3 (by rfl) (by rfl) (by rfl)⟩, hall'⟩
      · rcases List.mem_append.mp hp with hp | hp
        · rw [List.mem_singleton.mp hp]; exact .head _
        · exact .tail _ hp
      · rw [List.mem_singleton.mp hq]; exact lI' p hp
  · rintro m₁ nw h8 tk8 ⟨rfl, ⟨m₂, rfl⟩, _⟩ F8 N8
    exact hret m₂ h8 tk8 F8 (news_tail N8)
  · (intro i hi; simp at hi; rcases hi with h | h | h | h | h | h | h | h | h | h | h | h | h | h | h | h <;> exact ⟨_, _, h⟩)
end

theorem lay64 : True := by
  k_with_none
  trivial
theorem menu_at {prog : Program} {w : World} {A : Around} {E : Value → Shared → Prop} {s : Shared} {value slice : PySem.Expr} {t : Addr} {vs : List Value} {r : Int} {u : Tok} {Q : Value → Shared → Prop} (P : Value → Prop)
    (ht : IsTup s.heap t vs.toArray) (h0 : 0 ≤ r) (h1 : r < (vs.length : Int)) (hz : vs.length ≤ 1000) (hP : ∀ v ∈ vs, P v)
    (hs : subscripted slice false (.ref t) (.int r u) = operate [.ref t, .int r u] (getItem (.ref t) (.int r u))) (h : ∀ v, P v → Q v s) :
    wpAny (model prog w) A (subscriptTail value slice (.ref t) (.int r u)) Q E s := by
  have hb : r.toNat < vs.length := by omega
  exact item_tupleT ht (by omega) (by omega) (seqIndex_of h0 h1) (List.getElem?_eq_getElem hb) (h _ (hP _ (List.getElem_mem hb))) hs
section
variable {dp un : Nat} {gd : Option (List Code)}      {A₀ : Around} {base h₀ : Heap} {m : Str → Option Value} {s : Shared} {Q : Flow → Shared → Prop} {E : Value → Shared → Prop} {mean : ExcName → Option Value} {mg mb : Str → Option Value} {w : World} {pv : Program} {lv : List Str} 
variable {cn : Str} {a : Addr} {ccd : Value} {name qual : Str} {params : Arguments} {s1 s2 s3 s4 s5 b1 lp rt : Stmt} {tg it tst : PySem.Expr} {t1 t2 t3 e1 e2 e3 e4 e5 e6 : Stmt} {ore : List Stmt} {ps ps2 pos : Pos} {scope : Scope} {dV kV doc pm cdv ct oc : Value} {an od : Option Addr} {osl : Array (Option Value)}
end
theorem lay65 : True := by
  (k_with "call ref" => (k_here; (with_reducible show wpAny _ _ (call (Value.ref 442) [Value.ref _, Value.int _ _]) _ _ _); k_dflt (refine' Mine.draw ?k1 ?k2 ?k3 ?k4 ?k5 ?kK ?kd ?U ?y1 ?y2 ?z1 ?z2 ?m1 ?m2 ?_; (case k1 => k_asm); (case k2 => k_asm); (case k3 => k_asm); (case k4 => k_asm); (case k5 => k_asm); (case kK => first | exact rfl | assumption); (case kd => ktr_room); (case U => k_updF); (case y1 => first | assumption | omega); (case y2 => first | assumption | omega); (case z1 => first | assumption | omega); (case z2 => first | assumption | omega); (case m1 => first | assumption | omega); (case m2 => first | assumption | omega); k_whole; intro d' td' x' tx' z' tz' h' tk' r1' r2' z1' z2' F' N'; (try dsimp only at N'); (try dsimp only); (try k_sweep); (try k_fold))))
  (k_with "subscriptTail" => (k_here; (with_reducible show wpAny _ _ (subscriptTail _ _ (Value.ref _) (Value.int _ _)) _ _ _); k_dflt (refine' Mine.menu_at Mine.WhichV ?T ?a ?b ?z ?P ?s ?_; (case T => exact News.isTup (by k_asm) (by k_mem)); (case a => assumption); (case b => first | assumption | (simp only [List.length_cons, List.length_nil]; omega)); (case z => exact Nat.le_of_ble_eq_true rfl); (case P => (repeat (first | exact List.forall_mem_nil _ | refine List.forall_mem_cons.mpr ⟨by first | exact Or.inl ⟨_, _, rfl⟩ | exact Or.inr ⟨_, rfl⟩ | exact Or.inr (Or.inl ⟨_, rfl⟩) | exact Or.inr (Or.inr rfl), ?_⟩))); (case s => with_unfolding_all rfl)); intro v' hv'; (try dsimp only)))
  trivial
section
variable {dp un : Nat} {gd : Option (List Code)}      {A₀ : Around} {base h₀ : Heap} {m : Str → Option Value} {s : Shared} {Q : Flow → Shared → Prop} {E : Value → Shared → Prop} {mean : ExcName → Option Value} {mg mb : Str → Option Value} {w : World} {pv : Program} {lv : List Str} 
variable {cn : Str} {a : Addr} {ccd : Value} {name qual : Str} {params : Arguments} {s1 s2 s3 s4 s5 b1 lp rt : Stmt} {tg it tst : PySem.Expr} {t1 t2 t3 e1 e2 e3 e4 e5 e6 : Stmt} {ore : List Stmt} {ps ps2 pos : Pos} {scope : Scope} {dV kV doc pm cdv ct oc : Value} {an od : Option Addr} {osl : Array (Option Value)}

theorem pick_which {L bg : Nat} {rest : List (Addr × Obj)} {co : Obj} (hco : co.data = .cell (some (.ref bg))) {x y z : Int} {tx ty tz : Tok} (hy : 0 ≤ y) (hy' : y < 2147483648) (hz : 0 ≤ z) (n1 : bg ≠ L + 1) (hown : OwnOff rest [bg, L + 1]) (hz' : z < 900) (ho : (Mine.hd.heap_1 w.params).lookup 489 = some ⟨oc, od, .func (fnOf name qual params [s1, s2, s3, s4, s5, .For tg it [b1, .If tst [t1, t2, t3] [e1, e2, e3, e4, e5, e6] ps, lp] ore pos, rt] scope dV kV doc pm an cdv ct), osl⟩) (B : Below A₀ h₀ [] h₀) (X : (Mine.hd.heap_1 w.params).In h₀) (T : Top pv lv mean mg mb h₀) (hd : dp + 40 < recursionLimit) (hu : un + 2000 < cLine) {m : Str → Option Value}
  (F : Fr h₀ L s.heap m) (N : News h₀ L s.heap ((bg, listOf #[.int x tx, .int y ty, .int z tz] 0) :: (L + 1, co) :: rest))
  (hret : ∀ v x' tx' z' tz' h' tk', WhichV v → 0 ≤ z' → z' ≤ z + 1 → Fr h₀ L h' (fun y => if y = Str.ofString "which" then some v else m y) → News h₀ L h' ((bg, listOf #[.int x' tx', .int y ty, .int z' tz'] 0) :: (L + 1, co) :: rest) → Q .next { s with heap := h', toks := tk' }) :
  wpAny (model PySem.Challenge.rw_sq0037_01.row.prog w) (ktrTop dp un gd qual scope L a ccd [(Str.ofString "bag", L + 1)] []) (exec t1 (envX qual scope L a ccd [(Str.ofString "bag", L + 1)])) Q E s := by
  have eo := ho.symm.trans (by k_is)
  have hq8 : qual = _ := congrArg (fun o => pQ o qual) eo
  have hq9 : scope = _ := congrArg (fun o => pSc o scope) eo
  have hp0 : t1 = _ := congrArg (fun o => pN (pThn (pN (pFor (pN (pB o) 5)) 1)) 0) eo
  clear eo ho
  dsimp only [pQ, pSc, pB, pFor, pThn, pEls, pTst, pTg, pIt, pOre, pN, fnOf, List.getD, List.getElem?_cons_zero, List.getElem?_cons_succ, Option.getD] at hq8 hq9 hp0
  subst hq8 hq9 hp0
  k_steps
  all_goals (refine' hret _ _ _ _ _ _ _ ?h1 ?h2 ?h3 ?hF ?hN; (case hN => (refine' cb_drop ?cbN ?cbS; (case cbN => assumption); (case cbS => (refine List.forall_mem_cons.mpr ⟨?_, List.forall_mem_cons.mpr ⟨?_, ?_⟩⟩; k_mem; k_mem; (intro p hp; (repeat (first | exact hp | refine List.mem_append.mpr (.inr ?_) | refine List.mem_cons_of_mem _ ?_))))))); (case hF => assumption); (case h1 => assumption); (case h2 => assumption); (case h3 => assumption))
end
section
variable {dp un : Nat} {gd : Option (List Code)}      {A₀ : Around} {base h₀ : Heap} {m : Str → Option Value} {s : Shared} {Q : Flow → Shared → Prop} {E : Value → Shared → Prop} {mean : ExcName → Option Value} {mg mb : Str → Option Value} {w : World} {pv : Program} {lv : List Str} 
variable {cn : Str} {a : Addr} {ccd : Value} {name qual : Str} {params : Arguments} {s1 s2 s3 s4 s5 b1 lp rt : Stmt} {tg it tst : PySem.Expr} {t1 t2 t3 e1 e2 e3 e4 e5 e6 : Stmt} {ore : List Stmt} {ps ps2 pos : Pos} {scope : Scope} {dV kV doc pm cdv ct oc : Value} {an od : Option Addr} {osl : Array (Option Value)}
end
theorem lay66 : True := by
  (k_with "call ref" => (k_here; (with_reducible show wpAny _ _ (call (Value.ref 419) _) _ _ _); k_dflt (refine' Mine.sizes ?k1 ?k2 ?k3 ?k4 ?k5 ?kK ?kd  ?_; (case k1 => k_asm); (case k2 => k_asm); (case k3 => k_asm); (case k4 => k_asm); (case k5 => k_asm); (case kK => first | exact rfl | assumption); (case kd => ktr_room);  k_whole; intro r' t1' t2' t3' t4' t5' t6' t7' t8' t9' h' tk' F' N' l1; (try k_lt l1); (try dsimp only); (try k_sweep); (try k_fold))))
  (k_with "binaryOp Pow int int" => (k_here; (with_reducible show wpAny _ _ (binaryOp Operator.Pow (Value.int 2 _) (Value.int 30 _)) _ _ _); refine Mine.pow230 ?_; (try dsimp only)))
  (k_with "subscriptTail" => (k_here; (with_reducible show wpAny _ _ (subscriptTail _ _ (Value.ref _) (Value.int _ _)) _ _ _); k_dflt (refine' Mine.menu_at Mine.AmountV ?T ?a ?b ?z ?P ?s ?_; (case T => exact News.isTup (by k_asm) (by k_mem)); (case a => assumption); (case b => first | assumption | (simp only [List.length_cons, List.length_nil]; omega)); (case z => exact Nat.le_of_ble_eq_true rfl); (case P => (repeat (first | exact List.forall_mem_nil _ | refine List.forall_mem_cons.mpr ⟨by first | exact Or.inl ⟨_, _, rfl⟩ | exact Or.inr ⟨_, rfl⟩ | exact Or.inr (Or.inl ⟨_, rfl⟩) | exact Or.inr (Or.inr rfl), ?_⟩))); (case s => with_unfolding_all rfl)); intro v' hv'; (try dsimp only)))
  trivial
section
variable {dp un : Nat} {gd : Option (List Code)}      {A₀ : Around} {base h₀ : Heap} {m : Str → Option Value} {s : Shared} {Q : Flow → Shared → Prop} {E : Value → Shared → Prop} {mean : ExcName → Option Value} {mg mb : Str → Option Value} {w : World} {pv : Program} {lv : List Str} 
variable {cn : Str} {a : Addr} {ccd : Value} {name qual : Str} {params : Arguments} {s1 s2 s3 s4 s5 b1 lp rt : Stmt} {tg it tst : PySem.Expr} {t1 t2 t3 e1 e2 e3 e4 e5 e6 : Stmt} {ore : List Stmt} {ps ps2 pos : Pos} {scope : Scope} {dV kV doc pm cdv ct oc : Value} {an od : Option Addr} {osl : Array (Option Value)}

theorem pick_amount {L bg : Nat} {rest : List (Addr × Obj)} {co : Obj} (hco : co.data = .cell (some (.ref bg))) {x y z : Int} {tx ty tz : Tok} (hy : 0 ≤ y) (hy' : y < 2147483648) (hz : 0 ≤ z) (n1 : bg ≠ L + 1) (hown : OwnOff rest [bg, L + 1]) (hz' : z < 900) (ho : (Mine.hd.heap_1 w.params).lookup 489 = some ⟨oc, od, .func (fnOf name qual params [s1, s2, s3, s4, s5, .For tg it [b1, .If tst [t1, t2, t3] [e1, e2, e3, e4, e5, e6] ps, lp] ore pos, rt] scope dV kV doc pm an cdv ct), osl⟩) (B : Below A₀ h₀ [] h₀) (X : (Mine.hd.heap_1 w.params).In h₀) (T : Top pv lv mean mg mb h₀) (hd : dp + 40 < recursionLimit) (hu : un + 2000 < cLine) {m : Str → Option Value}
  (F : Fr h₀ L s.heap m) (N : News h₀ L s.heap ((bg, listOf #[.int x tx, .int y ty, .int z tz] 0) :: (L + 1, co) :: rest))
  (hret : ∀ v x' tx' z' tz' h' tk', AmountV v → 0 ≤ z' → z' ≤ z + 1 → Fr h₀ L h' (fun y => if y = Str.ofString "amount" then some v else m y) → News h₀ L h' ((bg, listOf #[.int x' tx', .int y ty, .int z' tz'] 0) :: (L + 1, co) :: rest) → Q .next { s with heap := h', toks := tk' }) :
  wpAny (model PySem.Challenge.rw_sq0037_01.row.prog w) (ktrTop dp un gd qual scope L a ccd [(Str.ofString "bag", L + 1)] []) (exec t2 (envX qual scope L a ccd [(Str.ofString "bag", L + 1)])) Q E s := by
  have eo := ho.symm.trans (by k_is)
  have hq8 : qual = _ := congrArg (fun o => pQ o qual) eo
  have hq9 : scope = _ := congrArg (fun o => pSc o scope) eo
  have hp0 : t2 = _ := congrArg (fun o => pN (pThn (pN (pFor (pN (pB o) 5)) 1)) 1) eo
  clear eo ho
  dsimp only [pQ, pSc, pB, pFor, pThn, pEls, pTst, pTg, pIt, pOre, pN, fnOf, List.getD, List.getElem?_cons_zero, List.getElem?_cons_succ, Option.getD] at hq8 hq9 hp0
  subst hq8 hq9 hp0
  k_steps
  all_goals (refine' hret _ _ _ _ _ _ _ ?h1 ?h2 ?h3 ?hF ?hN; (case hN => (refine' cb_drop ?cbN ?cbS; (case cbN => assumption); (case cbS => (refine List.forall_mem_cons.mpr ⟨?_, List.forall_mem_cons.mpr ⟨?_, ?_⟩⟩; k_mem; k_mem; (intro p hp; (repeat (first | exact hp | refine List.mem_append.mpr (.inr ?_) | refine List.mem_cons_of_mem _ ?_))))))); (case hF => assumption); (case h1 => assumption); (case h2 => assumption); (case h3 => assumption))
end

theorem lay67 : True := by
  k_with_none
  trivial
section
variable {dp un : Nat} {gd : Option (List Code)}      {A₀ : Around} {base h₀ : Heap} {m : Str → Option Value} {s : Shared} {Q : Flow → Shared → Prop} {E : Value → Shared → Prop} {mean : ExcName → Option Value} {mg mb : Str → Option Value} {w : World} {pv : Program} {lv : List Str} 
variable {cn : Str} {a : Addr} {ccd : Value} {name qual : Str} {params : Arguments} {s1 s2 s3 s4 s5 b1 lp rt : Stmt} {tg it tst : PySem.Expr} {t1 t2 t3 e1 e2 e3 e4 e5 e6 : Stmt} {ore : List Stmt} {ps ps2 pos : Pos} {scope : Scope} {dV kV doc pm cdv ct oc : Value} {an od : Option Addr} {osl : Array (Option Value)}
end
theorem lay68 : True := by
  (k_with "call ref" => (k_here; (with_reducible show wpAny _ _ (call (Value.ref 477) [Value.ref _, _, _]) _ _ _); k_dflt (refine' Mine.law_set ?k1 ?k2 ?k3 ?k4 ?k5 ?kK ?kd ?U ?hf ?hfd ?hi ?hl ?hx ?hw ?ha ?hR ?hS; (case k1 => k_asm); (case k2 => k_asm); (case k3 => k_asm); (case k4 => k_asm); (case k5 => k_asm); (case kK => first | exact rfl | assumption); (case kd => ktr_room); (case hf => k_mem); (case hfd => k_mem); (case U => k_updF); (case hi => assumption); (case hl => assumption); (case hx => assumption); (case hw => assumption); (case ha => assumption); (case' hR => (k_whole; intro word' hrf' t' h' tk' F' N'; (try dsimp only); (try k_sweep); (try k_fold))); (case' hS => (k_whole; intro k' tk' v' tv' e1' e2' q1' q2' q3' q4' t' ps' xs' pn' h' tk2' I' l' g2' b' F' N'; subst e1' e2'; (try dsimp only at N'); (try k_sweep); (try k_fold))))))
  (k_with "call ref" => (k_here; (with_reducible show wpAny _ _ (call (Value.ref 484) [Value.str _ _, Value.ref _, _, _]) _ _ _); k_dflt (refine' Mine.fits_ref ?k1 ?k2 ?k3 ?k4 ?k5 ?kK ?kd ?ku ?ha ?hr ?_; (case k1 => k_asm); (case k2 => k_asm); (case k3 => k_asm); (case k4 => k_asm); (case k5 => k_asm); (case kK => first | exact rfl | assumption); (case kd => ktr_room); (case ku => ktr_units); (case ha => with_reducible assumption); (case hr => with_reducible assumption); k_whole; intro h' tk' F' N';  (try dsimp only); (try k_sweep); (try k_fold))))
  (k_with "call ref" => (k_here; (with_reducible show wpAny _ _ (call (Value.ref 484) [Value.str _ _, Value.ref _, Value.int _ _, Value.int _ _]) _ _ _); k_dflt (refine' Mine.fits_set ?k1 ?k2 ?k3 ?k4 ?k5 ?kK ?kd ?ku ?U ?a ?b ?c ?q1 ?q2 ?q3 ?q4 ?_; (case k1 => k_asm); (case k2 => k_asm); (case k3 => k_asm); (case k4 => k_asm); (case k5 => k_asm); (case kK => first | exact rfl | assumption); (case kd => ktr_room); (case ku => ktr_units); (case U => k_updF); (case a => with_reducible assumption); (case b => with_reducible assumption); (case c => omega); (case q1 => assumption); (case q2 => assumption); (case q3 => assumption); (case q4 => assumption); k_whole; intro o' kvs' h' tk' hd' hf' F' N'; (try dsimp only at N'); (try dsimp only); (try k_sweep); (try k_fold))))
  trivial
section
variable {dp un : Nat} {gd : Option (List Code)}      {A₀ : Around} {base h₀ : Heap} {m : Str → Option Value} {s : Shared} {Q : Flow → Shared → Prop} {E : Value → Shared → Prop} {mean : ExcName → Option Value} {mg mb : Str → Option Value} {w : World} {pv : Program} {lv : List Str} 
variable {cn : Str} {a : Addr} {ccd : Value} {name qual : Str} {params : Arguments} {s1 s2 s3 s4 s5 b1 lp rt : Stmt} {tg it tst : PySem.Expr} {t1 t2 t3 e1 e2 e3 e4 e5 e6 : Stmt} {ore : List Stmt} {ps ps2 pos : Pos} {scope : Scope} {dV kV doc pm cdv ct oc : Value} {an od : Option Addr} {osl : Array (Option Value)}

theorem then_if {L l bg f d pl kd : Nat} (ho : (Mine.hd.heap_1 w.params).lookup 489 = some ⟨oc, od, .func (fnOf name qual params [s1, s2, s3, s4, s5, .For tg it [b1, .If tst [t1, t2, t3] [e1, e2, e3, e4, e5, e6] ps, lp] ore pos, rt] scope dV kV doc pm an cdv ct), osl⟩) (B : Below A₀ h₀ [] h₀) (X : (Mine.hd.heap_1 w.params).In h₀) (T : Top pv lv mean mg mb h₀) (hd : dp + 40 < recursionLimit) (hu : un + 2000 < cLine) (hE : PassesOwn (model PySem.Challenge.rw_sq0037_01.row.prog w) (ktrTop dp un gd qual scope L a ccd [(Str.ofString "bag", L + 1)] []) (envX qual scope L a ccd [(Str.ofString "bag", L + 1)]) E) {own : List (Addr × Obj)} {co : Obj} (hco : co.data = .cell (some (.ref bg))) {x y z : Int} {tx ty tz : Tok} (hy : 0 ≤ y) (hy' : y < 2147483648) (hz : 0 ≤ z) (n1 : bg ≠ L + 1) (n2 : bg ≠ f) (n3 : bg ≠ d) (n4 : bg ≠ pl) (n5 : bg ≠ kd) (n6 : L + 1 ≠ f) (n7 : L + 1 ≠ d) (n8 : L + 1 ≠ pl) (n9 : L + 1 ≠ kd) (n10 : f ≠ d) (n11 : f ≠ pl) (n12 : f ≠ kd) (n13 : d ≠ pl) (n14 : d ≠ kd) (n15 : pl ≠ kd) (hown : OwnOff own [bg, L + 1, f, d, pl, kd]) {m : Str → Option Value} {ks : Nat → Tok} {vs : Nat → Value} {qs : List Value} {xs : List Int} {pn : Nat} {ko : Obj} {kvs : List (Int × Value)} {c : List (Int × Int)} (hi : IntsAre qs xs) (hl : xs.length ≤ 64) (hxs : ∀ z ∈ xs, -1073741823 ≤ z ∧ z ≤ 1073741823) (hlo : (kd == sysModules) = false) (hdk : ko.IsDictOf (PySem.intKind PySem.Challenge.rw_sq0037_01.row.prog w) kvs) (hfk : PyProof.V.FlatPairs PyData.int kvs (kdfD c)) (hcl : c.length ≤ 1000000) (hg : ∀ n, parZ xs n = kdfLook c n 0) {which amount : Value} (hw : WhichV which) (ha : AmountV amount)
  (F : Fr h₀ L s.heap (fun y => if y = Str.ofString "amount" then some amount else if y = Str.ofString "which" then some which else if y = Str.ofString "script" then some (.ref l) else if y = Str.ofString "font" then some (.ref f) else if y = Str.ofString "known" then some (.ref kd) else m y)) (N : News h₀ L s.heap ((bg, listOf #[.int x tx, .int y ty, .int z tz] 0) :: (L + 1, co) :: (f, instObj 377 d) :: (d, fObj w pl ks vs) :: (pl, listOf qs.toArray pn) :: (kd, ko) :: own))
  (hret : ∀ (m' : Str → Option Value) (bo : Obj) qs' xs' pn' ko' kvs' c' h' tk', IntsAre qs' xs' → xs'.length ≤ 64 → (∀ z ∈ xs', -1073741823 ≤ z ∧ z ≤ 1073741823) → ko'.IsDictOf (PySem.intKind PySem.Challenge.rw_sq0037_01.row.prog w) kvs' → PyProof.V.FlatPairs PyData.int kvs' (kdfD c') → c'.length ≤ c.length + 1 → (∀ n, parZ xs' n = kdfLook c' n 0) →
    Fr h₀ L h' (fun y => if y = Str.ofString "script" then some (.ref l) else if y = Str.ofString "font" then some (.ref f) else if y = Str.ofString "known" then some (.ref kd) else m' y) → News h₀ L h' ((bg, bo) :: (L + 1, co) :: (f, instObj 377 d) :: (d, fObj w pl ks vs) :: (pl, listOf (List.toArray qs') pn') :: (kd, ko') :: own) → Q .next { s with heap := h', toks := tk' }) :
  wpAny (model PySem.Challenge.rw_sq0037_01.row.prog w) (ktrTop dp un gd qual scope L a ccd [(Str.ofString "bag", L + 1)] []) (exec t3 (envX qual scope L a ccd [(Str.ofString "bag", L + 1)])) Q E s := by
  have eo := ho.symm.trans (by k_is)
  have hq8 : qual = _ := congrArg (fun o => pQ o qual) eo
  have hq9 : scope = _ := congrArg (fun o => pSc o scope) eo
  have hp0 : t3 = _ := congrArg (fun o => pN (pThn (pN (pFor (pN (pB o) 5)) 1)) 2) eo
  clear eo ho
  dsimp only [pQ, pSc, pB, pFor, pThn, pEls, pTst, pTg, pIt, pOre, pN, fnOf, List.getD, List.getElem?_cons_zero, List.getElem?_cons_succ, Option.getD] at hq8 hq9 hp0
  subst hq8 hq9 hp0
  k_steps
  · rename (∀ n, parZ _ n = ite _ _ _) => g9
    rename (Fr _ _ _ _) => F9
    have F8 := fr_has3 (a := Str.ofString "script") (b := Str.ofString "font") (c := Str.ofString "known") (va := some (.ref l)) (vb := some (.ref f)) (vc := some (.ref kd)) F9 rfl rfl rfl
    refine' hret _ _ _ _ _ _ _ _ _ _ ?a1 ?a2 ?a3 ?a4 ?a5 put_len (fun n => by rw [put_look, g9 n, hg n]) F8 ?N
    case N => (refine' cb_drop ?cbN ?cbS; (case cbN => assumption); (case cbS => (refine List.forall_mem_cons.mpr ⟨?_, List.forall_mem_cons.mpr ⟨?_, List.forall_mem_cons.mpr ⟨?_, List.forall_mem_cons.mpr ⟨?_, List.forall_mem_cons.mpr ⟨?_, List.forall_mem_cons.mpr ⟨?_, ?_⟩⟩⟩⟩⟩⟩; k_mem; k_mem; k_mem; k_mem; k_mem; k_mem; (intro p hp; (repeat (first | exact hp | refine List.mem_append.mpr (.inr ?_) | refine List.mem_cons_of_mem _ ?_))))))
    case a4 => assumption
    case a5 => assumption
    case a1 => assumption
    case a2 => assumption
    case a3 => assumption
  · rename (Fr _ _ _ _) => F9
    have F8 := fr_has3 (a := Str.ofString "script") (b := Str.ofString "font") (c := Str.ofString "known") (va := some (.ref l)) (vb := some (.ref f)) (vc := some (.ref kd)) F9 rfl rfl rfl
    refine' hret _ _ _ _ _ _ _ _ _ _ hi hl hxs hdk hfk (Nat.le_succ _) hg F8 ?N
    case N => (refine' cb_drop ?cbN ?cbS; (case cbN => assumption); (case cbS => (refine List.forall_mem_cons.mpr ⟨?_, List.forall_mem_cons.mpr ⟨?_, List.forall_mem_cons.mpr ⟨?_, List.forall_mem_cons.mpr ⟨?_, List.forall_mem_cons.mpr ⟨?_, List.forall_mem_cons.mpr ⟨?_, ?_⟩⟩⟩⟩⟩⟩; k_mem; k_mem; k_mem; k_mem; k_mem; k_mem; (intro p hp; (repeat (first | exact hp | refine List.mem_append.mpr (.inr ?_) | refine List.mem_cons_of_mem _ ?_))))))
end

theorem lay69 : True := by
  k_with_none
  trivial

theorem ord_id {v o : Int} (h : v = 0 → o = 0) : ordOf v o = o := by
  unfold ordOf
  split
  · rename_i q; exact (h q).symm
  · rfl
theorem parZ_bd {xs : List Int} (h : ∀ z ∈ xs, -1073741823 ≤ z ∧ z ≤ 1073741823) (n : Int) : -1073741823 ≤ parZ xs n ∧ parZ xs n ≤ 1073741823 := by
  unfold parZ
  split
  · rename_i q
    rw [List.getD_eq_getElem?_getD]
    cases e : xs[(n - 1).toNat]? with
    | none => exact ⟨by decide, by decide⟩
    | some z => exact h z (List.mem_of_getElem? e)
  · exact ⟨by decide, by decide⟩
inductive BadPace : Value → Prop where
  | num {k : Int} {t : Tok} (h : ¬ (1 ≤ k ∧ k ≤ 32767)) : BadPace (.int k t)
  | bool {b : Bool} : BadPace (.bool b)
section
variable {dp un : Nat} {gd : Option (List Code)} {cn : Str} {cs : Scope} {a : Addr} {ccd : Value} {cl : List (Str × Addr)} {outer : List Env} {A₀ : Around} {base h₀ : Heap} {L : Addr} {m : Str → Option Value} {s : Shared} {Q E : Value → Shared → Prop} {mean : ExcName → Option Value} {mg mb : Str → Option Value} {w : World} {pv : Program} {lv : List Str} {news : List (Addr × Obj)}

theorem glue_id (B : Below A₀ base outer h₀) (F : Fr h₀ L s.heap m) (X : (Mine.hd.heap_1 w.params).In h₀) (N : News h₀ L s.heap news) (T : Top pv lv mean mg mb h₀) (hk : cs.kind = .function) (hd : dp + 4 < recursionLimit)
  {v1 v2 v3 v4 v5 : Int} {t1 t2 t3 t4 t5 : Tok} (b1 : -1073741823 ≤ v1 ∧ v1 ≤ 1073741823) (b2 : -1073741823 ≤ v2 ∧ v2 ≤ 1073741823) (b3 : 0 ≤ v3 ∧ v3 ≤ 3) (b4 : -1073741823 ≤ v4 ∧ v4 ≤ 1073741823) (b5 : 0 ≤ v5 ∧ v5 ≤ 3) (o1 : v2 = 0 → v3 = 0) (o2 : v4 = 0 → v5 = 0)
  (hret : ∀ x d k1 k2 k3 k4 k5 u3 u5 h' tk', Fr h₀ L h' m → News h₀ L h' ((x, instObj 220 d) :: (d, gObj w v1 v2 v3 v4 v5 k1 k2 k3 k4 k5 t1 t2 u3 t4 u5) :: news) → (∀ p ∈ news, p.1 < d) → d < x → Q (.ref x) { s with heap := h', toks := tk' }) :
  wpAny (model PySem.Challenge.rw_sq0037_01.row.prog w) (ktrTop dp un gd cn cs L a ccd cl outer) (call (.ref 220) [.int v1 t1, .int v2 t2, .int v3 t3, .int v4 t4, .int v5 t5]) Q E s := by
  refine glue_new B F X N T hk hd b1.1 b1.2 b2.1 b2.2 b4.1 b4.2 b3.1 b3.2 b5.1 b5.2 fun x d k1 k2 k3 k4 k5 u3 u5 h' tk' F' N' l1 l2 => ?_
  rw [ord_id o1, ord_id o2] at N'
  exact hret x d k1 k2 k3 k4 k5 u3 u5 h' tk' F' N' l1 l2
theorem space_arg (B : Below A₀ base outer h₀) (F : Fr h₀ L s.heap m) (X : (Mine.hd.heap_1 w.params).In h₀) (N : News h₀ L s.heap news) (T : Top pv lv mean mg mb h₀) (hk : cs.kind = .function) (hd : dp + 3 < recursionLimit) {kd wd ed : Addr} {pace : Value} (hb : BadPace pace)
  (hret : ∀ u h' tk', Fr h₀ L h' m → News h₀ L h' news → Q (.str "argument" u) { s with heap := h', toks := tk' }) :
  wpAny (model PySem.Challenge.rw_sq0037_01.row.prog w) (ktrTop dp un gd cn cs L a ccd cl outer) (call (.ref 463) [.ref kd, pace, .ref wd, .ref ed]) Q E s := by
  cases hb with
  | num h => exact space_num B F X N T hk hd h hret
  | bool => exact space_bool B F X N T hk hd hret
theorem space_over (B : Below A₀ base outer h₀) (F : Fr h₀ L s.heap m) (X : (Mine.hd.heap_1 w.params).In h₀) (N : News h₀ L s.heap news) (T : Top pv lv mean mg mb h₀) (hk : cs.kind = .function) (hd : dp + 4 < recursionLimit)  (hu : un + 400 < cLine) {kd : Addr} {ko : Obj} {kvs : List (Int × Value)} {c : List (Int × Int)} (hm : (kd, ko) ∈ news) (hlo : (kd == sysModules) = false) (hdk : ko.IsDictOf (PySem.intKind PySem.Challenge.rw_sq0037_01.row.prog w) kvs) (hfk : PyProof.V.FlatPairs PyData.int kvs (kdfD c))  {xs : List Int} (hxs : ∀ v ∈ xs, -1073741823 ≤ v ∧ v ≤ 1073741823) (hrel : ∀ n, parZ xs n = kdfLook c n 0)
  {wd : Addr} {v1 v2 v3 v4 v5 : Int} {t1 t2 t3 t4 t5 : Tok} (hw : (wd, tupObj [.int v1 t1, .int v2 t2, .int v3 t3, .int v4 t4, .int v5 t5]) ∈ news) (b1 : -1073741823 ≤ v1 ∧ v1 ≤ 1073741823) (b2 : -1073741823 ≤ v2 ∧ v2 ≤ 1073741823) (b3 : 0 ≤ v3 ∧ v3 ≤ 3) (b4 : -1073741823 ≤ v4 ∧ v4 ≤ 1073741823) (b5 : 0 ≤ v5 ∧ v5 ≤ 3)
  {ed : Addr} {e1 e2 e3 e4 e5 : Int} {r1 r2 r3 r4 r5 : Tok} (he : (ed, tupObj [.int e1 r1, .int e2 r2, .int e3 r3, .int e4 r4, .int e5 r5]) ∈ news)
  {pace : Int} {tp : Tok} (hp1 : 1 ≤ pace) (hp2 : pace ≤ 32767) (ht : tellZ (parZ xs) pace v1 v2 v3 v4 v5 e1 e2 e3 e4 e5 = none)
  (hret : ∀ u h' tk', Fr h₀ L h' m → News h₀ L h' news → Q (.str "overflow" u) { s with heap := h', toks := tk' }) :
  wpAny (model PySem.Challenge.rw_sq0037_01.row.prog w) (ktrTop dp un gd cn cs L a ccd cl outer) (call (.ref 463) [.ref kd, .int pace tp, .ref wd, .ref ed]) Q E s := by
  have e : (fun n => kdfLook c n 0) = parZ xs := funext fun n => (hrel n).symm
  refine space_in B F X N T hk hd hu hm hlo hdk hfk (fun n => hrel n ▸ parZ_bd hxs n) hw b1 b2 b3 b4 b5 he hp1 hp2 (fun _ => hret) fun o1 o2 o3 o4 o5 h => ?_
  rw [e, ht] at h; cases h
theorem space_ok (B : Below A₀ base outer h₀) (F : Fr h₀ L s.heap m) (X : (Mine.hd.heap_1 w.params).In h₀) (N : News h₀ L s.heap news) (T : Top pv lv mean mg mb h₀) (hk : cs.kind = .function) (hd : dp + 4 < recursionLimit)  (hu : un + 400 < cLine) {kd : Addr} {ko : Obj} {kvs : List (Int × Value)} {c : List (Int × Int)} (hm : (kd, ko) ∈ news) (hlo : (kd == sysModules) = false) (hdk : ko.IsDictOf (PySem.intKind PySem.Challenge.rw_sq0037_01.row.prog w) kvs) (hfk : PyProof.V.FlatPairs PyData.int kvs (kdfD c))  {xs : List Int} (hxs : ∀ v ∈ xs, -1073741823 ≤ v ∧ v ≤ 1073741823) (hrel : ∀ n, parZ xs n = kdfLook c n 0)
  {wd : Addr} {v1 v2 v3 v4 v5 : Int} {t1 t2 t3 t4 t5 : Tok} (hw : (wd, tupObj [.int v1 t1, .int v2 t2, .int v3 t3, .int v4 t4, .int v5 t5]) ∈ news) (b1 : -1073741823 ≤ v1 ∧ v1 ≤ 1073741823) (b2 : -1073741823 ≤ v2 ∧ v2 ≤ 1073741823) (b3 : 0 ≤ v3 ∧ v3 ≤ 3) (b4 : -1073741823 ≤ v4 ∧ v4 ≤ 1073741823) (b5 : 0 ≤ v5 ∧ v5 ≤ 3)
  {ed : Addr} {e1 e2 e3 e4 e5 : Int} {r1 r2 r3 r4 r5 : Tok} (he : (ed, tupObj [.int e1 r1, .int e2 r2, .int e3 r3, .int e4 r4, .int e5 r5]) ∈ news)
  {pace : Int} {tp : Tok} (hp1 : 1 ≤ pace) (hp2 : pace ≤ 32767) {o1 o2 o3 o4 o5 : Int} (ht : tellZ (parZ xs) pace v1 v2 v3 v4 v5 e1 e2 e3 e4 e5 = some (o1, o2, o3, o4, o5))
  (hret : ∀ r k1 k2 k3 k4 k5 h' tk', Fr h₀ L h' m → News h₀ L h' ((r, tupObj [.int o1 k1, .int o2 k2, .int o3 k3, .int o4 k4, .int o5 k5]) :: news) → Q (.ref r) { s with heap := h', toks := tk' }) :
  wpAny (model PySem.Challenge.rw_sq0037_01.row.prog w) (ktrTop dp un gd cn cs L a ccd cl outer) (call (.ref 463) [.ref kd, .int pace tp, .ref wd, .ref ed]) Q E s := by
  have e : (fun n => kdfLook c n 0) = parZ xs := funext fun n => (hrel n).symm
  refine space_in B F X N T hk hd hu hm hlo hdk hfk (fun n => hrel n ▸ parZ_bd hxs n) hw b1 b2 b3 b4 b5 he hp1 hp2 (fun h => ?_) fun p1 p2 p3 p4 p5 h => ?_
  · rw [e, ht] at h; cases h
  · rw [e, ht] at h; cases h; exact hret
end
section
variable {dp un : Nat} {gd : Option (List Code)} {cn : Str} {cs : Scope} {a : Addr} {ccd : Value} {cl : List (Str × Addr)} {A₀ : Around} {base h₀ : Heap} {L : Addr} {m : Str → Option Value} {s : Shared} {Q E : Value → Shared → Prop} {mean : ExcName → Option Value} {mg mb : Str → Option Value} {w : World} {pv : Program} {lv : List Str} {news : List (Addr × Obj)}

theorem told_any (B : Below A₀ h₀ [] h₀) (F : Fr h₀ L s.heap m) (X : (Mine.hd.heap_1 w.params).In h₀) (N : News h₀ L s.heap news) (T : Top pv lv mean mg mb h₀) (hk : cs.kind = .function) (hd : dp + 12 < recursionLimit)  (hu : un + 400 < cLine)
  {f d pl : Addr} {ks : Nat → Tok} {vs : Nat → Value} {ps : List Value} {xs : List Int} {pn : Nat} (hf : (f, instObj 377 d) ∈ news) (hfd : (d, fObj w pl ks vs) ∈ news) (hp : (pl, listOf ps.toArray pn) ∈ news) (hi : IntsAre ps xs) (hl : xs.length ≤ 64) (hxs : ∀ v ∈ xs, -1073741823 ≤ v ∧ v ≤ 1073741823)
  {x dx : Addr} {v1 v2 v3 v4 v5 : Int} {k1 k2 k3 k4 k5 t1 t2 t3 t4 t5 : Tok} (hx : (x, instObj 220 dx) ∈ news) (hg : (dx, gObj w v1 v2 v3 v4 v5 k1 k2 k3 k4 k5 t1 t2 t3 t4 t5) ∈ news) (b1 : -1073741823 ≤ v1 ∧ v1 ≤ 1073741823) (b2 : -1073741823 ≤ v2 ∧ v2 ≤ 1073741823) (b3 : 0 ≤ v3 ∧ v3 ≤ 3) (b4 : -1073741823 ≤ v4 ∧ v4 ≤ 1073741823) (b5 : 0 ≤ v5 ∧ v5 ≤ 3)
  {z dz : Addr} {e1 e2 e3 e4 e5 : Int} {i1 i2 i3 i4 i5 r1 r2 r3 r4 r5 : Tok} (hz : (z, instObj 220 dz) ∈ news) (hgz : (dz, gObj w e1 e2 e3 e4 e5 i1 i2 i3 i4 i5 r1 r2 r3 r4 r5) ∈ news)
  {pace : Value} (hpw : WhichV pace)
  (hA : BadPace pace → ∀ u h' tk', Fr h₀ L h' m → News h₀ L h' news → Q (.str "argument" u) { s with heap := h', toks := tk' })
  (hO : ∀ k t, pace = .int k t → 1 ≤ k → k ≤ 32767 → tellZ (parZ xs) k v1 v2 v3 v4 v5 e1 e2 e3 e4 e5 = none → ∀ u h' tk', Fr h₀ L h' m → News h₀ L h' news → Q (.str "overflow" u) { s with heap := h', toks := tk' })
  (hK : ∀ k t o1 o2 o3 o4 o5, pace = .int k t → 1 ≤ k → k ≤ 32767 → tellZ (parZ xs) k v1 v2 v3 v4 v5 e1 e2 e3 e4 e5 = some (o1, o2, o3, o4, o5) → ∀ r t1 t2 t3 t4 t5 h' tk', Fr h₀ L h' m → News h₀ L h' ((r, tupObj [.int o1 t1, .int o2 t2, .int o3 t3, .int o4 t4, .int o5 t5]) :: news) → Q (.ref r) { s with heap := h', toks := tk' }) :
  wpAny (model PySem.Challenge.rw_sq0037_01.row.prog w) (ktrTop dp un gd cn cs L a ccd cl []) (call (.ref 470) [.ref f, pace, .ref x, .ref z]) Q E s := by
  rcases hpw with ⟨k, t, rfl⟩ | ⟨b, rfl⟩
  · by_cases hk1 : 1 ≤ k ∧ k ≤ 32767
    · cases ht : tellZ (parZ xs) k v1 v2 v3 v4 v5 e1 e2 e3 e4 e5 with
      | none => exact told_over B F X N T hk hd hu hf hfd hp hi hl hxs hx hg b1 b2 b3 b4 b5 hz hgz hk1.1 hk1.2 ht (hO k t rfl hk1.1 hk1.2 ht)
      | some o =>
        obtain ⟨o1, o2, o3, o4, o5⟩ := o
        exact told_ok B F X N T hk hd hu hf hfd hp hi hl hxs hx hg b1 b2 b3 b4 b5 hz hgz hk1.1 hk1.2 ht (hK k t o1 o2 o3 o4 o5 rfl hk1.1 hk1.2 ht)
    · exact told_num B F X N T hk (by omega) hk1 (hA (.num hk1))
  · exact told_bool B F X N T hk (by omega) (hA .bool)
end

theorem lay70 : True := by
  k_with_none
  trivial
section
variable {dp un : Nat} {gd : Option (List Code)}      {A₀ : Around} {base h₀ : Heap} {m : Str → Option Value} {s : Shared} {Q : Flow → Shared → Prop} {E : Value → Shared → Prop} {mean : ExcName → Option Value} {mg mb : Str → Option Value} {w : World} {pv : Program} {lv : List Str} 
variable {cn : Str} {a : Addr} {ccd : Value} {name qual : Str} {params : Arguments} {s1 s2 s3 s4 s5 b1 lp rt : Stmt} {tg it tst : PySem.Expr} {t1 t2 t3 e1 e2 e3 e4 e5 e6 : Stmt} {ore : List Stmt} {ps ps2 pos : Pos} {scope : Scope} {dV kV doc pm cdv ct oc : Value} {an od : Option Addr} {osl : Array (Option Value)}
end
theorem lay71 : True := by
  (k_with "call ref" => (k_here; (with_reducible show wpAny _ _ (call (Value.ref 442) [Value.ref _, Value.int _ _]) _ _ _); k_dflt (refine' Mine.draw ?k1 ?k2 ?k3 ?k4 ?k5 ?kK ?kd ?U ?y1 ?y2 ?z1 ?z2 ?m1 ?m2 ?_; (case k1 => k_asm); (case k2 => k_asm); (case k3 => k_asm); (case k4 => k_asm); (case k5 => k_asm); (case kK => first | exact rfl | assumption); (case kd => ktr_room); (case U => k_updF); (case y1 => first | assumption | omega); (case y2 => first | assumption | omega); (case z1 => first | assumption | omega); (case z2 => first | assumption | omega); (case m1 => first | assumption | omega); (case m2 => first | assumption | omega); k_whole; intro d' td' x' tx' z' tz' h' tk' r1' r2' z1' z2' F' N'; (try dsimp only at N'); (try dsimp only); (try k_sweep); (try k_fold))))
  trivial
section
variable {dp un : Nat} {gd : Option (List Code)}      {A₀ : Around} {base h₀ : Heap} {m : Str → Option Value} {s : Shared} {Q : Flow → Shared → Prop} {E : Value → Shared → Prop} {mean : ExcName → Option Value} {mg mb : Str → Option Value} {w : World} {pv : Program} {lv : List Str} 
variable {cn : Str} {a : Addr} {ccd : Value} {name qual : Str} {params : Arguments} {s1 s2 s3 s4 s5 b1 lp rt : Stmt} {tg it tst : PySem.Expr} {t1 t2 t3 e1 e2 e3 e4 e5 e6 : Stmt} {ore : List Stmt} {ps ps2 pos : Pos} {scope : Scope} {dV kV doc pm cdv ct oc : Value} {an od : Option Addr} {osl : Array (Option Value)}

theorem pick_place {L bg : Nat} {rest : List (Addr × Obj)} {co : Obj} (hco : co.data = .cell (some (.ref bg))) {x y z : Int} {tx ty tz : Tok} (hy : 0 ≤ y) (hy' : y < 2147483648) (hz : 0 ≤ z) (n1 : bg ≠ L + 1) (hown : OwnOff rest [bg, L + 1]) (hz' : z < 900) (ho : (Mine.hd.heap_1 w.params).lookup 489 = some ⟨oc, od, .func (fnOf name qual params [s1, s2, s3, s4, s5, .For tg it [b1, .If tst [t1, t2, t3] [e1, e2, e3, e4, e5, e6] ps, lp] ore pos, rt] scope dV kV doc pm an cdv ct), osl⟩) (B : Below A₀ h₀ [] h₀) (X : (Mine.hd.heap_1 w.params).In h₀) (T : Top pv lv mean mg mb h₀) (hd : dp + 40 < recursionLimit) (hu : un + 2000 < cLine) {m : Str → Option Value}
  (F : Fr h₀ L s.heap m) (N : News h₀ L s.heap ((bg, listOf #[.int x tx, .int y ty, .int z tz] 0) :: (L + 1, co) :: rest))
  (hret : ∀ r t x' tx' z' tz' h' tk', 0 ≤ r → r < 16 → 0 ≤ z' → z' ≤ z + 1 → Fr h₀ L h' (fun y => if y = Str.ofString "place" then some (.int r t) else m y) → News h₀ L h' ((bg, listOf #[.int x' tx', .int y ty, .int z' tz'] 0) :: (L + 1, co) :: rest) → Q .next { s with heap := h', toks := tk' }) :
  wpAny (model PySem.Challenge.rw_sq0037_01.row.prog w) (ktrTop dp un gd qual scope L a ccd [(Str.ofString "bag", L + 1)] []) (exec e1 (envX qual scope L a ccd [(Str.ofString "bag", L + 1)])) Q E s := by
  have eo := ho.symm.trans (by k_is)
  have hq8 : qual = _ := congrArg (fun o => pQ o qual) eo
  have hq9 : scope = _ := congrArg (fun o => pSc o scope) eo
  have hp0 : e1 = _ := congrArg (fun o => pN (pEls (pN (pFor (pN (pB o) 5)) 1)) 0) eo
  clear eo ho
  dsimp only [pQ, pSc, pB, pFor, pThn, pEls, pTst, pTg, pIt, pOre, pN, fnOf, List.getD, List.getElem?_cons_zero, List.getElem?_cons_succ, Option.getD] at hq8 hq9 hp0
  subst hq8 hq9 hp0
  k_steps
  all_goals (refine' hret _ _ _ _ _ _ _ _ ?h1 ?h2 ?h3 ?h4 ?hF ?hN; (case hN => (refine' cb_drop ?cbN ?cbS; (case cbN => assumption); (case cbS => (refine List.forall_mem_cons.mpr ⟨?_, List.forall_mem_cons.mpr ⟨?_, ?_⟩⟩; k_mem; k_mem; (intro p hp; (repeat (first | exact hp | refine List.mem_append.mpr (.inr ?_) | refine List.mem_cons_of_mem _ ?_))))))); (case hF => assumption); (case h1 => assumption); (case h2 => assumption); (case h3 => assumption); (case h4 => assumption))
end

theorem lay72 : True := by
  k_with_none
  trivial
section
variable {dp un : Nat} {gd : Option (List Code)}      {A₀ : Around} {base h₀ : Heap} {m : Str → Option Value} {s : Shared} {Q : Flow → Shared → Prop} {E : Value → Shared → Prop} {mean : ExcName → Option Value} {mg mb : Str → Option Value} {w : World} {pv : Program} {lv : List Str} 
variable {cn : Str} {a : Addr} {ccd : Value} {name qual : Str} {params : Arguments} {s1 s2 s3 s4 s5 b1 lp rt : Stmt} {tg it tst : PySem.Expr} {t1 t2 t3 e1 e2 e3 e4 e5 e6 : Stmt} {ore : List Stmt} {ps ps2 pos : Pos} {scope : Scope} {dV kV doc pm cdv ct oc : Value} {an od : Option Addr} {osl : Array (Option Value)}
end
theorem lay73 : True := by
  (k_with "call ref" => (k_here; (with_reducible show wpAny _ _ (call (Value.ref 442) [Value.ref _, Value.int _ _]) _ _ _); k_dflt (refine' Mine.draw ?k1 ?k2 ?k3 ?k4 ?k5 ?kK ?kd ?U ?y1 ?y2 ?z1 ?z2 ?m1 ?m2 ?_; (case k1 => k_asm); (case k2 => k_asm); (case k3 => k_asm); (case k4 => k_asm); (case k5 => k_asm); (case kK => first | exact rfl | assumption); (case kd => ktr_room); (case U => k_updF); (case y1 => first | assumption | omega); (case y2 => first | assumption | omega); (case z1 => first | assumption | omega); (case z2 => first | assumption | omega); (case m1 => first | assumption | omega); (case m2 => first | assumption | omega); k_whole; intro d' td' x' tx' z' tz' h' tk' r1' r2' z1' z2' F' N'; (try dsimp only at N'); (try dsimp only); (try k_sweep); (try k_fold))))
  (k_with "subscriptTail" => (k_here; (with_reducible show wpAny _ _ (subscriptTail _ _ (Value.ref _) (Value.int _ _)) _ _ _); k_dflt (refine' Mine.menu_at Mine.WhichV ?T ?a ?b ?z ?P ?s ?_; (case T => exact kun_topT (by k_asm) (by k_asm) (by k_is)); (case a => assumption); (case b => (simp only [List.length_cons, List.length_nil]; omega)); (case z => exact Nat.le_of_ble_eq_true rfl); (case P => (repeat (first | exact List.forall_mem_nil _ | refine List.forall_mem_cons.mpr ⟨by first | exact Or.inl ⟨_, _, rfl⟩ | exact Or.inr ⟨_, rfl⟩, ?_⟩))); (case s => with_unfolding_all rfl)); intro v' hv'; (try dsimp only)))
  trivial
section
variable {dp un : Nat} {gd : Option (List Code)}      {A₀ : Around} {base h₀ : Heap} {m : Str → Option Value} {s : Shared} {Q : Flow → Shared → Prop} {E : Value → Shared → Prop} {mean : ExcName → Option Value} {mg mb : Str → Option Value} {w : World} {pv : Program} {lv : List Str} 
variable {cn : Str} {a : Addr} {ccd : Value} {name qual : Str} {params : Arguments} {s1 s2 s3 s4 s5 b1 lp rt : Stmt} {tg it tst : PySem.Expr} {t1 t2 t3 e1 e2 e3 e4 e5 e6 : Stmt} {ore : List Stmt} {ps ps2 pos : Pos} {scope : Scope} {dV kV doc pm cdv ct oc : Value} {an od : Option Addr} {osl : Array (Option Value)}

theorem pick_pace {L bg : Nat} {rest : List (Addr × Obj)} {co : Obj} (hco : co.data = .cell (some (.ref bg))) {x y z : Int} {tx ty tz : Tok} (hy : 0 ≤ y) (hy' : y < 2147483648) (hz : 0 ≤ z) (n1 : bg ≠ L + 1) (hown : OwnOff rest [bg, L + 1]) (hz' : z < 900) (ho : (Mine.hd.heap_1 w.params).lookup 489 = some ⟨oc, od, .func (fnOf name qual params [s1, s2, s3, s4, s5, .For tg it [b1, .If tst [t1, t2, t3] [e1, e2, e3, e4, e5, e6] ps, lp] ore pos, rt] scope dV kV doc pm an cdv ct), osl⟩) (B : Below A₀ h₀ [] h₀) (X : (Mine.hd.heap_1 w.params).In h₀) (T : Top pv lv mean mg mb h₀) (hd : dp + 40 < recursionLimit) (hu : un + 2000 < cLine) {m : Str → Option Value} {r : Int} {t : Tok} (hr : 0 ≤ r) (hr' : r < 16)
  (F : Fr h₀ L s.heap (fun y => if y = Str.ofString "place" then some (.int r t) else m y)) (N : News h₀ L s.heap ((bg, listOf #[.int x tx, .int y ty, .int z tz] 0) :: (L + 1, co) :: rest))
  (hret : ∀ v x' tx' z' tz' h' tk', WhichV v → 0 ≤ z' → z' ≤ z + 1 → Fr h₀ L h' (fun y => if y = Str.ofString "pace" then some v else if y = Str.ofString "place" then some (.int r t) else m y) → News h₀ L h' ((bg, listOf #[.int x' tx', .int y ty, .int z' tz'] 0) :: (L + 1, co) :: rest) → Q .next { s with heap := h', toks := tk' }) :
  wpAny (model PySem.Challenge.rw_sq0037_01.row.prog w) (ktrTop dp un gd qual scope L a ccd [(Str.ofString "bag", L + 1)] []) (exec e2 (envX qual scope L a ccd [(Str.ofString "bag", L + 1)])) Q E s := by
  have eo := ho.symm.trans (by k_is)
  have hq8 : qual = _ := congrArg (fun o => pQ o qual) eo
  have hq9 : scope = _ := congrArg (fun o => pSc o scope) eo
  have hp0 : e2 = _ := congrArg (fun o => pN (pEls (pN (pFor (pN (pB o) 5)) 1)) 1) eo
  clear eo ho
  dsimp only [pQ, pSc, pB, pFor, pThn, pEls, pTst, pTg, pIt, pOre, pN, fnOf, List.getD, List.getElem?_cons_zero, List.getElem?_cons_succ, Option.getD] at hq8 hq9 hp0
  subst hq8 hq9 hp0
  k_steps
  all_goals (refine' hret _ _ _ _ _ _ _ ?h1 ?h2 ?h3 ?hF ?hN; (case hN => (refine' cb_drop ?cbN ?cbS; (case cbN => assumption); (case cbS => (refine List.forall_mem_cons.mpr ⟨?_, List.forall_mem_cons.mpr ⟨?_, ?_⟩⟩; k_mem; k_mem; (intro p hp; (repeat (first | exact hp | refine List.mem_append.mpr (.inr ?_) | refine List.mem_cons_of_mem _ ?_))))))); (case hF => assumption); (case h1 => first | assumption | exact Or.inl ⟨_, _, rfl⟩); (case h2 => first | assumption | omega); (case h3 => first | assumption | omega))
end

theorem lay74 : True := by
  k_with_none
  trivial
section
variable {dp un : Nat} {gd : Option (List Code)}      {A₀ : Around} {base h₀ : Heap} {m : Str → Option Value} {s : Shared} {Q : Flow → Shared → Prop} {E : Value → Shared → Prop} {mean : ExcName → Option Value} {mg mb : Str → Option Value} {w : World} {pv : Program} {lv : List Str} 
variable {cn : Str} {a : Addr} {ccd : Value} {name qual : Str} {params : Arguments} {s1 s2 s3 s4 s5 b1 lp rt : Stmt} {tg it tst : PySem.Expr} {t1 t2 t3 e1 e2 e3 e4 e5 e6 : Stmt} {ore : List Stmt} {ps ps2 pos : Pos} {scope : Scope} {dV kV doc pm cdv ct oc : Value} {an od : Option Addr} {osl : Array (Option Value)}
end
theorem lay75 : True := by
  (k_with "call ref" => (k_here; (with_reducible show wpAny _ _ (call (Value.ref 449) [Value.ref _]) _ _ _); k_dflt (refine' Mine.lparts ?k1 ?k2 ?k3 ?k4 ?k5 ?kK ?kd ?U ?y1 ?y2 ?z1 ?z2 ?_; (case k1 => k_asm); (case k2 => k_asm); (case k3 => k_asm); (case k4 => k_asm); (case k5 => k_asm); (case kK => first | exact rfl | assumption); (case kd => ktr_room); (case U => k_updF); (case y1 => first | assumption | omega); (case y2 => first | assumption | omega); (case z1 => first | assumption | omega); (case z2 => first | assumption | omega); k_whole; intro r' w' st' so' sh' ho' t1' t2' t3' t4' t5' x' tx' z' tz' h' tk' b1' b2' b3' b4' b5' b6' b7' b8' b9' b10' o1' o2' z1' z2' F' N' l1; (try dsimp only at N' l1); (try k_lt l1); (try dsimp only); (try k_sweep); (try k_fold))))
  trivial
section
variable {dp un : Nat} {gd : Option (List Code)}      {A₀ : Around} {base h₀ : Heap} {m : Str → Option Value} {s : Shared} {Q : Flow → Shared → Prop} {E : Value → Shared → Prop} {mean : ExcName → Option Value} {mg mb : Str → Option Value} {w : World} {pv : Program} {lv : List Str} 
variable {cn : Str} {a : Addr} {ccd : Value} {name qual : Str} {params : Arguments} {s1 s2 s3 s4 s5 b1 lp rt : Stmt} {tg it tst : PySem.Expr} {t1 t2 t3 e1 e2 e3 e4 e5 e6 : Stmt} {ore : List Stmt} {ps ps2 pos : Pos} {scope : Scope} {dV kV doc pm cdv ct oc : Value} {an od : Option Addr} {osl : Array (Option Value)}

theorem two_parts {L bg : Nat} {rest : List (Addr × Obj)} {co : Obj} (hco : co.data = .cell (some (.ref bg))) {x y z : Int} {tx ty tz : Tok} (hy : 0 ≤ y) (hy' : y < 2147483648) (hz : 0 ≤ z) (n1 : bg ≠ L + 1) (hown : OwnOff rest [bg, L + 1]) (hz' : z < 800) (ho : (Mine.hd.heap_1 w.params).lookup 489 = some ⟨oc, od, .func (fnOf name qual params [s1, s2, s3, s4, s5, .For tg it [b1, .If tst [t1, t2, t3] [e1, e2, e3, e4, e5, e6] ps, lp] ore pos, rt] scope dV kV doc pm an cdv ct), osl⟩) (B : Below A₀ h₀ [] h₀) (X : (Mine.hd.heap_1 w.params).In h₀) (T : Top pv lv mean mg mb h₀) (hd : dp + 40 < recursionLimit) (hu : un + 2000 < cLine) {m : Str → Option Value}
  (F : Fr h₀ L s.heap m) (N : News h₀ L s.heap ((bg, listOf #[.int x tx, .int y ty, .int z tz] 0) :: (L + 1, co) :: rest))
  (hret : ∀ wd ed v1 v2 v3 v4 v5 g1 g2 g3 g4 g5 t1 t2 t3 t4 t5 r1 r2 r3 r4 r5 bo h' tk', (-1073741823 ≤ v1 ∧ v1 ≤ 1073741823) → (-1073741823 ≤ v2 ∧ v2 ≤ 1073741823) → (0 ≤ v3 ∧ v3 ≤ 3) → (-1073741823 ≤ v4 ∧ v4 ≤ 1073741823) → (0 ≤ v5 ∧ v5 ≤ 3) → (v2 = 0 → v3 = 0) → (v4 = 0 → v5 = 0) → (-1073741823 ≤ g1 ∧ g1 ≤ 1073741823) → (-1073741823 ≤ g2 ∧ g2 ≤ 1073741823) → (0 ≤ g3 ∧ g3 ≤ 3) → (-1073741823 ≤ g4 ∧ g4 ≤ 1073741823) → (0 ≤ g5 ∧ g5 ≤ 3) → (g2 = 0 → g3 = 0) → (g4 = 0 → g5 = 0) → Fr h₀ L h' (fun y => if y = Str.ofString "words" then some (.ref wd) else if y = Str.ofString "ends" then some (.ref ed) else m y) → News h₀ L h' ((ed, tupObj [.int g1 r1, .int g2 r2, .int g3 r3, .int g4 r4, .int g5 r5]) :: (wd, tupObj [.int v1 t1, .int v2 t2, .int v3 t3, .int v4 t4, .int v5 t5]) :: ((bg, bo) :: (L + 1, co) :: rest)) → Q .next { s with heap := h', toks := tk' }) :
  wpAny (model PySem.Challenge.rw_sq0037_01.row.prog w) (ktrTop dp un gd qual scope L a ccd [(Str.ofString "bag", L + 1)] []) (exec e3 (envX qual scope L a ccd [(Str.ofString "bag", L + 1)])) Q E s := by
  have eo := ho.symm.trans (by k_is)
  have hq8 : qual = _ := congrArg (fun o => pQ o qual) eo
  have hq9 : scope = _ := congrArg (fun o => pSc o scope) eo
  have hp0 : e3 = _ := congrArg (fun o => pN (pEls (pN (pFor (pN (pB o) 5)) 1)) 2) eo
  clear eo ho
  dsimp only [pQ, pSc, pB, pFor, pThn, pEls, pTst, pTg, pIt, pOre, pN, fnOf, List.getD, List.getElem?_cons_zero, List.getElem?_cons_succ, Option.getD] at hq8 hq9 hp0
  subst hq8 hq9 hp0
  k_steps
  refine' hret _ _ _ _ _ _ _ _ _ _ _ _ _ _ _ _ _ _ _ _ _ _ _ _ _ ?q1 ?q2 ?q3 ?q4 ?q5 ?q6 ?q7 ?q8 ?q9 ?q10 ?q11 ?q12 ?q13 ?q14 ?hF ?hN; (case hF => assumption); (case hN => (refine' cb_drop ?cbN ?cbS; (case cbN => assumption); (case cbS => (refine List.forall_mem_cons.mpr ⟨?_, List.forall_mem_cons.mpr ⟨?_, List.forall_mem_cons.mpr ⟨?_, List.forall_mem_cons.mpr ⟨?_, ?_⟩⟩⟩⟩; k_mem; k_mem; k_mem; k_mem; (intro p hp; (repeat (first | exact hp | refine List.mem_append.mpr (.inr ?_) | refine List.mem_cons_of_mem _ ?_))))))); (case q1 => first | assumption | (refine ⟨?_, ?_⟩ <;> first | assumption | omega)); (case q2 => first | assumption | (refine ⟨?_, ?_⟩ <;> first | assumption | omega)); (case q3 => first | assumption | (refine ⟨?_, ?_⟩ <;> first | assumption | omega)); (case q4 => first | assumption | (refine ⟨?_, ?_⟩ <;> first | assumption | omega)); (case q5 => first | assumption | (refine ⟨?_, ?_⟩ <;> first | assumption | omega)); (case q6 => first | assumption | (refine ⟨?_, ?_⟩ <;> first | assumption | omega)); (case q7 => first | assumption | (refine ⟨?_, ?_⟩ <;> first | assumption | omega)); (case q8 => first | assumption | (refine ⟨?_, ?_⟩ <;> first | assumption | omega)); (case q9 => first | assumption | (refine ⟨?_, ?_⟩ <;> first | assumption | omega)); (case q10 => first | assumption | (refine ⟨?_, ?_⟩ <;> first | assumption | omega)); (case q11 => first | assumption | (refine ⟨?_, ?_⟩ <;> first | assumption | omega)); (case q12 => first | assumption | (refine ⟨?_, ?_⟩ <;> first | assumption | omega)); (case q13 => first | assumption | (refine ⟨?_, ?_⟩ <;> first | assumption | omega)); (case q14 => first | assumption | (refine ⟨?_, ?_⟩ <;> first | assumption | omega))
end

theorem lay76 : True := by
  k_with_none
  trivial
section
variable {dp un : Nat} {gd : Option (List Code)}      {A₀ : Around} {base h₀ : Heap} {m : Str → Option Value} {s : Shared} {Q : Flow → Shared → Prop} {E : Value → Shared → Prop} {mean : ExcName → Option Value} {mg mb : Str → Option Value} {w : World} {pv : Program} {lv : List Str} 
variable {cn : Str} {a : Addr} {ccd : Value} {name qual : Str} {params : Arguments} {s1 s2 s3 s4 s5 b1 lp rt : Stmt} {tg it tst : PySem.Expr} {t1 t2 t3 e1 e2 e3 e4 e5 e6 : Stmt} {ore : List Stmt} {ps ps2 pos : Pos} {scope : Scope} {dV kV doc pm cdv ct oc : Value} {an od : Option Addr} {osl : Array (Option Value)}
end
theorem lay77 : True := by
  (k_with "call ref" => (k_here; (with_reducible show wpAny _ _ (call (Value.ref 220) [Value.int _ _, Value.int _ _, Value.int _ _, Value.int _ _, Value.int _ _]) _ _ _); k_dflt (refine' Mine.glue_id ?k1 ?k2 ?k3 ?k4 ?k5 ?kK ?kd ?e1 ?e2 ?e3 ?e4 ?e5 ?z1 ?z2 ?_; (case k1 => k_asm); (case k2 => k_asm); (case k3 => k_asm); (case k4 => k_asm); (case k5 => k_asm); (case kK => first | exact rfl | assumption); (case kd => ktr_room); (case e1 => assumption); (case e2 => assumption); (case e3 => assumption); (case e4 => assumption); (case e5 => assumption); (case z1 => assumption); (case z2 => assumption); k_whole; intro x' d' k1' k2' k3' k4' k5' u3' u5' h' tk' F' N' l1 l2; (try k_lt l1); (try k_lt2 l2); (try dsimp only); (try k_sweep); (try k_fold))))
  trivial
section
variable {dp un : Nat} {gd : Option (List Code)}      {A₀ : Around} {base h₀ : Heap} {m : Str → Option Value} {s : Shared} {Q : Flow → Shared → Prop} {E : Value → Shared → Prop} {mean : ExcName → Option Value} {mg mb : Str → Option Value} {w : World} {pv : Program} {lv : List Str} 
variable {cn : Str} {a : Addr} {ccd : Value} {name qual : Str} {params : Arguments} {s1 s2 s3 s4 s5 b1 lp rt : Stmt} {tg it tst : PySem.Expr} {t1 t2 t3 e1 e2 e3 e4 e5 e6 : Stmt} {ore : List Stmt} {ps ps2 pos : Pos} {scope : Scope} {dV kV doc pm cdv ct oc : Value} {an od : Option Addr} {osl : Array (Option Value)}

theorem two_glues {L : Nat} {news : List (Addr × Obj)} (ho : (Mine.hd.heap_1 w.params).lookup 489 = some ⟨oc, od, .func (fnOf name qual params [s1, s2, s3, s4, s5, .For tg it [b1, .If tst [t1, t2, t3] [e1, e2, e3, e4, e5, e6] ps, lp] ore pos, rt] scope dV kV doc pm an cdv ct), osl⟩) (B : Below A₀ h₀ [] h₀) (X : (Mine.hd.heap_1 w.params).In h₀) (T : Top pv lv mean mg mb h₀) (hd : dp + 40 < recursionLimit) (hu : un + 2000 < cLine) {m : Str → Option Value} {wd ed : Addr} {v1 v2 v3 v4 v5 g1 g2 g3 g4 g5 : Int} {t1 t2 t3 t4 t5 r1 r2 r3 r4 r5 : Tok} (b1 : -1073741823 ≤ v1 ∧ v1 ≤ 1073741823) (b2 : -1073741823 ≤ v2 ∧ v2 ≤ 1073741823) (b3 : 0 ≤ v3 ∧ v3 ≤ 3) (b4 : -1073741823 ≤ v4 ∧ v4 ≤ 1073741823) (b5 : 0 ≤ v5 ∧ v5 ≤ 3) (z1 : v2 = 0 → v3 = 0) (z2 : v4 = 0 → v5 = 0) (c1 : -1073741823 ≤ g1 ∧ g1 ≤ 1073741823) (c2 : -1073741823 ≤ g2 ∧ g2 ≤ 1073741823) (c3 : 0 ≤ g3 ∧ g3 ≤ 3) (c4 : -1073741823 ≤ g4 ∧ g4 ≤ 1073741823) (c5 : 0 ≤ g5 ∧ g5 ≤ 3) (y1 : g2 = 0 → g3 = 0) (y2 : g4 = 0 → g5 = 0) (hw : (wd, tupObj [.int v1 t1, .int v2 t2, .int v3 t3, .int v4 t4, .int v5 t5]) ∈ news) (he : (ed, tupObj [.int g1 r1, .int g2 r2, .int g3 r3, .int g4 r4, .int g5 r5]) ∈ news)
  (F : Fr h₀ L s.heap (fun y => if y = Str.ofString "words" then some (.ref wd) else if y = Str.ofString "ends" then some (.ref ed) else m y)) (N : News h₀ L s.heap news)
  (hret : ∀ o1 o2 dx dz k1 k2 k3 k4 k5 u3 u5 j1 j2 j3 j4 j5 w3 w5 h' tk', Fr h₀ L h' (fun y => if y = Str.ofString "one" then some (.ref o1) else if y = Str.ofString "other" then some (.ref o2) else if y = Str.ofString "words" then some (.ref wd) else if y = Str.ofString "ends" then some (.ref ed) else m y) → News h₀ L h' ((o2, instObj 220 dz) :: (dz, gObj w g1 g2 g3 g4 g5 j1 j2 j3 j4 j5 r1 r2 w3 r4 w5) :: (o1, instObj 220 dx) :: (dx, gObj w v1 v2 v3 v4 v5 k1 k2 k3 k4 k5 t1 t2 u3 t4 u5) :: news) → Q .next { s with heap := h', toks := tk' }) :
  wpAny (model PySem.Challenge.rw_sq0037_01.row.prog w) (ktrTop dp un gd qual scope L a ccd [(Str.ofString "bag", L + 1)] []) (exec e4 (envX qual scope L a ccd [(Str.ofString "bag", L + 1)])) Q E s := by
  have eo := ho.symm.trans (by k_is)
  have hq8 : qual = _ := congrArg (fun o => pQ o qual) eo
  have hq9 : scope = _ := congrArg (fun o => pSc o scope) eo
  have hp0 : e4 = _ := congrArg (fun o => pN (pEls (pN (pFor (pN (pB o) 5)) 1)) 3) eo
  clear eo ho
  dsimp only [pQ, pSc, pB, pFor, pThn, pEls, pTst, pTg, pIt, pOre, pN, fnOf, List.getD, List.getElem?_cons_zero, List.getElem?_cons_succ, Option.getD] at hq8 hq9 hp0
  subst hq8 hq9 hp0
  k_steps
  refine' hret _ _ _ _ _ _ _ _ _ _ _ _ _ _ _ _ _ _ _ _ ?hF ?hN; (case hF => assumption); (case hN => (refine' cb_drop ?cbN ?cbS; (case cbN => assumption); (case cbS => (refine List.forall_mem_cons.mpr ⟨?_, List.forall_mem_cons.mpr ⟨?_, List.forall_mem_cons.mpr ⟨?_, List.forall_mem_cons.mpr ⟨?_, ?_⟩⟩⟩⟩; k_mem; k_mem; k_mem; k_mem; (intro p hp; (repeat (first | exact hp | refine List.mem_append.mpr (.inr ?_) | refine List.mem_cons_of_mem _ ?_)))))))
end

theorem lay78 : True := by
  k_with_none
  trivial
section
variable {dp un : Nat} {gd : Option (List Code)}      {A₀ : Around} {base h₀ : Heap} {m : Str → Option Value} {s : Shared} {Q : Flow → Shared → Prop} {E : Value → Shared → Prop} {mean : ExcName → Option Value} {mg mb : Str → Option Value} {w : World} {pv : Program} {lv : List Str} 
variable {cn : Str} {a : Addr} {ccd : Value} {name qual : Str} {params : Arguments} {s1 s2 s3 s4 s5 b1 lp rt : Stmt} {tg it tst : PySem.Expr} {t1 t2 t3 e1 e2 e3 e4 e5 e6 : Stmt} {ore : List Stmt} {ps ps2 pos : Pos} {scope : Scope} {dV kV doc pm cdv ct oc : Value} {an od : Option Addr} {osl : Array (Option Value)}
end
theorem lay79 : True := by
  (k_with "call ref" => (k_here; (with_reducible show wpAny _ _ (call (Value.ref 470) [Value.ref _, _, Value.ref _, Value.ref _]) _ _ _); k_dflt (refine' Mine.told_any ?k1 ?k2 ?k3 ?k4 ?k5 ?kK ?kd ?ku ?hf ?hfd ?hp ?hi ?hl ?hxs ?hx ?hgx ?b1 ?b2 ?b3 ?b4 ?b5 ?hz ?hgz ?hpw ?hA ?hO ?hK; (case k1 => k_asm); (case k2 => k_asm); (case k3 => k_asm); (case k4 => k_asm); (case k5 => k_asm); (case kK => first | exact rfl | assumption); (case kd => ktr_room); (case ku => ktr_units); (case hf => k_mem); (case hfd => k_mem); (case hp => k_mem); (case hi => assumption); (case hl => assumption); (case hxs => assumption); (case hx => k_mem); (case hgx => k_mem); (case b1 => assumption); (case b2 => assumption); (case b3 => assumption); (case b4 => assumption); (case b5 => assumption); (case hz => k_mem); (case hgz => k_mem); (case hpw => with_reducible assumption); (case' hA => (k_whole; intro hbad' t' h' tk' F' N'; (try dsimp only); (try k_sweep); (try k_fold))); (case' hO => (k_whole; intro k' t' e' q1' q2' ht' t2' h' tk' F' N'; subst e'; (try dsimp only); (try k_sweep); (try k_fold))); (case' hK => (k_whole; intro k' t' a1' a2' a3' a4' a5' e' q1' q2' ht' r' t1' t2' t3' t4' t5' h' tk' F' N'; subst e'; (try dsimp only); (try k_sweep); (try k_fold))))))
  (k_with "call ref" => (k_here; (with_reducible show wpAny _ _ (call (Value.ref 463) [Value.ref _, _, Value.ref _, Value.ref _]) _ _ _); k_dflt (refine' Mine.space_arg ?k1 ?k2 ?k3 ?k4 ?k5 ?kK ?kd ?hb ?_; (case k1 => k_asm); (case k2 => k_asm); (case k3 => k_asm); (case k4 => k_asm); (case k5 => k_asm); (case kK => first | exact rfl | assumption); (case kd => ktr_room); (case hb => with_reducible assumption); k_whole; intro t' h' tk' F' N';  (try dsimp only); (try k_sweep); (try k_fold))))
  (k_with "call ref" => (k_here; (with_reducible show wpAny _ _ (call (Value.ref 463) [Value.ref _, Value.int _ _, Value.ref _, Value.ref _]) _ _ _); k_dflt (refine' Mine.space_over ?k1 ?k2 ?k3 ?k4 ?k5 ?kK ?kd ?ku ?hm ?hlo ?hdk ?hfk ?hxs ?hrel ?hw ?b1 ?b2 ?b3 ?b4 ?b5 ?he ?q1 ?q2 ?ht ?_; (case k1 => k_asm); (case k2 => k_asm); (case k3 => k_asm); (case k4 => k_asm); (case k5 => k_asm); (case kK => first | exact rfl | assumption); (case kd => ktr_room); (case ku => ktr_units); (case hm => k_mem); (case hlo => assumption); (case hdk => with_reducible assumption); (case hfk => with_reducible assumption); (case hxs => assumption); (case hrel => assumption); (case hw => k_mem); (case b1 => assumption); (case b2 => assumption); (case b3 => assumption); (case b4 => assumption); (case b5 => assumption); (case he => k_mem); (case q1 => assumption); (case q2 => assumption); (case ht => with_reducible assumption); k_whole; intro t' h' tk' F' N';  (try dsimp only); (try k_sweep); (try k_fold))))
  (k_with "call ref" => (k_here; (with_reducible show wpAny _ _ (call (Value.ref 463) [Value.ref _, Value.int _ _, Value.ref _, Value.ref _]) _ _ _); k_dflt (refine' Mine.space_ok ?k1 ?k2 ?k3 ?k4 ?k5 ?kK ?kd ?ku ?hm ?hlo ?hdk ?hfk ?hxs ?hrel ?hw ?b1 ?b2 ?b3 ?b4 ?b5 ?he ?q1 ?q2 ?ht ?_; (case k1 => k_asm); (case k2 => k_asm); (case k3 => k_asm); (case k4 => k_asm); (case k5 => k_asm); (case kK => first | exact rfl | assumption); (case kd => ktr_room); (case ku => ktr_units); (case hm => k_mem); (case hlo => assumption); (case hdk => with_reducible assumption); (case hfk => with_reducible assumption); (case hxs => assumption); (case hrel => assumption); (case hw => k_mem); (case b1 => assumption); (case b2 => assumption); (case b3 => assumption); (case b4 => assumption); (case b5 => assumption); (case he => k_mem); (case q1 => assumption); (case q2 => assumption); (case ht => with_reducible assumption); k_whole; intro r' k1' k2' k3' k4' k5' h' tk' F' N';  (try dsimp only); (try k_sweep); (try k_fold))))
  trivial
section
variable {dp un : Nat} {gd : Option (List Code)}      {A₀ : Around} {base h₀ : Heap} {m : Str → Option Value} {s : Shared} {Q : Flow → Shared → Prop} {E : Value → Shared → Prop} {mean : ExcName → Option Value} {mg mb : Str → Option Value} {w : World} {pv : Program} {lv : List Str} 
variable {cn : Str} {a : Addr} {ccd : Value} {name qual : Str} {params : Arguments} {s1 s2 s3 s4 s5 b1 lp rt : Stmt} {tg it tst : PySem.Expr} {t1 t2 t3 e1 e2 e3 e4 e5 e6 : Stmt} {ore : List Stmt} {ps ps2 pos : Pos} {scope : Scope} {dV kV doc pm cdv ct oc : Value} {an od : Option Addr} {osl : Array (Option Value)}

theorem check_told {L l f d pl kd : Nat} {news : List (Addr × Obj)} (ho : (Mine.hd.heap_1 w.params).lookup 489 = some ⟨oc, od, .func (fnOf name qual params [s1, s2, s3, s4, s5, .For tg it [b1, .If tst [t1, t2, t3] [e1, e2, e3, e4, e5, e6] ps, lp] ore pos, rt] scope dV kV doc pm an cdv ct), osl⟩) (B : Below A₀ h₀ [] h₀) (X : (Mine.hd.heap_1 w.params).In h₀) (T : Top pv lv mean mg mb h₀) (hd : dp + 40 < recursionLimit) (hu : un + 2000 < cLine) {m : Str → Option Value} {ks : Nat → Tok} {vs : Nat → Value} {qs : List Value} {xs : List Int} {pn : Nat} {ko : Obj} {kvs : List (Int × Value)} {c : List (Int × Int)} (hf : (f, instObj 377 d) ∈ news) (hfd : (d, fObj w pl ks vs) ∈ news) (hp : (pl, listOf qs.toArray pn) ∈ news) (hkd : (kd, ko) ∈ news) (hi : IntsAre qs xs) (hl : xs.length ≤ 64) (hxs : ∀ z ∈ xs, -1073741823 ≤ z ∧ z ≤ 1073741823) (hlo : (kd == sysModules) = false) (hdk : ko.IsDictOf (PySem.intKind PySem.Challenge.rw_sq0037_01.row.prog w) kvs) (hfk : PyProof.V.FlatPairs PyData.int kvs (kdfD c)) (hrel : ∀ n, parZ xs n = kdfLook c n 0) {wd ed : Nat} {v1 v2 v3 v4 v5 g1 g2 g3 g4 g5 : Int} {t1 t2 t3 t4 t5 r1 r2 r3 r4 r5 : Tok} (b1 : -1073741823 ≤ v1 ∧ v1 ≤ 1073741823) (b2 : -1073741823 ≤ v2 ∧ v2 ≤ 1073741823) (b3 : 0 ≤ v3 ∧ v3 ≤ 3) (b4 : -1073741823 ≤ v4 ∧ v4 ≤ 1073741823) (b5 : 0 ≤ v5 ∧ v5 ≤ 3) (z1 : v2 = 0 → v3 = 0) (z2 : v4 = 0 → v5 = 0) (c1 : -1073741823 ≤ g1 ∧ g1 ≤ 1073741823) (c2 : -1073741823 ≤ g2 ∧ g2 ≤ 1073741823) (c3 : 0 ≤ g3 ∧ g3 ≤ 3) (c4 : -1073741823 ≤ g4 ∧ g4 ≤ 1073741823) (c5 : 0 ≤ g5 ∧ g5 ≤ 3) (y1 : g2 = 0 → g3 = 0) (y2 : g4 = 0 → g5 = 0) (hw : (wd, tupObj [.int v1 t1, .int v2 t2, .int v3 t3, .int v4 t4, .int v5 t5]) ∈ news) (he : (ed, tupObj [.int g1 r1, .int g2 r2, .int g3 r3, .int g4 r4, .int g5 r5]) ∈ news) {o1 o2 dx dz : Nat} {k1 k2 k3 k4 k5 u3 u5 j1 j2 j3 j4 j5 w3 w5 : Tok} (hx : (o1, instObj 220 dx) ∈ news) (hgx : (dx, gObj w v1 v2 v3 v4 v5 k1 k2 k3 k4 k5 t1 t2 u3 t4 u5) ∈ news) (hz : (o2, instObj 220 dz) ∈ news) (hgz : (dz, gObj w g1 g2 g3 g4 g5 j1 j2 j3 j4 j5 r1 r2 w3 r4 w5) ∈ news) {pace place : Value} (hpw : WhichV pace)
  (F : Fr h₀ L s.heap (fun y => if y = Str.ofString "one" then some (.ref o1) else if y = Str.ofString "other" then some (.ref o2) else if y = Str.ofString "words" then some (.ref wd) else if y = Str.ofString "ends" then some (.ref ed) else if y = Str.ofString "pace" then some pace else if y = Str.ofString "place" then some place else if y = Str.ofString "script" then some (.ref l) else if y = Str.ofString "font" then some (.ref f) else if y = Str.ofString "known" then some (.ref kd) else m y)) (N : News h₀ L s.heap news)
  (hret : ∀ h' tk', Fr h₀ L h' (fun y => if y = Str.ofString "one" then some (.ref o1) else if y = Str.ofString "other" then some (.ref o2) else if y = Str.ofString "words" then some (.ref wd) else if y = Str.ofString "ends" then some (.ref ed) else if y = Str.ofString "pace" then some pace else if y = Str.ofString "place" then some place else if y = Str.ofString "script" then some (.ref l) else if y = Str.ofString "font" then some (.ref f) else if y = Str.ofString "known" then some (.ref kd) else m y) → News h₀ L h' news → Q .next { s with heap := h', toks := tk' }) :
  wpAny (model PySem.Challenge.rw_sq0037_01.row.prog w) (ktrTop dp un gd qual scope L a ccd [(Str.ofString "bag", L + 1)] []) (exec e5 (envX qual scope L a ccd [(Str.ofString "bag", L + 1)])) Q E s := by
  have eo := ho.symm.trans (by k_is)
  have hq8 : qual = _ := congrArg (fun o => pQ o qual) eo
  have hq9 : scope = _ := congrArg (fun o => pSc o scope) eo
  have hp0 : e5 = _ := congrArg (fun o => pN (pEls (pN (pFor (pN (pB o) 5)) 1)) 4) eo
  clear eo ho
  dsimp only [pQ, pSc, pB, pFor, pThn, pEls, pTst, pTg, pIt, pOre, pN, fnOf, List.getD, List.getElem?_cons_zero, List.getElem?_cons_succ, Option.getD] at hq8 hq9 hp0
  subst hq8 hq9 hp0
  k_steps
  all_goals (refine' hret _ _ ?hF ?hN; (case hF => assumption); (case hN => (refine' cb_drop ?cbN ?cbS; (case cbN => assumption); (case cbS => (intro p hp; (repeat (first | exact hp | refine List.mem_append.mpr (.inr ?_) | refine List.mem_cons_of_mem _ ?_)))))))
end

theorem lay80 : True := by
  k_with_none
  trivial
section
variable {dp un : Nat} {gd : Option (List Code)}      {A₀ : Around} {base h₀ : Heap} {m : Str → Option Value} {s : Shared} {Q : Flow → Shared → Prop} {E : Value → Shared → Prop} {mean : ExcName → Option Value} {mg mb : Str → Option Value} {w : World} {pv : Program} {lv : List Str} 
variable {cn : Str} {a : Addr} {ccd : Value} {name qual : Str} {params : Arguments} {s1 s2 s3 s4 s5 b1 lp rt : Stmt} {tg it tst : PySem.Expr} {t1 t2 t3 e1 e2 e3 e4 e5 e6 : Stmt} {ore : List Stmt} {ps ps2 pos : Pos} {scope : Scope} {dV kV doc pm cdv ct oc : Value} {an od : Option Addr} {osl : Array (Option Value)}
end
theorem lay81 : True := by
  (k_with "call ref" => (k_here; (with_reducible show wpAny _ _ (call (Value.ref 174) _) _ _ _); k_dflt (refine' Mine.glue_parts ?k1 ?k2 ?k3 ?k4 ?k5 ?kK ?kd ?hx ?hg ?_; (case k1 => k_asm); (case k2 => k_asm); (case k3 => k_asm); (case k4 => k_asm); (case k5 => k_asm); (case kK => first | exact rfl | assumption); (case kd => ktr_room); (case hx => k_mem); (case hg => k_mem); k_whole; intro r' h' tk' F' N' l1; (try k_lt l1); (try dsimp only); (try k_sweep); (try k_fold))))
  trivial
section
variable {dp un : Nat} {gd : Option (List Code)}      {A₀ : Around} {base h₀ : Heap} {m : Str → Option Value} {s : Shared} {Q : Flow → Shared → Prop} {E : Value → Shared → Prop} {mean : ExcName → Option Value} {mg mb : Str → Option Value} {w : World} {pv : Program} {lv : List Str} 
variable {cn : Str} {a : Addr} {ccd : Value} {name qual : Str} {params : Arguments} {s1 s2 s3 s4 s5 b1 lp rt : Stmt} {tg it tst : PySem.Expr} {t1 t2 t3 e1 e2 e3 e4 e5 e6 : Stmt} {ore : List Stmt} {ps ps2 pos : Pos} {scope : Scope} {dV kV doc pm cdv ct oc : Value} {an od : Option Addr} {osl : Array (Option Value)}

theorem check_parts {L l f d pl kd : Nat} {news : List (Addr × Obj)} (ho : (Mine.hd.heap_1 w.params).lookup 489 = some ⟨oc, od, .func (fnOf name qual params [s1, s2, s3, s4, s5, .For tg it [b1, .If tst [t1, t2, t3] [e1, e2, e3, e4, e5, e6] ps, lp] ore pos, rt] scope dV kV doc pm an cdv ct), osl⟩) (B : Below A₀ h₀ [] h₀) (X : (Mine.hd.heap_1 w.params).In h₀) (T : Top pv lv mean mg mb h₀) (hd : dp + 40 < recursionLimit) (hu : un + 2000 < cLine) {m : Str → Option Value} {wd ed : Nat} {v1 v2 v3 v4 v5 g1 g2 g3 g4 g5 : Int} {t1 t2 t3 t4 t5 r1 r2 r3 r4 r5 : Tok} (hw : (wd, tupObj [.int v1 t1, .int v2 t2, .int v3 t3, .int v4 t4, .int v5 t5]) ∈ news) (he : (ed, tupObj [.int g1 r1, .int g2 r2, .int g3 r3, .int g4 r4, .int g5 r5]) ∈ news) {o1 o2 dx dz : Nat} {k1 k2 k3 k4 k5 u3 u5 j1 j2 j3 j4 j5 w3 w5 : Tok} (hx : (o1, instObj 220 dx) ∈ news) (hgx : (dx, gObj w v1 v2 v3 v4 v5 k1 k2 k3 k4 k5 t1 t2 u3 t4 u5) ∈ news) (hz : (o2, instObj 220 dz) ∈ news) (hgz : (dz, gObj w g1 g2 g3 g4 g5 j1 j2 j3 j4 j5 r1 r2 w3 r4 w5) ∈ news) {pace place : Value}
  (F : Fr h₀ L s.heap (fun y => if y = Str.ofString "one" then some (.ref o1) else if y = Str.ofString "other" then some (.ref o2) else if y = Str.ofString "words" then some (.ref wd) else if y = Str.ofString "ends" then some (.ref ed) else if y = Str.ofString "pace" then some pace else if y = Str.ofString "place" then some place else if y = Str.ofString "script" then some (.ref l) else if y = Str.ofString "font" then some (.ref f) else if y = Str.ofString "known" then some (.ref kd) else m y)) (N : News h₀ L s.heap news)
  (hret : ∀ h' tk', Fr h₀ L h' (fun y => if y = Str.ofString "one" then some (.ref o1) else if y = Str.ofString "other" then some (.ref o2) else if y = Str.ofString "words" then some (.ref wd) else if y = Str.ofString "ends" then some (.ref ed) else if y = Str.ofString "pace" then some pace else if y = Str.ofString "place" then some place else if y = Str.ofString "script" then some (.ref l) else if y = Str.ofString "font" then some (.ref f) else if y = Str.ofString "known" then some (.ref kd) else m y) → News h₀ L h' news → Q .next { s with heap := h', toks := tk' }) :
  wpAny (model PySem.Challenge.rw_sq0037_01.row.prog w) (ktrTop dp un gd qual scope L a ccd [(Str.ofString "bag", L + 1)] []) (exec e6 (envX qual scope L a ccd [(Str.ofString "bag", L + 1)])) Q E s := by
  have eo := ho.symm.trans (by k_is)
  have hq8 : qual = _ := congrArg (fun o => pQ o qual) eo
  have hq9 : scope = _ := congrArg (fun o => pSc o scope) eo
  have hp0 : e6 = _ := congrArg (fun o => pN (pEls (pN (pFor (pN (pB o) 5)) 1)) 5) eo
  clear eo ho
  dsimp only [pQ, pSc, pB, pFor, pThn, pEls, pTst, pTg, pIt, pOre, pN, fnOf, List.getD, List.getElem?_cons_zero, List.getElem?_cons_succ, Option.getD] at hq8 hq9 hp0
  subst hq8 hq9 hp0
  k_steps
  all_goals (refine' hret _ _ ?hF ?hN; (case hF => assumption); (case hN => (refine' cb_drop ?cbN ?cbS; (case cbN => assumption); (case cbS => (intro p hp; (repeat (first | exact hp | refine List.mem_append.mpr (.inr ?_) | refine List.mem_cons_of_mem _ ?_)))))))
end

theorem lay82 : True := by
  k_with_none
  trivial
section
variable {dp un : Nat} {gd : Option (List Code)}      {A₀ : Around} {base h₀ : Heap} {m : Str → Option Value} {s : Shared} {Q : Flow → Shared → Prop} {E : Value → Shared → Prop} {mean : ExcName → Option Value} {mg mb : Str → Option Value} {w : World} {pv : Program} {lv : List Str} 
variable {cn : Str} {a : Addr} {ccd : Value} {name qual : Str} {params : Arguments} {s1 s2 s3 s4 s5 b1 lp rt : Stmt} {tg it tst : PySem.Expr} {t1 t2 t3 e1 e2 e3 e4 e5 e6 : Stmt} {ore : List Stmt} {ps ps2 pos : Pos} {scope : Scope} {dV kV doc pm cdv ct oc : Value} {an od : Option Addr} {osl : Array (Option Value)}
end
theorem lay83 : True := by
  (k_with "call ref" => (k_here; (with_reducible show wpAny _ _ (call (Value.ref 428) [Value.ref _, Value.int _ _]) _ _ _); k_dflt (refine' Mine.cell ?k1 ?k2 ?k3 ?k4 ?k5 ?kK ?kd ?L ?I ?n ?h0 ?h1 ?_; (case k1 => k_asm); (case k2 => k_asm); (case k3 => k_asm); (case k4 => k_asm); (case k5 => k_asm); (case kK => first | exact rfl | assumption); (case kd => ktr_room); (case L => assumption); (case I => assumption); (case n => assumption); (case h0 => assumption); (case h1 => assumption); k_whole; intro c' t' h' tk' c0' F' N';  (try dsimp only); (try k_sweep); (try k_fold))))
  (k_with "call ref" => (k_here; (with_reducible show wpAny _ _ (call (Value.ref 435) [Value.int _ _]) _ _ _); k_dflt (refine' Mine.lbag ?k1 ?k2 ?k3 ?k4 ?k5 ?kK ?kd ?c0 ?_; (case k1 => k_asm); (case k2 => k_asm); (case k3 => k_asm); (case k4 => k_asm); (case k5 => k_asm); (case kK => first | exact rfl | assumption); (case kd => ktr_room); (case c0 => assumption); k_whole; intro r' x' y' t1' t2' t3' h' tk' y1' y2' F' N' l1; (try k_lt l1); (try dsimp only); (try k_sweep); (try k_fold))))
  trivial
section
variable {dp un : Nat} {gd : Option (List Code)}      {A₀ : Around} {base h₀ : Heap} {m : Str → Option Value} {s : Shared} {Q : Flow → Shared → Prop} {E : Value → Shared → Prop} {mean : ExcName → Option Value} {mg mb : Str → Option Value} {w : World} {pv : Program} {lv : List Str} 
variable {cn : Str} {a : Addr} {ccd : Value} {name qual : Str} {params : Arguments} {s1 s2 s3 s4 s5 b1 lp rt : Stmt} {tg it tst : PySem.Expr} {t1 t2 t3 e1 e2 e3 e4 e5 e6 : Stmt} {ore : List Stmt} {ps ps2 pos : Pos} {scope : Scope} {dV kV doc pm cdv ct oc : Value} {an od : Option Addr} {osl : Array (Option Value)}

theorem new_bag {L l : Nat} {rest : List (Addr × Obj)} {co : Obj} {ov : Option Value} (hco : co.data = .cell ov) (hown : OwnOff rest [L + 1]) {vs : List Value} {ns : List Int} (hL : h₀.IsList l vs.toArray) (hI : IntsAre vs ns) (hn : ns.length ≤ 63) (ho : (Mine.hd.heap_1 w.params).lookup 489 = some ⟨oc, od, .func (fnOf name qual params [s1, s2, s3, s4, s5, .For tg it [b1, .If tst [t1, t2, t3] [e1, e2, e3, e4, e5, e6] ps, lp] ore pos, rt] scope dV kV doc pm an cdv ct), osl⟩) (B : Below A₀ h₀ [] h₀) (X : (Mine.hd.heap_1 w.params).In h₀) (T : Top pv lv mean mg mb h₀) (hd : dp + 40 < recursionLimit) (hu : un + 2000 < cLine) {m : Str → Option Value} {k : Int} {t : Tok} (h0 : 0 ≤ k) (h1 : k < (ns.length : Int) ∨ k < 5)
  (F : Fr h₀ L s.heap (fun y => if y = Str.ofString "k" then some (.int k t) else if y = Str.ofString "script" then some (.ref l) else m y)) (N : News h₀ L s.heap ((L + 1, co) :: rest))
  (hret : ∀ bg x y tx ty tz co' h' tk', 0 ≤ y → y < 2147483648 → co'.data = .cell (some (.ref bg)) → (∀ p ∈ (L + 1, co) :: rest, p.1 < bg) → Fr h₀ L h' (fun y => if y = Str.ofString "k" then some (.int k t) else if y = Str.ofString "script" then some (.ref l) else m y) → News h₀ L h' ((bg, listOf #[.int x tx, .int y ty, .int 0 tz] 0) :: (L + 1, co') :: rest) → Q .next { s with heap := h', toks := tk' }) :
  wpAny (model PySem.Challenge.rw_sq0037_01.row.prog w) (ktrTop dp un gd qual scope L a ccd [(Str.ofString "bag", L + 1)] []) (exec b1 (envX qual scope L a ccd [(Str.ofString "bag", L + 1)])) Q E s := by
  have eo := ho.symm.trans (by k_is)
  have hq8 : qual = _ := congrArg (fun o => pQ o qual) eo
  have hq9 : scope = _ := congrArg (fun o => pSc o scope) eo
  have hp0 : b1 = _ := congrArg (fun o => pN (pFor (pN (pB o) 5)) 0) eo
  clear eo ho
  dsimp only [pQ, pSc, pB, pFor, pThn, pEls, pTst, pTg, pIt, pOre, pN, fnOf, List.getD, List.getElem?_cons_zero, List.getElem?_cons_succ, Option.getD] at hq8 hq9 hp0
  subst hq8 hq9 hp0
  k_steps
  refine' hret _ _ _ _ _ _ _ _ _ ?y1 ?y2 ?co ?lt ?hF ?hN; (case hF => assumption); (case hN => (refine' cb_drop ?cbN ?cbS; (case cbN => assumption); (case cbS => (refine List.forall_mem_cons.mpr ⟨?_, List.forall_mem_cons.mpr ⟨?_, ?_⟩⟩; k_mem; k_mem; (intro p hp; (repeat (first | exact hp | refine List.mem_append.mpr (.inr ?_) | refine List.mem_cons_of_mem _ ?_))))))); (case y1 => assumption); (case y2 => assumption); (case co => assumption); (case lt => (rename (_ < _ ∧ _) => hl9; first | exact ktn_ltOf (l := (L + 1, co) :: rest) hl9 | exact ktn_ltOf (l := (L + 1, co) :: rest) hl9.2 | exact ktn_ltOf (l := (L + 1, co) :: rest) hl9.2.2))
end
section
variable {dp un : Nat} {gd : Option (List Code)}      {A₀ : Around} {base h₀ : Heap} {m : Str → Option Value} {s : Shared} {Q : Flow → Shared → Prop} {E : Value → Shared → Prop} {mean : ExcName → Option Value} {mg mb : Str → Option Value} {w : World} {pv : Program} {lv : List Str} 
variable {cn : Str} {a : Addr} {ccd : Value} {name qual : Str} {params : Arguments} {s1 s2 s3 s4 s5 b1 lp rt : Stmt} {tg it tst : PySem.Expr} {t1 t2 t3 e1 e2 e3 e4 e5 e6 : Stmt} {ore : List Stmt} {ps ps2 pos : Pos} {scope : Scope} {dV kV doc pm cdv ct oc : Value} {an od : Option Addr} {osl : Array (Option Value)}
end
theorem lay84 : True := by
  (k_with "call ref" => (k_here; (with_reducible show wpAny _ _ (call (Value.ref 442) [Value.ref _, Value.int _ _]) _ _ _); k_dflt (refine' Mine.draw ?k1 ?k2 ?k3 ?k4 ?k5 ?kK ?kd ?U ?y1 ?y2 ?z1 ?z2 ?m1 ?m2 ?_; (case k1 => k_asm); (case k2 => k_asm); (case k3 => k_asm); (case k4 => k_asm); (case k5 => k_asm); (case kK => first | exact rfl | assumption); (case kd => ktr_room); (case U => k_updF); (case y1 => first | assumption | omega); (case y2 => first | assumption | omega); (case z1 => first | assumption | omega); (case z2 => first | assumption | omega); (case m1 => first | assumption | omega); (case m2 => first | assumption | omega); k_whole; intro d' td' x' tx' z' tz' h' tk' r1' r2' z1' z2' F' N'; (try dsimp only at N'); (try dsimp only); (try k_sweep); (try k_fold))))
  trivial
section
variable {dp un : Nat} {gd : Option (List Code)}      {A₀ : Around} {base h₀ : Heap} {m : Str → Option Value} {s : Shared} {Q : Flow → Shared → Prop} {E : Value → Shared → Prop} {mean : ExcName → Option Value} {mg mb : Str → Option Value} {w : World} {pv : Program} {lv : List Str} 
variable {cn : Str} {a : Addr} {ccd : Value} {name qual : Str} {params : Arguments} {s1 s2 s3 s4 s5 b1 lp rt : Stmt} {tg it tst : PySem.Expr} {t1 t2 t3 e1 e2 e3 e4 e5 e6 : Stmt} {ore : List Stmt} {ps ps2 pos : Pos} {scope : Scope} {dV kV doc pm cdv ct oc : Value} {an od : Option Addr} {osl : Array (Option Value)}

theorem test_if {L bg : Nat} {rest : List (Addr × Obj)} {co : Obj} (hco : co.data = .cell (some (.ref bg))) {x y z : Int} {tx ty tz : Tok} (hy : 0 ≤ y) (hy' : y < 2147483648) (hz : 0 ≤ z) (n1 : bg ≠ L + 1) (hown : OwnOff rest [bg, L + 1]) (hz' : z < 900) (ho : (Mine.hd.heap_1 w.params).lookup 489 = some ⟨oc, od, .func (fnOf name qual params [s1, s2, s3, s4, s5, .For tg it [b1, .If tst [t1, t2, t3] [e1, e2, e3, e4, e5, e6] ps, lp] ore pos, rt] scope dV kV doc pm an cdv ct), osl⟩) (B : Below A₀ h₀ [] h₀) (X : (Mine.hd.heap_1 w.params).In h₀) (T : Top pv lv mean mg mb h₀) (hd : dp + 40 < recursionLimit) (hu : un + 2000 < cLine) {m : Str → Option Value}
  (F : Fr h₀ L s.heap m) (N : News h₀ L s.heap ((bg, listOf #[.int x tx, .int y ty, .int z tz] 0) :: (L + 1, co) :: rest))
  (hthn : ∀ x' tx' z' tz' h' tk', 0 ≤ z' → z' ≤ z + 1 → Fr h₀ L h' m → News h₀ L h' ((bg, listOf #[.int x' tx', .int y ty, .int z' tz'] 0) :: (L + 1, co) :: rest) → wpAny (model PySem.Challenge.rw_sq0037_01.row.prog w) (ktrTop dp un gd qual scope L a ccd [(Str.ofString "bag", L + 1)] []) (execs [t1, t2, t3] (envX qual scope L a ccd [(Str.ofString "bag", L + 1)])) Q E { s with heap := h', toks := tk' })
  (hels : ∀ x' tx' z' tz' h' tk', 0 ≤ z' → z' ≤ z + 1 → Fr h₀ L h' m → News h₀ L h' ((bg, listOf #[.int x' tx', .int y ty, .int z' tz'] 0) :: (L + 1, co) :: rest) → wpAny (model PySem.Challenge.rw_sq0037_01.row.prog w) (ktrTop dp un gd qual scope L a ccd [(Str.ofString "bag", L + 1)] []) (execs [e1, e2, e3, e4, e5, e6] (envX qual scope L a ccd [(Str.ofString "bag", L + 1)])) Q E { s with heap := h', toks := tk' }) :
  wpAny (model PySem.Challenge.rw_sq0037_01.row.prog w) (ktrTop dp un gd qual scope L a ccd [(Str.ofString "bag", L + 1)] []) (exec (.If tst [t1, t2, t3] [e1, e2, e3, e4, e5, e6] ps) (envX qual scope L a ccd [(Str.ofString "bag", L + 1)])) Q E s := by
  have eo := ho.symm.trans (by k_is)
  have hq8 : qual = _ := congrArg (fun o => pQ o qual) eo
  have hq9 : scope = _ := congrArg (fun o => pSc o scope) eo
  have hp0 : tst = _ := congrArg (fun o => pTst tst (pN (pFor (pN (pB o) 5)) 1)) eo
  clear eo ho
  dsimp only [pQ, pSc, pB, pFor, pThn, pEls, pTst, pTg, pIt, pOre, pN, fnOf, List.getD, List.getElem?_cons_zero, List.getElem?_cons_succ, Option.getD] at hq8 hq9 hp0
  subst hq8 hq9 hp0
  repeat' (first | (k_unfold; (try dsimp only)) | ((fail_if_success (with_reducible show wpAny _ _ (execs (List.cons _ _) _) _ _ _)); first | walk1 | (dsimp only; walk1)))
  · rename (Fr _ _ _ _) => F9
    rename (News _ _ _ _) => N9
    with_reducible refine hthn _ _ _ _ _ _ ?_ ?_ F9 N9
    · assumption
    · assumption
  · rename (Fr _ _ _ _) => F9
    rename (News _ _ _ _) => N9
    with_reducible refine hels _ _ _ _ _ _ ?_ ?_ F9 N9
    · assumption
    · assumption
end

theorem lay85 : True := by
  k_with_none
  trivial

def InvL (prog : Program) (w : World) (L l f d pl kd : Nat) (ks : Nat → Tok) (vs : Nat → Value) (n : Nat) (m : Str → Option Value) (nx : List (Addr × Obj)) : Prop :=
  ∃ (co : Obj) (ov : Option Value) (qs : List Value) (xs : List Int) (pn : Nat) (ko : Obj) (kvs : List (Int × Value)) (c : List (Int × Int)), co.data = .cell ov ∧ nx = [(L + 1, co), (f, instObj 377 d), (d, fObj w pl ks vs), (pl, listOf (List.toArray qs) pn), (kd, ko)] ∧
    m (Str.ofString "script") = some (.ref l) ∧ m (Str.ofString "font") = some (.ref f) ∧ m (Str.ofString "known") = some (.ref kd) ∧ IntsAre qs xs ∧ xs.length ≤ 64 ∧ (∀ z ∈ xs, -1073741823 ≤ z ∧ z ≤ 1073741823) ∧
    ko.IsDictOf (PySem.intKind prog w) kvs ∧ PyProof.V.FlatPairs PyData.int kvs (kdfD c) ∧ c.length ≤ 8 + n ∧ ∀ n, parZ xs n = kdfLook c n 0
theorem own_more {own : List (Addr × Obj)} {bg : Nat} {as : List Addr} (h : OwnOff own as) (hb : ∀ p ∈ own, p.1 < bg) : OwnOff own (bg :: as) := fun p hp b q => by
  rcases List.mem_cons.mp q with rfl | q
  · exact Nat.ne_of_lt (hb p hp)
  · exact h p hp b q
theorem own_cons {own : List (Addr × Obj)} {as : List Addr} {p : Addr × Obj} (hp : ∀ b ∈ as, p.1 ≠ b) (h : OwnOff own as) : OwnOff (p :: own) as := fun q hq b hb => by
  rcases List.mem_cons.mp hq with rfl | hq
  · exact hp b hb
  · exact h q hq b hb
theorem own4 {own : List (Addr × Obj)} {f d pl kd : Nat} {o1 o2 o3 o4 : Obj} {as : List Addr} (h : OwnOff own as) (h1 : ∀ b ∈ as, f ≠ b) (h2 : ∀ b ∈ as, d ≠ b) (h3 : ∀ b ∈ as, pl ≠ b) (h4 : ∀ b ∈ as, kd ≠ b) : OwnOff ((f, o1) :: (d, o2) :: (pl, o3) :: (kd, o4) :: own) as :=
  own_cons h1 (own_cons h2 (own_cons h3 (own_cons h4 h)))
theorem ne1 {a b : Nat} (h : b ≠ a) : ∀ x ∈ [b], a ≠ x := fun x hx => by rw [List.mem_singleton.mp hx]; exact Ne.symm h
theorem ne2 {a b c : Nat} (h : b ≠ a) (h' : c ≠ a) : ∀ x ∈ [b, c], a ≠ x := fun x hx => by
  rcases List.mem_cons.mp hx with rfl | hx
  · exact Ne.symm h
  · exact ne1 h' x hx
theorem mem6 {a b c d e g p : Addr × Obj} {l : List (Addr × Obj)} (h : p ∈ l) : p ∈ a :: b :: c :: d :: e :: g :: l := .tail _ (.tail _ (.tail _ (.tail _ (.tail _ (.tail _ h)))))
theorem own_sub {own : List (Addr × Obj)} {as bs : List Addr} (h : OwnOff own as) (hs : ∀ b ∈ bs, b ∈ as) : OwnOff own bs := fun p hp b hb => h p hp b (hs b hb)
section
variable {dp un : Nat} {gd : Option (List Code)}      {A₀ : Around} {base h₀ : Heap} {m : Str → Option Value} {s : Shared} {Q : Flow → Shared → Prop} {E : Value → Shared → Prop} {mean : ExcName → Option Value} {mg mb : Str → Option Value} {w : World} {pv : Program} {lv : List Str} 
variable {cn : Str} {a : Addr} {ccd : Value} {name qual : Str} {params : Arguments} {s1 s2 s3 s4 s5 b1 lp rt : Stmt} {tg it tst : PySem.Expr} {t1 t2 t3 e1 e2 e3 e4 e5 e6 : Stmt} {ore : List Stmt} {ps ps2 pos : Pos} {scope : Scope} {dV kV doc pm cdv ct oc : Value} {an od : Option Addr} {osl : Array (Option Value)}

theorem turn {L l f d pl kd : Nat} (ho : (Mine.hd.heap_1 w.params).lookup 489 = some ⟨oc, od, .func (fnOf name qual params [s1, s2, s3, s4, s5, .For tg it [b1, .If tst [t1, t2, t3] [e1, e2, e3, e4, e5, e6] ps, lp] ore pos, rt] scope dV kV doc pm an cdv ct), osl⟩) (B : Below A₀ h₀ [] h₀) (X : (Mine.hd.heap_1 w.params).In h₀) (T : Top pv lv mean mg mb h₀) (hd : dp + 40 < recursionLimit) (hu : un + 2000 < cLine) (hE : PassesOwn (model PySem.Challenge.rw_sq0037_01.row.prog w) (ktrTop dp un gd qual scope L a ccd [(Str.ofString "bag", L + 1)] []) (envX qual scope L a ccd [(Str.ofString "bag", L + 1)]) E) {vs' : List Value} {ns : List Int} (hL : h₀.IsList l vs'.toArray) (hI : IntsAre vs' ns) (hn : ns.length ≤ 63) (n6 : L + 1 ≠ f) (n7 : L + 1 ≠ d) (n8 : L + 1 ≠ pl) (n9 : L + 1 ≠ kd) (n10 : f ≠ d) (n11 : f ≠ pl) (n12 : f ≠ kd) (n13 : d ≠ pl) (n14 : d ≠ kd) (n15 : pl ≠ kd) (hlo : (kd == sysModules) = false) {ks : Nat → Tok} {vs : Nat → Value} {n : Nat} (hn9 : n ≤ 100) {m₁ : Str → Option Value} {nx own : List (Addr × Obj)} (hown : OwnOff own [L + 1, f, d, pl, kd]) (hJ : InvL PySem.Challenge.rw_sq0037_01.row.prog w L l f d pl kd ks vs n m₁ nx)
  {k : Int} {t : Tok} (h0 : 0 ≤ k) (h1 : k < (ns.length : Int) ∨ k < 5) (F : Fr h₀ L s.heap (fun y => if y = Str.ofString "k" then some (.int k t) else m₁ y)) (N : News h₀ L s.heap (nx ++ own)) :
  wpAny (model PySem.Challenge.rw_sq0037_01.row.prog w) (ktrTop dp un gd qual scope L a ccd [(Str.ofString "bag", L + 1)] []) (execs [b1, .If tst [t1, t2, t3] [e1, e2, e3, e4, e5, e6] ps, lp] (envX qual scope L a ccd [(Str.ofString "bag", L + 1)])) (InvPostN h₀ L (InvL PySem.Challenge.rw_sq0037_01.row.prog w L l f d pl kd ks vs (n + 1)) own [L + 1, f, d, pl, kd] s Q) E s := by
  obtain ⟨co, ov, qs, xs, pn, ko, kvs, c, hco, rfl, m1, m2, m3, hi, hl, hxs, hdk, hfk, hcl, hg⟩ := hJ
  obtain ⟨m, rfl⟩ : ∃ m : Str → Option Value, m₁ = (fun y => if y = Str.ofString "script" then some (.ref l) else if y = Str.ofString "font" then some (.ref f) else if y = Str.ofString "known" then some (.ref kd) else m y) := ⟨m₁, map_has3 m1 m2 m3⟩
  have hfin : ∀ (m' : Str → Option Value) (bg : Nat) (bo co' : Obj) (ov' : Option Value) qs' xs' pn' ko' kvs' c' h' tk', co'.data = .cell ov' → IntsAre qs' xs' → xs'.length ≤ 64 → (∀ z ∈ xs', -1073741823 ≤ z ∧ z ≤ 1073741823) → ko'.IsDictOf (PySem.intKind PySem.Challenge.rw_sq0037_01.row.prog w) kvs' → PyProof.V.FlatPairs PyData.int kvs' (kdfD c') → c'.length ≤ c.length + 1 → (∀ n, parZ xs' n = kdfLook c' n 0) →
      Fr h₀ L h' (fun y => if y = Str.ofString "script" then some (.ref l) else if y = Str.ofString "font" then some (.ref f) else if y = Str.ofString "known" then some (.ref kd) else m' y) → News h₀ L h' ((bg, bo) :: (L + 1, co') :: (f, instObj 377 d) :: (d, fObj w pl ks vs) :: (pl, listOf (List.toArray qs') pn') :: (kd, ko') :: own) →
      wpAny (model PySem.Challenge.rw_sq0037_01.row.prog w) (ktrTop dp un gd qual scope L a ccd [(Str.ofString "bag", L + 1)] []) (execs [lp] (envX qual scope L a ccd [(Str.ofString "bag", L + 1)])) (InvPostN h₀ L (InvL PySem.Challenge.rw_sq0037_01.row.prog w L l f d pl kd ks vs (n + 1)) own [L + 1, f, d, pl, kd] s Q) E { s with heap := h', toks := tk' } := by
    intro m' bg bo co' ov' qs' xs' pn' ko' kvs' c' h' tk' a0 a1 a2 a3 a4 a5 a6 a7 F' N'
    refine wpAny_execs_cons (params16 ho B X T hd hu hE F' N' (.tail _ (.tail _ (.head _))) (.tail _ (.tail _ (.tail _ (.head _)))) (.tail _ (.tail _ (.tail _ (.tail _ (.head _))))) (.tail _ (.tail _ (.tail _ (.tail _ (.tail _ (.head _)))))) a1 a2 hlo a4 a5 a7 fun m'' h'' tk'' F'' N'' => wpAny_execs_nil ?_)
    refine ⟨h'', tk'', _, _, [(L + 1, co'), (f, instObj 377 d), (d, fObj w pl ks vs), (pl, listOf (List.toArray qs') pn'), (kd, ko')], rfl, F'', N'', ?_, ?_, rfl, co', ov', qs', xs', pn', ko', kvs', c', a0, rfl, rfl, rfl, rfl, a1, a2, a3, a4, a5, by omega, a7⟩
    · intro p hp
      exact .tail _ (List.mem_append.mpr (.inl hp) : p ∈ [(L + 1, co'), (f, instObj 377 d), (d, fObj w pl ks vs), (pl, listOf (List.toArray qs') pn'), (kd, ko')] ++ own)
    · intro p hp
      exact .tail _ (.tail _ (.tail _ (.tail _ (.tail _ (.tail _ hp)))))
  dsimp only at F
  have o1 : OwnOff own [L + 1] := own_sub hown fun b hb => by rw [List.mem_singleton.mp hb]; exact .head _
  refine wpAny_execs_cons (new_bag hco (own4 o1 (ne1 n6) (ne1 n7) (ne1 n8) (ne1 n9)) hL hI hn ho B X T hd hu h0 h1 F N ?_)
  clear F N
  intro bg x y tx ty tz co' h' tk' y1 y2 hco' lb F0 N
  obtain ⟨m9, F⟩ : ∃ m9 : Str → Option Value, Fr h₀ L h' (fun y => if y = Str.ofString "script" then some (.ref l) else if y = Str.ofString "font" then some (.ref f) else if y = Str.ofString "known" then some (.ref kd) else m9 y) := ⟨_, fr_has3 (a := Str.ofString "script") (b := Str.ofString "font") (c := Str.ofString "known") (va := some (.ref l)) (vb := some (.ref f)) (vc := some (.ref kd)) F0 rfl rfl rfl⟩
  clear F0
  have n1 : bg ≠ L + 1 := Nat.ne_of_gt (lb _ (.head _))
  have n2 : bg ≠ f := Nat.ne_of_gt (lb _ (.tail _ (.head _)))
  have n3 : bg ≠ d := Nat.ne_of_gt (lb _ (.tail _ (.tail _ (.head _))))
  have n4 : bg ≠ pl := Nat.ne_of_gt (lb _ (.tail _ (.tail _ (.tail _ (.head _)))))
  have n5 : bg ≠ kd := Nat.ne_of_gt (lb _ (.tail _ (.tail _ (.tail _ (.tail _ (.head _))))))
  have lo : ∀ p ∈ own, p.1 < bg := fun p hp => lb p (.tail _ (.tail _ (.tail _ (.tail _ (.tail _ hp)))))
  have o2 : ∀ o, OwnOff ((f, instObj 377 d) :: (d, fObj w pl ks vs) :: (pl, listOf (List.toArray qs) pn) :: (kd, o) :: own) [bg, L + 1] := fun o => own4 (own_more o1 lo) (ne2 n2 n6) (ne2 n3 n7) (ne2 n4 n8) (ne2 n5 n9)
  refine wpAny_execs_cons (test_if hco' y1 y2 (Int.le_refl 0) n1 (o2 ko) (by decide) ho B X T hd hu F N ?_ ?_)
  · intro x1 tx1 z1 tz1 h1 tk1 a1 a2 F N
    refine wpAny_execs_cons (pick_which hco' y1 y2 a1 n1 (o2 ko) (by omega) ho B X T hd hu F N ?_)
    intro v x2 tx2 z2 tz2 h2 tk2 hv a3 a4 F N
    refine wpAny_execs_cons (pick_amount hco' y1 y2 a3 n1 (o2 ko) (by omega) ho B X T hd hu F N ?_)
    intro v' x3 tx3 z3 tz3 h3 tk3 hv' a5 a6 F N
    refine wpAny_execs_cons (then_if ho B X T hd hu hE hco' y1 y2 a5 n1 n2 n3 n4 n5 n6 n7 n8 n9 n10 n11 n12 n13 n14 n15 (own_more hown lo) hi hl hxs hlo hdk hfk (by omega) hg hv hv' F N ?_)
    intro m' bo qs' xs' pn' ko' kvs' c' h4 tk4 c1 c2 c3 c4 c5 c6 c7 F N
    exact wpAny_execs_nil (hfin m' bg bo co' _ qs' xs' pn' ko' kvs' c' h4 tk4 hco' c1 c2 c3 c4 c5 c6 c7 F N)
  · intro x1 tx1 z1 tz1 h1 tk1 a1 a2 F N
    refine wpAny_execs_cons (pick_place hco' y1 y2 a1 n1 (o2 ko) (by omega) ho B X T hd hu F N ?_)
    intro r t2 x2 tx2 z2 tz2 h2 tk2 hr hr' a3 a4 F N
    refine wpAny_execs_cons (pick_pace hco' y1 y2 a3 n1 (o2 ko) (by omega) ho B X T hd hu hr hr' F N ?_)
    intro v x3 tx3 z3 tz3 h3 tk3 hv a5 a6 F N
    refine wpAny_execs_cons (two_parts hco' y1 y2 a5 n1 (o2 ko) (by omega) ho B X T hd hu F N ?_)
    intro wd ed v1 v2 v3 v4 v5 g1 g2 g3 g4 g5 t1 t2' t3 t4 t5 r1 r2 r3 r4 r5 bo h4 tk4 b1 b2 b3 b4 b5 q1 q2 c1 c2 c3 c4 c5 q3 q4 F N
    refine wpAny_execs_cons (two_glues ho B X T hd hu b1 b2 b3 b4 b5 q1 q2 c1 c2 c3 c4 c5 q3 q4 (by exact .tail _ (.head _)) (by exact .head _) F N ?_)
    intro p1 p2 dx dz k1 k2 k3 k4 k5 u3 u5 j1 j2 j3 j4 j5 w3 w5 h5 tk5 F N
    refine wpAny_execs_cons (check_told ho B X T hd hu (by exact mem6 (.tail _ (.tail _ (.head _)))) (by exact mem6 (.tail _ (.tail _ (.tail _ (.head _))))) (by exact mem6 (.tail _ (.tail _ (.tail _ (.tail _ (.head _)))))) (by exact mem6 (.tail _ (.tail _ (.tail _ (.tail _ (.tail _ (.head _))))))) hi hl hxs hlo hdk hfk hg b1 b2 b3 b4 b5 q1 q2 c1 c2 c3 c4 c5 q3 q4 (by exact .tail _ (.tail _ (.tail _ (.tail _ (.tail _ (.head _)))))) (by exact .tail _ (.tail _ (.tail _ (.tail _ (.head _))))) (by exact .tail _ (.tail _ (.head _))) (by exact .tail _ (.tail _ (.tail _ (.head _)))) (by exact .head _) (by exact .tail _ (.head _)) hv F N ?_)
    intro h6 tk6 F N
    refine wpAny_execs_cons (check_parts (d := d) (pl := pl) ho B X T hd hu (by exact .tail _ (.tail _ (.tail _ (.tail _ (.tail _ (.head _)))))) (by exact .tail _ (.tail _ (.tail _ (.tail _ (.head _))))) (by exact .tail _ (.tail _ (.head _))) (by exact .tail _ (.tail _ (.tail _ (.head _)))) (by exact .head _) (by exact .tail _ (.head _)) F N ?_)
    intro h7 tk7 F N
    have F8 := fr_has3 (a := Str.ofString "script") (b := Str.ofString "font") (c := Str.ofString "known") (va := some (.ref l)) (vb := some (.ref f)) (vc := some (.ref kd)) F rfl rfl rfl
    exact wpAny_execs_nil (hfin _ bg bo co' _ qs xs pn ko kvs c h7 tk7 hco' hi hl hxs hdk hfk (Nat.le_succ _) hg F8 fun p hp => N p (mem6 hp))
end

theorem lay86 : True := by
  k_with_none
  trivial
section
variable {prog : Program} {w : World} {A : Around} {s : Shared} {h₀ : Heap} {L : Addr} {m : Str → Option Value} {env : Env} {elt : PySem.Expr} {x : Str} {scope : Scope} {cl : List (Str × Addr)} {S : List (Addr × Obj) → Prop} {P : Nat → Value → Prop} {Fin : List Value → List (Addr × Obj) → Prop}
theorem comp_inv {n : Nat} {news : List (Addr × Obj)} (J : List Value → List (Addr × Obj) → Prop)
    (turn : ∀ ys nw I oI C oC D m₂ h tk (E' : Value → Shared → Prop), ys.length < n → J ys nw → LCg.NsObj oC m₂ → Fr h₀ L h m → News h₀ L h ((I, oI) :: (C, oC) :: (D, LCg.lst ys) :: nw) → LCg.Off3 I C D nw → ((@Ne Nat I C) ∧ (@Ne Nat I D) ∧ (@Ne Nat C D)) →
      wpAny (model prog w) A (eval elt (compEnvC scope cl C env)) (LCg.CompEnd h₀ L m { s with heap := h, toks := tk } I oI C oC D (LCg.lst ys) S (fun y nw' => J (ys ++ [y]) nw')) E' { s with heap := h, toks := tk })
    (fin : ∀ ys nw, ys.length = n → J ys nw → Fin ys nw) (h0 : J [] news) : LCg.CompRest prog w A h₀ L m env elt x scope cl s S P Fin n 0 [] news := by
  have key : ∀ (j i : Nat) (ys : List Value) (nw : List (Addr × Obj)), i + j = n → ys.length = i → J ys nw → LCg.CompRest prog w A h₀ L m env elt x scope cl s S P Fin j i ys nw := by
    intro j
    induction j with
    | zero => exact fun i ys nw hi hy hJ => LCg.CompRest.zero (fin ys nw (by omega) hJ)
    | succ j ih =>
      intro i ys nw hi hy hJ
      refine LCg.CompRest.succ ?_
      intro v I oI C oC D m₂ h tk E' hv hC hx F N off ne
      refine wpAny_mono (turn ys nw I oI C oC D m₂ h tk E' (by omega) hJ hC F N off ne) (fun y s₂ hq => ?_) fun _ _ e => e
      obtain ⟨h', tk', nw', e, F', N', off', hS, hJ'⟩ := hq
      exact ⟨h', tk', nw', e, F', N', off', hS, ih (i + 1) _ nw' (by omega) (by simp [hy]) hJ'⟩
  exact key n 0 [] news (by omega) rfl h0
end
def FirstJ (rest : List (Addr × Obj)) (bg : Nat) (y : Int) (ty : Tok) (ys : List Value) (nw : List (Addr × Obj)) : Prop :=
  ∃ x tx z tz xs, nw = (bg, listOf #[.int x tx, .int y ty, .int z tz] 0) :: rest ∧ 0 ≤ z ∧ z ≤ 1 + (ys.length : Int) ∧ IntsAre ys xs ∧ ∀ v ∈ xs, -1073741823 ≤ v ∧ v ≤ 1073741823
theorem off1_mem {D : Addr} : ∀ {l : List (Addr × Obj)}, LCg.Off1 D l → ∀ p ∈ l, p.1 ≠ D
  | [], _, _, h => nomatch h
  | _ :: _, x, p, h => by
    rcases List.mem_cons.mp h with rfl | h
    · exact x.1
    · exact off1_mem x.2 p h
theorem off3_swap {I C D : Addr} {b : Addr} {o o' : Obj} {r : List (Addr × Obj)} (h : LCg.Off3 I C D ((b, o) :: r)) : LCg.Off3 I C D ((b, o') :: r) := h
section
variable {dp un : Nat} {gd : Option (List Code)}      {A₀ : Around} {base h₀ : Heap} {m : Str → Option Value} {s : Shared} {Q : Flow → Shared → Prop} {E : Value → Shared → Prop} {mean : ExcName → Option Value} {mg mb : Str → Option Value} {w : World} {pv : Program} {lv : List Str} 
variable {cn : Str} {a : Addr} {ccd : Value} {name qual : Str} {params : Arguments} {s1 s2 s3 s4 s5 b1 lp rt : Stmt} {tg it tst : PySem.Expr} {t1 t2 t3 e1 e2 e3 e4 e5 e6 : Stmt} {ore : List Stmt} {ps ps2 pos : Pos} {scope : Scope} {dV kV doc pm cdv ct oc : Value} {an od : Option Addr} {osl : Array (Option Value)}
end
theorem lay87 : True := by
  (k_with "call ref" => (k_here; (with_reducible show wpAny _ _ (call (Value.ref 419) _) _ _ _); k_dflt (refine' Mine.sizes ?k1 ?k2 ?k3 ?k4 ?k5 ?kK ?kd  ?_; (case k1 => k_asm); (case k2 => k_asm); (case k3 => k_asm); (case k4 => k_asm); (case k5 => k_asm); (case kK => first | exact rfl | assumption); (case kd => ktr_room);  k_whole; intro r' t1' t2' t3' t4' t5' t6' t7' t8' t9' h' tk' F' N' l1; (try k_lt l1); (try dsimp only); (try k_sweep); (try k_fold))))
  (k_with "call ref" => (k_here; (with_reducible show wpAny _ _ (call (Value.ref 442) [Value.ref _, Value.int _ _]) _ _ _); k_dflt (refine' Mine.draw ?k1 ?k2 ?k3 ?k4 ?k5 ?kK ?kd ?U ?y1 ?y2 ?z1 ?z2 ?m1 ?m2 ?_; (case k1 => k_asm); (case k2 => k_asm); (case k3 => k_asm); (case k4 => k_asm); (case k5 => k_asm); (case kK => first | exact rfl | assumption); (case kd => ktr_room); (case U => k_updF); (case y1 => first | assumption | omega); (case y2 => first | assumption | omega); (case z1 => first | assumption | omega); (case z2 => first | assumption | omega); (case m1 => first | assumption | omega); (case m2 => first | assumption | omega); k_whole; intro d' td' x' tx' z' tz' h' tk' r1' r2' z1' z2' F' N'; (try dsimp only at N'); (try dsimp only); (try k_sweep); (try k_fold))))
  trivial
section
variable {dp un : Nat} {gd : Option (List Code)}      {A₀ : Around} {base h₀ : Heap} {m : Str → Option Value} {s : Shared} {Q : Flow → Shared → Prop} {E : Value → Shared → Prop} {mean : ExcName → Option Value} {mg mb : Str → Option Value} {w : World} {pv : Program} {lv : List Str} 
variable {cn : Str} {a : Addr} {ccd : Value} {name qual : Str} {params : Arguments} {s1 s2 s3 s4 s5 b1 lp rt : Stmt} {tg it tst : PySem.Expr} {t1 t2 t3 e1 e2 e3 e4 e5 e6 : Stmt} {ore : List Stmt} {ps ps2 pos : Pos} {scope : Scope} {dV kV doc pm cdv ct oc : Value} {an od : Option Addr} {osl : Array (Option Value)}

theorem first_list {L bg : Nat} {rest : List (Addr × Obj)} {co : Obj} (hco : co.data = .cell (some (.ref bg))) {x y z : Int} {tx ty tz : Tok} (hy : 0 ≤ y) (hy' : y < 2147483648) (hz : 0 ≤ z) (n1 : bg ≠ L + 1) (hown : OwnOff rest [bg, L + 1]) (hz' : z = 0) (ho : (Mine.hd.heap_1 w.params).lookup 489 = some ⟨oc, od, .func (fnOf name qual params [s1, s2, s3, s4, s5, .For tg it [b1, .If tst [t1, t2, t3] [e1, e2, e3, e4, e5, e6] ps, lp] ore pos, rt] scope dV kV doc pm an cdv ct), osl⟩) (B : Below A₀ h₀ [] h₀) (X : (Mine.hd.heap_1 w.params).In h₀) (T : Top pv lv mean mg mb h₀) (hd : dp + 40 < recursionLimit) (hu : un + 2000 < cLine) {m : Str → Option Value}
  (F : Fr h₀ L s.heap m) (N : News h₀ L s.heap ((bg, listOf #[.int x tx, .int y ty, .int z tz] 0) :: (L + 1, co) :: rest))
  (hret : ∀ D ys xs bo h' tk', IntsAre ys xs → xs.length ≤ 8 → (∀ v ∈ xs, -1073741823 ≤ v ∧ v ≤ 1073741823) → bg ≠ D → L + 1 ≠ D → (∀ p ∈ rest, p.1 ≠ D) → Fr h₀ L h' (fun y => if y = Str.ofString "first" then some (.ref D) else m y) → News h₀ L h' ((D, listOf (List.toArray ys) ys.length) :: ((bg, bo) :: (L + 1, co) :: rest)) → Q .next { s with heap := h', toks := tk' }) :
  wpAny (model PySem.Challenge.rw_sq0037_01.row.prog w) (ktrTop dp un gd qual scope L a ccd [(Str.ofString "bag", L + 1)] []) (exec s2 (envX qual scope L a ccd [(Str.ofString "bag", L + 1)])) Q E s := by
  have eo := ho.symm.trans (by k_is)
  have hq8 : qual = _ := congrArg (fun o => pQ o qual) eo
  have hq9 : scope = _ := congrArg (fun o => pSc o scope) eo
  have hp0 : s2 = _ := congrArg (fun o => pN (pB o) 1) eo
  clear eo ho
  dsimp only [pQ, pSc, pB, pFor, pThn, pEls, pTst, pTg, pIt, pOre, pN, fnOf, List.getD, List.getElem?_cons_zero, List.getElem?_cons_succ, Option.getD] at hq8 hq9 hp0
  subst hq8 hq9 hp0
  k_dflt (refine LCg.Assign_ListComp_U (F₀ := F) (by rfl) (by with_unfolding_all rfl) (by with_unfolding_all rfl) (by decide) (by rfl) (by decide) (by rfl) (by rfl) (by rfl) ?_)
  repeat' (first | (k_unfold; (try dsimp only)) | ((fail_if_success (with_reducible show LCg.CompSrc _ _ _ _ _ _ _ _ _ _ _ _ _ _)); first | walk1 | (dsimp only; walk1)))
  rename (Fr _ _ _ _) => F9
  rename (News _ _ _ _) => N9
  rename (IsRange _ _ _ _ _ _ _ _) => rg
  k_dflt (refine LCg.CompSrc.range (by rfl) F9 N9 rg (by first | exact small_one (by kcf_bnd) (by kcf_bnd) (by kcf_bnd) (by kcf_bnd) | decide) (by first | exact rangeSize_nat _ _ | rfl) (by first | exact Nat.le_of_ble_eq_true rfl | (rw [PySem.sizeLine_eq]; first | omega | ((simp only [List.size_toArray]); omega))) ?_)
  intro g9
  refine comp_inv (FirstJ ((L + 1, co) :: rest) bg y ty) ?_ ?_ ⟨_, _, _, _, [], rfl, by omega, by simp only [List.length_nil]; omega, .nil, fun _ q => nomatch q⟩
  · clear F9 N9 rg
    rintro ys nw I oI C oC D m₂ h8 tk8 E8 hlen ⟨x8, tx8, z8, tz8, xs8, rfl, q1, q2, q3, q4⟩ hC F8 N8 off ne
    have off0 := off
    (simp only [LCg.Off3] at off)
    have hlen8 : ys.length < 9 := by omega
    k_steps
    rename (Fr _ _ _ _) => F7
    rename (News _ _ _ _) => N7
    refine' LCg.CompEnd.intro F7 N7 ((bg, listOf #[.int _ _, .int y ty, .int _ _] 0) :: (L + 1, co) :: rest) ?sub (off3_swap off0) trivial ⟨_, _, _, _, xs8 ++ [_], rfl, ?z1, ?z2, IntsAre.append q3 (.cons _ _ .nil), ?b⟩
    case sub => (refine List.forall_mem_cons.mpr ⟨?_, List.forall_mem_cons.mpr ⟨?_, List.forall_mem_cons.mpr ⟨?_, List.forall_mem_cons.mpr ⟨?_, List.forall_mem_cons.mpr ⟨?_, ?_⟩⟩⟩⟩⟩; k_mem; k_mem; k_mem; k_mem; k_mem; (intro p hp; (repeat (first | exact hp | refine List.mem_append.mpr (.inr ?_) | refine List.mem_cons_of_mem _ ?_))))
    case z1 => assumption
    case z2 => (rw [List.length_append, List.length_singleton]; omega)
    case b => (intro v hv; rcases List.mem_append.mp hv with hv | hv; exact q4 v hv; rw [List.mem_singleton.mp hv]; exact pick_b _)
  · rintro ys nw hlen ⟨x8, tx8, z8, tz8, xs8, rfl, q1, q2, q3, q4⟩
    intro D h8 tk8 F8 N8 off
    have e := q3.length
    exact hret D ys xs8 _ _ _ q3 (by omega) q4 off.1 off.2.1 (off1_mem off.2.2) F8 N8
end

theorem lay88 : True := by
  k_with_none
  trivial
section
variable {dp un : Nat} {gd : Option (List Code)}      {A₀ : Around} {base h₀ : Heap} {m : Str → Option Value} {s : Shared} {Q : Flow → Shared → Prop} {E : Value → Shared → Prop} {mean : ExcName → Option Value} {mg mb : Str → Option Value} {w : World} {pv : Program} {lv : List Str} 
variable {cn : Str} {a : Addr} {ccd : Value} {name qual : Str} {params : Arguments} {s1 s2 s3 s4 s5 b1 lp rt : Stmt} {tg it tst : PySem.Expr} {t1 t2 t3 e1 e2 e3 e4 e5 e6 : Stmt} {ore : List Stmt} {ps ps2 pos : Pos} {scope : Scope} {dV kV doc pm cdv ct oc : Value} {an od : Option Addr} {osl : Array (Option Value)}
end
theorem lay89 : True := by
  (k_with "call ref" => (k_here; (with_reducible show wpAny _ _ (call (Value.ref 428) [Value.ref _, Value.int _ _]) _ _ _); k_dflt (refine' Mine.cell ?k1 ?k2 ?k3 ?k4 ?k5 ?kK ?kd ?L ?I ?n ?h0 ?h1 ?_; (case k1 => k_asm); (case k2 => k_asm); (case k3 => k_asm); (case k4 => k_asm); (case k5 => k_asm); (case kK => first | exact rfl | assumption); (case kd => ktr_room); (case L => assumption); (case I => assumption); (case n => assumption); (case h0 => first | assumption | decide); (case h1 => first | assumption | exact Or.inr (by decide)); k_whole; intro c' t' h' tk' c0' F' N';  (try dsimp only); (try k_sweep); (try k_fold))))
  (k_with "call ref" => (k_here; (with_reducible show wpAny _ _ (call (Value.ref 435) [Value.int _ _]) _ _ _); k_dflt (refine' Mine.lbag ?k1 ?k2 ?k3 ?k4 ?k5 ?kK ?kd ?c0 ?_; (case k1 => k_asm); (case k2 => k_asm); (case k3 => k_asm); (case k4 => k_asm); (case k5 => k_asm); (case kK => first | exact rfl | assumption); (case kd => ktr_room); (case c0 => assumption); k_whole; intro r' x' y' t1' t2' t3' h' tk' y1' y2' F' N' l1; (try k_lt l1); (try dsimp only); (try k_sweep); (try k_fold))))
  trivial
section
variable {dp un : Nat} {gd : Option (List Code)}      {A₀ : Around} {base h₀ : Heap} {m : Str → Option Value} {s : Shared} {Q : Flow → Shared → Prop} {E : Value → Shared → Prop} {mean : ExcName → Option Value} {mg mb : Str → Option Value} {w : World} {pv : Program} {lv : List Str} 
variable {cn : Str} {a : Addr} {ccd : Value} {name qual : Str} {params : Arguments} {s1 s2 s3 s4 s5 b1 lp rt : Stmt} {tg it tst : PySem.Expr} {t1 t2 t3 e1 e2 e3 e4 e5 e6 : Stmt} {ore : List Stmt} {ps ps2 pos : Pos} {scope : Scope} {dV kV doc pm cdv ct oc : Value} {an od : Option Addr} {osl : Array (Option Value)}

theorem first_bag {L l : Nat} {rest : List (Addr × Obj)} {co : Obj} {ov : Option Value} (hco : co.data = .cell ov) (hown : OwnOff rest [L + 1]) {vs : List Value} {ns : List Int} (hL : h₀.IsList l vs.toArray) (hI : IntsAre vs ns) (hn : ns.length ≤ 63) (ho : (Mine.hd.heap_1 w.params).lookup 489 = some ⟨oc, od, .func (fnOf name qual params [s1, s2, s3, s4, s5, .For tg it [b1, .If tst [t1, t2, t3] [e1, e2, e3, e4, e5, e6] ps, lp] ore pos, rt] scope dV kV doc pm an cdv ct), osl⟩) (B : Below A₀ h₀ [] h₀) (X : (Mine.hd.heap_1 w.params).In h₀) (T : Top pv lv mean mg mb h₀) (hd : dp + 40 < recursionLimit) (hu : un + 2000 < cLine) {m : Str → Option Value}
  (F : Fr h₀ L s.heap (fun y => if y = Str.ofString "script" then some (.ref l) else m y)) (N : News h₀ L s.heap ((L + 1, co) :: rest))
  (hret : ∀ bg x y tx ty tz co' h' tk', 0 ≤ y → y < 2147483648 → co'.data = .cell (some (.ref bg)) → (∀ p ∈ (L + 1, co) :: rest, p.1 < bg) → Fr h₀ L h' (fun y => if y = Str.ofString "script" then some (.ref l) else m y) → News h₀ L h' ((bg, listOf #[.int x tx, .int y ty, .int 0 tz] 0) :: (L + 1, co') :: rest) → Q .next { s with heap := h', toks := tk' }) :
  wpAny (model PySem.Challenge.rw_sq0037_01.row.prog w) (ktrTop dp un gd qual scope L a ccd [(Str.ofString "bag", L + 1)] []) (exec s1 (envX qual scope L a ccd [(Str.ofString "bag", L + 1)])) Q E s := by
  have eo := ho.symm.trans (by k_is)
  have hq8 : qual = _ := congrArg (fun o => pQ o qual) eo
  have hq9 : scope = _ := congrArg (fun o => pSc o scope) eo
  have hp0 : s1 = _ := congrArg (fun o => pN (pB o) 0) eo
  clear eo ho
  dsimp only [pQ, pSc, pB, pFor, pThn, pEls, pTst, pTg, pIt, pOre, pN, fnOf, List.getD, List.getElem?_cons_zero, List.getElem?_cons_succ, Option.getD] at hq8 hq9 hp0
  subst hq8 hq9 hp0
  k_steps
  refine' hret _ _ _ _ _ _ _ _ _ ?y1 ?y2 ?co ?lt ?hF ?hN; (case hF => assumption); (case hN => (refine' cb_drop ?cbN ?cbS; (case cbN => assumption); (case cbS => (refine List.forall_mem_cons.mpr ⟨?_, List.forall_mem_cons.mpr ⟨?_, ?_⟩⟩; k_mem; k_mem; (intro p hp; (repeat (first | exact hp | refine List.mem_append.mpr (.inr ?_) | refine List.mem_cons_of_mem _ ?_))))))); (case y1 => assumption); (case y2 => assumption); (case co => assumption); (case lt => (rename (_ < _ ∧ _) => hl9; first | exact ktn_ltOf (l := (L + 1, co) :: rest) hl9 | exact ktn_ltOf (l := (L + 1, co) :: rest) hl9.2 | exact ktn_ltOf (l := (L + 1, co) :: rest) hl9.2.2))
end
section
variable {dp un : Nat} {gd : Option (List Code)}      {A₀ : Around} {base h₀ : Heap} {m : Str → Option Value} {s : Shared} {Q : Flow → Shared → Prop} {E : Value → Shared → Prop} {mean : ExcName → Option Value} {mg mb : Str → Option Value} {w : World} {pv : Program} {lv : List Str} 
variable {cn : Str} {a : Addr} {ccd : Value} {name qual : Str} {params : Arguments} {s1 s2 s3 s4 s5 b1 lp rt : Stmt} {tg it tst : PySem.Expr} {t1 t2 t3 e1 e2 e3 e4 e5 e6 : Stmt} {ore : List Stmt} {ps ps2 pos : Pos} {scope : Scope} {dV kV doc pm cdv ct oc : Value} {an od : Option Addr} {osl : Array (Option Value)}
end
theorem lay90 : True := by
  (k_with "call type:tuple" => (k_here; (with_reducible show wpAny _ _ (call (Value.type _) [Value.ref _]) _ _ _); k_dflt (refine' kde_tupleOf ?k1 ?k2 ?k3 ?k4 ?k5 ?_; (case k1 => k_asm); (case k2 => k_asm); (case k3 => exact News.isList (by k_asm) (by k_mem)); (case k4 => (simp only [List.size_toArray]; omega)); (case k5 => exact List.toList_toArray); k_whole); intro D' h' F' N' l1; (try k_lt l1); (try k_sweep)))
  (k_with "call ref" => (k_here; (with_reducible show wpAny _ _ (call (Value.ref 398) [Value.int 1 _, Value.ref _, Value.ref _]) _ _ _); k_dflt (refine' Mine.font_rows ?k1 ?k2 ?k3 ?k4 ?k5 ?kK ?kd ?hp ?hi ?hl ?hxs ?hra ?hro ?_; (case k1 => k_asm); (case k2 => k_asm); (case k3 => k_asm); (case k4 => k_asm); (case k5 => k_asm); (case kK => first | exact rfl | assumption); (case kd => ktr_room); (case hra => k_mem); (case hro => k_mem); (case hp => k_mem); (case hi => assumption); (case hl => assumption); (case hxs => assumption); k_whole; intro f' d' pl' ks' vs' pn' h' tk' F' N';  (try dsimp only); (try k_sweep); (try k_fold))))
  trivial
section
variable {dp un : Nat} {gd : Option (List Code)}      {A₀ : Around} {base h₀ : Heap} {m : Str → Option Value} {s : Shared} {Q : Flow → Shared → Prop} {E : Value → Shared → Prop} {mean : ExcName → Option Value} {mg mb : Str → Option Value} {w : World} {pv : Program} {lv : List Str} 
variable {cn : Str} {a : Addr} {ccd : Value} {name qual : Str} {params : Arguments} {s1 s2 s3 s4 s5 b1 lp rt : Stmt} {tg it tst : PySem.Expr} {t1 t2 t3 e1 e2 e3 e4 e5 e6 : Stmt} {ore : List Stmt} {ps ps2 pos : Pos} {scope : Scope} {dV kV doc pm cdv ct oc : Value} {an od : Option Addr} {osl : Array (Option Value)}

theorem make_font {L : Nat} {D : Nat} {rest : List (Addr × Obj)} (ho : (Mine.hd.heap_1 w.params).lookup 489 = some ⟨oc, od, .func (fnOf name qual params [s1, s2, s3, s4, s5, .For tg it [b1, .If tst [t1, t2, t3] [e1, e2, e3, e4, e5, e6] ps, lp] ore pos, rt] scope dV kV doc pm an cdv ct), osl⟩) (B : Below A₀ h₀ [] h₀) (X : (Mine.hd.heap_1 w.params).In h₀) (T : Top pv lv mean mg mb h₀) (hd : dp + 40 < recursionLimit) (hu : un + 2000 < cLine) {m : Str → Option Value} {ys : List Value} {xs : List Int} (hi : IntsAre ys xs) (hl : xs.length ≤ 8) (hxs : ∀ v ∈ xs, -1073741823 ≤ v ∧ v ≤ 1073741823)
  (F : Fr h₀ L s.heap (fun y => if y = Str.ofString "first" then some (.ref D) else m y)) (N : News h₀ L s.heap ((D, listOf (List.toArray ys) ys.length) :: rest))
  (hret : ∀ f d pl ks vs pn h' tk', Fr h₀ L h' (fun y => if y = Str.ofString "font" then some (.ref f) else if y = Str.ofString "first" then some (.ref D) else m y) → News h₀ L h' ((f, instObj 377 d) :: (d, fObj w pl ks vs) :: (pl, listOf (List.toArray ys) pn) :: (D, listOf (List.toArray ys) ys.length) :: rest) → Q .next { s with heap := h', toks := tk' }) :
  wpAny (model PySem.Challenge.rw_sq0037_01.row.prog w) (ktrTop dp un gd qual scope L a ccd [(Str.ofString "bag", L + 1)] []) (exec s3 (envX qual scope L a ccd [(Str.ofString "bag", L + 1)])) Q E s := by
  have eo := ho.symm.trans (by k_is)
  have hq8 : qual = _ := congrArg (fun o => pQ o qual) eo
  have hq9 : scope = _ := congrArg (fun o => pSc o scope) eo
  have hp0 : s3 = _ := congrArg (fun o => pN (pB o) 2) eo
  clear eo ho
  dsimp only [pQ, pSc, pB, pFor, pThn, pEls, pTst, pTg, pIt, pOre, pN, fnOf, List.getD, List.getElem?_cons_zero, List.getElem?_cons_succ, Option.getD] at hq8 hq9 hp0
  subst hq8 hq9 hp0
  have hyl : ys.length ≤ 8 := by rw [hi.length]; exact hl
  k_steps
  refine' hret _ _ _ _ _ _ _ _ ?hF ?hN; (case hF => assumption); (case hN => (refine' cb_drop ?cbN ?cbS; (case cbN => assumption); (case cbS => (refine List.forall_mem_cons.mpr ⟨?_, List.forall_mem_cons.mpr ⟨?_, List.forall_mem_cons.mpr ⟨?_, List.forall_mem_cons.mpr ⟨?_, ?_⟩⟩⟩⟩; k_mem; k_mem; k_mem; k_mem; (intro p hp; (repeat (first | exact hp | refine List.mem_append.mpr (.inr ?_) | refine List.mem_cons_of_mem _ ?_)))))))
end
section
variable {dp un : Nat} {gd : Option (List Code)}      {A₀ : Around} {base h₀ : Heap} {m : Str → Option Value} {s : Shared} {Q : Flow → Shared → Prop} {E : Value → Shared → Prop} {mean : ExcName → Option Value} {mg mb : Str → Option Value} {w : World} {pv : Program} {lv : List Str} 
variable {cn : Str} {a : Addr} {ccd : Value} {name qual : Str} {params : Arguments} {s1 s2 s3 s4 s5 b1 lp rt : Stmt} {tg it tst : PySem.Expr} {t1 t2 t3 e1 e2 e3 e4 e5 e6 : Stmt} {ore : List Stmt} {ps ps2 pos : Pos} {scope : Scope} {dV kV doc pm cdv ct oc : Value} {an od : Option Addr} {osl : Array (Option Value)}

theorem make_known {L : Nat} {news : List (Addr × Obj)} (ho : (Mine.hd.heap_1 w.params).lookup 489 = some ⟨oc, od, .func (fnOf name qual params [s1, s2, s3, s4, s5, .For tg it [b1, .If tst [t1, t2, t3] [e1, e2, e3, e4, e5, e6] ps, lp] ore pos, rt] scope dV kV doc pm an cdv ct), osl⟩) (B : Below A₀ h₀ [] h₀) (X : (Mine.hd.heap_1 w.params).In h₀) (T : Top pv lv mean mg mb h₀) (hd : dp + 40 < recursionLimit) (hu : un + 2000 < cLine) {m : Str → Option Value}
  (F : Fr h₀ L s.heap m) (N : News h₀ L s.heap news)
  (hret : ∀ kd ko h' tk', (∀ p ∈ news, p.1 < kd) → (kd == sysModules) = false → ko.IsDictOf (PySem.intKind PySem.Challenge.rw_sq0037_01.row.prog w) [] → PyProof.V.FlatPairs PyData.int [] [] → Fr h₀ L h' (fun y => if y = Str.ofString "known" then some (.ref kd) else m y) → News h₀ L h' ((kd, ko) :: news) → Q .next { s with heap := h', toks := tk' }) :
  wpAny (model PySem.Challenge.rw_sq0037_01.row.prog w) (ktrTop dp un gd qual scope L a ccd [(Str.ofString "bag", L + 1)] []) (exec s4 (envX qual scope L a ccd [(Str.ofString "bag", L + 1)])) Q E s := by
  have eo := ho.symm.trans (by k_is)
  have hq8 : qual = _ := congrArg (fun o => pQ o qual) eo
  have hq9 : scope = _ := congrArg (fun o => pSc o scope) eo
  have hp0 : s4 = _ := congrArg (fun o => pN (pB o) 3) eo
  clear eo ho
  dsimp only [pQ, pSc, pB, pFor, pThn, pEls, pTst, pTg, pIt, pOre, pN, fnOf, List.getD, List.getElem?_cons_zero, List.getElem?_cons_succ, Option.getD] at hq8 hq9 hp0
  subst hq8 hq9 hp0
  k_steps
  refine' hret _ _ _ _ ?l1 ?lo ?d ?e ?hF ?hN; (case hF => assumption); (case hN => assumption); (case l1 => assumption); (case lo => assumption); (case d => with_reducible assumption); (case e => with_reducible assumption)
end

theorem lay91 : True := by
  k_with_none
  trivial
theorem parZ_snoc {xs : List Int} {i : Nat} {v : Int} (h : xs[i]? = some v) (n : Int) : parZ (xs.take (i + 1)) n = if n = (i : Int) + 1 then v else parZ (xs.take i) n := by
  have hlt : i < xs.length := by
    rcases Nat.lt_or_ge i xs.length with h1 | h1
    · exact h1
    · rw [List.getElem?_eq_none h1] at h; cases h
  have l1 : (xs.take (i + 1)).length = i + 1 := by rw [List.length_take]; omega
  have l2 : (xs.take i).length = i := by rw [List.length_take]; omega
  unfold parZ
  rw [l1, l2]
  by_cases e : n = (i : Int) + 1
  · subst e
    rw [if_pos ⟨by omega, by omega⟩, if_pos rfl, List.getD_eq_getElem?_getD]
    have : ((i : Int) + 1 - 1).toNat = i := by omega
    rw [this, List.getElem?_take, if_pos (by omega), h]
    rfl
  · rw [if_neg e]
    by_cases q : 1 ≤ n ∧ n ≤ (i : Int)
    · rw [if_pos ⟨q.1, by omega⟩, if_pos q, List.getD_eq_getElem?_getD, List.getD_eq_getElem?_getD, List.getElem?_take, List.getElem?_take, if_pos (by omega), if_pos (by omega)]
    · rw [if_neg (fun z => q ⟨z.1, by omega⟩), if_neg q]
def EnJ (prog : Program) (w : World) (l f kd D : Nat) (rest : List (Addr × Obj)) (ys : List Value) (xs : List Int) (r : List Itm) (m' : Str → Option Value) (nw : List (Addr × Obj)) : Prop :=
  ∃ (i : Nat) (c : List (Int × Int)) (ko : Obj) (kvs : List (Int × Value)) (m₁ : Str → Option Value), r = enumItems i (ys.drop i) ∧ i ≤ ys.length ∧ nw = (kd, ko) :: (D, listOf (List.toArray ys) ys.length) :: rest ∧
    m' = (fun y => if y = Str.ofString "script" then some (.ref l) else if y = Str.ofString "font" then some (.ref f) else if y = Str.ofString "known" then some (.ref kd) else m₁ y) ∧
    ko.IsDictOf (PySem.intKind prog w) kvs ∧ PyProof.V.FlatPairs PyData.int kvs (kdfD c) ∧ c.length ≤ i ∧ ∀ n, kdfLook c n 0 = parZ (xs.take i) n
theorem en_head {ys : List Value} {xs : List Int} (hi : IntsAre ys xs) {i : Nat} {a : Itm} {r : List Itm} (h : a :: r = enumItems i (ys.drop i)) : ∃ v t, xs[i]? = some v ∧ a = .pair (fun t => .int (i : Int) t) (.int v t) ∧ r = enumItems (i + 1) (ys.drop (i + 1)) ∧ i < ys.length := by
  rcases Nat.lt_or_ge i ys.length with hlt | hge
  · rw [List.drop_eq_getElem_cons hlt] at h
    have hx : i < xs.length := by rw [← hi.length]; exact hlt
    obtain ⟨t, ht⟩ := hi.get i xs[i] (List.getElem?_eq_getElem hx)
    rw [List.getElem?_eq_getElem hlt] at ht
    rw [Option.some.inj ht] at h
    injection h with h1 h2
    exact ⟨xs[i], t, List.getElem?_eq_getElem hx, h1, h2, hlt⟩
  · rw [List.drop_of_length_le hge] at h
    cases h
section
variable {dp un : Nat} {gd : Option (List Code)}      {A₀ : Around} {base h₀ : Heap} {m : Str → Option Value} {s : Shared} {Q : Flow → Shared → Prop} {E : Value → Shared → Prop} {mean : ExcName → Option Value} {mg mb : Str → Option Value} {w : World} {pv : Program} {lv : List Str} 
variable {cn : Str} {a : Addr} {ccd : Value} {name qual : Str} {params : Arguments} {s1 s2 s3 s4 s5 b1 lp rt : Stmt} {tg it tst : PySem.Expr} {t1 t2 t3 e1 e2 e3 e4 e5 e6 : Stmt} {ore : List Stmt} {ps ps2 pos : Pos} {scope : Scope} {dV kV doc pm cdv ct oc : Value} {an od : Option Addr} {osl : Array (Option Value)}

theorem fill_known {L l f D kd : Nat} {rest : List (Addr × Obj)} (ho : (Mine.hd.heap_1 w.params).lookup 489 = some ⟨oc, od, .func (fnOf name qual params [s1, s2, s3, s4, s5, .For tg it [b1, .If tst [t1, t2, t3] [e1, e2, e3, e4, e5, e6] ps, lp] ore pos, rt] scope dV kV doc pm an cdv ct), osl⟩) (B : Below A₀ h₀ [] h₀) (X : (Mine.hd.heap_1 w.params).In h₀) (T : Top pv lv mean mg mb h₀) (hd : dp + 40 < recursionLimit) (hu : un + 2000 < cLine) (hE : PassesOwn (model PySem.Challenge.rw_sq0037_01.row.prog w) (ktrTop dp un gd qual scope L a ccd [(Str.ofString "bag", L + 1)] []) (envX qual scope L a ccd [(Str.ofString "bag", L + 1)]) E) {m : Str → Option Value} {ys : List Value} {xs : List Int} (hi : IntsAre ys xs) (hl : xs.length ≤ 8) (hxs : ∀ v ∈ xs, -1073741823 ≤ v ∧ v ≤ 1073741823) {ko : Obj} (hlo : (kd == sysModules) = false) (hdk : ko.IsDictOf (PySem.intKind PySem.Challenge.rw_sq0037_01.row.prog w) []) (hfk : PyProof.V.FlatPairs PyData.int [] []) (n1 : kd ≠ D) (hown : OwnOff rest [kd])
  (F : Fr h₀ L s.heap (fun y => if y = Str.ofString "known" then some (.ref kd) else if y = Str.ofString "font" then some (.ref f) else if y = Str.ofString "first" then some (.ref D) else if y = Str.ofString "script" then some (.ref l) else m y)) (N : News h₀ L s.heap ((kd, ko) :: (D, listOf (List.toArray ys) ys.length) :: rest))
  (hret : ∀ (m' : Str → Option Value) ko' kvs' c' h' tk', ko'.IsDictOf (PySem.intKind PySem.Challenge.rw_sq0037_01.row.prog w) kvs' → PyProof.V.FlatPairs PyData.int kvs' (kdfD c') → c'.length ≤ 8 → (∀ n, parZ xs n = kdfLook c' n 0) → Fr h₀ L h' (fun y => if y = Str.ofString "script" then some (.ref l) else if y = Str.ofString "font" then some (.ref f) else if y = Str.ofString "known" then some (.ref kd) else m' y) → News h₀ L h' ((kd, ko') :: (D, listOf (List.toArray ys) ys.length) :: rest) → Q .next { s with heap := h', toks := tk' }) :
  wpAny (model PySem.Challenge.rw_sq0037_01.row.prog w) (ktrTop dp un gd qual scope L a ccd [(Str.ofString "bag", L + 1)] []) (exec s5 (envX qual scope L a ccd [(Str.ofString "bag", L + 1)])) Q E s := by
  have hyl : ys.length = xs.length := hi.length
  have eo := ho.symm.trans (by k_is)
  have hq8 : qual = _ := congrArg (fun o => pQ o qual) eo
  have hq9 : scope = _ := congrArg (fun o => pSc o scope) eo
  have hp0 : s5 = _ := congrArg (fun o => pN (pB o) 4) eo
  clear eo ho
  dsimp only [pQ, pSc, pB, pFor, pThn, pEls, pTst, pTg, pIt, pOre, pN, fnOf, List.getD, List.getElem?_cons_zero, List.getElem?_cons_succ, Option.getD] at hq8 hq9 hp0
  subst hq8 hq9 hp0
  refine @For_turns _ _ _ _ _ (envX _ _ L a ccd [(Str.ofString "bag", L + 1)]) h₀ _ _ _ _ _ _ F ?_ (fun _ => rfl) hE
  repeat' (first | (k_unfold; (try dsimp only)) | ((fail_if_success (with_reducible show wpAny _ _ (call (Value.type "enumerate") _) _ _ _)); first | walk1 | (dsimp only; walk1)))
  rename (Fr _ _ _ _) => F9
  rename (News _ _ _ _) => N9
  refine ktu_enum rfl F9 N9 (.tail _ (.head _)) rfl rfl rfl ?_
  intro I lI
  refine items_ind (EnJ PySem.Challenge.rw_sq0037_01.row.prog w l f kd D rest ys xs) ?_ ?_ _ _ _ ⟨0, [], ko, [], _, rfl, Nat.zero_le _, rfl, map_has3 rfl rfl rfl, hdk, hfk, Nat.le_refl _, fun n => by simp [kdfLook, parZ]⟩
  · have lI' := fun p hp => Nat.ne_of_lt (lI p hp)
    have g1 := ltN (lI _ (.head _))
    have g2 := ltN (lI _ (.tail _ (.head _)))
    have g3 : ∀ p ∈ rest, p.1 < I := fun p hp => lI p (.tail _ (.tail _ hp))
    clear F9 N9 lI hdk hfk
    rintro a r m₁ nw v h8 tk8 ⟨i, c, ko8, kvs, m₂, hr, hil, rfl, rfl, hdk, hfk, hcl, hrel⟩ ha F8
    obtain ⟨v0, tv, hx, rfl, rfl, hlt⟩ := en_head hi hr
    clear hr
    obtain ⟨T9, t9, rfl, hT⟩ := ha
    obtain ⟨b1, b2⟩ := hxs v0 (List.mem_of_getElem? hx)
    have hown2 : OwnOff rest [kd, I, I + 1] := fun p hp b hb => by
      rcases List.mem_cons.mp hb with rfl | hb
      · exact hown p hp _ (.head _)
      · rcases List.mem_cons.mp hb with rfl | hb
        · exact Nat.ne_of_lt (g3 p hp)
        · rw [List.mem_singleton.mp hb]; exact Nat.ne_of_lt (Nat.lt_succ_of_lt (g3 p hp))
    refine AllObj.cons (fun o1 hc1 => AllObj.cons (fun o2 hc2 => AllObj.nil (fun N8 => ?_)))
    simp only [List.cons_append, List.nil_append] at N8
    dsimp only at hT
    have hcl9 : c.length ≤ 100 := by omega
    k_steps
    rename (Fr _ _ _ _) => F7
    rename (News _ _ _ _) => N7
    rename (PyProof.V.FlatPairs _ _ _) => hf9
    rename (Obj.IsDictOf _ _ _) => hd9
    refine ⟨_, _, _, (kd, _) :: (D, listOf (List.toArray ys) ys.length) :: rest, rfl, F7, N7, fun p hp q hq => ?_, ⟨.tail _ (.head _), trivial⟩, i + 1, kdfPut c ((i : Int) + 1) v0, _, _, _, rfl, hlt, rfl, map_has3 rfl rfl rfl, hd9, hf9, Nat.le_trans put_len (by omega), fun n => by rw [put_look, hrel n, parZ_snoc hx n]⟩
    have hp1 : p.1 < I := by
      rcases List.mem_cons.mp hp with rfl | hp
      · exact g1
      · rcases List.mem_cons.mp hp with rfl | hp
        · exact g2
        · exact g3 p hp
    rcases List.mem_cons.mp hq with rfl | hq
    · exact Nat.ne_of_lt (Nat.lt_succ_of_lt hp1)
    · rw [List.mem_singleton.mp hq]; exact Nat.ne_of_lt hp1
  · rintro m₁ nw h8 tk8 ⟨i, c, ko8, kvs, m₂, hr, hil, rfl, rfl, hdk, hfk, hcl, hrel⟩ F8 N8
    have he : i = ys.length := by
      rcases Nat.lt_or_ge i ys.length with hlt | hge
      · rw [List.drop_eq_getElem_cons hlt] at hr; cases hr
      · omega
    refine hret m₂ ko8 kvs c h8 tk8 hdk hfk (by omega) (fun n => ?_) F8 N8
    rw [hrel n, List.take_of_length_le (by omega)]
end

theorem lay92 : True := by
  k_with_none
  trivial
theorem iter_rangeI {prog : Program} {w : World} {A : Around} {E : Value → Shared → Prop} {s : Shared} {env : Env} {h₀ : Heap} {x : Str} {body : List Stmt} {Q : Flow → Shared → Prop} {r : Addr} {a₀ b₀ : Int} {t₀ u₀ v₀ : Tok} {n : Nat} {m₀ : Str → Option Value} {news : List (Addr × Obj)}
    (J : Nat → (Str → Option Value) → List (Addr × Obj) → Prop)
    (hh : A.handled = none) (hr : IsRange s.heap r a₀ b₀ 1 t₀ u₀ v₀) (hsmall : Builtin.Range.small a₀ b₀ 1 = true) (hn : Builtin.Range.rangeSize a₀ b₀ 1 = (n : Int)) (F : Fr h₀ env.locals s.heap m₀) (N : News h₀ env.locals s.heap news) (hJ : J 0 m₀ news)
    (turn : ∀ i t m₁ nx h tk own, i < n → OwnOff own (news.map (·.1)) → J i m₁ nx → Fr h₀ env.locals h (fun y => if y = x then some (.int (a₀ + (i : Int)) t) else m₁ y) → News h₀ env.locals h (nx ++ own) →
      wpAny (model prog w) A (execs body env) (InvPostN h₀ env.locals (J (i + 1)) own (news.map (·.1)) { s with heap := h, toks := tk } Q) E { s with heap := h, toks := tk })
    (done : ∀ m₁ nx h tk, J n m₁ nx → Fr h₀ env.locals h m₁ → News h₀ env.locals h nx → Q .next { s with heap := h, toks := tk }) :
    wpAny (model prog w) A (pyIter (.ref r)) (fun it s₂ => LoopAtV prog w A h₀ env x body Q E it s₂) E s := by
  refine wpAny_pyIter_range hr hsmall ?_
  have W : Walks prog w A s.heap.objs.size [s.heap.objs.size] [s.heap.objs.size] n (fun i v => i < n ∧ ∃ t, v = .int (a₀ + i * 1) t)
      (fun i h => IsRangeIter h s.heap.objs.size (a₀ + (i : Nat) * 1) ((n : Int) - (i : Nat)) 1) := (Walks.range hh _ a₀ 1 n).bound
  refine loop_invN J W ?_ ?_ ?_ ?_ (by show IsRangeIter _ _ _ _ _; rw [hn]; simpa using Heap.get?_push_size _ rfl) (F.push _) (fun p hp => ⟨Heap.get?_push_of_some _ (N p hp).1, (N p hp).2⟩) hJ ?_ ?_
  · intro hm
    exact absurd F.ns.lt ((List.mem_singleton.mp hm) ▸ Nat.lt_irrefl _)
  · intro b hb
    rw [List.mem_singleton.mp hb]
    exact next_is_new F
  · intro p hp hI
    exact absurd (Heap.lt_size (N p hp).1) ((List.mem_singleton.mp hI) ▸ Nat.lt_irrefl _)
  · intro p hp hI
    exact absurd (Heap.lt_size (N p hp).1) ((List.mem_singleton.mp hI) ▸ Nat.lt_irrefl _)
  · rintro i v m₁ nx h tk own hin ⟨_, t, rfl⟩ _ hsep hJ' F₁ N₁
    rw [Int.mul_one] at F₁
    exact turn i t m₁ nx h tk own hin hsep hJ' F₁ N₁
  · exact fun m₁ nx h tk hJ' F₁ N₁ => done m₁ nx h tk hJ' F₁ N₁
theorem bnd_range {n : Int} (h : 0 ≤ n) : 5 ≤ (if (if n < 11 then n else 11) > 5 then if n < 11 then n else 11 else 5) ∧ (if (if n < 11 then n else 11) > 5 then if n < 11 then n else 11 else 5) ≤ 11 ∧ ((if (if n < 11 then n else 11) > 5 then if n < 11 then n else 11 else 5) ≤ n ∨ (if (if n < 11 then n else 11) > 5 then if n < 11 then n else 11 else 5) = 5) := by
  by_cases h1 : n < 11
  · simp only [if_pos h1]
    by_cases h2 : n > 5
    · rw [if_pos h2]; omega
    · rw [if_neg h2]; omega
  · simp only [if_neg h1]
    rw [if_pos (by decide)]; omega
section
variable {dp un : Nat} {gd : Option (List Code)}      {A₀ : Around} {base h₀ : Heap} {m : Str → Option Value} {s : Shared} {Q : Flow → Shared → Prop} {E : Value → Shared → Prop} {mean : ExcName → Option Value} {mg mb : Str → Option Value} {w : World} {pv : Program} {lv : List Str} 
variable {cn : Str} {a : Addr} {ccd : Value} {name qual : Str} {params : Arguments} {s1 s2 s3 s4 s5 b1 lp rt : Stmt} {tg it tst : PySem.Expr} {t1 t2 t3 e1 e2 e3 e4 e5 e6 : Stmt} {ore : List Stmt} {ps ps2 pos : Pos} {scope : Scope} {dV kV doc pm cdv ct oc : Value} {an od : Option Addr} {osl : Array (Option Value)}
end
theorem lay93 : True := by
  (k_with "call builtin:len" => (k_here; (with_reducible show wpAny _ _ (call (Value.builtin "len") [Value.ref _]) _ _ _); k_dflt (refine' Mine.len_h0 ?F ?L ?I ?n ?_; (case F => k_asm); (case L => assumption); (case I => assumption); (case n => assumption); k_whole; intro t' tk'; (try dsimp only))))
  trivial
section
variable {dp un : Nat} {gd : Option (List Code)}      {A₀ : Around} {base h₀ : Heap} {m : Str → Option Value} {s : Shared} {Q : Flow → Shared → Prop} {E : Value → Shared → Prop} {mean : ExcName → Option Value} {mg mb : Str → Option Value} {w : World} {pv : Program} {lv : List Str} 
variable {cn : Str} {a : Addr} {ccd : Value} {name qual : Str} {params : Arguments} {s1 s2 s3 s4 s5 b1 lp rt : Stmt} {tg it tst : PySem.Expr} {t1 t2 t3 e1 e2 e3 e4 e5 e6 : Stmt} {ore : List Stmt} {ps ps2 pos : Pos} {scope : Scope} {dV kV doc pm cdv ct oc : Value} {an od : Option Addr} {osl : Array (Option Value)}

theorem main_loop {L l f d pl kd : Nat} (ho : (Mine.hd.heap_1 w.params).lookup 489 = some ⟨oc, od, .func (fnOf name qual params [s1, s2, s3, s4, s5, .For tg it [b1, .If tst [t1, t2, t3] [e1, e2, e3, e4, e5, e6] ps, lp] ore pos, rt] scope dV kV doc pm an cdv ct), osl⟩) (B : Below A₀ h₀ [] h₀) (X : (Mine.hd.heap_1 w.params).In h₀) (T : Top pv lv mean mg mb h₀) (hd : dp + 40 < recursionLimit) (hu : un + 2000 < cLine) (hE : PassesOwn (model PySem.Challenge.rw_sq0037_01.row.prog w) (ktrTop dp un gd qual scope L a ccd [(Str.ofString "bag", L + 1)] []) (envX qual scope L a ccd [(Str.ofString "bag", L + 1)]) E) {vs' : List Value} {ns : List Int} (hL : h₀.IsList l vs'.toArray) (hI : IntsAre vs' ns) (hn : ns.length ≤ 63) (n6 : L + 1 ≠ f) (n7 : L + 1 ≠ d) (n8 : L + 1 ≠ pl) (n9 : L + 1 ≠ kd) (n10 : f ≠ d) (n11 : f ≠ pl) (n12 : f ≠ kd) (n13 : d ≠ pl) (n14 : d ≠ kd) (n15 : pl ≠ kd) (hlo : (kd == sysModules) = false) {ks : Nat → Tok} {vs : Nat → Value} {m : Str → Option Value} {nx : List (Addr × Obj)} (hnx : nx.map (·.1) = [L + 1, f, d, pl, kd]) (hJ : InvL PySem.Challenge.rw_sq0037_01.row.prog w L l f d pl kd ks vs 0 (fun y => if y = Str.ofString "script" then some (.ref l) else if y = Str.ofString "font" then some (.ref f) else if y = Str.ofString "known" then some (.ref kd) else m y) nx)
  (F : Fr h₀ L s.heap (fun y => if y = Str.ofString "script" then some (.ref l) else if y = Str.ofString "font" then some (.ref f) else if y = Str.ofString "known" then some (.ref kd) else m y)) (N : News h₀ L s.heap nx)
  (hret : ∀ m' nx' h' tk', Fr h₀ L h' m' → News h₀ L h' nx' → Q .next { s with heap := h', toks := tk' }) :
  wpAny (model PySem.Challenge.rw_sq0037_01.row.prog w) (ktrTop dp un gd qual scope L a ccd [(Str.ofString "bag", L + 1)] []) (exec (.For tg it [b1, .If tst [t1, t2, t3] [e1, e2, e3, e4, e5, e6] ps, lp] ore pos) (envX qual scope L a ccd [(Str.ofString "bag", L + 1)])) Q E s := by
  have eo := ho.symm.trans (by k_is)
  have hq8 : qual = _ := congrArg (fun o => pQ o qual) eo
  have hq9 : scope = _ := congrArg (fun o => pSc o scope) eo
  have hp0 : tg = _ := congrArg (fun o => pTg tg (pN (pB o) 5)) eo
  have hp1 : it = _ := congrArg (fun o => pIt it (pN (pB o) 5)) eo
  have hp2 : ore = _ := congrArg (fun o => pOre (pN (pB o) 5)) eo
  clear eo
  dsimp only [pQ, pSc, pB, pFor, pThn, pEls, pTst, pTg, pIt, pOre, pN, fnOf, List.getD, List.getElem?_cons_zero, List.getElem?_cons_succ, Option.getD] at hq8 hq9 hp0 hp1 hp2
  subst hq8 hq9 hp0 hp1 hp2
  refine For_invVF (env := (envX _ _ L a ccd [(Str.ofString "bag", L + 1)])) F rfl rfl ?_ (fun _ => rfl) hE
  repeat' (first | (k_unfold; (try dsimp only)) | ((fail_if_success (with_reducible show wpAny _ _ (pyIter (Value.ref _)) (fun it s₂ => LoopAtV _ _ _ _ _ _ _ _ _ it s₂) _ _)); first | walk1 | (dsimp only; walk1)))
  rename (Fr _ _ _ _) => F9
  rename (News _ _ _ _) => N9
  rename (IsRange _ _ _ _ _ _ _ _) => rg
  obtain ⟨b5, b11, bl⟩ := bnd_range (n := (ns.length : Int)) (by omega)
  generalize (if (if (ns.length : Int) < 11 then (ns.length : Int) else 11) > 5 then if (ns.length : Int) < 11 then (ns.length : Int) else 11 else 5) = b at rg b5 b11 bl
  refine iter_rangeI (InvL PySem.Challenge.rw_sq0037_01.row.prog w L l f d pl kd ks vs) rfl rg (small_one (by decide) (by decide) (by omega) (by omega)) (rangeSize_nat _ _) F9 N9 hJ ?_ ?_
  · intro i t m₁ nx' h tk own hin hown hJ' F' N'
    rw [hnx] at hown ⊢
    exact turn ho B X T hd hu hE hL hI hn n6 n7 n8 n9 n10 n11 n12 n13 n14 n15 hlo (by omega) hown hJ' (by omega) (by omega) F' N'
  · exact fun m₁ nx' h tk _ F' N' => hret m₁ nx' h tk F' N'
end

theorem lay94 : True := by
  k_with_none
  trivial

theorem own_nil {as : List Addr} : OwnOff [] as := fun _ q => nomatch q
theorem news_nd {h₀ h : Heap} {L a b : Addr} {o o' : Obj} {news : List (Addr × Obj)} (N : News h₀ L h news) (h1 : (a, o) ∈ news) (h2 : (b, o') ∈ news) (hc : o.data ≠ o'.data) : a ≠ b := fun e => by
  have e1 := (N _ h1).1
  have e2 := (N _ h2).1
  dsimp only at e1 e2
  rw [e, e2] at e1
  exact hc (congrArg Obj.data (Option.some.inj e1)).symm
section
variable {dp un : Nat} {gd : Option (List Code)}      {A₀ : Around} {base h₀ : Heap} {m : Str → Option Value} {s : Shared} {Q : Flow → Shared → Prop} {E : Value → Shared → Prop} {mean : ExcName → Option Value} {mg mb : Str → Option Value} {w : World} {pv : Program} {lv : List Str} 
variable {cn : Str} {a : Addr} {ccd : Value} {name qual : Str} {params : Arguments} {s1 s2 s3 s4 s5 b1 lp rt : Stmt} {tg it tst : PySem.Expr} {t1 t2 t3 e1 e2 e3 e4 e5 e6 : Stmt} {ore : List Stmt} {ps ps2 pos : Pos} {scope : Scope} {dV kV doc pm cdv ct oc : Value} {an od : Option Addr} {osl : Array (Option Value)}

theorem ret_true {L : Nat} {news : List (Addr × Obj)} (ho : (Mine.hd.heap_1 w.params).lookup 489 = some ⟨oc, od, .func (fnOf name qual params [s1, s2, s3, s4, s5, .For tg it [b1, .If tst [t1, t2, t3] [e1, e2, e3, e4, e5, e6] ps, lp] ore pos, rt] scope dV kV doc pm an cdv ct), osl⟩) (B : Below A₀ h₀ [] h₀) (X : (Mine.hd.heap_1 w.params).In h₀) (T : Top pv lv mean mg mb h₀) (hd : dp + 40 < recursionLimit) (hu : un + 2000 < cLine) {m : Str → Option Value} (F : Fr h₀ L s.heap m) (N : News h₀ L s.heap news)
  (hret : ∀ h' tk', Fr h₀ L h' m → News h₀ L h' news → Q (.ret (.bool true)) { s with heap := h', toks := tk' }) :
  wpAny (model PySem.Challenge.rw_sq0037_01.row.prog w) (ktrTop dp un gd qual scope L a ccd [(Str.ofString "bag", L + 1)] []) (exec rt (envX qual scope L a ccd [(Str.ofString "bag", L + 1)])) Q E s := by
  have eo := ho.symm.trans (by k_is)
  have hq8 : qual = _ := congrArg (fun o => pQ o qual) eo
  have hq9 : scope = _ := congrArg (fun o => pSc o scope) eo
  have hp0 : rt = _ := congrArg (fun o => pN (pB o) 6) eo
  clear eo ho
  dsimp only [pQ, pSc, pB, pFor, pThn, pEls, pTst, pTg, pIt, pOre, pN, fnOf, List.getD, List.getElem?_cons_zero, List.getElem?_cons_succ, Option.getD] at hq8 hq9 hp0
  subst hq8 hq9 hp0
  k_steps
  exact hret _ _ (by assumption) (by assumption)
theorem law_body {L l : Nat} (ho : (Mine.hd.heap_1 w.params).lookup 489 = some ⟨oc, od, .func (fnOf name qual params [s1, s2, s3, s4, s5, .For tg it [b1, .If tst [t1, t2, t3] [e1, e2, e3, e4, e5, e6] ps, lp] ore pos, rt] scope dV kV doc pm an cdv ct), osl⟩) (B : Below A₀ h₀ [] h₀) (X : (Mine.hd.heap_1 w.params).In h₀) (T : Top pv lv mean mg mb h₀) (hd : dp + 40 < recursionLimit) (hu : un + 2000 < cLine) (hE : PassesOwn (model PySem.Challenge.rw_sq0037_01.row.prog w) (ktrTop dp un gd qual scope L a ccd [(Str.ofString "bag", L + 1)] []) (envX qual scope L a ccd [(Str.ofString "bag", L + 1)]) E) {vs' : List Value} {ns : List Int} (hL : h₀.IsList l vs'.toArray) (hI : IntsAre vs' ns) (hn : ns.length ≤ 63) {co : Obj} {ov : Option Value} (hco : co.data = .cell ov) {m : Str → Option Value}
  (F : Fr h₀ L s.heap (fun y => if y = Str.ofString "script" then some (.ref l) else m y)) (N : News h₀ L s.heap [(L + 1, co)])
  (hret : ∀ m' nx h' tk', Fr h₀ L h' m' → News h₀ L h' nx → Q (.ret (.bool true)) { s with heap := h', toks := tk' }) :
  wpAny (model PySem.Challenge.rw_sq0037_01.row.prog w) (ktrTop dp un gd qual scope L a ccd [(Str.ofString "bag", L + 1)] []) (execs [s1, s2, s3, s4, s5, .For tg it [b1, .If tst [t1, t2, t3] [e1, e2, e3, e4, e5, e6] ps, lp] ore pos, rt] (envX qual scope L a ccd [(Str.ofString "bag", L + 1)])) Q E s := by
  refine wpAny_execs_cons (first_bag hco own_nil hL hI hn ho B X T hd hu F N ?_)
  clear F N
  intro bg x y tx ty tz co1 h1 tk1 y1 y2 hc1 lb F N
  have n1 : bg ≠ L + 1 := Nat.ne_of_gt (lb _ (.head _))
  refine wpAny_execs_cons (first_list hc1 y1 y2 (Int.le_refl 0) n1 own_nil rfl ho B X T hd hu F N ?_)
  clear F N
  intro D ys xs bo h2 tk2 hi hl hxs nD1 nD2 nD3 F N
  refine wpAny_execs_cons (make_font ho B X T hd hu hi hl hxs F N ?_)
  clear F N
  intro f d pl ks vs pn h3 tk3 F N
  refine wpAny_execs_cons (make_known ho B X T hd hu F N ?_)
  have n6 : L + 1 ≠ f := news_nd N (by k_mem) (by k_mem) (fun q => by rw [hc1] at q; cases q)
  have n7 : L + 1 ≠ d := news_nd N (by k_mem) (by k_mem) (fun q => by rw [hc1] at q; cases q)
  have n8 : L + 1 ≠ pl := news_nd N (by k_mem) (by k_mem) (fun q => by rw [hc1] at q; cases q)
  have n10 : f ≠ d := news_nd N (.head _) (.tail _ (.head _)) (fun q => by cases q)
  have n11 : f ≠ pl := news_nd N (.head _) (.tail _ (.tail _ (.head _))) (fun q => by cases q)
  have n13 : d ≠ pl := news_nd N (.tail _ (.head _)) (.tail _ (.tail _ (.head _))) (fun q => by cases q)
  clear F N
  intro kd ko h4 tk4 lk hlo hdk hfk F N
  have n12 : f ≠ kd := Nat.ne_of_lt (lk _ (.head _))
  have n14 : d ≠ kd := Nat.ne_of_lt (lk _ (.tail _ (.head _)))
  have n15 : pl ≠ kd := Nat.ne_of_lt (lk _ (.tail _ (.tail _ (.head _))))
  have nD : D ≠ kd := Nat.ne_of_lt (lk _ (.tail _ (.tail _ (.tail _ (.head _)))))
  have nb : bg ≠ kd := Nat.ne_of_lt (lk _ (.tail _ (.tail _ (.tail _ (.tail _ (.head _))))))
  have n9 : L + 1 ≠ kd := Nat.ne_of_lt (lk _ (.tail _ (.tail _ (.tail _ (.tail _ (.tail _ (.head _)))))))
  have N5 : News h₀ L h4 ((kd, ko) :: (D, listOf (List.toArray ys) ys.length) :: [(f, instObj 377 d), (d, fObj w pl ks vs), (pl, listOf (List.toArray ys) pn), (bg, bo), (L + 1, co1)]) := cb_drop N (by (refine List.forall_mem_cons.mpr ⟨?_, List.forall_mem_cons.mpr ⟨?_, List.forall_mem_cons.mpr ⟨?_, List.forall_mem_cons.mpr ⟨?_, List.forall_mem_cons.mpr ⟨?_, List.forall_mem_cons.mpr ⟨?_, List.forall_mem_cons.mpr ⟨?_, fun _ z => nomatch z⟩⟩⟩⟩⟩⟩⟩ <;> k_mem))
  refine wpAny_execs_cons (fill_known ho B X T hd hu hE hi hl hxs hlo hdk hfk (Ne.symm nD) (own_cons (ne1 (Ne.symm n12)) (own_cons (ne1 (Ne.symm n14)) (own_cons (ne1 (Ne.symm n15)) (own_cons (ne1 (Ne.symm nb)) (own_cons (ne1 (Ne.symm n9)) own_nil))))) F N5 ?_)
  clear F N N5 lk
  intro m' ko' kvs' c' h5 tk5 hdk' hfk' hcl hrel F N
  have N6 : News h₀ L h5 [(L + 1, co1), (f, instObj 377 d), (d, fObj w pl ks vs), (pl, listOf (List.toArray ys) pn), (kd, ko')] := cb_drop N (by (refine List.forall_mem_cons.mpr ⟨?_, List.forall_mem_cons.mpr ⟨?_, List.forall_mem_cons.mpr ⟨?_, List.forall_mem_cons.mpr ⟨?_, List.forall_mem_cons.mpr ⟨?_, fun _ z => nomatch z⟩⟩⟩⟩⟩ <;> k_mem))
  refine wpAny_execs_cons (main_loop ho B X T hd hu hE hL hI hn n6 n7 n8 n9 n10 n11 n12 n13 n14 n15 hlo rfl ⟨co1, _, ys, xs, pn, ko', kvs', c', hc1, rfl, rfl, rfl, rfl, hi, by omega, hxs, hdk', hfk', by omega, hrel⟩ F N6 ?_)
  clear F N N6
  intro m7 nx7 h7 tk7 F N
  refine wpAny_execs_cons (ret_true ho B X T hd hu F N ?_)
  intro h8 tk8 F N
  exact hret _ _ _ _ F N
end

end Mine

namespace Mine
theorem fr_has1 {h₀ h : Heap} {L : Addr} {m : Str → Option Value} {a : Str} {va : Option Value} (F : Fr h₀ L h m) (ha : m a = va) : Fr h₀ L h (fun y => if y = a then va else m y) := by
  have e : m = fun y => if y = a then va else m y := by
    funext y
    by_cases h1 : y = a
    · rw [if_pos h1, h1, ha]
    · rw [if_neg h1]
  rw [← e]; exact F
end Mine
namespace Mine.main
def tw13962693860625380366 : Nat := 0
def tw2852251193174398662 : Nat := 0
def tw5084117380071580128 : Nat := 0
def tw1900339198761634783 : Nat := 0
def tw14080665800827857628 : Nat := 0
def tw13626721169425172152 : Nat := 0
def tw7083192437325867461 : Nat := 0
def tw16798622893749714585 : Nat := 0
def tw1277820614484962519 : Nat := 0
def tw11857135199678951331 : Nat := 0
def tw15803610866087392283 : Nat := 0
def tw15491723280356408159 : Nat := 0
def tw12298629886278197574 : Nat := 0
def tw10896356407431480244 : Nat := 0
def tw6801380410627298636 : Nat := 0
def tw18431692314602308842 : Nat := 0
def tw10114013102757674387 : Nat := 0
def tw10876375607700338302 : Nat := 0
def tw4026956272090484662 : Nat := 0
def tw5418533224930618480 : Nat := 0
def tw17695171507069755227 : Nat := 0
def tw1390771862084280389 : Nat := 0
def tw8905464785575363620 : Nat := 0
def tw5585478044538960755 : Nat := 0
def tw16832360635688203351 : Nat := 0
def tw4573282807186111410 : Nat := 0
def tw9498315638749924794 : Nat := 0
def tw12872379398031375081 : Nat := 0
def tw8930851030842425676 : Nat := 0
def tw16452447596832230105 : Nat := 0
def tw2744014450722944760 : Nat := 0
def tw5665406974723832613 : Nat := 0
def tw1306636233014830658 : Nat := 0
def tw16008457594558532635 : Nat := 0
def tw12731215017050769100 : Nat := 0
def tw9274054859765456524 : Nat := 0
def tw4650958065196391918 : Nat := 0
def tw31828345220925962 : Nat := 0
def tw5240779543111244032 : Nat := 0
def tw14457758005677747962 : Nat := 0
def tw11672040692669724308 : Nat := 0
def tw16035907590883218939 : Nat := 0
def tw14539993770535171780 : Nat := 0
def tw17665120845849184447 : Nat := 0
def tw1099256609624015869 : Nat := 0
def tw3549514262204291990 : Nat := 0
def tw17708487481403421675 : Nat := 0
def tw6361450105264607166 : Nat := 0
def tw9563168847844234846 : Nat := 0
def tw1429040668314091153 : Nat := 0
def tw17146568849442343683 : Nat := 0
def tw15624239662980076321 : Nat := 0
def tw917386388269078853 : Nat := 0
def tw12093647306153771053 : Nat := 0
def tw14722489848711283861 : Nat := 0
def tw13180746182150919023 : Nat := 0
def tw5532463470591059822 : Nat := 0
def tw4637267157515435788 : Nat := 0
def tw6697339332421208802 : Nat := 0
def tw10450603732522932521 : Nat := 0
def tw7380652910202371479 : Nat := 0
def tw9994787619460420439 : Nat := 0
def tw1678875084529416142 : Nat := 0
def tw9483120023164983764 : Nat := 0
def tw3514442730188584646 : Nat := 0
def tw15189307732462271701 : Nat := 0
def tw12623159325031504133 : Nat := 0
def tw10140136200207757160 : Nat := 0
def tw14106445559736802775 : Nat := 0
def tw1677766988990989824 : Nat := 0
def tw17958375852430007124 : Nat := 0
def tw11135027115929721415 : Nat := 0
def tw6741292078354696603 : Nat := 0
def tw7246944442124672618 : Nat := 0
def tw6557543464795787104 : Nat := 0
def tw13803360072150633466 : Nat := 0
def tw765107192605250810 : Nat := 0
def tw11461230924637031220 : Nat := 0
def tw16721930046160240684 : Nat := 0
def tw12273490649430754879 : Nat := 0
def tw4651154628705390771 : Nat := 0
def tw10877679251791092727 : Nat := 0
def tw5995161000843957690 : Nat := 0
def tw6449824600675878752 : Nat := 0
def tw15002835136932967199 : Nat := 0
def tw7647378279178456250 : Nat := 0
def tw15649996292582860464 : Nat := 0
def tw5061512775090418087 : Nat := 0
def tw10094358506670053839 : Nat := 0
def tw14492832472218066102 : Nat := 0
def tw11752208632293872130 : Nat := 0
def tw9155575984036265788 : Nat := 0
def tw8118072479153026202 : Nat := 0
def tw6044114016751833949 : Nat := 0
def tw16356685582667847594 : Nat := 0
def tw13406003279186336099 : Nat := 0
def tw6334894449686545209 : Nat := 0
def tw1178595665728414349 : Nat := 0
def tw4324958949535026087 : Nat := 0
def tw3570300971023340979 : Nat := 0
def tw6161133996638707016 : Nat := 0
def tw8222902030834545668 : Nat := 0
def tw10298723112805639129 : Nat := 0
def tw2406621943657119228 : Nat := 0
def tw13132915859168520264 : Nat := 0
def tw16187894506366716058 : Nat := 0
def tw17236958762192778904 : Nat := 0
def tw1615956725737779560 : Nat := 0
def tw962032349192862916 : Nat := 0
def tw12361340156312767134 : Nat := 0
def tw17297283025540448806 : Nat := 0
def tw9925469786538053656 : Nat := 0
def tw14771111431291430275 : Nat := 0
def tw5518243967957118194 : Nat := 0
def tw13355152605343272895 : Nat := 0
def tw17033166914543708539 : Nat := 0
def tw16572128252103988241 : Nat := 0
def tw4812270449578504274 : Nat := 0
def tw10047389527955405517 : Nat := 0
def tw13547569757486424058 : Nat := 0
def tw1496695287857109588 : Nat := 0
def tw12646911602827044314 : Nat := 0
def tw7332552209862256014 : Nat := 0
def tw18403998269306519403 : Nat := 0
def tw10642606787283503386 : Nat := 0
def tw16819838333489098493 : Nat := 0
def tw16656740534632174751 : Nat := 0
def tw3562683506479391542 : Nat := 0
def tw221909299271738847 : Nat := 0
def tw7237411587787531456 : Nat := 0
def tw4585930131862741453 : Nat := 0
def tw6385024630547198690 : Nat := 0
def tw16965079339398995527 : Nat := 0
def tw10609540516017602915 : Nat := 0
def tw6886502059237256666 : Nat := 0
def tw4072190877284726289 : Nat := 0
def tw13693970394777133609 : Nat := 0
def tw1632041292262086317 : Nat := 0
def tw2729793432009153956 : Nat := 0
def tw14313897822631088780 : Nat := 0
def tw12252054271945606052 : Nat := 0
def tw16451033083921036709 : Nat := 0
def tw9121559901702372667 : Nat := 0
def tw18218335207050127959 : Nat := 0
def tw656089360051881306 : Nat := 0
def tw6389877041954997217 : Nat := 0
def tw8207831470162742035 : Nat := 0
def tw6855474311058116810 : Nat := 0
def tw10199874654664476236 : Nat := 0
def tw6363820671035445002 : Nat := 0
def tw8466321980469482115 : Nat := 0
def tw496732070673839287 : Nat := 0
def tw6112859857366181021 : Nat := 0
def tw5372645768047454471 : Nat := 0
def tw5401703158475992631 : Nat := 0
def tw1777545030009416734 : Nat := 0
def tw11646826074482590764 : Nat := 0
def tw3491332818749588091 : Nat := 0
def tw750237026923860459 : Nat := 0
def tw7074144079889050967 : Nat := 0
def tw8947760058931562597 : Nat := 0
def tw14793117695081215449 : Nat := 0
def tw18421580907717582127 : Nat := 0
def tw12343854547171428336 : Nat := 0
def tw14027531716089632829 : Nat := 0
def tw9957550378297406723 : Nat := 0
def tw7698036289167662538 : Nat := 0
def tw341453280667917650 : Nat := 0
def tw14672674291997333471 : Nat := 0
def tw18058344117034437523 : Nat := 0
def tw17057053908230417247 : Nat := 0
def tw18190005008629794160 : Nat := 0
def tw11251407683458634364 : Nat := 0
def tw3613476055612923068 : Nat := 0
def tw16641786646906312760 : Nat := 0
def tw10669944970481658594 : Nat := 0
def tw9897820754763898449 : Nat := 0
def tw13224007501803129859 : Nat := 0
def tw5436791530062809996 : Nat := 0
def tw3454311308915712629 : Nat := 0
def tw12885673836220544336 : Nat := 0
def tw5473700226181020891 : Nat := 0
def tw16922381011570985944 : Nat := 0
def tw9302470337196694018 : Nat := 0
def tw8729708805864041840 : Nat := 0
def tw2583023086579268501 : Nat := 0
def tw5871769198996169552 : Nat := 0
def tw7214478077546791972 : Nat := 0
def tw9265829497004654079 : Nat := 0
def tw15955573374722617477 : Nat := 0
def tw11476092923266045095 : Nat := 0
def tw7186131708394509389 : Nat := 0
def tw7268301785047649679 : Nat := 0
def tw3934531018447913466 : Nat := 0
def tw2110754180369666209 : Nat := 0
def tw11975309515460910107 : Nat := 0
def tw11092141859048813250 : Nat := 0
def tw3557749057250611081 : Nat := 0
def tw979501456738626862 : Nat := 0
def tw17715262827843222689 : Nat := 0
def tw5400957986263281647 : Nat := 0
def tw834873547066669988 : Nat := 0
def tw14439473939278146460 : Nat := 0
def tw6222487380544312443 : Nat := 0
def tw1628013610222277130 : Nat := 0
def tw3796207824708393856 : Nat := 0
def tw11221353774195762014 : Nat := 0
def tw9512817274939609580 : Nat := 0
def tw14277072580157149592 : Nat := 0
def tw12922898485456448571 : Nat := 0
def tw6785657489111691699 : Nat := 0
def tw3137596982192898869 : Nat := 0
def tw13590572293223372214 : Nat := 0
def tw1130211791997205004 : Nat := 0
def tw16778611742570070204 : Nat := 0
def tw17450470499104002142 : Nat := 0
def tw451873465583785326 : Nat := 0
def tw6912675738884088206 : Nat := 0
def tw10204856939554784155 : Nat := 0
def tw5243159528196176124 : Nat := 0
def tw13503263706703578961 : Nat := 0
def tw16136984950599521427 : Nat := 0
def tw10334261112615635914 : Nat := 0
def tw12483276189755474720 : Nat := 0
def tw1587290215689348708 : Nat := 0
def tw5240536507193477226 : Nat := 0
def tw3829396358689915599 : Nat := 0
def tw13876859957761632879 : Nat := 0
def tw8627561154394265716 : Nat := 0
def tw10455743928339290457 : Nat := 0
def tw9557352009045844224 : Nat := 0
def tw1161520513448753826 : Nat := 0
def tw3583811862363856187 : Nat := 0
def tw14064073609400967072 : Nat := 0
def tw12518504611687188807 : Nat := 0
def tw8478376212529829071 : Nat := 0
def tw11544348965984651327 : Nat := 0
def tw7590696779544312186 : Nat := 0
def tw13348322127785295214 : Nat := 0
def tw5677329702179833609 : Nat := 0
def tw10363585996791799541 : Nat := 0
def tw14510055921401542917 : Nat := 0
def tw11501822485730972192 : Nat := 0
def tw9681375758050803366 : Nat := 0
def tw9406782406253462049 : Nat := 0
def tw3466206800631347469 : Nat := 0
def tw18238007617527299592 : Nat := 0
def tw11120327062377616369 : Nat := 0
def tw12543713266681445118 : Nat := 0
def tw9658885295015712986 : Nat := 0
def tw3706830351922483016 : Nat := 0
def tw12885385263037960081 : Nat := 0
def tw9417822746687237092 : Nat := 0
def tw16102231251864390963 : Nat := 0
def tw13110577991587790113 : Nat := 0
def tw1156462466702112376 : Nat := 0
def tw2496676261509829067 : Nat := 0
def tw5396188567872606041 : Nat := 0
def tw6635558491612396129 : Nat := 0
def tw3027586509356016917 : Nat := 0
def tw13402765919934010277 : Nat := 0
def tw3890979946229291994 : Nat := 0
def tw10234815189450012239 : Nat := 0
def tw2724176850512262202 : Nat := 0
def tw17477492558424962760 : Nat := 0
def tw17679725944135375923 : Nat := 0
def tw15270170921892066516 : Nat := 0
def tw8475525182357872103 : Nat := 0
def tw6508729118710982530 : Nat := 0
def tw2702614204127132176 : Nat := 0
def tw17510229520200029679 : Nat := 0
def tw14907226015203709474 : Nat := 0
def tw330327031418712150 : Nat := 0
def tw1886080085820668685 : Nat := 0
def tw104360540948158410 : Nat := 0
def tw7293298908176781663 : Nat := 0
def tw5102693214775723256 : Nat := 0
def tw14635473669698735251 : Nat := 0
def tw3960113756560652017 : Nat := 0
def tw4749052000479324790 : Nat := 0
def tw12590340796369385619 : Nat := 0
def tw11982392923317675503 : Nat := 0
def tw16923884221124529275 : Nat := 0
def tw8652556701797213591 : Nat := 0
def tw17223442867436993403 : Nat := 0
def tw12455012482086183272 : Nat := 0
def tw6655696309031964122 : Nat := 0
def tw15303317825217679618 : Nat := 0
def tw12839114828313443825 : Nat := 0
def tw9656510801202774680 : Nat := 0
def tw13676971244355772609 : Nat := 0
def tw7751025194823839400 : Nat := 0
def tw16950194794029067938 : Nat := 0
def tw2544328076492683441 : Nat := 0
def tw9756827057097773860 : Nat := 0
def tw2019394398466159022 : Nat := 0
def tw52199770228462824 : Nat := 0
def tw13572980719466306388 : Nat := 0
def tw716429049611869786 : Nat := 0
def tw9976160756891316704 : Nat := 0
def tw3314904115985164895 : Nat := 0
def tw961187720498965250 : Nat := 0
def tw4044139247061151142 : Nat := 0
def tw6862492499505807319 : Nat := 0
def tw13219505800766818778 : Nat := 0
def tw3779293765908593550 : Nat := 0
def tw11987853993630220354 : Nat := 0
def tw9360745474812902239 : Nat := 0
def tw15595112118272840620 : Nat := 0
def tw7411558596216406370 : Nat := 0
def tw10707853282979444102 : Nat := 0
def tw2895952525429962455 : Nat := 0
def tw11815829001073249272 : Nat := 0
def tw12670839924663504800 : Nat := 0
def tw2759098988195820126 : Nat := 0
def tw14759895335926876869 : Nat := 0
def tw6418098437765475518 : Nat := 0
def tw4039676971129161736 : Nat := 0
def tw15514936471743626214 : Nat := 0
def tw33456957511925785 : Nat := 0
def tw4261964983698606537 : Nat := 0
def tw2566753976717531306 : Nat := 0
def tw5613160597433933154 : Nat := 0
def tw14909365282108701170 : Nat := 0
def tw4839478117068044826 : Nat := 0
def tw9730157408454304684 : Nat := 0
def tw7439787175107056256 : Nat := 0
def tw65644731488775911 : Nat := 0
def tw12027323910402764344 : Nat := 0
def tw12927740378394474205 : Nat := 0
def tw11785714552879321826 : Nat := 0
def tw12702744160499308131 : Nat := 0
def tw16251939892948500945 : Nat := 0
def tw16008252555379753968 : Nat := 0
def tw13724616953566380437 : Nat := 0
def tw9272984997812220495 : Nat := 0
def tw3532412968194664532 : Nat := 0
def tw13591255225166038476 : Nat := 0
def tw6657087868060814 : Nat := 0
def tw907572574359809234 : Nat := 0
def tw8467378866343419333 : Nat := 0
def tw15079240505294077160 : Nat := 0
def tw4189750870438640210 : Nat := 0
def tw13777938177461255882 : Nat := 0
def tw16952715711813285254 : Nat := 0
def tw4691015743037742358 : Nat := 0
def tw16049902774474827687 : Nat := 0
def tw18284262389922463811 : Nat := 0
def tw302440914744352476 : Nat := 0
def tw10177057350305019805 : Nat := 0
def tw17644181745481072423 : Nat := 0
def tw7991365701116552721 : Nat := 0
def tw7259363254985744601 : Nat := 0
def tw2647654807098235363 : Nat := 0
def tw6696893160125735727 : Nat := 0
def tw3343439749351644125 : Nat := 0
def tw2195194259037543316 : Nat := 0
def tw17201416709059790184 : Nat := 0
def tw10159738436595150677 : Nat := 0
def tw12732289081945773324 : Nat := 0
def tw16193401482309157537 : Nat := 0
def tw2524017781993486291 : Nat := 0
def tw13293747886898857621 : Nat := 0
def tw13113777628852026922 : Nat := 0
def tw9508770018378322450 : Nat := 0
def tw2279707942289718827 : Nat := 0
def tw15465920861327815835 : Nat := 0
def tw10457739000823666423 : Nat := 0
def tw12057704586751987240 : Nat := 0
def tw15060185592220127646 : Nat := 0
def tw17272174723667511238 : Nat := 0
def tw15109750227778091905 : Nat := 0
def tw7235775444256392728 : Nat := 0
def tw1118068078248606362 : Nat := 0
def tw10864377008497418100 : Nat := 0
def tw9381277316556691805 : Nat := 0
def tw387501639795913443 : Nat := 0
def tw11181722664286889309 : Nat := 0
def tw1504049600530537962 : Nat := 0
def tw645136716886899192 : Nat := 0
def tw7846812961960373227 : Nat := 0
def tw18315214858253571532 : Nat := 0
def tw11487549891475536569 : Nat := 0
def tw8557395850702784662 : Nat := 0
def tw6541472054586571296 : Nat := 0
def tw1850612553970854742 : Nat := 0
def tw4365514962571936147 : Nat := 0
def tw4038153913678941442 : Nat := 0
def tw10821422270917381399 : Nat := 0
def tw5160751907100791332 : Nat := 0
def tw10665469846841522134 : Nat := 0
def tw16320729459185622934 : Nat := 0
def tw4333880214566435006 : Nat := 0
def tw15806524323241146399 : Nat := 0
def tw8079908401900000222 : Nat := 0
def tw14218914174604095658 : Nat := 0
def tw16153842264607907944 : Nat := 0
def tw16046730324260685337 : Nat := 0
def tw1615045767204293396 : Nat := 0
def tw3394367416137920725 : Nat := 0
def tw7761410557224570781 : Nat := 0
def tw15643365686152983790 : Nat := 0
def tw10825838108423173272 : Nat := 0
def tw11420884497731329202 : Nat := 0
def tw2287757881348798766 : Nat := 0
def tw3234112476842188716 : Nat := 0
def tw11595355409239048105 : Nat := 0
def tw2190695567426971638 : Nat := 0
def tw18134284020713443437 : Nat := 0
def tw18442785490491869365 : Nat := 0
def tw1714950047550659301 : Nat := 0
def tw4475767826048309731 : Nat := 0
def tw12205347405646519318 : Nat := 0
def tw8834365191522931223 : Nat := 0
def tw14788915703135433725 : Nat := 0
def tw3627144658338631552 : Nat := 0
def tw1157997071576566072 : Nat := 0
def tw17402982504261768225 : Nat := 0
def tw14009396871252706886 : Nat := 0
def tw14639212616227390028 : Nat := 0
def tw6162249291895867263 : Nat := 0
def tw2821470743931037460 : Nat := 0
def tw14061640607465278742 : Nat := 0
def tw15768048840197415361 : Nat := 0
def tw6053611964639427726 : Nat := 0
def tw17091655785135471103 : Nat := 0
def tw7514964652732493775 : Nat := 0
def tw2921621734765799159 : Nat := 0
def tw2225956059507018244 : Nat := 0
def tw16411370214107742406 : Nat := 0
def tw11374851513655246148 : Nat := 0
def tw7974275031393228247 : Nat := 0
def tw357486453476387696 : Nat := 0
def tw7332330508316399935 : Nat := 0
def tw8663697691656813868 : Nat := 0
def tw6511744376749373798 : Nat := 0
def tw17725498274588495791 : Nat := 0
def tw15467891735981029475 : Nat := 0
def tw2906824675625879941 : Nat := 0
def tw832900586485598795 : Nat := 0
def tw12915833801598196605 : Nat := 0
def tw5665735395497279834 : Nat := 0
def tw17118054049896295152 : Nat := 0
def tw7173623326730630234 : Nat := 0
def tw15342904991969174519 : Nat := 0
def tw13642826006792871662 : Nat := 0
def tw4681395471914393968 : Nat := 0
def tw12900284412222446716 : Nat := 0
def tw9808303207383738048 : Nat := 0
def tw4605139254293405059 : Nat := 0
def tw5781596087445459943 : Nat := 0
def tw66260789543402106 : Nat := 0
def tw14662554035588321541 : Nat := 0
def tw18132893181854203810 : Nat := 0
def tw5649967823195072380 : Nat := 0
def tw15485851114877660061 : Nat := 0
def tw8211959896082780389 : Nat := 0
def tw14097447854668400296 : Nat := 0
def tw2238316416991798583 : Nat := 0
def tw15554039934745177238 : Nat := 0
def tw5203219222101121401 : Nat := 0
def tw4126091431370883743 : Nat := 0
def tw4458048076830672230 : Nat := 0
end Mine.main
set_option Elab.async true
theorem Mine.main : PySem.Challenge.rw_sq0037_01.Holds := by
  w_on
  o_law
  o_head (kHook Mine.hd.heap_1 [2, 3, 15, 17, 18, 20, 21, 22, 29, 30, 32, 33, 35, 36, 37, 38, 39, 40, 43, 50, 51, 52, 55, 62, 63, 64, 67, 74, 75, 76, 83, 85, 86, 88, 89, 90, 92, 93, 95, 96, 97, 99, 100, 102, 103, 104, 106, 107, 109, 110, 111, 113, 114, 116, 117, 118, 120, 121, 123, 124, 125, 127, 128, 130, 131, 132, 134, 135, 137, 138, 139, 141, 142, 144, 145, 146, 148, 149, 151, 152, 160, 161, 163, 164, 166, 167, 168, 170, 171, 173, 174, 175, 177, 178, 180, 181, 182, 184, 185, 187, 188, 189, 191, 192, 194, 195, 196, 198, 199, 201, 202, 203, 205, 206, 208, 209, 210, 211, 213, 214, 216, 217, 218, 219, 220, 221, 222, 237, 238, 239, 241, 242, 244, 245, 246, 248, 249, 251, 252, 253, 255, 256, 258, 259, 260, 262, 263, 265, 266, 267, 269, 270, 272, 273, 274, 276, 277, 279, 280, 281, 283, 284, 286, 287, 295, 296, 297, 298, 300, 301, 303, 304, 305, 307, 308, 310, 311, 312, 314, 315, 317, 318, 319, 321, 322, 324, 325, 326, 328, 329, 331, 332, 333, 335, 336, 338, 339, 340, 342, 343, 345, 346, 347, 349, 350, 352, 353, 354, 356, 357, 359, 360, 361, 363, 364, 366, 367, 368, 370, 371, 373, 374, 375, 376, 377, 378, 379, 382, 384, 385, 387, 388, 389, 390, 391, 392, 394, 395, 397, 398, 399, 401, 402, 404, 405, 406, 408, 409, 411, 412, 413, 415, 416, 418, 419, 420, 421, 422, 424, 425, 427, 428, 429, 431, 432, 434, 435, 436, 438, 439, 441, 442, 443, 445, 446, 448, 449, 450, 452, 453, 455, 456, 457, 459, 460, 462, 463, 464, 466, 467, 469, 470, 471, 473, 474, 476, 477, 478, 480, 481, 483, 484, 485, 488, 489] (fun _ => by kernel_rfl))
  case hw => w_witness2
  w_strict k_go0
  rename (Fr _ _ _ _) => F9
  rename (News _ _ _ _) => N9
  refine' Mine.law_body ?ho ?B ?X ?T ?hd ?hu ?hE ?hL ?hI ?hn ?hco (Mine.fr_has1 F9 rfl) N9 ?hret
  case ho => k_is
  case B => assumption
  case X => assumption
  case T => assumption
  case hd => first | decide | ktr_room
  case hu => first | (have hc9 := cLine_is; omega) | ktr_units
  case hE => passes_own
  case hL => assumption
  case hI => assumption
  case hn => omega
  case hco => assumption
  intro m' nx h' tk' F' N'
  (try dsimp only)
  k_steps
set_option Elab.async false


theorem PySem.Challenge.cw_sq0037_01_holds : PySem.Challenge.rw_sq0037_01.Holds := by
  exact Mine.main
