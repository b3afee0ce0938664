import PyProof.Rows.All
import Wide.All
import OpenK.AllK
import Wide.FinOn
import Lean
import PySem.Challenge.RW_pq0442_01
set_option Elab.async false
set_option maxRecDepth 100000
set_option maxHeartbeats 4000000
set_option pp.deepTerms.threshold 8
set_option pp.maxSteps 2000

namespace Mine
section
open PySem PySem.W PySem.Calls PyProof.Rows Builtin Builtin.ObjectAttr
abbrev excMro : List Value := [.type "Exception", .type "BaseException", .type "object"]
abbrev excObj (C t : Addr) : Obj := { cls := .ref C, data := .fields #[.ref t, .none, .none, .none, .bool false, .none] }
abbrev excObjD (C t dx : Addr) : Obj := { cls := .ref C, dict := some dx, data := .fields #[.ref t, .none, .none, .none, .bool false, .none] }
abbrev argsObj (vs : List Value) : Obj := { cls := .type "tuple", data := .seq vs.toArray }

section
variable {prog : Program} {w : World} {A : Around} {R : Result → Shared → Prop} {h : Heap} {g : Array GenState} {d : Drawn} {t : Nat} {os : OsState}
variable {nm q : Str} {C N G : Addr} {bs : List Value} {hdct : Bool} {sn : List Str} {sub : List Value} {ab : Bool} {col : Option Bool} {dd : Option Addr} {k0 k1 k2 k3 k5 : Option Value}

/-- Exception.__new__ of an own class whose base is an own class over Exception -/
theorem new_own {rest : List Value} (hC : h.get? C = some (excClassObj nm q C N bs (.ref G :: excMro) hdct sn sub ab col dd k0 k1 k2 k3 k5 "Exception.__new__"))
    (hq : R (.ok (.ret (.ref (h.objs.size + 1)))) ⟨(h.push (argsObj rest)).push (excObj C h.objs.size), g, d, t, os⟩) (hrest : rest.length ≤ sizeLine := by size_fits) :
    codeAny (model prog w) A (.call (.builtin "Exception.__new__") ⟨.ref C :: rest, []⟩) R ⟨h, g, d, t, os⟩ := by
  have Fx := PySem.F.excBase_Exception
  refine codeAny_call_builtin_code (Code.quiet_builtin _ Fx.quiet) (wpAny_check_new_subU Fx (bmB := .ref G :: excMro) (by simp) OwnTail.base hC ?_)
  have hends := Fx.ends
  have c1 : (Value.ref C :: .ref G :: excMro).contains (.type "Exception") = true := by simp
  have c2 : (Value.ref C :: .ref G :: excMro).contains (.type "AttributeError") = false := by simp
  have c3 : (Value.ref C :: .ref G :: excMro).contains (.type "NameError") = false := by simp
  refine codeAny_builtinAt Fx.entry ?_
  unfold Builtin.«BaseException.__new__»
  refine PySem.wpAt_bind ?_
  show PySem.wpAt _ _ _ (stack >>= _) _ _ _
  refine PySem.wpAt_bind (PySem.wpAt_stack fun p below => PySem.wpAt_of_wpAny ?_)
  wp_walk
  refine PySem.wpAt_of_wpAny ?_
  rw [Fx.owner]
  repeat (first | with_reducible refine wpAny_madeHere_exc Fx.canon hC ?_ | with_reducible refine wpAny_loadPart_at hC ?_ | (with_reducible refine wpAny_isSubtype_exc hC ?_; first | rw [c1] | rw [c2] | rw [c3]) | wp_step)
  show R _ _
  rw [Heap.size_push]
  exact hq
end
/-- what the written part must say of an own exception class: its base is an own class, its __init__ a def -/
structure OwnExc (K : Frag) (C G fI : Addr) : Prop where
  obj : ∃ nm q N bs sn sub ab col dd k0 k1 k2 k3 k5, K.lookup C = some (excClassObj nm q C N bs (.ref G :: excMro) true sn sub ab col dd k0 k1 k2 k3 k5 "Exception.__new__")
  call : specialIn K (.ref C) "__call__" = some (some (.builtin "type.__call__"))
  typ : instIn K (.ref C) (.type "type") = some true
  init : findIn K (.ref C) "__init__" = some (some (.ref fI))
  fn : typeIn K (.ref fI) = some (.type "function")
  seta : findIn K (.ref C) "__setattr__" = some (some (.builtin "object.__setattr__"))
  geta : findIn K (.ref C) "__getattribute__" = some (some (.builtin "BaseException.__getattribute__"))

section
variable {prog : Program} {w : World} {A : Around} {R : Result → Shared → Prop} {h : Heap} {g : Array GenState} {d : Drawn} {t : Nat} {os : OsState} {K : Frag} {C G fI : Addr}

theorem make_exc0 {rest : List Value} (X : K.In h) (O : OwnExc K C G fI)
    (hq : codeAny (model prog w) (A.under (.builtin "type.__call__" ⟨.ref C :: rest, []⟩)) (.call (.ref fI) ⟨.ref (h.objs.size + 1) :: rest, []⟩) (InitBack (h.objs.size + 1) R) ⟨(h.push (argsObj rest)).push (excObj C h.objs.size), g, d, t, os⟩)
    (hrest : rest.length ≤ sizeLine := by size_fits) :
    codeAny (model prog w) A (.call (.ref C) ⟨rest, []⟩) R ⟨h, g, d, t, os⟩ := by
  obtain ⟨nm, q, N, bs, sn, sub, ab, col, dd, k0, k1, k2, k3, k5, hK⟩ := O.obj
  have hC := X _ _ hK
  have call : Looks (model prog w) h (specialOf (.ref C) "__call__") (some (.builtin "type.__call__")) := looks_specialIn X O.call
  have typ : Looks (model prog w) h (isInstance (.ref C) (.type "type")) true := looks_instIn X O.typ
  have hi : Looks (model prog w) h (typeLookup (.ref C) "__init__") (some (.ref fI)) := looks_findIn X O.init
  have made : Looks (model prog w) h (Bind.madeBy (.ref C)) (some "Exception.__new__") := by
    intro A Q E s k q
    obtain ⟨hh, g', d', t', os'⟩ := s
    exact wpAny_madeBy_exc (k _ _ hC) q
  have hm : Looks (model prog w) h (mroOf (.ref C)) (.ref C :: .ref G :: excMro) := by
    intro A Q E s k q
    obtain ⟨hh, g', d', t', os'⟩ := s
    exact wpAny_mroOf_exc (k _ _ hC) q
  have self : Looks (model prog w) h (isSubtype (.ref C) (.ref C)) true := by
    intro A Q E s k q
    obtain ⟨hh, g', d', t', os'⟩ := s
    refine wpAny_isSubtype_exc (k _ _ hC) ?_
    rw [show (Value.ref C :: .ref G :: excMro).contains (.ref C) = true by simp]
    exact q
  refine codeAny_of_tree ?_
  show wpAny _ _ (callAny (.ref C) _) _ _ _
  refine nd_load hC ?_
  show wpAny _ _ (callAny.viaDunder (.ref C) _) _ _ _
  unfold callAny.viaDunder
  refine wpAny_bind (call.at ?_)
  dsimp only
  rw [tc_bind]
  refine wpAny_bind (wpAny_pure (wpAny_bind (wpAny_pure ?_)))
  refine wpAny_pure (a := Fin.again (.call (.builtin "type.__call__") ⟨.ref C :: rest, []⟩)) (And.intro rfl ?_)
  refine codeAny_call_builtin_at (Code.quiet_builtin _ (by decide +kernel)) entry_typeCall (check_slot tc_kind tc_split typ (tc_args _ _ _) ?_)
  unfold Builtin.«type.__call__»
  repeat (first | with_reducible refine wpAny_call ?_ | lk)
  refine new_own hC ?_ hrest
  have k : ∀ b o, h.get? b = some o → ((h.push (argsObj rest)).push (excObj C h.objs.size)).get? b = some o := fun b o e => Heap.get?_push_of_some _ (Heap.get?_push_of_some _ e)
  have hx : ((h.push (argsObj rest)).push (excObj C h.objs.size)).get? (h.objs.size + 1) = some (excObj C h.objs.size) := by heap_get
  have t1 : Looks (model prog w) ((h.push (argsObj rest)).push (excObj C h.objs.size)) (typeOf (.ref (h.objs.size + 1))) (.ref C) := (Looks.ld hx).andThen .now
  have s1 := self.keeps k
  have i1 := hi.keeps k
  have b1 := (bind_fn (M := model prog w) X (.ref (h.objs.size + 1)) O.fn).keeps k
  unfold isInstance callSpecial? specialOf
  repeat (first | with_reducible refine wpAny_call ?_ | lk)
  refine codeAny_mono hq fun r s' z => ?_
  rcases r with e | (v | _ | _ | _) <;> first | exact z | exact z.elim | skip
  obtain ⟨rfl, z⟩ := z
  exact wpAny_pure (wpAny_pure z)
end

section
variable {prog : Program} {w : World} {A : Around} {s : Shared} {K : Frag} {C G fI L : Addr} {h₀ : Heap} {m : Str → Option Value} {news : List (Addr × Obj)} {R : Result → Shared → Prop} {E : Value → Shared → Prop}

theorem make_exc {rest : List Value} (F : Fr h₀ L s.heap m) (N : News h₀ L s.heap news) (X : K.In s.heap) (O : OwnExc K C G fI)
    (h : ∀ x t h', Fr h₀ L h' m → News h₀ L h' ((x, excObj C t) :: (t, argsObj rest) :: news) → (∀ p ∈ news, p.1 < t) → (∀ p ∈ news, p.1 < x) → t < x →
      codeAny (model prog w) (A.under (.builtin "type.__call__" ⟨.ref C :: rest, []⟩)) (.call (.ref fI) ⟨.ref x :: rest, []⟩) (InitBack x R) { s with heap := h' })
    (hrest : rest.length ≤ sizeLine := by size_fits) :
    codeAny (model prog w) A (.call (.ref C) ⟨rest, []⟩) R s := by
  obtain ⟨hh, g, d, t, os⟩ := s
  refine make_exc0 X O (h _ hh.objs.size _ ((F.push _).push _) ?_ (fun p hp => Heap.lt_size (N p hp).1) (fun p hp => Nat.lt_succ_of_lt (Heap.lt_size (N p hp).1)) (Nat.lt_succ_self _)) hrest
  have := (N.push F (argsObj rest)).push (F.push _) (excObj C hh.objs.size)
  rwa [Heap.size_push] at this

theorem call_exc {pos : List Value} {Q : Value → Shared → Prop} (F : Fr h₀ L s.heap m) (X₀ : K.In h₀) (N : News h₀ L s.heap news) (O : OwnExc K C G fI)
    (h : ∀ x t h', Fr h₀ L h' m → News h₀ L h' ((x, excObj C t) :: (t, argsObj pos) :: news) → (∀ p ∈ news, p.1 < t) → (∀ p ∈ news, p.1 < x) → t < x →
      codeAny (model prog w) (A.under (.builtin "type.__call__" ⟨.ref C :: pos, []⟩)) (.call (.ref fI) ⟨.ref x :: pos, []⟩) (InitBack x fun r s' => match r with | .ok (.ret v) => Q v s' | .ok _ => False | .error e => E e s') { s with heap := h' })
    (hpos : pos.length ≤ sizeLine := by size_fits) :
    wpAny (model prog w) A (call (.ref C) pos []) Q E s := wpAny_call (make_exc F N (X₀.keeps F.keep) O h hpos)
end
section
variable {prog : Program} {w : World} {A : Around} {s : Shared} {K : Frag} {C G fI L x dx : Addr} {h₀ : Heap} {m : Str → Option Value} {news pre post : List (Addr × Obj)} {R : Result → Shared → Prop} {E : Value → Shared → Prop}
  {name : Str} {v : Value} {es es' : List DictEntry} {n n' : Nat}

/-- the last step of every store: the dict of the ledger takes the name -/
theorem store_part {tk : Tok} {Q : PySem.Fin → Shared → Prop} (F : Fr h₀ L s.heap m) (N : News h₀ L s.heap (pre ++ (dx, dictOf es n) :: post)) (h1 : ∀ p ∈ pre, p.1 ≠ dx) (h2 : ∀ p ∈ post, p.1 ≠ dx)
    (hl : (getL name es).isSome = true) (e : (putL name (PyData.keyHash w.params name) (.str name s.toks) v es, putN name es n) = (es', n')) (hz : es'.length ≤ 1000)
    (h : ∀ h', Fr h₀ L h' m → News h₀ L h' (pre ++ (dx, dictOf es' n') :: post) → Q (.done (.ret .none)) { s with heap := h', toks := s.toks + 1 }) :
    wpAny (model prog w) A (storeInDict dx (.str name tk) name v) Q E s := by
  obtain ⟨e1, e2⟩ := Prod.mk.inj e
  have e0 : Obj.putName name (PyData.keyHash w.params name) (.str name s.toks) v (dictOf es n) = dictOf es' n' := by rw [putName_dict, e1, e2]
  obtain ⟨U1, U2⟩ := news_upd (f := Obj.putName name (PyData.keyHash w.params name) (.str name s.toks) v) F N h1 h2 e0 rfl
  have D := (N (dx, dictOf es n) (by simp)).1
  have D' := (U2 (dx, dictOf es' n') (by simp)).1
  unfold storeInDict
  refine wpAny_bind (wpAny_pure (wpAny_bind ?_))
  unfold nsSet
  refine wpAny_bind (wpAny_bind (wpAny_askSetting (wpAny_pure (wpAny_bind (wpAny_mkText (wpAny_bind (wpAny_loadPart D ?_)))))))
  dsimp only
  have c : (!es.toArray.any (·.key.isStr name) && es.toArray.any (·.refKey)) = false := by
    simp only [List.any_toArray]
    unfold getL at hl
    split at hl
    · rename_i en he
      rw [List.any_eq_true.mpr ⟨en, List.mem_of_find?_eq_some he, List.find?_some he⟩]; rfl
    · split at hl
      · cases hl
      · rename_i z
        rw [Bool.not_eq_true] at z
        rw [z, Bool.and_false]
  rw [aRefKeyMayBeTheName_at, c]
  refine wpAny_updatePart D ?_
  refine wpAny_bind (wpAny_lookBehind D' (pastItsLine_dict (by rw [List.size_toArray, sizeLine_eq]; omega)) ?_)
  exact wpAny_pure (h _ U1 U2)

theorem osa_exc {tk : Tok} {ox : Obj} {od : Option Obj} (X : K.In s.heap) (O : OwnExc K C G fI) (I : InstAt s.heap x ox C od) (ht : takerIn K C name = some none)
    (h : ∀ b, wpAny (model prog w) A.in1 (storeInOwnDict (.ref x) (.ref C) (.str name tk) name v b)
      (fun fin s' => match fin with | .done f => R (.ok f) s' | .again c' => c'.quiet = true ∧ codeAny (model prog w) A c' R s') (fun e s' => R (.error e) s') s) :
    codeAny (model prog w) A (.call (.builtin "object.__setattr__") ⟨[.ref x, .str name tk, v], []⟩) R s := by
  have SF := PySem.F.store_object
  obtain ⟨nm, q, N, bs, sn, sub, ab, col, dd, k0, k1, k2, k3, k5, hK⟩ := O.obj
  have hm : Looks (model prog w) s.heap (mroOf (.ref C)) (.ref C :: .ref G :: excMro) := by
    intro A Q E s' k q
    obtain ⟨hh, g', d', t', os'⟩ := s'
    exact wpAny_mroOf_exc (k _ _ (X _ _ hK)) q
  have sub : Looks (model prog w) s.heap (isInstance (.ref x) (.type "object")) true := I.type.andThen (by
    intro A Q E s' k q
    obtain ⟨hh, g', d', t', os'⟩ := s'
    refine wpAny_isSubtype_exc (k _ _ (X _ _ hK)) ?_
    rw [show (Value.ref C :: .ref G :: excMro).contains (.type "object") = true by simp]
    exact q)
  refine codeAny_call_builtin SF.slot.plain SF.entry (@check_slot (model prog w) _ _ s "object.__setattr__" "object" "__setattr__" (.ref x) [.str name tk, v] [] _ SF.kind SF.split sub (SF.args (.ref x) (.str name tk) v) ?_)
  obtain ⟨attr, ha, hr⟩ := Option.bind_eq_some_iff.mp ht
  have L3 : Looks (model prog w) s.heap (storeTaker? attr) none := by
    cases attr with
    | none => exact .now
    | some a =>
      obtain ⟨b, hb, hb'⟩ := Option.map_eq_some_iff.mp hr
      refine (looks_takesIn X hb).andThen ?_
      cases b
      · exact .now
      · cases hb'
  have pass : refuseLoop (.ref x) "__setattr__" (.ref C :: .ref G :: excMro) = pure () := by
    rw [refuseLoop_ref, refuseLoop_ref]
    kernel_rfl
  rw [osa_eq, refuse_eq]
  refine wpAny_bind (wpAny_bind (I.type.here (wpAny_bind (hm.here ?_))))
  rw [pass]
  refine wpAny_pure (wpAny_bind (I.type.here (wpAny_bind ((looks_findIn X ha).here (wpAny_bind (L3.here ?_))))))
  exact h _

/-- self.x = v in an exception that has its dict -/
theorem set_excD {t : Addr} {news' : List (Addr × Obj)} {Q : Unit → Shared → Prop} (F : Fr h₀ L s.heap m) (X₀ : K.In h₀) (N : News h₀ L s.heap news) (O : OwnExc K C G fI) (hx : (x, excObjD C t dx) ∈ news)
    (ht : takerIn K C name = some none) (hl : (getL name es).isSome = true)
    (e : (putL name (PyData.keyHash w.params name) (.str name (s.toks + 1)) v es, putN name es n) = (es', n')) (U : Upd dx (dictOf es n) (dictOf es' n') news news') (hz : es'.length ≤ 1000)
    (h : ∀ h', Fr h₀ L h' m → News h₀ L h' news' → Q () { s with heap := h', toks := s.toks + 2 }) :
    wpAny (model prog w) A (setAttr (.ref x) name v) Q E s := by
  have X := X₀.keeps F.keep
  obtain ⟨pre, post, rfl, rfl, a, b⟩ := U.split
  obtain ⟨nm, q, N', bs, sn, sub, ab, col, dd, k0, k1, k2, k3, k5, hK⟩ := O.obj
  have I : InstAt s.heap x (excObjD C t dx) C (some (dictOf es n)) := ⟨(N _ hx).1, rfl, rfl, (N (dx, dictOf es n) (by simp)).1⟩
  refine set_plain X I O.seta (osa_exc (s := { s with toks := s.toks + 1 }) X O I ht fun b' => ?_)
  unfold storeInOwnDict ownStreamTells
  refine wpAny_bind (wpAny_pure (wpAny_bind (wpAny_bind (wpAny_loadPart I.at_ (wpAny_bind (looks_clsIn X (show clsIn K C = some _ by unfold clsIn; rw [hK]) _ _ _ _ (fun _ _ e => e) ?_))))))
  refine wpAny_pure (a := some dx) ?_
  exact store_part (s := { s with toks := s.toks + 1 }) F N a b hl e hz fun h' F' N' => h h' F' N'

/-- self.x = v in an exception that has no dict yet: one is made -/
theorem set_exc0 {t : Addr} {news' : Addr → List (Addr × Obj)} {Q : Unit → Shared → Prop} (F : Fr h₀ L s.heap m) (X₀ : K.In h₀) (N : News h₀ L s.heap news) (O : OwnExc K C G fI)
    (U : ∀ dx, Upd x (excObj C t) (excObjD C t dx) news (news' dx)) (ht : takerIn K C name = some none)
    (h : ∀ dx h', Fr h₀ L h' m → News h₀ L h' ((dx, dictOf [⟨PyData.keyHash w.params name, .str name (s.toks + 1), v⟩] 1) :: news' dx) → (∀ p ∈ news' dx, p.1 < dx) → Q () { s with heap := h', toks := s.toks + 2 }) :
    wpAny (model prog w) A (setAttr (.ref x) name v) Q E s := by
  have X := X₀.keeps F.keep
  obtain ⟨nm, q, N', bs, sn, sub, ab, col, dd, k0, k1, k2, k3, k5, hK⟩ := O.obj
  obtain ⟨hh, g, d, tk, os⟩ := s
  obtain ⟨pre, post, e1, e2, a, b⟩ := (U hh.objs.size).split
  have hx : (x, excObj C t) ∈ news := by rw [e1]; simp
  have I : InstAt hh x (excObj C t) C none := ⟨(N _ hx).1, rfl, rfl, trivial⟩
  refine set_plain X I O.seta (osa_exc (s := ⟨hh, g, d, tk + 1, os⟩) X O I ht fun b' => ?_)
  unfold storeInOwnDict ownStreamTells
  refine wpAny_bind (wpAny_pure (wpAny_bind (wpAny_bind (wpAny_loadPart I.at_ (wpAny_bind (looks_clsIn X (show clsIn K C = some _ by unfold clsIn; rw [hK]) _ _ _ _ (fun _ _ e => e) ?_))))))
  have N1 := N.push F (dictOf [] 0)
  have F1 := F.push (dictOf [] 0)
  rw [e1] at N1
  obtain ⟨F2, N2⟩ := news_upd (f := fun o => { o with dict := some hh.objs.size }) (o' := excObjD C t hh.objs.size) (pre := (hh.objs.size, dictOf [] 0) :: pre) F1 N1 (fun p hp => by
    rcases List.mem_cons.mp hp with rfl | hp
    · exact Nat.ne_of_gt (Heap.lt_size (N _ hx).1)
    · exact a p hp) b rfl rfl
  refine wpAny_bind (wpAny_alloc (wpAny_bind (wpAny_update (Heap.get?_push_of_some _ (N _ hx).1) ?_)))
  refine wpAny_pure (a := some hh.objs.size) ?_
  refine store_part (s := ⟨(hh.push (dictOf [] 0)).update x fun o => { o with dict := some hh.objs.size }, g, d, tk + 1, os⟩) (pre := []) (post := pre ++ (x, excObjD C t hh.objs.size) :: post) F2 N2 (fun _ hp => nomatch hp) (fun p hp => ?_) rfl rfl (by simp [putL]) fun h' F' N' => ?_
  · rcases List.mem_append.mp hp with hp | hp
    · exact Nat.ne_of_lt (Heap.lt_size (N p (by rw [e1]; exact List.mem_append_left _ hp)).1)
    · rcases List.mem_cons.mp hp with rfl | hp
      · exact Nat.ne_of_lt (Heap.lt_size (N _ hx).1)
      · exact Nat.ne_of_lt (Heap.lt_size (N p (by rw [e1]; exact List.mem_append_right _ (.tail _ hp))).1)
  · refine h hh.objs.size h' F' ?_ ?_
    · rw [e2]; exact N'
    · intro p hp
      rw [e2] at hp
      rcases List.mem_append.mp hp with hp | hp
      · exact Heap.lt_size (N p (by rw [e1]; exact List.mem_append_left _ hp)).1
      · rcases List.mem_cons.mp hp with rfl | hp
        · exact Heap.lt_size (N _ hx).1
        · exact Heap.lt_size (N p (by rw [e1]; exact List.mem_append_right _ (.tail _ hp))).1
end
section
variable {prog : Program} {w : World} {A : Around} {s : Shared} {K : Frag} {C G fI L x dx : Addr} {h₀ : Heap} {m : Str → Option Value} {news : List (Addr × Obj)} {R : Result → Shared → Prop} {E : Value → Shared → Prop}
  {name : Str} {v : Value} {ox : Obj} {od : Option Obj}

theorem ga_exc {tk : Tok} (X : K.In s.heap) (O : OwnExc K C G fI) (I : InstAt s.heap x ox C od) (hf : findObj K C od name = some (.value v)) (hq : R (.ok (.ret v)) s) :
    codeAny (model prog w) A (.call (.builtin "BaseException.__getattribute__") ⟨[.ref x, .str name tk], []⟩) R s := by
  have FX := PySem.F.attr_Exception
  obtain ⟨nm, q, N, bs, sn, sub, ab, col, dd, k0, k1, k2, k3, k5, hK⟩ := O.obj
  have sub : Looks (model prog w) s.heap (isInstance (.ref x) (.type "BaseException")) true := I.type.andThen (by
    intro A Q E s' k q
    obtain ⟨hh, g', d', t', os'⟩ := s'
    refine wpAny_isSubtype_exc (k _ _ (X _ _ hK)) ?_
    rw [show (Value.ref C :: .ref G :: excMro).contains (.type "BaseException") = true by simp]
    exact q)
  refine codeAny_call_builtin FX.ga.plain PySem.F.entry_bexc_ga (@check_slot (model prog w) _ _ s "BaseException.__getattribute__" "BaseException" "__getattribute__" (.ref x) [.str name tk] [] _ (by decide +kernel) (by decide +kernel) sub (PySem.F.args_bexc_ga (.ref x) (.str name tk)) ?_)
  have L0 := I.type (M := model prog w)
  have L1 := looks_find (M := model prog w) X I hf
  unfold Builtin.«object.__getattribute__»
  obtain ⟨hh, g, d, t, os⟩ := s
  repeat (first | with_reducible refine Looks.at L0 ?_ | with_reducible refine Looks.at L1 ?_ | wp_step)
  exact hq

theorem get_exc0 {expr : Bool} {Q : Value → Shared → Prop} (X : K.In s.heap) (O : OwnExc K C G fI) (I : InstAt s.heap x ox C od) (hh : findIn K (.ref C) "__getattr__" = some none) (hf : findObj K C od name = some (.value v)) (hv : handedIn v = true)
    (h : Q v { s with toks := s.toks + 1 }) : wpAny (model prog w) A (getAttr (.ref x) name expr) Q E s := by
  have FX := PySem.F.attr_Exception
  obtain ⟨hp, g, d, t, os⟩ := s
  have L0 := I.type (M := model prog w)
  have L1 := looks_findIn (M := model prog w) X O.geta
  have L2 := looks_findIn (M := model prog w) X hh
  have f3 := FX.ga.bind (.ref x)
  have hx0 : (expr && onTheHeap (Value.builtin "BaseException.__getattribute__")) = false := by cases expr <;> rfl
  have hx1 : (onTheHeap (Value.ref C) && Value.builtin "BaseException.__getattribute__" == Value.builtin "object.__getattribute__") = false := by
    rw [show (Value.builtin "BaseException.__getattribute__" == Value.builtin "object.__getattribute__") = false by decide +kernel]; rfl
  unfold getAttr getAttrBy
  refine wpAny_bind (wpAny_mkText (wpAny_holding (wpAny_bind (L0.at (wpAny_bind (L1.at ?_))))))
  dsimp only
  rw [hx1]
  simp only [Bool.false_eq_true, if_false]
  unfold getAttrByItsOwn hookBefore callGetattribute boundAndCalled
  rw [hx0]
  simp only [Bool.false_eq_true, if_false, onTheHeap, if_true]
  refine wpAny_bind (L2.at ?_)
  rw [f3]
  repeat (first | with_reducible refine wpAny_call ?_ | wp_step)
  refine ga_exc X O I hf ?_
  repeat wp_step
  show wpAny _ _ (handedOut v) _ _ _
  rw [handedOut_of hv]
  exact wpAny_pure h

theorem get_exc {attr : Option Value} {es : List DictEntry} {n : Nat} {expr : Bool} {Q : Value → Shared → Prop} (F : Fr h₀ L s.heap m) (X₀ : K.In h₀) (O : OwnExc K C G fI) (I : InstAt s.heap x ox C (some (dictOf es n))) (hh : findIn K (.ref C) "__getattr__" = some none) (hd : hasDictIn K C = true)
    (ha : findIn K (.ref C) name = some attr) (hn : noGet K attr = true) (hl : getL name es = some (some v)) (hv : handedIn v = true) (h : Q v { s with toks := s.toks + 1 }) :
    wpAny (model prog w) A (getAttr (.ref x) name expr) Q E s :=
  get_exc0 (X₀.keeps F.keep) O I hh (findObj_own hd ha hn hl) hv h
end
def TracedX (h base : Heap) (e C dx : Addr) (fl : Value) : Prop :=
  ∃ oe vs T oT ts, h.get? e = some oe ∧ (oe.cls = .ref C ∧ oe.dict = some dx) ∧ oe.data = .fields vs ∧ vs[1]? = some (.ref T) ∧ base.get? T = none ∧ T ≠ e ∧ h.get? T = some oT ∧ oT.data = .fields ts ∧ ts[3]? = some fl
/-- an own exception with a dict is under way: what stood at the base stands, the frames are frames, the exception keeps class and dict -/
def FlyX (base : Heap) (l : List Env) (e C dx : Addr) (fl : Value) (h : Heap) : Prop :=
  base.StaysIn h ∧ base.get? e = none ∧ h.FunFrames base l ∧ TracedX h base e C dx fl

section
variable {M : Model} {A : Around} {E : Value → Shared → Prop} {s : Shared} {base : Heap} {env : Env} {outer l : List Env} {L e C dx : Addr} {oe : Obj} {vs : Array Value} {head fl : Value} {hadNext : Bool} {Q : Unit → Shared → Prop}

theorem setFlightX (x : FlyX base l e C dx fl s.heap) (k : ∀ h', FlyX base l e C dx .none h' → s.heap.UpToSlots h' → Q () { s with heap := h' }) : wpAny M A (setFlight (.ref e) none) Q E s := by
  obtain ⟨b1, b2, b3, oe, vs, T, oT, ts, he, hcd, hd, h1, hT0, hTe, hT, hdT, h3⟩ := x
  have lt3 : 3 < ts.size := (Array.getElem?_eq_some_iff.mp h3).1
  have plain : ∀ b o, s.heap.get? b = some o → (∀ vs, o.data ≠ .fields vs) → b ≠ T := by
    rintro b o hb hn rfl
    rw [hT] at hb
    cases hb
    exact hn ts hdT
  have same : ∀ b, b ≠ T → (s.heap.update T (Obj.mapFields (·.setIfInBounds 3 ((none : Option Addr).elim Value.none fun f => rawInt f)))).get? b = s.heap.get? b := fun b hb => Heap.get?_update_other _ _ (Ne.symm hb)
  unfold setFlight
  refine wpAny_bind (wpAny_field he hd h1 ?_)
  rw [if_pos (show (Value.ref T != Value.none) = true by simp)]
  refine wpAny_setField hT hdT lt3 (k _ ⟨fun b o hb => ?_, b2, b3.of_keeps fun b o hb hn => ?_, ?_⟩ fun b o hb hn => ?_)
  · rw [same b (by rintro rfl; rw [hT0] at hb; cases hb)]
    exact b1 b o hb
  · exact ⟨o, (same b (plain b o hb hn)).trans hb, rfl⟩
  · exact ⟨oe, vs, T, _, _, (same e (Ne.symm hTe)).trans he, hcd, hd, h1, hT0, hTe, Heap.get?_update_self _ hT (Obj.isFreed_of_fields (Obj.data_mapFields hdT _)), Obj.data_mapFields hdT _, by simp [lt3]⟩
  · exact ⟨o.slots, (same b (plain b o hb hn)).trans hb⟩

theorem entryX (hfr : A.frames = some (env :: outer)) (hl : s.heap.FunFrames base (env :: outer)) (hf : env.frame = some L) (he : s.heap.get? e = some oe) (hcd : oe.cls = .ref C ∧ oe.dict = some dx)
    (hkb : base.StaysIn s.heap) (hen : base.get? e = none) (hd : oe.data = .fields vs) (hsz : 1 < vs.size)
    (k : ∀ h', FlyX base (env :: outer) e C dx (rawInt L) h' → s.heap.UpToSlots h' → Q () { s with heap := h' }) :
    wpAny M A (do let a ← frameOf env; let pl ← entryPlaceOf L hadNext; let b ← EntryCells.newEntry head a .none (rawInt L) .none pl; setField (.ref e) 1 b) Q E s := by
  have off : e ∉ (env :: outer).filterMap (·.frame) := by
    intro hm
    obtain ⟨_, o, ho, hnf⟩ := hl.mem hm
    rw [he] at ho
    cases ho
    exact hnf vs hd
  refine wpAny_bind (wpAny_frameOf_fun hfr hl hf fun h₁ ⟨_, so, sk⟩ => wpAny_bind (wpAny_entryPlaceOf fun pl hpl => ?_))
  have he₁ : h₁.get? e = some oe := (so e off).trans he
  have bk : base.StaysIn h₁ := by
    intro b o hb
    rw [so b (fun hm => by rw [(hl.mem hm).1] at hb; cases hb)]
    exact hkb b o hb
  unfold EntryCells.newEntry newFields
  refine wpAny_bind (wpAny_newObj_type ?_ (hpl.sizeOk5 _ _ _ _ _))
  generalize hT : ({ cls := .type "traceback", dict := none, data := .fields ([head, .ref L, .none, rawInt L, .none] ++ (if pl.isEmpty then List.replicate 6 Value.none else pl)).toArray } : Obj) = oT
  have he₂ : (h₁.push oT).get? e = some oe := Heap.get?_push_of_some _ he₁
  have hdm := Obj.data_mapFields hd (·.setIfInBounds 1 (Value.ref h₁.objs.size))
  have ne : h₁.objs.size ≠ e := Nat.ne_of_gt (Heap.lt_size he₁)
  have keep : ∀ b o, b ≠ e → h₁.get? b = some o → ((h₁.push oT).update e (Obj.mapFields (·.setIfInBounds 1 (Value.ref h₁.objs.size)))).get? b = some o := fun b o hb e₀ => by
    rw [Heap.get?_update_other _ _ (Ne.symm hb)]
    exact Heap.get?_push_of_some _ e₀
  have notE : ∀ b o, s.heap.get? b = some o → (∀ vs, o.data ≠ .fields vs) → b ≠ e := by
    rintro b o hb hn rfl
    rw [he] at hb
    cases hb
    exact hn vs hd
  refine wpAny_setField he₂ hd hsz (k _ ⟨fun b o hb => keep b o (by rintro rfl; rw [hen] at hb; cases hb) (bk b o hb), hen, hl.of_keeps fun b o hb hn => ?_, ?_⟩ fun b o hb hn => ?_)
  · obtain ⟨sl, e₁⟩ := sk b o hb
    exact ⟨_, keep b _ (notE b o hb hn) e₁, rfl⟩
  · refine ⟨_, _, h₁.objs.size, oT, _, Heap.get?_update_self _ he₂ (Obj.isFreed_of_fields hdm), ⟨?_, ?_⟩, hdm, by simp [hsz], bk.fresh, ne, (Heap.get?_update_other _ _ (Ne.symm ne)).trans (Heap.get?_push_size h₁ (by rw [← hT]; rfl)), by rw [← hT], by rcases hpl with rfl | ⟨_, _, _, _, _, _, _, rfl⟩ <;> simp⟩
    · rw [Obj.cls_mapFields]; exact hcd.1
    · rw [← hcd.2]; unfold Obj.mapFields; split <;> rfl
  · obtain ⟨sl, e₁⟩ := sk b o hb
    exact ⟨sl, keep b _ (notE b o hb hn) e₁⟩

theorem noteFirstX (hfr : A.frames = some (env :: outer)) (hl : s.heap.FunFrames base (env :: outer)) (hf : env.frame = some L) (he : s.heap.get? e = some oe) (hcd : oe.cls = .ref C ∧ oe.dict = some dx)
    (hkb : base.StaysIn s.heap) (hen : base.get? e = none) (hd : oe.data = .fields vs) (h1 : vs[1]? = some .none)
    (k : ∀ h', FlyX base (env :: outer) e C dx (rawInt L) h' → s.heap.UpToSlots h' → Q () { s with heap := h' }) : wpAny M A (noteFrame (.ref e) env) Q E s := by
  unfold noteFrame
  simp only [hf]
  refine wpAny_bind (wpAny_field he hd h1 ?_)
  rw [if_neg (by decide)]
  exact entryX hfr hl hf he hcd hkb hen hd (Array.getElem?_eq_some_iff.mp h1).1 k

theorem noteNextX (hfr : A.frames = some (env :: outer)) (hf : env.frame = some L) (x : FlyX base (env :: outer) e C dx .none s.heap)
    (k : ∀ h', FlyX base (env :: outer) e C dx (rawInt L) h' → s.heap.UpToSlots h' → Q () { s with heap := h' }) : wpAny M A (noteFrame (.ref e) env) Q E s := by
  obtain ⟨b1, b2, b3, oe, vs, T, oT, ts, he, hcd, hd, h1, hT0, hTe, hT, hdT, h3⟩ := x
  have plain : ∀ b o, s.heap.get? b = some o → (∀ vs, o.data ≠ .fields vs) → b ≠ T := by
    rintro b o hb hn rfl
    rw [hT] at hb
    cases hb
    exact hn ts hdT
  have same : ∀ b, b ≠ T → (s.heap.update T (Obj.mapFields (·.setIfInBounds 3 Value.none))).get? b = s.heap.get? b := fun b hb => Heap.get?_update_other _ _ (Ne.symm hb)
  unfold noteFrame
  simp only [hf]
  refine wpAny_bind (wpAny_field he hd h1 ?_)
  rw [if_pos (show (Value.ref T != Value.none) = true by simp)]
  refine wpAny_bind (wpAny_field hT hdT h3 ?_)
  rw [if_neg (show ¬ ((Value.none == rawInt L) = true) by simp [rawInt])]
  refine wpAny_bind (wpAny_setField hT hdT (Array.getElem?_eq_some_iff.mp h3).1 ?_)
  refine entryX hfr (b3.of_keeps fun b o hb hn => ⟨o, (same b (plain b o hb hn)).trans hb, rfl⟩) hf ((same e (Ne.symm hTe)).trans he) hcd (fun b o hb => ?_) b2 hd (Array.getElem?_eq_some_iff.mp h1).1 fun h' a u => k h' a fun b o hb hn => u b o ((same b (plain b o hb hn)).trans hb) hn
  show (s.heap.update T (Obj.mapFields (·.setIfInBounds 3 Value.none))).get? b = some o
  rw [same b (by rintro rfl; rw [hT0] at hb; cases hb)]
  exact b1 b o hb
end
def RaiseEnd (K : Frag) (C : Addr) (E : Value → Shared → Prop) (v : Value) (s : Shared) : Prop :=
  ∃ e t dx, v = .ref e ∧ K.In s.heap ∧ s.heap.get? e = some (excObjD C t dx) ∧ E (.ref e) s

section
variable {M : Model} {A : Around} {E : Value → Shared → Prop} {s : Shared} {K : Frag} {C G fI L e t dx : Addr} {h₀ : Heap} {m : Str → Option Value} {news : List (Addr × Obj)} {env : Env}

theorem raiseEnd_ (F : Fr h₀ L s.heap m) (X₀ : K.In h₀) (N : News h₀ L s.heap news) (hx : (e, excObjD C t dx) ∈ news) (h : E (.ref e) s) : RaiseEnd K C E (.ref e) s :=
  ⟨e, t, dx, rfl, X₀.keeps F.keep, (N _ hx).1, h⟩

theorem inst_exc {h : Heap} {vs : Array Value} {sl : Array (Option Value)} {od : Obj} (N : News h₀ L h news) (h1 : (e, (⟨.ref C, some dx, .fields vs, sl⟩ : Obj)) ∈ news) (h2 : (dx, od) ∈ news) :
    W.InstAt h e ⟨.ref C, some dx, .fields vs, sl⟩ C (some od) := ⟨(N _ h1).1, rfl, rfl, (N _ h2).1⟩

theorem Raise_exc {x : Expr} {pos : Pos} {Q : Flow → Shared → Prop} (hX0 : K.In h₀) (O : OwnExc K C G fI) (hh : A.handled = none) (h : wpAny M A (eval x env) (RaiseEnd K C E) E s) :
    wpAny M A (exec (.Raise (some x) none pos) env) Q E s := by
  obtain ⟨nm, q, N, bs, sn, sub, ab, col, dd, k0, k1, k2, k3, k5, hK⟩ := O.obj
  rw [arm_exec_Raise]
  simp only [evalOpt, Option.map]
  refine wpAny_bind (wpAny_standAt ?_)
  unfold raiseStmt
  refine wpAny_bind (wpAny_bind (wpAny_mono h (fun v s₁ h₁ => ?_) fun _ _ x => x))
  obtain ⟨e, t, dx, rfl, X, he, hE⟩ := h₁
  have hC := X _ _ hK
  have hcB : (Value.ref C :: .ref G :: excMro).contains (.type "BaseException") = true := by simp
  obtain ⟨hp, g, d, tk, os⟩ := s₁
  dsimp only at he hC
  repeat (first | with_reducible refine wpAny_loadPart_at he ?_ | with_reducible refine wpAny_loadPart_at hC ?_ | (with_reducible refine wpAny_isSubtype_exc hC ?_; rw [hcB]) | wp_step)
  exact wpAny_raiseNew_none hh hE
end

/-- the exception under way behind a frame that it left: the base, the ground but for the frames, the ledger but for it stand -/
def RaisedX (base G : Heap) (l : List Env) (e C dx : Addr) (news : List (Addr × Obj)) (h : Heap) : Prop :=
  ∃ B, base.StaysIn B ∧ (∀ b o, G.get? b = some o → b ∉ l.filterMap (·.frame) → B.get? b = some o) ∧ (∀ q ∈ news, (q.1 ≠ e → B.get? q.1 = some q.2) ∧ G.get? q.1 = none ∧ base.get? q.1 = none) ∧ FlyX B l e C dx .none h ∧ G.get? e = none

section
variable {M : Model} {A : Around} {E : Value → Shared → Prop} {s' : Shared} {base g h : Heap} {outer : List Env} {L a e t C dx : Addr} {m : Str → Option Value} {name : Str} {scope : Scope} {cd : Value} {Q : Unit → Shared → Prop} {news : List (Addr × Obj)}

theorem leave_raiseX (K : Below A base outer g) (F : Fr g L s'.heap m) (N : News g L s'.heap news) (hx : (e, excObjD C t dx) ∈ news)
    (hQ : ∀ h', RaisedX base g outer e C dx news h' → g.UpToSlots h' → Q () { s' with heap := h' }) (hk : scope.kind = .function := by rfl) :
    wpAny M (A.deeper (envOf name scope L a cd)) (leaving (envOf name scope L a cd) (.ref e)) Q E s' := by
  have K' := K.push (name := name) (a := a) (cd := cd) F hk
  obtain ⟨he, heL, heg⟩ := N _ hx
  have heb : base.get? e = none := fresh_of_stays K.stays heg
  generalize hfs : (envOf name scope L a cd :: outer).filterMap (·.frame) = fs
  have fn : ∀ b ∈ fs, base.get? b = none := fun b hb => (K'.frames.mem (hfs ▸ hb)).1
  have en : e ∉ fs := fun hb => by
    obtain ⟨_, o, ho, hn⟩ := K'.frames.mem (hfs ▸ hb)
    rw [he] at ho
    cases ho
    exact hn _ rfl
  have off : ∀ q ∈ news, q.1 ∉ fs := fun q hq hb => by
    rw [← hfs] at hb
    rcases kts_mem hb with z | z
    · exact (N q hq).2.1 z
    · obtain ⟨_, o, ho, _⟩ := K.frames.mem z
      rw [(N q hq).2.2] at ho
      cases ho
  have gn : ∀ b o, g.get? b = some o → b ∉ outer.filterMap (·.frame) → b ∉ e :: fs := fun b o q nm hb => by
    rcases List.mem_cons.mp hb with rfl | hb
    · rw [heg] at q; cases q
    · rw [← hfs] at hb
      rcases kts_mem hb with z | z
      · rw [z, kts_self F] at q; cases q
      · exact nm z
  have b1 : base.StaysIn (hideAll s'.heap (e :: fs)) := fun b o q => hideAll_get _ (K'.stays b o q) fun hb => by
    rcases List.mem_cons.mp hb with rfl | hb
    · rw [heb] at q; cases q
    · rw [fn b hb] at q; cases q
  have fl : s'.heap.FunFrames (hideAll s'.heap (e :: fs)) (envOf name scope L a cd :: outer) := funFrames_hide K'.frames fun env he' b hb => List.mem_cons_of_mem _ (hfs ▸ List.mem_filterMap.mpr ⟨env, he', hb⟩)
  unfold leaving
  refine wpAny_bind (noteFirstX (C := C) (dx := dx) K'.stack fl rfl he ⟨rfl, rfl⟩ (fun b o q => of_hideAll _ q) (hideAll_none _ (.head _)) rfl rfl fun h₁ x₁ u₁ => ?_)
  refine setFlightX (s := { s' with heap := h₁ }) x₁ fun h₂ x₂ u₂ => ?_
  obtain ⟨y1, y2, ⟨_, _, y3⟩, y4⟩ := x₂
  refine hQ h₂ ⟨_, b1, fun b o q nm => hideAll_get _ (F.keep b o q) (gn b o q nm), fun q hq => ⟨fun ne => hideAll_get _ (N q hq).1 fun hb => ?_, (N q hq).2.2, fresh_of_stays K.stays (N q hq).2.2⟩, ⟨y1, y2, y3, y4⟩, heg⟩
    ((Heap.UpToSlots.of_keeps F.keep).trans (u₁.trans u₂))
  rcases List.mem_cons.mp hb with z | hb
  · exact ne z
  · exact off q hq hb
end

section
variable {prog : Program} {w : World} {A₀ : Around} {E : Value → Shared → Prop} {s' : Shared} {base g g₀ G : Heap} {outer : List Env} {L a e C Gc fI dx : Addr} {m : Str → Option Value} {name : Str} {scope : Scope} {cd : Value}
  {n : Str} {b₀ : Stmt} {suite : List Stmt} {pos np : Pos} {rest : List ExceptHandler} {Q : Flow → Shared → Prop} {news : List (Addr × Obj)} {news' : Obj → List (Addr × Obj)} {o : Obj} {KF : Frag}
  {p : Program} {loose : List Str} {mean : ExcName → Option Value} {mg mb : Str → Option Value} {x : Str}

theorem caught_X (R : RaisedX base G (envOf name scope L a cd :: outer) e C dx news s'.heap) (F : Fr g L G m) (K : Below A₀ base outer g) (hsm : G.UpToSlots s'.heap) (XB : KF.In base) (TB : Top p loose mean mg mb base)
    (D : KtsDicts (outer.filterMap (·.frame)) g) (T0 : KtsTurn (outer.filterMap (·.frame)) g₀ g) (O : OwnExc KF C Gc fI) (U : ∀ oe, Upd e o oe news (news' oe))
    (ex : nsIn KF mainGlobals x = some (some (.ref C)))
    (k : ∀ h' g' vs sl tk, KtsTurn (outer.filterMap (·.frame)) g₀ g' → Fr g' L h' (fun y => if y = n then some (.ref e) else m y) → News g' L h' (news' ⟨.ref C, some dx, .fields vs, sl⟩) → Below A₀ base outer g' → KF.In g' → Top p loose mean mg mb g' → KtsDicts (outer.filterMap (·.frame)) g' →
      wpAny (model prog w) ((A₀.deeper (envOf name scope L a cd)).mark (some (.ref e))) (execs (b₀ :: suite) (envOf name scope L a cd))
        (fun f s₄ => wpAny (model prog w) (A₀.deeper (envOf name scope L a cd)) (do bindName (envOf name scope L a cd) n .none; unbindBehindTheSuite (envOf name scope L a cd) n pos) (fun _ s₅ => Q f s₅) E s₄)
        (AsSuiteRaised (model prog w) ((A₀.deeper (envOf name scope L a cd)).mark (some (.ref e))) (envOf name scope L a cd) n pos (notedBy (model prog w) ((A₀.deeper (envOf name scope L a cd)).mark (some (.ref e))) (envOf name scope L a cd) (cameBackBy (model prog w) (A₀.deeper (envOf name scope L a cd)) (envOf name scope L a cd) E)))
        { s' with heap := h', toks := tk })
    (hk : scope.kind = .function := by rfl) (hlo : (envOf name scope L a cd).kindOf n = some .local := by rfl) (hx : (envOf name scope L a cd).kindOf x = some .globalImplicit := by rfl) (hd : (x == ("__debug__" : Str)) = false := by decide) :
    wpAny (model prog w) (A₀.deeper (envOf name scope L a cd)) (noteFrame (.ref e) (envOf name scope L a cd))
      (fun _ s₂ => wpAny (model prog w) (A₀.deeper (envOf name scope L a cd)) (setFlight (.ref e) none) (fun _ s₃ =>
        wpAny (model prog w) (A₀.deeper (envOf name scope L a cd)) (handleBy (.ref e) (envOf name scope L a cd) (.ExceptHandler (some (.Name x np)) (some n) (b₀ :: suite) pos :: rest)) Q E s₃) E s₂) E s' := by
  obtain ⟨B, hB, hBG, hl, hfl, heG⟩ := R
  obtain ⟨nm, q, N, bs, sn, sub, ab, col, dd, k0, k1, k2, k3, k5, hK⟩ := O.obj
  have hbase : (Value.ref Gc :: excMro).contains (.type "BaseException") = true := by simp
  obtain ⟨_, hBL, hnL⟩ : ∃ oL, B.get? L = none ∧ ∀ vs, oL ≠ Data.fields vs := by
    obtain ⟨_, ⟨L', oL, hf, hn', _, hnf⟩, _⟩ := hfl.2.2.1
    obtain rfl : L = L' := Option.some.inj hf
    exact ⟨oL.data, hn', hnf⟩
  refine noteNextX (Around.frames_deeper K.stack) rfl hfl fun h₄ x₄ u₄ => ?_
  refine setFlightX (s := { s' with heap := h₄ }) x₄ fun h₅ x₅ u₅ => ?_
  have v₅ := hsm.trans (u₄.trans u₅)
  obtain ⟨g₅, T₅, F₅, K₅⟩ := kts_ground K F hBG x₅.1 v₅
  have X₅ : KF.In g₅ := XB.keeps K₅.stays
  have P₅ : TopRead p loose mg mb g₅ := topRead_of (TB.keeps K₅.stays)
  obtain ⟨ob, hob, hobc⟩ : ∃ ob, h₅.get? e = some ob ∧ ob.cls = .ref C := by
    obtain ⟨_, _, _, oe, _, _, _, _, a1, a2, _⟩ := x₅
    exact ⟨oe, a1, a2.1⟩
  refine wpAny_handleBy_cons (codeAny_handlers_test (name_K F₅ X₅ P₅ ex ?_ hk hx hd)) (by intro q; cases q)
  refine wpAny_excMatches_sub_self (F₅.keep _ _ (X₅ _ _ hK)) hob hobc hbase (codeAny_handlers_suite_as ?_)
  refine setFlightX (s := { s' with heap := h₅ }) x₅ fun h₆ x₆ u₆ => ?_
  obtain ⟨g₆, T₆, F₆, K₆⟩ := kts_ground K F hBG x₆.1 (v₅.trans u₆)
  obtain ⟨y1, y2, y3, oe, vs, T, oT, ts, he, ⟨hc, hdx⟩, hda, _⟩ := x₆
  obtain ⟨oc, od, oda, osl⟩ := oe
  dsimp only at hc hdx hda
  subst hc hdx hda
  have ge : g₆.get? e = none := T₆.none_ _ (kts_none F.keep heG)
  have eL : e ≠ L := by
    rintro rfl
    obtain ⟨_, ⟨L', oL, hf, _, ho, hnf⟩, _⟩ := y3
    obtain rfl : e = L' := Option.some.inj hf
    rw [he] at ho
    cases ho
    exact hnf _ rfl
  have N₆ : News g₆ L h₆ (news' ⟨.ref C, some dx, .fields vs, osl⟩) := by
    obtain ⟨pre, post, e1, e2, a1, a2⟩ := (U ⟨.ref C, some dx, .fields vs, osl⟩).split
    rw [e2]
    have old : ∀ q ∈ news, q.1 ≠ e → h₆.get? q.1 = some q.2 ∧ q.1 ≠ L ∧ g₆.get? q.1 = none := fun q hq ne =>
      ⟨y1 _ _ ((hl q hq).1 ne), (fun z => by have := (hl q hq).1 ne; rw [z, hBL] at this; cases this), T₆.none_ _ (kts_none F.keep (hl q hq).2.1)⟩
    intro q hq
    rcases List.mem_append.mp hq with hq | hq
    · exact old q (by rw [e1]; exact List.mem_append_left _ hq) (a1 q hq)
    · rcases List.mem_cons.mp hq with rfl | hq
      · exact ⟨he, eL, ge⟩
      · exact old q (by rw [e1]; exact List.mem_append_right _ (.tail _ hq)) (a2 q hq)
  have X₆ : KF.In g₆ := XB.keeps K₆.stays
  have P₆ : Top p loose mean mg mb g₆ := TB.keeps K₆.stays
  have D₆ : KtsDicts (outer.filterMap (·.frame)) g₆ := D.turn T₆
  refine stN F₆ N₆ (fun h₇ F₇ N₇ => ?_) hk hlo
  exact k h₇ g₆ vs osl _ (T0.trans T₆) F₇ N₇ K₆ X₆ P₆ D₆
end
def PipEnd (h₀ : Heap) (L : Addr) (m : Str → Option Value) (news' : Obj → List (Addr × Obj)) (s : Shared) (most : Int) (len : Nat) (v : Value) (s' : Shared) : Prop :=
  ∃ r t ws ns n h tk, v = .int r t ∧ s' = { s with heap := h, toks := tk } ∧ 0 ≤ r ∧ r < most ∧ IntsAre ws ns ∧ ns.length ≤ len ∧ Fr h₀ L h m ∧ News h₀ L h (news' (W.listOf ws.toArray n))

section
variable {M : Model} {A : Around} {E : Value → Shared → Prop} {s : Shared} {h₀ : Heap} {L l : Addr} {m : Str → Option Value} {news : List (Addr × Obj)} {news' : Obj → List (Addr × Obj)} {env : Env} {ws : List Value} {ns : List Int} {n : Nat}

theorem pip_cut {f : Str} {np p1 p2 pos : Pos} {most : Int} {z : Nat} {Q : Value → Shared → Prop} (F : Fr h₀ L s.heap m) (N : News h₀ L s.heap news) (hm : m (Str.ofString "fruit") = some (.ref l)) (U : ∀ o', Upd l (W.listOf ws.toArray n) o' news (news' o')) (hi : IntsAre ws ns)
    (hc : wpAny M A (eval (.Name f np) env) (fun f s₁ => wpAny M A (callWith pos f [] (backTo pos (starEach [.Name (Str.ofString "fruit") p1, .Constant (.int most) z p2] env)) (backToKw pos (keywordEach [] env))) (PipEnd h₀ L m news' s most ns.length) E s₁) E s)
    (hk : ∀ r t ws' ns' n' h tk, 0 ≤ r → r < most → IntsAre ws' ns' → ns'.length ≤ ns.length → Fr h₀ L h m → News h₀ L h (news' (W.listOf ws'.toArray n')) → Q (.int r t) { s with heap := h, toks := tk }) :
    wpAny M A (eval (.Call (.Name f np) [.Name (Str.ofString "fruit") p1, .Constant (.int most) z p2] [] pos) env) Q E s := by
  let _ := N; let _ := hm; let _ := U; let _ := hi; let _ := F
  refine wpAny_mono (wpAny_Call_ofName hc) (fun v s₂ hq => ?_) fun _ _ h => h
  obtain ⟨r, t, ws', ns', n', h, tk, rfl, rfl, a1, a2, a3, a4, F', N'⟩ := hq
  exact hk r t ws' ns' n' h tk a1 a2 a3 a4 F' N'

theorem fmod_in (k : Int) {b : Int} (h : 0 < b) : 0 ≤ k.fmod b ∧ k.fmod b < b := by
  rw [Int.fmod_eq_emod_of_nonneg k (Int.le_of_lt h)]
  exact ⟨Int.emod_nonneg k (by omega), Int.emod_lt_of_pos k h⟩

theorem pipEnd_ {most r : Int} {t : Tok} {len : Nat} {h : Heap} {tk : Nat} {news₂ : List (Addr × Obj)} (F : Fr h₀ L h m) (N : News h₀ L h news₂) (hn : ∀ p ∈ news' (W.listOf ws.toArray n), p ∈ news₂) (hi : IntsAre ws ns) (h0 : 0 ≤ r) (h1 : r < most) (h2 : ns.length ≤ len) :
    PipEnd h₀ L m news' s most len (.int r t) { s with heap := h, toks := tk } := ⟨r, t, ws, ns, n, h, tk, rfl, rfl, h0, h1, hi, h2, F, fun p hp => N p (hn p hp)⟩
end
section
variable {prog : Program} {w : World} {A : Around} {E : Value → Shared → Prop} {s : Shared} {h₀ : Heap} {L D : Addr} {m : Str → Option Value} {news : List (Addr × Obj)} {n : Nat}
/-- pop(0) of a list of unknown ints that is shown not empty -/
theorem pop0 {us : List Value} {l : List Int} {u : Tok} {news' : List Value → List (Addr × Obj)} {Q : Value → Shared → Prop} (F : Fr h₀ L s.heap m) (N : News h₀ L s.heap news) (U : ∀ us', Upd D (W.listOf us.toArray n) (W.listOf us'.toArray (n + 1)) news (news' us')) (hi : IntsAre us l) (hne : decide (l = []) = false)
    (hz : us.length ≤ sizeLine) (h : ∀ h' k t us' l', l = k :: l' → IntsAre us' l' → Fr h₀ L h' m → News h₀ L h' (news' us') → Q (.int k t) { s with heap := h' }) : wpAny (model prog w) A (call (.builtin "list.pop") [.ref D, .int 0 u]) Q E s := by
  cases hi with
  | nil => simp at hne
  | cons k t r =>
    rename_i us' l'
    refine kl_popAt (k := 0) (p := []) (q := us') (y := .int k t) F N (by decide) ?_ rfl (U us') (by simpa using hz) fun h' F' N' => h h' k t us' l' rfl r F' N'
    simp [seqIndex?]
end
/-- the end of a turn: the list under one name is another one now, the rest of the ledger stands -/
def CovEnd (h₀ : Heap) (L : Addr) (x c y : Str) (m₀ : Str → Option Value) (rest own : List (Addr × Obj)) (ks : List Int) (s₁ s₂ : Shared) : Prop :=
  ∃ h' tk m' l us nn news', s₂ = { s₁ with heap := h', toks := tk } ∧ Fr h₀ L h' m' ∧ News h₀ L h' news' ∧ (∀ p ∈ (l, W.listOf us.toArray nn) :: rest, p ∈ news') ∧ (∀ p ∈ own, p ∈ news' ∧ p.1 ≠ l) ∧ IntsAre us ks ∧
    m' c = some (.ref l) ∧ ∀ z, z ≠ x → z ≠ c → z ≠ y → m' z = m₀ z
def CovPost (h₀ : Heap) (L : Addr) (x c y : Str) (m₀ : Str → Option Value) (rest own : List (Addr × Obj)) (ks : List Int) (s₁ : Shared) (Q : Flow → Shared → Prop) (f : Flow) (s₂ : Shared) : Prop :=
  match f with
  | .ret v => Q (.ret v) s₂
  | .brk => Q .next s₂
  | _ => CovEnd h₀ L x c y m₀ rest own ks s₁ s₂
theorem covEnd_ {h₀ : Heap} {L l : Addr} {x c y : Str} {m₀ m' : Str → Option Value} {rest own news' : List (Addr × Obj)} {ks : List Int} {us : List Value} {nn : Nat} {s₁ : Shared} {h' : Heap} {tk : Nat} (F : Fr h₀ L h' m') (N : News h₀ L h' news')
    (hc : m' c = some (.ref l)) (hl : (l, W.listOf us.toArray nn) ∈ news') (hi : IntsAre us ks) (hr : ∀ p ∈ rest, p ∈ news') (ho : ∀ p ∈ own, p ∈ news') (hn : ∀ p ∈ own, p.1 ≠ l) (hm : ∀ z, z ≠ x → z ≠ c → z ≠ y → m' z = m₀ z) :
    CovEnd h₀ L x c y m₀ rest own ks s₁ { s₁ with heap := h', toks := tk } :=
  ⟨h', tk, m', l, us, nn, news', rfl, F, N, fun p hp => (List.mem_cons.mp hp).elim (fun e => e ▸ hl) (hr p), fun p hp => ⟨ho p hp, hn p hp⟩, hi, hc, hm⟩

section
variable {prog : Program} {w : World} {A : Around} {E : Value → Shared → Prop} {s : Shared} {env : Env} {h₀ : Heap} {x c y : Str} {body : List Stmt} {Q : Flow → Shared → Prop}

theorem range_cov {r l₀ : Addr} {a₀ b₀ : Int} {t₀ u₀ v₀ : Tok} {n nn₀ : Nat} {us₀ : List Value} {m₀ : Str → Option Value} {rest : List (Addr × Obj)} (f : Nat → List Int)
    (hh : A.handled = none) (hr : IsRange s.heap r a₀ b₀ 1 t₀ u₀ v₀) (hsmall : Builtin.Range.small a₀ b₀ 1 = true) (hn : Builtin.Range.rangeSize a₀ b₀ 1 = (n : Int)) (hcx : c ≠ x) (F : Fr h₀ env.locals s.heap m₀)
    (N : News h₀ env.locals s.heap ((l₀, W.listOf us₀.toArray nn₀) :: rest)) (hc : m₀ c = some (.ref l₀)) (hi : IntsAre us₀ (f 0))
    (turn : ∀ (i : Nat) t l us nn (u : Option Value) h tk own, i < n → IntsAre us (f i) → OwnOff own (l :: rest.map (·.1)) →
      Fr h₀ env.locals h (fun z => if z = x then some (.int (a₀ + (i : Int)) t) else if z = c then some (.ref l) else if z = y then u else m₀ z) → News h₀ env.locals h ((l, W.listOf us.toArray nn) :: (rest ++ own)) →
      wpAny (model prog w) A (execs body env) (CovPost h₀ env.locals x c y m₀ rest own (f (i + 1)) { s with heap := h, toks := tk } Q) E { s with heap := h, toks := tk })
    (done : ∀ l us nn (u v : Option Value) h tk, IntsAre us (f n) →
      Fr h₀ env.locals h (fun z => if z = x then v else if z = c then some (.ref l) else if z = y then u else m₀ z) → News h₀ env.locals h ((l, W.listOf us.toArray nn) :: rest) → Q .next { s with heap := h, toks := tk }) :
    wpAny (model prog w) A (pyIter (.ref r)) (fun it s₂ => LoopAtV prog w A h₀ env x body Q E it s₂) E s := by
  refine wpAny_pyIter_range hr hsmall ?_
  have WW : Walks prog w A s.heap.objs.size [s.heap.objs.size] [s.heap.objs.size] n (fun i v => i < n ∧ ∃ t, v = .int (a₀ + i * 1) t)
      (fun i h => IsRangeIter h s.heap.objs.size (a₀ + (i : Nat) * 1) ((n : Int) - (i : Nat)) 1) := (Walks.range hh _ a₀ 1 n).bound
  have lt : ∀ p ∈ ((l₀, W.listOf us₀.toArray nn₀) :: rest), p.1 ≠ s.heap.objs.size := fun p hp => Nat.ne_of_lt (Heap.lt_size (N p hp).1)
  let J : Nat → (Str → Option Value) → List (Addr × Obj) → Prop := fun i m nx => ∃ l us nn, nx = (l, W.listOf us.toArray nn) :: rest ∧ IntsAre us (f i) ∧ m c = some (.ref l) ∧ (∀ z, z ≠ x → z ≠ c → z ≠ y → m z = m₀ z)
  have shape : ∀ (m : Str → Option Value) (l : Addr) (v : Option Value), m c = some (.ref l) → (∀ z, z ≠ x → z ≠ c → z ≠ y → m z = m₀ z) → (fun z => if z = x then v else m z) = fun z => if z = x then v else if z = c then some (.ref l) else if z = y then m y else m₀ z := by
    intro m l v e1 e2
    funext z
    by_cases hx : z = x
    · simp [hx]
    · simp only [if_neg hx]
      by_cases hz : z = c
      · rw [if_pos hz, hz, e1]
      · rw [if_neg hz]
        by_cases hy : z = y
        · rw [if_pos hy, hy]
        · rw [if_neg hy]; exact e2 z hx hz hy
  refine ⟨s.heap.objs.size, _, _, n, _, _, m₀, _, J, rfl, WW, ?_, ?_, ?_, (by show IsRangeIter _ _ _ _ _; rw [hn]; simpa using Heap.get?_push_size _ rfl), F.push _, (fun p hp => ⟨Heap.get?_push_of_some _ (N p hp).1, (N p hp).2⟩), ⟨l₀, us₀, nn₀, rfl, hi, hc, fun _ _ _ _ => rfl⟩, ?_, ?_⟩
  · intro hm
    exact absurd F.ns.lt ((List.mem_singleton.mp hm) ▸ Nat.lt_irrefl _)
  · intro b hb
    rw [List.mem_singleton.mp hb]
    exact next_is_new F
  · intro p hp hI
    exact lt p hp (List.mem_singleton.mp hI)
  · rintro i v m₁ nx s₁ own ⟨hh', tk', rfl⟩ hin ⟨_, t, rfl⟩ ⟨l, us, nn, rfl, hi', hc', hm'⟩ hoff hown _ hfp hst F₁ N₁
    have e1 : a₀ + (i : Int) * 1 = a₀ + (i : Int) := by omega
    rw [e1, shape m₁ l _ hc' hm'] at F₁
    obtain ⟨oI, hoI⟩ : ∃ o, hh'.get? s.heap.objs.size = some o := by
      have hst' : IsRangeIter hh' s.heap.objs.size _ _ _ := hst
      exact ⟨_, hst'⟩
    have inOwn : (s.heap.objs.size, oI) ∈ own := hfp _ (.head _) (next_is_new F) _ hoI
    have hsep : OwnOff own (l :: rest.map (·.1)) := by
      intro p hp b hb e
      have h1 : p.1 = s.heap.objs.size := List.mem_singleton.mp (hown p hp)
      rcases List.mem_cons.mp hb with rfl | hb
      · exact hoff (b, _) (.head _) (by rw [← e, h1]; exact .head _)
      · obtain ⟨q, hq, rfl⟩ := List.mem_map.mp hb
        exact hoff q (.tail _ hq) (by rw [← e, h1]; exact .head _)
    refine wpAny_mono (turn i t l us nn (m₁ y) hh' tk' own hin hi' hsep F₁ fun p hp => N₁ p ?_) (fun fl s₂ p => ?_) fun _ _ e => e
    · rcases List.mem_cons.mp hp with rfl | hp
      · exact List.mem_append_right _ (.head _)
      · rcases List.mem_append.mp hp with hp | hp
        · exact List.mem_append_right _ (.tail _ hp)
        · exact List.mem_append_left _ hp
    have fin : CovEnd h₀ env.locals x c y m₀ rest own (f (i + 1)) { s with heap := hh', toks := tk' } s₂ → LoopStepU h₀ env.locals [s.heap.objs.size] own (J (i + 1)) { s with heap := hh', toks := tk' } .next s₂ := by
      rintro ⟨h', tk, m', l', us', nn', news', e, F', N', hn', ho', hi'', hc'', hm''⟩
      refine ⟨rfl, h', tk, m', (l', W.listOf us'.toArray nn') :: rest, e, F', fun p hp => N' p ((List.mem_append.mp hp).elim (fun z => (ho' p z).1) (hn' p)), fun p hp hq => ?_, l', us', nn', rfl, hi'', hc'', hm''⟩
      rcases List.mem_cons.mp hp with rfl | hp
      · have h2 := List.mem_singleton.mp hq
        dsimp only at h2
        exact (ho' _ inOwn).2 h2.symm
      · exact lt p (.tail _ hp) (List.mem_singleton.mp hq)
    cases fl with
    | ret v => exact .ret p
    | brk => exact .brk p
    | next => exact .next (fin p)
    | cont => exact .cont (fin p)
  · rintro h' tk m' nx F' N' _ ⟨l, us, nn, rfl, hi', hc', hm'⟩
    have F'' : Fr h₀ env.locals h' (fun z => if z = x then m' x else m' z) := by
      have e : (fun z => if z = x then m' x else m' z) = m' := by
        funext z
        by_cases hz : z = x
        · rw [if_pos hz, hz]
        · rw [if_neg hz]
      rw [e]; exact F'
    rw [shape m' l _ hc' hm'] at F''
    exact done l us nn (m' y) (m' x) h' tk hi' F'' N'
end
theorem mul_in {a b A B : Int} (a0 : 0 ≤ a) (a1 : a ≤ A) (b0 : 0 ≤ b) (b1 : b ≤ B) : 0 ≤ a * b ∧ a * b ≤ A * B :=
  ⟨Int.mul_nonneg a0 b0, Int.mul_le_mul a1 b1 b0 (Int.le_trans a0 a1)⟩
theorem width_in {a b c r : Int} (a0 : 0 ≤ a) (a1 : a < 9) (b0 : 0 ≤ b) (b1 : b < 7) (c0 : 0 ≤ c) (c1 : c < 60) (r0 : 0 ≤ r) (r1 : r < 3) :
    0 ≤ [1 + a, (1 + a) * (1 + b), 1 + c].getD r.toNat 0 ∧ [1 + a, (1 + a) * (1 + b), 1 + c].getD r.toNat 0 ≤ 63 := by
  have h := mul_in (a := 1 + a) (b := 1 + b) (A := 9) (B := 7) (by omega) (by omega) (by omega) (by omega)
  have hr : r = 0 ∨ r = 1 ∨ r = 2 := by omega
  rcases hr with rfl | rfl | rfl
  · show 0 ≤ 1 + a ∧ 1 + a ≤ 63
    omega
  · show 0 ≤ (1 + a) * (1 + b) ∧ (1 + a) * (1 + b) ≤ 63
    omega
  · show 0 ≤ 1 + c ∧ 1 + c ≤ 63
    omega
theorem told_in {a b i : Int} (a0 : 0 ≤ a) (a1 : a < 9) (b1 : b < 7) (i0 : 0 ≤ i) (i1 : i < 1 + b) : 0 ≤ (1 + b - 1 - i) * (1 + a) ∧ (1 + b - 1 - i) * (1 + a) ≤ 54 :=
  mul_in (A := 6) (B := 9) (by omega) (by omega) (by omega) (by omega)

section
variable {M : Model} {A : Around} {E : Value → Shared → Prop} {s : Shared} {env : Env} {Q : Unit → Shared → Prop}
theorem store_gen {x : Str} {v hi : Int} {t : Tok} (hv : 0 ≤ v ∧ v ≤ hi) (h : ∀ u : Int, u = v → 0 ≤ u → u ≤ hi → wpAny M A (storeName env x (.int u t)) Q E s) : wpAny M A (storeName env x (.int v t)) Q E s := h v rfl hv.1 hv.2
theorem store_gen' {x : Str} {v hi : Int} {t : Tok} (hv : 0 ≤ v ∧ v ≤ hi) (h : ∀ u : Int, 0 ≤ u → u ≤ hi → wpAny M A (storeName env x (.int u t)) Q E s) : wpAny M A (storeName env x (.int v t)) Q E s := h v hv.1 hv.2
end

/-- what the pieces that stand so far cover -/
def covs (P C : Int) (i : Nat) : List Int := rangeKs ((C - (i : Int)) * P) (i * P.toNat)
theorem covs_zero (P C : Int) : covs P C 0 = [] := by unfold covs; rw [Nat.zero_mul]; rfl
theorem rangeKs_app (a : Int) (m n : Nat) : rangeKs a m ++ rangeKs (a + m) n = rangeKs a (m + n) := by
  unfold rangeKs
  rw [List.range_add, List.map_append, List.map_map]
  refine congrArg _ (List.map_congr_left fun i _ => ?_)
  simp only [Function.comp]
  omega
theorem covs_succ {P C : Int} {i : Nat} (hP : 0 ≤ P) : rangeKs ((C - 1 - (i : Int)) * P) P.toNat ++ covs P C i = covs P C (i + 1) := by
  have e : (C - (i : Int)) * P = (C - 1 - (i : Int)) * P + (P.toNat : Int) := by
    rw [Int.toNat_of_nonneg hP, show C - (i : Int) = (C - 1 - (i : Int)) + 1 by omega, Int.add_mul, Int.one_mul]
  unfold covs
  rw [e, rangeKs_app, Nat.succ_mul, show C - ((i + 1 : Nat) : Int) = C - 1 - (i : Int) by omega, Nat.add_comm P.toNat]
theorem covs_all {P C : Int} (hP : 0 ≤ P) (hC : 0 ≤ C) : covs P C C.toNat = rangeKs 0 (P * C).toNat := by
  unfold covs
  rw [Int.toNat_of_nonneg hC, Int.sub_self, Int.zero_mul, Int.toNat_mul hP hC, Nat.mul_comm]

theorem covs_done {P C W : Int} {f : Nat → List Int} (hf : f = covs P C) (hW : W = P * C) (hP : 0 ≤ P) (hC : 0 ≤ C) : f (C - 0).toNat = rangeKs 0 (W - 0).toNat := by
  rw [hf, hW, Int.sub_zero, Int.sub_zero, covs_all hP hC]

theorem covs_ints {P C T : Int} {i : Nat} {f : Nat → List Int} {us : List Value} (hf : f = covs P C) (hT : T = (C - 1 - (0 + (i : Int))) * P) (hP : 0 ≤ P) (h : IntsAre us (rangeKs T (T + P - T).toNat ++ f i)) : IntsAre us (f (i + 1)) := by
  rw [hf, ← covs_succ hP]
  rw [hf, show T + P - T = P by omega, hT, Int.zero_add] at h
  exact h

theorem covs_size {P C T : Int} {i : Nat} {f : Nat → List Int} (hf : f = covs P C) (h0 : 0 ≤ P) (h9 : P ≤ 9) (h7 : i ≤ 7) : (rangeKs T (T + P - T).toNat).length + (f i).length ≤ sizeLine := by
  rw [hf, show T + P - T = P by omega]
  unfold covs
  rw [rangeKs_length, rangeKs_length, sizeLine_eq]
  have h : i * P.toNat ≤ 7 * 9 := Nat.mul_le_mul h7 (by omega)
  omega

theorem pos_split {h₀ h : Heap} {L : Addr} {m : Str → Option Value} {W P C : Int} {t1 t2 t3 : Tok} {Goal : Prop} (hF0 : Fr h₀ L h m) (hw0 : m (Str.ofString "width") = some (.int W t1)) (hp0 : m (Str.ofString "piece") = some (.int P t2)) (hc0 : m (Str.ofString "count") = some (.int C t3))
    (h1 : ∀ f : Nat → List Int, (∀ i, f i = []) → W = P → (W == P) = true → Goal) (h2 : ∀ f : Nat → List Int, f = covs P C → ¬ W = P → W = P * C → (W == P) = false → (W == P * C) = true → (W != P * C) = false → Goal)
    (h3 : ∀ f : Nat → List Int, (∀ i, f i = []) → ¬ W = P → ¬ W = P * C → (W == P) = false → (W == P * C) = false → (W != P * C) = true → Goal) : Goal := by
  by_cases a : W = P
  · exact h1 (fun _ => []) (fun _ => rfl) a (by simp [a])
  · by_cases b : W = P * C
    · exact h2 _ rfl a b (by simp [a]) (by simp [b]) (by simp [b])
    · exact h3 (fun _ => []) (fun _ => rfl) a b (by simp [a]) (by simp [b]) (by simp [b])
/-- the end of a turn: one list of ints may be another one, the rest of the ledger stands, stored names may hold anything -/
def KeyEnd (h₀ : Heap) (L : Addr) (x : Str) (ys : List Str) (m₀ : Str → Option Value) (l : Addr) (N0 : Nat) (R : List (Addr × Obj)) (s₁ s₂ : Shared) : Prop :=
  ∃ h' tk' m' us ns nn news', s₂ = { s₁ with heap := h', toks := tk' } ∧ Fr h₀ L h' m' ∧ News h₀ L h' news' ∧ (l, W.listOf (List.toArray us) nn) ∈ news' ∧ (∀ p ∈ R, p ∈ news') ∧ IntsAre us ns ∧ ns.length ≤ N0 ∧
    ∀ z, z ≠ x → ys.contains z = false → m' z = m₀ z
def KeyPost (h₀ : Heap) (L : Addr) (x : Str) (ys : List Str) (m₀ : Str → Option Value) (l : Addr) (N0 : Nat) (R : List (Addr × Obj)) (s₁ : Shared) (Q : Flow → Shared → Prop) (f : Flow) (s₂ : Shared) : Prop :=
  match f with
  | .ret v => Q (.ret v) s₂
  | .brk => Q .next s₂
  | _ => KeyEnd h₀ L x ys m₀ l N0 R s₁ s₂
theorem keyEnd_ {h₀ : Heap} {L l : Addr} {x : Str} {ys : List Str} {m₀ m' : Str → Option Value} {R news' : List (Addr × Obj)} {N0 nn : Nat} {us : List Value} {ns : List Int} {s₁ : Shared} {h' : Heap} {tk : Nat} (F : Fr h₀ L h' m') (N : News h₀ L h' news')
    (hl : (l, W.listOf us.toArray nn) ∈ news') (hr : ∀ p ∈ R, p ∈ news') (hi : IntsAre us ns) (hn : ns.length ≤ N0) (hm : ∀ z, z ≠ x → ys.contains z = false → m' z = m₀ z) :
    KeyEnd h₀ L x ys m₀ l N0 R s₁ { s₁ with heap := h', toks := tk } := ⟨h', tk, m', us, ns, nn, news', rfl, F, N, hl, hr, hi, hn, hm⟩

abbrev kvOf (p : Str × Addr × Obj) : Str × Value := (p.1, .ref p.2.1)

section
variable {prog : Program} {w : World} {A : Around} {E : Value → Shared → Prop} {s : Shared} {env : Env} {h₀ : Heap} {x : Str} {body : List Stmt} {Q : Flow → Shared → Prop}

theorem keys_loop {d l : Addr} {od : Obj} {us₀ : List Value} {ns₀ : List Int} {nn₀ N0 : Nat} {m₀ : Str → Option Value} {rest : List (Addr × Obj)} {tups : List (Str × Addr × Obj)} (ys : List Str)
    (hh : A.handled = none) (hd : od.IsDictOf (strKind prog w) (tups.map kvOf)) (lo : (d == sysModules) = false) (F : Fr h₀ env.locals s.heap m₀)
    (N : News h₀ env.locals s.heap ((l, W.listOf us₀.toArray nn₀) :: rest)) (hdm : (d, od) ∈ rest) (ht : ∀ p ∈ tups, (p.2.1, p.2.2) ∈ rest) (hoff : ∀ p ∈ rest, p.1 ≠ l) (hi : IntsAre us₀ ns₀) (hlen : ns₀.length ≤ N0)
    (turn : ∀ p ∈ tups, ∀ t us ns nn (u : Str → Option Value) h tk R, p.2.1 ≠ l → d ≠ l → OwnOff R [l] → od.IsDictOf (strKind prog w) (tups.map kvOf) → IntsAre us ns → ns.length ≤ N0 →
      Fr h₀ env.locals h (fun z => if z = x then some (.str p.1 t) else if ys.contains z then u z else m₀ z) → News h₀ env.locals h ((l, W.listOf us.toArray nn) :: (d, od) :: (p.2.1, p.2.2) :: R) →
      wpAny (model prog w) A (execs body env) (KeyPost h₀ env.locals x ys m₀ l N0 R { s with heap := h, toks := tk } Q) E { s with heap := h, toks := tk })
    (done : ∀ us ns nn (u : Str → Option Value) h tk, IntsAre us ns → ns.length ≤ N0 →
      Fr h₀ env.locals h (fun z => if z = x then u z else if ys.contains z then u z else m₀ z) → News h₀ env.locals h ((l, W.listOf us.toArray nn) :: rest) → Q .next { s with heap := h, toks := tk }) :
    wpAny (model prog w) A (pyIter (.ref d)) (fun it s₂ => LoopAtV prog w A h₀ env x body Q E it s₂) E s := by
  have hax := N (d, od) (.tail _ hdm)
  obtain ⟨ep, hat⟩ := (Heap.dictOf_iff.mpr ⟨od, hax.1, hd⟩).dictAt
  have hne : d ≠ s.heap.objs.size := Nat.ne_of_lt hat.lt_size
  have lt : ∀ p ∈ ((l, W.listOf us₀.toArray nn₀) :: rest), p.1 ≠ s.heap.objs.size := fun p hp => Nat.ne_of_lt (Heap.lt_size (N p hp).1)
  refine wpAny_pyIter_dict lo hat ?_
  have WW := Walks.dictKeys (prog := prog) (w := w) (knd := strKind prog w) hh s.heap.objs.size d hne (tups.map kvOf) ep
  let J : Nat → (Str → Option Value) → List (Addr × Obj) → Prop := fun _ m nx => ∃ us ns nn, nx = (l, W.listOf (List.toArray us) nn) :: rest ∧ IntsAre us ns ∧ ns.length ≤ N0 ∧ ∀ z, z ≠ x → ys.contains z = false → m z = m₀ z
  have shape : ∀ (m : Str → Option Value) (v : Option Value), (∀ z, z ≠ x → ys.contains z = false → m z = m₀ z) → (fun z => if z = x then v else m z) = fun z => if z = x then v else if ys.contains z then m z else m₀ z := by
    intro m v e
    funext z
    by_cases hx : z = x
    · simp [hx]
    · simp only [if_neg hx]
      cases hz : ys.contains z with
      | true => simp
      | false => simp only [Bool.false_eq_true, if_false]; exact e z hx hz
  refine ⟨s.heap.objs.size, _, _, _, _, _, m₀, _, J, rfl, WW, ?_, ?_, ?_, ⟨⟨_, Heap.get?_push_size _ rfl, rfl, rfl⟩, hat.push _⟩, F.push _, (fun p hp => ⟨Heap.get?_push_of_some _ (N p hp).1, (N p hp).2⟩), ⟨us₀, ns₀, nn₀, rfl, hi, hlen, fun _ _ _ => rfl⟩, ?_, ?_⟩
  · intro hm
    have hb : env.locals = s.heap.objs.size ∨ env.locals = d := by simpa using hm
    rcases hb with e | e
    · exact absurd F.ns.lt (e ▸ Nat.lt_irrefl _)
    · exact hax.2.1 e.symm
  · intro b hb
    rw [List.mem_singleton.mp hb]
    exact next_is_new F
  · intro p hp hI
    exact lt p hp (List.mem_singleton.mp hI)
  · rintro i v m₁ nx s₁ own ⟨hh', tk', rfl⟩ hin ⟨k, xv, hkv, hks⟩ ⟨us, ns, nn, rfl, hi', hlen', hm'⟩ hoffI hown _ _ _ F₁ N₁
    obtain ⟨t, rfl⟩ := Value.isStrOf_shape hks
    obtain ⟨p, hp, hpe⟩ : ∃ p ∈ tups, kvOf p = (k, xv) := by
      have := List.mem_of_getElem? hkv
      exact List.mem_map.mp this
    obtain ⟨pk, pa, po⟩ := p
    obtain ⟨rfl, rfl⟩ := Prod.mk.inj hpe
    have hR : OwnOff (rest ++ own) [l] := by
      intro q hq b hb e
      rw [List.mem_singleton.mp hb] at e
      rcases List.mem_append.mp hq with hq | hq
      · exact hoff q hq e
      · have h1 : q.1 = s.heap.objs.size ∨ q.1 = d := by simpa using hown q hq
        rcases h1 with h1 | h1
        · exact lt _ (.head _) (by rw [← h1, e])
        · exact hoff (d, od) hdm (by rw [← e, h1])
    rw [shape m₁ _ hm'] at F₁
    refine wpAny_mono (turn (pk, pa, po) hp t us ns nn m₁ hh' tk' (rest ++ own) (hoff _ (ht _ hp)) (hoff _ hdm) hR hd hi' hlen' F₁ fun q hq => N₁ q ?_) (fun fl s₂ z => ?_) fun _ _ e => e
    · rcases List.mem_cons.mp hq with rfl | hq
      · exact List.mem_append_right _ (.head _)
      · rcases List.mem_cons.mp hq with rfl | hq
        · exact List.mem_append_right _ (.tail _ hdm)
        · rcases List.mem_cons.mp hq with rfl | hq
          · exact List.mem_append_right _ (.tail _ (ht _ hp))
          · rcases List.mem_append.mp hq with hq | hq
            · exact List.mem_append_right _ (.tail _ hq)
            · exact List.mem_append_left _ hq
    have fin : KeyEnd h₀ env.locals x ys m₀ l N0 (rest ++ own) { s with heap := hh', toks := tk' } s₂ → LoopStepU h₀ env.locals [s.heap.objs.size] own (J (i + 1)) { s with heap := hh', toks := tk' } .next s₂ := by
      rintro ⟨h', tk, m', us', ns', nn', news', e, F', N', hl', hr', hi'', hn'', hm''⟩
      refine ⟨rfl, h', tk, m', (l, W.listOf us'.toArray nn') :: rest, e, F', fun q hq => N' q ?_, fun q hq hI => ?_, us', ns', nn', rfl, hi'', hn'', hm''⟩
      · rcases List.mem_append.mp hq with hq | hq
        · exact hr' q (List.mem_append_right _ hq)
        · rcases List.mem_cons.mp hq with rfl | hq
          · exact hl'
          · exact hr' q (List.mem_append_left _ hq)
      · rcases List.mem_cons.mp hq with rfl | hq
        · exact lt _ (.head _) (List.mem_singleton.mp hI)
        · exact lt q (.tail _ hq) (List.mem_singleton.mp hI)
    cases fl with
    | ret v => exact .ret z
    | brk => exact .brk z
    | next => exact .next (fin z)
    | cont => exact .cont (fin z)
  · rintro h' tk m' nx F' N' _ ⟨us, ns, nn, rfl, hi', hlen', hm'⟩
    have F'' : Fr h₀ env.locals h' (fun z => if z = x then m' z else m' z) := by
      have e : (fun z => if z = x then m' z else m' z) = m' := by
        funext z
        by_cases hz : z = x <;> simp
      rw [e]; exact F'
    have e2 : (fun z => if z = x then m' z else m' z) = fun z => if z = x then m' z else if ys.contains z then m' z else m₀ z := by
      funext z
      by_cases hx : z = x
      · simp [hx]
      · simp only [if_neg hx]
        cases hz : ys.contains z with
        | true => simp
        | false => simp only [Bool.false_eq_true, if_false]; exact hm' z hx hz
    rw [e2] at F''
    exact done us ns nn m' h' tk hi' hlen' F'' N'

theorem keys_loop2 {d l : Addr} {od : Obj} {us₀ : List Value} {ns₀ : List Int} {nn₀ N0 : Nat} {m₀ : Str → Option Value} {news : List (Addr × Obj)} {tups : List (Str × Addr × Obj)} (ys : List Str)
    (hh : A.handled = none) (hd : od.IsDictOf (strKind prog w) (tups.map kvOf)) (lo : (d == sysModules) = false) (F : Fr h₀ env.locals s.heap m₀)
    (N : News h₀ env.locals s.heap news) (hl : (l, W.listOf us₀.toArray nn₀) ∈ news) (hdm : (d, od) ∈ news) (hdl : d ≠ l) (ht : ∀ p ∈ tups, (p.2.1, p.2.2) ∈ news ∧ p.2.1 ≠ l) (hi : IntsAre us₀ ns₀) (hlen : ns₀.length ≤ N0)
    (turn : ∀ p ∈ tups, ∀ t us ns nn (u : Str → Option Value) h tk R, p.2.1 ≠ l → d ≠ l → OwnOff R [l] → od.IsDictOf (strKind prog w) (tups.map kvOf) → IntsAre us ns → ns.length ≤ N0 →
      Fr h₀ env.locals h (fun z => if z = x then some (.str p.1 t) else if ys.contains z then u z else m₀ z) → News h₀ env.locals h ((l, W.listOf us.toArray nn) :: (d, od) :: (p.2.1, p.2.2) :: R) →
      wpAny (model prog w) A (execs body env) (KeyPost h₀ env.locals x ys m₀ l N0 R { s with heap := h, toks := tk } Q) E { s with heap := h, toks := tk })
    (done : ∀ (u : Str → Option Value) h tk, Fr h₀ env.locals h (fun z => if z = x then u z else if ys.contains z then u z else m₀ z) → Q .next { s with heap := h, toks := tk }) :
    wpAny (model prog w) A (pyIter (.ref d)) (fun it s₂ => LoopAtV prog w A h₀ env x body Q E it s₂) E s := by
  have inF : ∀ {p : Addr × Obj}, p ∈ news → p.1 ≠ l → p ∈ news.filter (fun q => decide (q.1 ≠ l)) := fun hp hne => List.mem_filter.mpr ⟨hp, by simpa using hne⟩
  refine keys_loop (nn₀ := nn₀) (rest := news.filter fun q => decide (q.1 ≠ l)) ys hh hd lo F (fun p hp => ?_) (inF hdm hdl) (fun p hp => inF (ht p hp).1 (ht p hp).2) (fun p hp => by simpa using (List.mem_filter.mp hp).2) hi hlen turn fun us ns nn u h tk _ _ F' _ => done u h tk F'
  rcases List.mem_cons.mp hp with rfl | hp
  · exact N _ hl
  · exact N _ (List.mem_filter.mp hp).1

theorem contains_ne {ys : List Str} {z y : Str} (h : ys.contains z = false) (hy : ys.contains y = true) : z ≠ y := by
  rintro rfl
  rw [h] at hy
  cases hy
end
/-- what the tests of the text say of a kind: of the first pair, of the second, of the pair as a tuple, of the tuple of six -/
def KindIs (k : Str) (b12 b34 b6 : Bool) : Prop := (k == Str.ofString "pullup" || k == Str.ofString "pulldown") = b12 ∧ (k == Str.ofString "buf" || k == Str.ofString "not") = b34 ∧
  ([Str.ofString "buf", Str.ofString "not"].any (· == k)) = b34 ∧ ([Str.ofString "bufif0", Str.ofString "bufif1", Str.ofString "notif0", Str.ofString "notif1", Str.ofString "nmos", Str.ofString "pmos"].any (· == k)) = b6

abbrev tupObj (a b : Int) (t u : Tok) : Obj := { cls := .type "tuple", data := .seq [Value.int a t, Value.int b u].toArray }

theorem kinds_split {T : Str × Addr × Obj → Prop} {tups : List (Str × Addr × Obj)}
    (h1 : ∀ k a t u, KindIs k false true false → T (k, a, tupObj 2 99 t u)) (h2 : ∀ k a t u, KindIs k true false false → T (k, a, tupObj 1 1 t u))
    (h3 : ∀ k a t u, KindIs k false false false → T (k, a, tupObj 2 99 t u)) (h4 : ∀ k a t u, KindIs k false false true → T (k, a, tupObj 3 3 t u))
    (h : ∀ p ∈ tups, ∃ k a t u, ((p = (k, a, tupObj 2 99 t u) ∧ KindIs k false true false) ∨ (p = (k, a, tupObj 1 1 t u) ∧ KindIs k true false false)) ∨
      ((p = (k, a, tupObj 2 99 t u) ∧ KindIs k false false false) ∨ (p = (k, a, tupObj 3 3 t u) ∧ KindIs k false false true))) : ∀ p ∈ tups, T p := by
  intro p hp
  obtain ⟨k, a, t, u, (⟨rfl, hk⟩ | ⟨rfl, hk⟩) | (⟨rfl, hk⟩ | ⟨rfl, hk⟩)⟩ := h p hp
  · exact h1 k a t u hk
  · exact h2 k a t u hk
  · exact h3 k a t u hk
  · exact h4 k a t u hk

section
variable {prog : Program} {w : World} {A : Around} {E : Value → Shared → Prop} {s : Shared} {env : Env} {h₀ : Heap} {x : Str} {body : List Stmt} {Q : Flow → Shared → Prop}

theorem keys_loop3 {d l : Addr} {od : Obj} {us₀ : List Value} {ns₀ : List Int} {nn₀ N0 : Nat} {m₀ : Str → Option Value} {news : List (Addr × Obj)} {tups : List (Str × Addr × Obj)} (ys : List Str)
    (hh : A.handled = none) (hd : od.IsDictOf (strKind prog w) (tups.map kvOf)) (lo : (d == sysModules) = false) (F : Fr h₀ env.locals s.heap m₀)
    (N : News h₀ env.locals s.heap news) (hl : (l, W.listOf us₀.toArray nn₀) ∈ news) (hdm : (d, od) ∈ news) (hdl : d ≠ l) (ht : ∀ p ∈ tups, (p.2.1, p.2.2) ∈ news ∧ p.2.1 ≠ l) (hi : IntsAre us₀ ns₀) (hlen : ns₀.length ≤ N0)
    (hv : ∀ p ∈ tups, PySem.valueAt (tups.map kvOf) p.1 = some (.ref p.2.1))
    (turn : ∀ p ∈ tups, ∀ kvs t us ns nn (u : Str → Option Value) h tk R, p.2.1 ≠ l → d ≠ l → OwnOff R [l] → od.IsDictOf (strKind prog w) kvs → PySem.valueAt kvs p.1 = some (.ref p.2.1) → IntsAre us ns → ns.length ≤ N0 →
      Fr h₀ env.locals h (fun z => if z = x then some (.str p.1 t) else if ys.contains z then u z else m₀ z) → News h₀ env.locals h ((l, W.listOf us.toArray nn) :: (d, od) :: (p.2.1, p.2.2) :: R) →
      wpAny (model prog w) A (execs body env) (KeyPost h₀ env.locals x ys m₀ l N0 R { s with heap := h, toks := tk } Q) E { s with heap := h, toks := tk })
    (done : ∀ (u : Str → Option Value) h tk, Fr h₀ env.locals h (fun z => if z = x then u z else if ys.contains z then u z else m₀ z) → Q .next { s with heap := h, toks := tk }) :
    wpAny (model prog w) A (pyIter (.ref d)) (fun it s₂ => LoopAtV prog w A h₀ env x body Q E it s₂) E s :=
  keys_loop2 ys hh hd lo F N hl hdm hdl ht hi hlen (fun p hp t us ns nn u h tk R a b c e f g F' N' => turn p hp _ t us ns nn u h tk R a b c e (hv p hp) f g F' N') done
end

section
variable {prog : Program} {w : World} {A : Around} {E : Value → Shared → Prop} {s : Shared} {x y : Str} {t u : Tok} {Q : Value → Shared → Prop}
theorem eq_known {b : Bool} (e : (x == y) = b) (h : Q (.bool b) s) : wpAny (model prog w) A (compareOp .Eq (.str x t) (.str y u)) Q E s :=
  PyProof.Rows.eq_str (by rw [e]; exact h)
theorem ne_f {i j : Int} (e : i = j) (h : Q (.bool false) s) : wpAny (model prog w) A (compareOp .NotEq (.int i t) (.int j u)) Q E s :=
  PyProof.Rows.ne_int (by rw [show (i != j) = false by simp [e]]; exact h)
theorem ne_t {i j : Int} (e : i ≠ j) (h : Q (.bool true) s) : wpAny (model prog w) A (compareOp .NotEq (.int i t) (.int j u)) Q E s :=
  PyProof.Rows.ne_int (by rw [show (i != j) = true by simp [e]]; exact h)
theorem in_known {b : Bool} {a : Addr} {items : Array Value} {ys : List Str} (ht : IsTup s.heap a items) (hi : StrsAre items.toList ys) (e : ys.any (· == x) = b) (h : Q (.bool b) s) :
    wpAny (model prog w) A (compareOp .In (.str x u) (.ref a)) Q E s := in_tuple_strs ht hi (by rw [e]; exact h)
end

section
variable {prog : Program} {w : World} {A : Around} {E : Value → Shared → Prop} {s : Shared} {h₀ : Heap} {L a : Addr} {m : Str → Option Value} {name x y z k : Str} {scope : Scope} {cd : Value} {t : Tok} {b : Bool} {Q : Bool → Shared → Prop}
/-- a name that holds a text, compared with one written text or another -/
theorem or_two {p1 p2 p3 p4 p5 p6 p7 : Pos} {k1 k2 : Nat} {whole : Sem Value} (F : Fr h₀ L s.heap m) (hv : m x = some (.str k t)) (e : (k == y || k == z) = b) (h : ∀ tk, Q b { s with toks := tk })
    (hk : scope.kind = .function := by rfl) (hl : (envOf name scope L a cd).kindOf x = some .local := by rfl) (hd : (x == ("__debug__" : Str)) = false := by decide) :
    wpAny (model prog w) A (isTrue (.BoolOp .Or [.Compare (.Name x p1) [.Eq] [.Constant (.str y) k1 p2] p3, .Compare (.Name x p4) [.Eq] [.Constant (.str z) k2 p5] p6] p7) (envOf name scope L a cd) whole) Q E s := by
  refine isTrue_or (wpAny_isTrue_Compare1 (ld F hv (Calls.Constant_str (PyProof.Rows.eq_str (wpAny_truthy_bool ?_))) hk hl hd))
  cases e1 : (k == y) with
  | true =>
    rw [e1, Bool.true_or] at e
    subst e
    exact h _
  | false =>
    rw [e1, Bool.false_or] at e
    rw [if_neg (by simp)]
    refine isTrue_or (wpAny_isTrue_Compare1 (ld (s := { s with toks := s.toks + 1 }) F hv (Calls.Constant_str (PyProof.Rows.eq_str (wpAny_truthy_bool ?_))) hk hl hd))
    cases b with
    | true => rw [e]; exact h _
    | false =>
      rw [e, if_neg (by simp)]
      exact isTrue_or_nil (h _)
end
end

section
open PySem PySem.W PyProof.Rows
set_option maxHeartbeats 8000000 in
open_top hd for PySem.Challenge.rw_pq0442_01
theorem own45 (P : Params) : OwnExc (hd.heap_39 P) 45 32 29 where
  obj := ⟨Str.ofString "DesignError", Str.ofString "DesignError", 44, [.ref 32], [], [], false, none, none, some (.ref 36), none, some (.str (Str.ofString "DesignError") 225), some (.str (Str.ofString "DesignError") 233), some (.bool true), by kernel_rfl⟩
  call := by kernel_rfl
  typ := by kernel_rfl
  init := by kernel_rfl
  fn := by kernel_rfl
  seta := by kernel_rfl
  geta := by kernel_rfl
local macro_rules | `(tactic| walk_at "eval Call") => `(tactic| (k_here; (with_reducible show wpAny _ _ (eval (Expr.Call (Expr.Name ("_law_pip" : Str) _) _ _ _) _) _ _ _); (with_unfolding_all refine' pip_cut ?F ?N ?m ?U ?i ?_ ?_; (case F => k_asm); (case N => k_asm); (case m => exact rfl); (case U => (intro o'; k_upd)); (case i => with_reducible assumption)); all_goals (try k_fold)))
local macro_rules | `(tactic| walk_at "forall") => `(tactic| (intro r' t' ws' ns' n' h' tk' h0' h1' hI' hL' F' N'; (try dsimp only at N'); (try k_sweep)))
local macro_rules | `(tactic| walk_at "call builtin:list.pop") => `(tactic| (k_here; (with_reducible show wpAny _ _ (call (Value.builtin _) [Value.ref _, Value.int _ _]) _ _ _); k_dflt (refine' pop0 ?F ?N ?U ?i ?e ?z ?_; (case F => k_asm); (case N => k_asm); (case U => (intro u'; k_upd)); (case i => with_reducible assumption); (case e => with_reducible assumption); (case z => (rw [PySem.sizeLine_eq]; (rename IntsAre _ _ => hI9); (have hL9 := IntsAre.length hI9); omega))); intro h' k' t' us' l' e' hI' F' N'; (try dsimp only at N'); (try k_sweep)))
local macro_rules | `(tactic| walk_at "PipEnd") => `(tactic| ((rename Fr _ _ _ _ => pF); (rename News _ _ _ _ => pN); (with_unfolding_all refine' pipEnd_ pF pN ?n ?i ?a ?b ?c; (case i => with_reducible assumption)); (case a => first | exact (fmod_in _ (by decide)).1 | decide); (case b => first | exact (fmod_in _ (by decide)).2 | decide); (case n => kcj_in); (case c => first | exact Nat.le_refl _ | (simp only [*, List.length_cons]; omega))))
local macro_rules | `(tactic| walk_at "storeName int") => `(tactic| (k_here; (with_reducible show wpAny _ _ (storeName _ ("width" : Str) (Value.int (List.getD _ _ _) _)) _ _ _); (refine store_gen' (hi := 63) (width_in (by assumption) (by assumption) (by assumption) (by assumption) (by assumption) (by assumption) (by assumption) (by assumption)) ?_); intro W' hw0' hw1'))
local macro_rules | `(tactic| walk_at "storeName int") => `(tactic| (k_here; (with_reducible show wpAny _ _ (storeName _ ("told" : Str) (Value.int (_ * _) _)) _ _ _); (refine store_gen (hi := 54) (told_in (by assumption) (by assumption) (by assumption) (by omega) (by omega)) ?_); intro T' hT' ht0' ht1'))
local macro_rules | `(tactic| walk_at "pyIter ref") => `(tactic| (k_of "position" => (k_here; (rename Fr _ _ _ _ => lF'); (rename News _ _ _ _ => lN'); (rename IsRange _ _ _ _ _ _ _ _ => rgX); refine' pos_split lF' ?zw ?zp ?zc ?zg1 ?zg2 ?zg3; (case zw => exact rfl); (case zp => exact rfl); (case zc => exact rfl); (case' zg1 => (intro f' hf' hW' hd1'; with_unfolding_all refine' range_cov (c := Str.ofString "covered") (y := Str.ofString "told") f' (by rfl) rgX (by exact small_one (by omega) (by omega) (by omega) (by omega)) (rangeSize_nat _ _) (by decide) lF' lN' (by rfl) (by rw [hf']; exact IntsAre.nil) ?zt1 ?zd1)); (case' zg2 => (intro f' hf' hW' hC' hd1' hd2' hd3'; with_unfolding_all refine' range_cov (c := Str.ofString "covered") (y := Str.ofString "told") f' (by rfl) rgX (by exact small_one (by omega) (by omega) (by omega) (by omega)) (rangeSize_nat _ _) (by decide) lF' lN' (by rfl) (by rw [hf', covs_zero]; exact IntsAre.nil) ?zt2 ?zd2)); (case' zg3 => (intro f' hf' hW' hC' hd1' hd2' hd3'; with_unfolding_all refine' range_cov (c := Str.ofString "covered") (y := Str.ofString "told") f' (by rfl) rgX (by exact small_one (by omega) (by omega) (by omega) (by omega)) (rangeSize_nat _ _) (by decide) lF' lN' (by rfl) (by rw [hf']; exact IntsAre.nil) ?zt3 ?zd3)); (case' zt1 => (intro i' t' l' us' nn' u' h' tk' own' hlt' hI' hoff' F' N'; clear lF' lN'; (rw [hf'] at hI'); (try dsimp only [List.cons_append] at N'); (try k_fold))); (case' zd1 => (intro l' us' nn' u' v' h' tk' hI' F' N'; clear lF' lN'; (rw [hf'] at hI'); (try k_fold))); (case' zt2 => (intro i' t' l' us' nn' u' h' tk' own' hlt' hI' hoff' F' N'; clear lF' lN'; (try dsimp only [List.cons_append] at N'); (try k_fold))); (case' zd2 => (intro l' us' nn' u' v' h' tk' hI' F' N'; clear lF' lN'; (have hAll' := covs_done hf' hC' (by omega) (by omega)); (try k_fold))); (case' zt3 => (intro i' t' l' us' nn' u' h' tk' own' hlt' hI' hoff' F' N'; clear lF' lN'; (rw [hf'] at hI'); (try dsimp only [List.cons_append] at N'); (try k_fold))); (case' zd3 => (intro l' us' nn' u' v' h' tk' hI' F' N'; clear lF' lN'; (rw [hf'] at hI'); (try k_fold))))))
local macro_rules | `(tactic| walk_at "binaryOp Add ref ref") => `(tactic| (k_here; (with_reducible show wpAny _ _ (binaryOp _ (Value.ref _) (Value.ref _)) _ _ _); k_dflt (refine' kmk_add_ints ?zF ?zN ?za ?zb ?zi ?zj ?_ ?zz; (case zF => k_asm); (case zN => k_asm); (case za => kmk_list); (case zb => kmk_list); (case zi => with_reducible assumption); (case zj => with_reducible assumption); (case zz => exact covs_size (by assumption) (by omega) (by omega) (by omega))); intro D' ws' h' F' N' l1 hI'; (try k_lt l1); (try k_sweep)))
local macro_rules | `(tactic| walk_at "CovPost") => `(tactic| (dsimp only [CovPost]))
local macro_rules | `(tactic| walk_at "CovEnd") => `(tactic| ((rename Fr _ _ _ _ => lF'); (rename News _ _ _ _ => lN'); (with_unfolding_all refine' covEnd_ lF' lN' ?zc ?zl ?zi ?zr ?zo ?zn ?zm); (case zc => exact rfl); (case zl => kcj_m); (case zi => first | with_reducible assumption | exact covs_ints (by assumption) (by assumption) (by omega) (by assumption) | ((rename (∀ _, _ = []) => hE9); rw [hE9]; with_reducible assumption)); (case zr => kcj_in); (case zo => kcj_in); (case zn => first | exact OwnOff.ne (by assumption) (by k_memK) | k_all); (case zm => (intro z h1 h2 h3; first | rfl | (simp [h1, h2, h3]; done)))))
local macro_rules | `(tactic| walk_at "exec Raise some none") => `(tactic| (k_here; (with_reducible show wpAny _ _ (exec (Stmt.Raise (some (Expr.Call (Expr.Name ("DesignError" : Str) _) _ _ _)) none _) _) _ _ _); k_dflt (refine' Raise_exc ?zX ?zO ?zh ?_; (case zX => k_asm); (case zO => exact own45 _); (case zh => first | rfl | assumption); k_whole)))
local macro_rules | `(tactic| walk_at "RaiseEnd") => `(tactic| (refine' raiseEnd_ ?zF ?zX ?zN ?zh ?_; (case zF => k_asm); (case zX => k_asm); (case zN => k_asm); (case zh => k_mem)))
local macro_rules | `(tactic| walk_at "call ref") => `(tactic| (k_here; k_dflt (refine' call_exc ?zF ?zX ?zN ?zO ?_ ?zz; (case zF => k_asm); (case zX => k_asm); (case zN => k_asm); (case zO => exact own45 _); (case zz => exact Nat.le_of_ble_eq_true rfl); k_whole; intro x' t' h' F' N' l1 l3 l2; (try k_lt l1); (try k_lt l3); (try k_lt2 l2); (try k_sweep); (refine' code_def ?k1 ?k2 ?k3 ?k4 ?k5 ?kA ?kF ?kK ?k6 ?k7 ?k8 ?k9 ?kB ?_ ?c2 ?c3 ?c4 ?c5; (case kA => exact rfl); (case kF => exact rfl); (case kK => exact rfl); (case k1 => k_asm); (case k2 => k_asm); (case k3 => k_asm); (case k4 => k_asm); (case k5 => k_asm); (case k6 => k_is); (case k7 => k_is); (case k8 => k_room); (case k9 => (refine' binds_K (Frag.In.keeps ?ka (Fr.keep ?kb)) ?b2 ?b3 ?b4 ?b5 ?b6; (case kb => with_reducible assumption); (case ka => with_reducible assumption); (case b2 => exact rfl); (case b3 => k_is); (case b4 => exact rfl); (case b5 => exact rfl); (case b6 => exact rfl))); (case c5 => decide); (case kB => exact locs rfl); (case c2 => exact rfl); (case c3 => exact rfl); (case c4 => exact rfl); k_whole; intro g' L' h' FG' F' N' B' X' T'; (try dsimp only); (try k_lift B'); (try k_fold)))))
local macro_rules | `(tactic| walk_at "setAttr ref") => `(tactic| (k_here; k_dflt (refine' set_exc0 ?zF ?zX ?zN ?zO ?zU ?zt ?_; (case zF => k_asm); (case zX => k_asm); (case zN => k_asm); (case zO => exact own45 _); (case zU => (intro dx'; k_upd)); (case zt => k_is); k_whole; intro dx' h' F' N' l1; (try dsimp only at N' l1); (try k_lt l1); (try k_sweep))))
local macro_rules | `(tactic| walk_at "setAttr ref") => `(tactic| (k_here; k_dflt (refine' set_excD ?zF ?zX ?zN ?zO ?zx ?zt ?zl ?ze ?zU ?zz ?_; (case zF => k_asm); (case zX => k_asm); (case zN => k_asm); (case zO => exact own45 _); (case zx => k_mem); (case zt => k_is); (case zU => k_upd); (case zl => k_get); (case ze => k_put); (case zz => exact Nat.le_of_ble_eq_true rfl); k_whole; intro h' F' N'; (try k_sweep))))
local macro_rules | `(tactic| walk_at "leaving ref") => `(tactic| (k_here; (refine' leave_raiseX ?zK ?zF ?zN ?zx ?_; (case zK => assumption); (case zF => assumption); (case zN => k_asm); (case zx => k_mem); k_whole; intro h' R' U'; (try dsimp only at R' U' ⊢))))
local macro_rules | `(tactic| walk_at "noteFrame ref") => `(tactic| (k_here; k_dflt (refine' caught_X ?zR ?zF ?zK ?zU ?zB ?zT ?zD ?z0 ?zO ?zV ?ze ?_; (case zR => assumption); (case zF => assumption); (case zK => assumption); (case zU => assumption); (case zB => assumption); (case zT => assumption); (case zD => assumption); (case z0 => first | assumption | exact KtsTurn.refl); (case zO => exact own45 _); (case zV => (intro oe'; k_upd)); (case ze => k_is); k_whole); intro h' g' vs' sl' tk' T' F' N' K' X' P' D'; (try dsimp only at N'); (try k_lift K'); (try k_sweep)))
local macro_rules | `(tactic| walk_at "getAttr ref") => `(tactic| (k_here; k_dflt (refine' get_exc ?zF ?zX ?zO ?zI ?zh ?zd ?za ?zn ?zl ?zv ?_; (case zF => k_asm); (case zX => k_asm); (case zO => exact own45 _); (case zI => (refine' inst_exc ?zN ?z1 ?z2; (case zN => k_asm); (case z1 => k_mem); (case z2 => k_mem))); (case zh => k_is); (case zd => k_is); (case za => k_is); (case zn => k_is); (case zl => k_get); (case zv => k_handed); k_whole)))
local macro_rules | `(tactic| walk_at "eval Dict") => `(tactic| (k_here; k_dflt (refine' kdn_str ?zq ?zF ?zN ?zb ?za ?zl ?ze ?zn ?_; (case zq => rfl); (case zF => k_asm); (case zN => k_asm); (case zb => exact Top.nolimit (by k_asm)); (case za => rfl); (case zl => rfl); (case ze => exact List.cons_ne_nil _ _); (case zn => exact Nat.le_of_ble_eq_true rfl)); intro d' h' o' F' N' l1 lo' hd'; (try k_lt l1)))
local macro_rules | `(tactic| walk_at "compareOp NotEq ref int") => `(tactic| (exfalso; omega))
local macro_rules | `(tactic| walk_at "compareOp NotEq int ref") => `(tactic| (exfalso; omega))
local macro_rules | `(tactic| kts_go) => `(tactic| (refine' code_defS0 ?k1 ?k2 ?k3 ?k4 ?k5 ?kA ?k6 ?k7 ?k8 ?k9 ?kB ?_ ?cK ?c2 ?c3 ?c4 ?c5; (case kA => exact rfl); (case k2 => k_asm); (case k1 => k_asm); (case k3 => k_asm); (case k4 => k_asm); (case k5 => k_asm); (case k6 => k_is); (case k7 => k_is); (case k8 => k_room); (case k9 => exact BindsTo.of_eq rfl); (case kB => exact locs rfl); (case cK => exact rfl); (case c2 => exact rfl); (case c3 => exact rfl); (case c4 => exact rfl); (case c5 => decide); k_whole; intro g' L' h' FG' F' N' B' X' T' D'; (try dsimp only); (try k_lift B'); (try k_fold)))
local macro_rules | `(tactic| walk_at "isTrue BoolOp Or cons") => `(tactic| (k_here; (with_reducible show wpAny _ _ (isTrue (Expr.BoolOp BoolOp.Or [Expr.Compare (Expr.Name ("kind" : Str) _) [CmpOp.Eq] [Expr.Constant (Const.str _) _ _] _, Expr.Compare (Expr.Name ("kind" : Str) _) [CmpOp.Eq] [Expr.Constant (Const.str _) _ _] _] _) _ _) _ _ _); k_dflt (refine' or_two ?F ?v ?e ?_; (case F => k_asm); (case v => exact rfl); (case e => with_reducible assumption)); intro tk'; (try dsimp only)))
local macro_rules | `(tactic| walk_at "compareOp NotEq int int") => `(tactic| (k_here; (with_reducible show wpAny _ _ (compareOp CmpOp.NotEq (Value.int _ _) (Value.int 1 _)) _ _ _); first | (refine ne_f (by omega) ?_) | (refine ne_t (by omega) ?_)))
local macro_rules | `(tactic| walk_at "compareOp In str ref") => `(tactic| (k_here; (with_reducible show wpAny _ _ (compareOp CmpOp.In (Value.str _ _) (Value.ref _)) _ _ _); (with_unfolding_all refine' in_known ?k1 ?k2 ?k3 ?_; (case k1 => exact News.isTup (by k_asm) (by news_mem)); (case k2 => kde_strs); (case k3 => with_reducible assumption); k_whole)))
local macro_rules | `(tactic| walk_at "subscriptTail Name Name ref str") => `(tactic| (k_here; (with_reducible show wpAny _ _ (subscriptTail _ _ (Value.ref _) (Value.str _ _)) _ _ _); k_dflt (refine kda_item (knd := PySem.strKind _ _) (by k_asm) (by k_mem) (by with_reducible assumption) (strKind_is _ _ _ _) (by with_reducible assumption) ?_)))
local macro_rules | `(tactic| walk_at "pyIter ref") => `(tactic| (k_of "kind" => (k_here; (rename Fr _ _ _ _ => lF'); (rename News _ _ _ _ => lN'); (rename Obj.IsDictOf _ _ _ => hD'); (with_unfolding_all refine' keys_loop3 (N0 := 180) (tups := [(_, _, _), (_, _, _), (_, _, _), (_, _, _), (_, _, _), (_, _, _), (_, _, _), (_, _, _), (_, _, _), (_, _, _), (_, _, _), (_, _, _), (_, _, _), (_, _, _), (_, _, _), (_, _, _)]) [Str.ofString "terminals", Str.ofString "low", Str.ofString "high", Str.ofString "due"] ?zh hD' ?zlo lF' lN' ?zl ?zd ?zdl ?zt ?zi ?zn ?zv ?zturn ?zdone); (case zh => rfl); (case zlo => assumption); (case zi => with_reducible assumption); (case zl => k_mem); (case zd => k_mem); (case zdl => k_ne); (case zn => omega); (case zt => (refine List.forall_mem_cons.mpr ⟨⟨by k_mem, by k_ne⟩, ?_⟩; refine List.forall_mem_cons.mpr ⟨⟨by k_mem, by k_ne⟩, ?_⟩; refine List.forall_mem_cons.mpr ⟨⟨by k_mem, by k_ne⟩, ?_⟩; refine List.forall_mem_cons.mpr ⟨⟨by k_mem, by k_ne⟩, ?_⟩; refine List.forall_mem_cons.mpr ⟨⟨by k_mem, by k_ne⟩, ?_⟩; refine List.forall_mem_cons.mpr ⟨⟨by k_mem, by k_ne⟩, ?_⟩; refine List.forall_mem_cons.mpr ⟨⟨by k_mem, by k_ne⟩, ?_⟩; refine List.forall_mem_cons.mpr ⟨⟨by k_mem, by k_ne⟩, ?_⟩; refine List.forall_mem_cons.mpr ⟨⟨by k_mem, by k_ne⟩, ?_⟩; refine List.forall_mem_cons.mpr ⟨⟨by k_mem, by k_ne⟩, ?_⟩; refine List.forall_mem_cons.mpr ⟨⟨by k_mem, by k_ne⟩, ?_⟩; refine List.forall_mem_cons.mpr ⟨⟨by k_mem, by k_ne⟩, ?_⟩; refine List.forall_mem_cons.mpr ⟨⟨by k_mem, by k_ne⟩, ?_⟩; refine List.forall_mem_cons.mpr ⟨⟨by k_mem, by k_ne⟩, ?_⟩; refine List.forall_mem_cons.mpr ⟨⟨by k_mem, by k_ne⟩, ?_⟩; refine List.forall_mem_cons.mpr ⟨⟨by k_mem, by k_ne⟩, ?_⟩; exact List.forall_mem_nil _)); (case zv => (refine List.forall_mem_cons.mpr ⟨by rfl, ?_⟩; refine List.forall_mem_cons.mpr ⟨by rfl, ?_⟩; refine List.forall_mem_cons.mpr ⟨by rfl, ?_⟩; refine List.forall_mem_cons.mpr ⟨by rfl, ?_⟩; refine List.forall_mem_cons.mpr ⟨by rfl, ?_⟩; refine List.forall_mem_cons.mpr ⟨by rfl, ?_⟩; refine List.forall_mem_cons.mpr ⟨by rfl, ?_⟩; refine List.forall_mem_cons.mpr ⟨by rfl, ?_⟩; refine List.forall_mem_cons.mpr ⟨by rfl, ?_⟩; refine List.forall_mem_cons.mpr ⟨by rfl, ?_⟩; refine List.forall_mem_cons.mpr ⟨by rfl, ?_⟩; refine List.forall_mem_cons.mpr ⟨by rfl, ?_⟩; refine List.forall_mem_cons.mpr ⟨by rfl, ?_⟩; refine List.forall_mem_cons.mpr ⟨by rfl, ?_⟩; refine List.forall_mem_cons.mpr ⟨by rfl, ?_⟩; refine List.forall_mem_cons.mpr ⟨by rfl, ?_⟩; exact List.forall_mem_nil _)); (case' zturn => (clear lF' lN' hD'; (repeat (rename Obj.IsDictOf _ _ _ => h9; clear h9)); (repeat (rename News _ _ _ _ => h9; clear h9)); (repeat (rename Fr _ _ _ _ => h9; clear h9)); (repeat (rename (_ ∧ _) => h9; clear h9)); (repeat (rename (@LT.lt Nat _ _ _) => h9; clear h9)); (repeat (rename (_ = Value.type _) => h9; clear h9)); refine' kinds_split ?zk0 ?zk1 ?zk2 ?zk3 ?zps; (case zps => (refine List.forall_mem_cons.mpr ⟨⟨_, _, _, _, Or.inl (Or.inl ⟨rfl, ⟨by decide, by decide, by decide, by decide⟩⟩)⟩, ?_⟩; refine List.forall_mem_cons.mpr ⟨⟨_, _, _, _, Or.inl (Or.inl ⟨rfl, ⟨by decide, by decide, by decide, by decide⟩⟩)⟩, ?_⟩; refine List.forall_mem_cons.mpr ⟨⟨_, _, _, _, Or.inl (Or.inr ⟨rfl, ⟨by decide, by decide, by decide, by decide⟩⟩)⟩, ?_⟩; refine List.forall_mem_cons.mpr ⟨⟨_, _, _, _, Or.inl (Or.inr ⟨rfl, ⟨by decide, by decide, by decide, by decide⟩⟩)⟩, ?_⟩; refine List.forall_mem_cons.mpr ⟨⟨_, _, _, _, Or.inr (Or.inl ⟨rfl, ⟨by decide, by decide, by decide, by decide⟩⟩)⟩, ?_⟩; refine List.forall_mem_cons.mpr ⟨⟨_, _, _, _, Or.inr (Or.inl ⟨rfl, ⟨by decide, by decide, by decide, by decide⟩⟩)⟩, ?_⟩; refine List.forall_mem_cons.mpr ⟨⟨_, _, _, _, Or.inr (Or.inl ⟨rfl, ⟨by decide, by decide, by decide, by decide⟩⟩)⟩, ?_⟩; refine List.forall_mem_cons.mpr ⟨⟨_, _, _, _, Or.inr (Or.inl ⟨rfl, ⟨by decide, by decide, by decide, by decide⟩⟩)⟩, ?_⟩; refine List.forall_mem_cons.mpr ⟨⟨_, _, _, _, Or.inr (Or.inl ⟨rfl, ⟨by decide, by decide, by decide, by decide⟩⟩)⟩, ?_⟩; refine List.forall_mem_cons.mpr ⟨⟨_, _, _, _, Or.inr (Or.inl ⟨rfl, ⟨by decide, by decide, by decide, by decide⟩⟩)⟩, ?_⟩; refine List.forall_mem_cons.mpr ⟨⟨_, _, _, _, Or.inr (Or.inr ⟨rfl, ⟨by decide, by decide, by decide, by decide⟩⟩)⟩, ?_⟩; refine List.forall_mem_cons.mpr ⟨⟨_, _, _, _, Or.inr (Or.inr ⟨rfl, ⟨by decide, by decide, by decide, by decide⟩⟩)⟩, ?_⟩; refine List.forall_mem_cons.mpr ⟨⟨_, _, _, _, Or.inr (Or.inr ⟨rfl, ⟨by decide, by decide, by decide, by decide⟩⟩)⟩, ?_⟩; refine List.forall_mem_cons.mpr ⟨⟨_, _, _, _, Or.inr (Or.inr ⟨rfl, ⟨by decide, by decide, by decide, by decide⟩⟩)⟩, ?_⟩; refine List.forall_mem_cons.mpr ⟨⟨_, _, _, _, Or.inr (Or.inr ⟨rfl, ⟨by decide, by decide, by decide, by decide⟩⟩)⟩, ?_⟩; refine List.forall_mem_cons.mpr ⟨⟨_, _, _, _, Or.inr (Or.inr ⟨rfl, ⟨by decide, by decide, by decide, by decide⟩⟩)⟩, ?_⟩; exact List.forall_mem_nil _)))); (case' zk0 => (intro k9' a9' tA' tB' hk9'; (obtain ⟨e1', e2', e3', e4'⟩ := hk9'); (intro kvs' t' us' ns' nn' u' h' tk' R' hT' hdl' hoff' hD' hv' hI' hlen' F' N'; (try dsimp only at hT' hv' F' N'); (try k_fold)))); (case' zk1 => (intro k9' a9' tA' tB' hk9'; (obtain ⟨e1', e2', e3', e4'⟩ := hk9'); (intro kvs' t' us' ns' nn' u' h' tk' R' hT' hdl' hoff' hD' hv' hI' hlen' F' N'; (try dsimp only at hT' hv' F' N'); (try k_fold)))); (case' zk2 => (intro k9' a9' tA' tB' hk9'; (obtain ⟨e1', e2', e3', e4'⟩ := hk9'); (intro kvs' t' us' ns' nn' u' h' tk' R' hT' hdl' hoff' hD' hv' hI' hlen' F' N'; (try dsimp only at hT' hv' F' N'); (try k_fold)))); (case' zk3 => (intro k9' a9' tA' tB' hk9'; (obtain ⟨e1', e2', e3', e4'⟩ := hk9'); (intro kvs' t' us' ns' nn' u' h' tk' R' hT' hdl' hoff' hD' hv' hI' hlen' F' N'; (try dsimp only at hT' hv' F' N'); (try k_fold)))); (case' zdone => (intro u' h' tk' F'; (try k_fold))))))
local macro_rules | `(tactic| walk_at "KeyPost") => `(tactic| (dsimp only [KeyPost]))
local macro_rules | `(tactic| walk_at "KeyEnd") => `(tactic| ((rename Fr _ _ _ _ => lF'); (rename News _ _ _ _ => lN'); (with_unfolding_all refine' keyEnd_ lF' lN' ?zl ?zr ?zi ?zn ?zm); (case zl => kcj_m); (case zr => kcj_in); (case zi => with_reducible assumption); (case zn => omega); (case zm => (intro z h1 h2; have a1 := contains_ne h2 (y := Str.ofString "terminals") (by decide); have a2 := contains_ne h2 (y := Str.ofString "low") (by decide); have a3 := contains_ne h2 (y := Str.ofString "high") (by decide); have a4 := contains_ne h2 (y := Str.ofString "due") (by decide); simp only [if_neg h1, if_neg a1, if_neg a2, if_neg a3, if_neg a4, h2, Bool.false_eq_true, if_false]))))
set_option maxHeartbeats 8000000 in
theorem whole : PySem.Challenge.rw_pq0442_01.Holds := hd (by
  (k_with "pyIter ref" => (k_of "one" => k_state (fun pre (fruit : List Int) => fruit.length ≤ 9 * pre.length) "fruit"))
  (k_with "pyIter ref" => (k_of "hop" => k_state_given ["fruit!"] (fun f0 pre (fruit : List Int) (left : Int) => fruit.length = f0.length + pre.length) "fruit" "left"))
  (k_with "pyIter ref" => (k_of "lap" => k_state_short (fun pre (fruit : List Int) => fruit.length ≤ 180) "fruit"))
  (w_strict (k_go0; (all_goals try k_fold); (repeat' (first | (k_unfold; (try dsimp only)) | (kc_bool; kc_close) | walk1 | (dsimp only; walk1) | (k_end; wrow_close) | (leave1; walk_say "STEP leave1"; (try dsimp only)) | fail "no step")); (all_goals (try k_data)); all_goals w_report)))
end
end Mine

theorem PySem.Challenge.cw_pq0442_01_holds : PySem.Challenge.rw_pq0442_01.Holds :=
  Mine.whole
