import PyProof.Rows.All
import Wide.All
import OpenK.AllK
import Wide.FinOn
import PySem.Challenge.RW_pq0693_01
open PySem PySem.W PyProof.Rows
set_option Elab.async false
set_option linter.unusedSimpArgs false
set_option linter.unusedVariables false
set_option linter.deprecated false
set_option maxRecDepth 100000
namespace Mine
theorem behind {P T U V : Prop} (_hl : T) (_hw : U) (_hc : V) (rest : P) : P := rest
set_option maxRecDepth 100000 in
set_option maxHeartbeats 8000000 in
theorem hd (h : False) : PySem.Challenge.rw_pq0693_01.Holds := by
  w_on
  refine holds_law h.elim fun said => ?_
  refine' behind ?hl ?hw ?hc ?rest
  case rest => k_head
  all_goals exact h.elim
example : True := by
  w_top off
  trivial
example : Mine.hd.heap_1 = Mine.hd.heap_1 ∨ PySem.Challenge.rw_pq0693_01 = PySem.Challenge.rw_pq0693_01 := by
  k_fill
  exact .inl rfl

-- part Base
section
noncomputable section
noncomputable abbrev PG : Program := PySem.Challenge.rw_pq0693_01.row.prog
noncomputable abbrev KK (w : World) : Frag := Mine.hd.heap_1 w.params
noncomputable abbrev LS : List PySem.Str := looseW Mine.hd.view_1 [PySem.Str.ofString "RowsError", PySem.Str.ofString "Code"]
noncomputable abbrev VW : Program := Mine.hd.view_1

/-- what a call tells: from the ledger «news», the arguments «vs», to an answer and a new ledger -/
def Tell (w : World) (mean : ExcName → Option Value) (mg mb : PySem.Str → Option Value) (dd uu : Nat) (f : Addr) (vs : List Value) (news : List (Addr × Obj)) (R : Value → List (Addr × Obj) → Prop) : Prop :=
  ∀ (dp un : Nat) (gd : Option (List Code)) (cn : PySem.Str) (cs : Scope) (a : Addr) (ccd : Value) (cl : List (PySem.Str × Addr)) (outer : List Env) (A₀ : Around) (base h₀ : Heap) (L : Addr) (m : PySem.Str → Option Value) (s : Shared)
    (Q E : Value → Shared → Prop),
    Below A₀ base outer h₀ → Fr h₀ L s.heap m → (Mine.hd.heap_1 w.params).In h₀ → News h₀ L s.heap news → Top Mine.hd.view_1 LS mean mg mb h₀ → cs.kind = .function → dp + dd < 500 → un + uu < 5000 →
    (∀ r news' h' tk', Fr h₀ L h' m → News h₀ L h' news' → R r news' → Q r { s with heap := h', toks := tk' }) →
    wpAny (model PySem.Challenge.rw_pq0693_01.row.prog w) (ktrTop dp un gd cn cs L a ccd cl outer) (call (.ref f) vs) Q E s

end
end

-- part Digit
section
local macro_rules | `(tactic| k_all) => `(tactic| assumption)
theorem dg_lo {k z : Int} (hk : 1 ≤ k) : 0 ≤ z.fmod k := by
  rw [Int.fmod_eq_emod_of_nonneg _ (by omega)]; exact Int.emod_nonneg _ (by omega)
theorem dg_hi {k z : Int} (hk : 1 ≤ k) : z.fmod k < k := by
  rw [Int.fmod_eq_emod_of_nonneg _ (by omega)]; exact Int.emod_lt_of_pos _ (by omega)
theorem dg_m1 {z : Int} : z.fmod 2147483647 < 2 ^ 32 := Int.lt_trans (dg_hi (by decide)) (by decide)

set_option maxHeartbeats 4000000 in
theorem digit_c {w : World} {mean : ExcName → Option Value} {mg mb : PySem.Str → Option Value} {src : Addr} {a b k : Int} {ta tb tk : Tok} {n : Nat} {rest : List (Addr × Obj)}
    (hk : 1 ≤ k) (hk2 : k < 100) (hb : 0 ≤ b) (hb2 : b < 2 ^ 32) (hoff : ∀ p ∈ rest, p.1 ≠ src) :
    Tell w mean mg mb 10 100 285 [.ref src, .int k tk] ((src, listOf #[.int a ta, .int b tb] n) :: rest)
      (fun r news' => ∃ d t a' ta' b' tb' n', r = .int d t ∧ 0 ≤ d ∧ d < k ∧ 0 ≤ b' ∧ b' < 2 ^ 32 ∧ news' = (src, listOf #[.int a' ta', .int b' tb'] n') :: rest) := by
  unfold Tell
  intro dp un gd cn cs a ccd cl outer A₀ base h₀ L m s Q E B F X N T hkk hd hu hret
  refine wpAny_call ?_
  k_dflt ktr_enter
  k_steps
  all_goals (refine hret _ _ _ _ (by k_asm) (by k_asm) ?_; refine ⟨_, _, _, _, _, _, _, rfl, ?_, ?_, ?_, ?_, rfl⟩)
  all_goals first | assumption | exact dg_lo hk | exact dg_hi hk | exact dg_lo (by decide) | exact dg_m1
end

-- part ExcMake
section
open PySem.Calls
abbrev excFields (t : Addr) : Data := .fields #[.ref t, .none, .none, .none, .bool false, .none]
abbrev excRaw (C t : Addr) : Obj := { cls := .ref C, data := excFields t }
abbrev tupObj (vs : List Value) : Obj := { cls := .type "tuple", data := .seq vs.toArray }

section
variable {prog : Program} {w : World} {A : Around} {R : Result → Shared → Prop} {h : Heap} {g : Array GenState} {d : Drawn} {t : Nat} {os : OsState}
variable {nm q : PySem.Str} {C N : Addr} {bs bm : List Value} {hdct : Bool} {sn : List PySem.Str} {sub : List Value} {ab : Bool} {col : Option Bool} {dd : Option Addr} {k0 k1 k2 k3 k5 : Option Value}

theorem exc_new {rest : List Value} (hC : h.get? C = some (excClassObj nm q C N bs bm hdct sn sub ab col dd k0 k1 k2 k3 k5 "Exception.__new__"))
    (hB : bm.contains (.type "Exception") = true) (hnA : bm.contains (.type "AttributeError") = false) (hnN : bm.contains (.type "NameError") = false) (hrest : rest.length ≤ 1000)
    (hq : R (.ok (.ret (.ref (h.objs.size + 1)))) ⟨(h.push (tupObj rest)).push (excRaw C h.objs.size), g, d, t, os⟩) :
    codeAny (model prog w) A (.call (.builtin "Exception.__new__") ⟨.ref C :: rest, []⟩) R ⟨h, g, d, t, os⟩ := by
  have F := PySem.F.excBase_Exception
  have cB : (Value.ref C :: bm).contains (.type "Exception") = true := by rw [List.contains_cons, hB, Bool.or_true]
  have cA : (Value.ref C :: bm).contains (.type "AttributeError") = false := by rw [List.contains_cons, hnA]; rfl
  have cN : (Value.ref C :: bm).contains (.type "NameError") = false := by rw [List.contains_cons, hnN]; rfl
  have hstar := F.noStar
  have hz : rest.length ≤ sizeLine := by rw [sizeLine_eq]; omega
  refine codeAny_call_builtin_code (Code.quiet_builtin _ F.quiet) ?_
  simp only [checkBuiltinCall, F.newKind, F.newSplit, F.newRow]
  repeat (first | refine wpAny_loadPart_at hC ?_ | (refine wpAny_isSubtype_exc hC ?_; rw [cB]) | refine wpAny_staticBase_exc hC ?_ | refine wpAny_madeBy_exc hC ?_ | simp only [bne_self_eq_false, Bool.false_eq_true, if_false] | wp_step)
  refine codeAny_builtinAt F.entry ?_
  unfold Builtin.«BaseException.__new__»
  refine PySem.wpAt_bind ?_
  show PySem.wpAt _ _ _ (stack >>= _) _ _ _
  refine PySem.wpAt_bind (PySem.wpAt_stack fun p below => PySem.wpAt_of_wpAny ?_)
  have hends := F.ends
  wp_walk
  refine PySem.wpAt_of_wpAny ?_
  rw [F.owner]
  repeat (first | with_reducible refine wpAny_madeHere_exc F.canon hC ?_ | with_reducible refine wpAny_loadPart_at hC ?_ | (with_reducible refine wpAny_isSubtype_exc hC ?_; first | rw [cB] | rw [cA] | rw [cN]) | wp_step)
  show R _ _
  rw [Heap.size_push]
  exact hq

theorem exc_make {v : Value} {fI : Addr} (hC : h.get? C = some (excClassObj nm q C N bs bm hdct sn sub ab col dd k0 k1 k2 k3 k5 "Exception.__new__"))
    (hB : bm.contains (.type "Exception") = true) (hnA : bm.contains (.type "AttributeError") = false) (hnN : bm.contains (.type "NameError") = false)
    (call : Looks (model prog w) h (specialOf (.ref C) "__call__") (some (.builtin "type.__call__"))) (typ : Looks (model prog w) h (isInstance (.ref C) (.type "type")) true)
    (self : Looks (model prog w) h (isSubtype (.ref C) (.ref C)) true) (hi : Looks (model prog w) h (typeLookup (.ref C) "__init__") (some (.ref fI)))
    (hb : ∀ s, Looks (model prog w) h (bindSpecial (.ref fI) s) (.ref fI, [s]))
    (hq : codeAny (model prog w) (A.under (.builtin "type.__call__" ⟨[.ref C, v], []⟩)) (.call (.ref fI) ⟨[.ref (h.objs.size + 1), v], []⟩) (InitBack (h.objs.size + 1) R) ⟨(h.push (tupObj [v])).push (excRaw C h.objs.size), g, d, t, os⟩) :
    codeAny (model prog w) A (.call (.ref C) ⟨[v], []⟩) R ⟨h, g, d, t, os⟩ := by
  have made : Looks (model prog w) h (Bind.madeBy (.ref C)) (some "Exception.__new__") := fun A Q E ⟨_, _, _, _, _⟩ k q => wpAny_madeBy_exc (k _ _ hC) q
  refine codeAny_of_tree ?_
  show wpAny _ _ (callAny (.ref C) _) _ _ _
  refine nd_load hC ?_
  show wpAny _ _ (callAny.viaDunder (.ref C) _) _ _ _
  unfold callAny.viaDunder
  refine wpAny_bind (call.at ?_)
  dsimp only
  rw [tc_bind]
  refine wpAny_bind (wpAny_pure (wpAny_bind (wpAny_pure ?_)))
  refine wpAny_pure (a := Fin.again (.call (.builtin "type.__call__") ⟨[.ref C, v], []⟩)) (And.intro rfl ?_)
  refine codeAny_call_builtin_at (Code.quiet_builtin _ (by decide +kernel)) entry_typeCall (check_slot tc_kind tc_split typ (tc_args _ _ _) ?_)
  unfold Builtin.«type.__call__»
  have hm : Looks (model prog w) h (mroOf (.ref C)) (.ref C :: bm) := fun A Q E ⟨_, _, _, _, _⟩ k q => wpAny_mroOf_exc (k _ _ hC) q
  repeat (first | simp only [List.isEmpty_cons, Bool.false_eq_true, if_false] | with_reducible refine wpAny_call ?_ | lk)
  refine exc_new hC hB hnA hnN (by simp) ?_
  dsimp only
  have k : ∀ b o, h.get? b = some o → ((h.push (tupObj [v])).push (excRaw C h.objs.size)).get? b = some o := fun b o e => Heap.get?_push_of_some _ (Heap.get?_push_of_some _ e)
  have hx : ((h.push (tupObj [v])).push (excRaw C h.objs.size)).get? (h.objs.size + 1) = some (excRaw C h.objs.size) := by heap_get
  have t1 : Looks (model prog w) ((h.push (tupObj [v])).push (excRaw C h.objs.size)) (typeOf (.ref (h.objs.size + 1))) (.ref C) := (Looks.ld hx).andThen .now
  have s1 := self.keeps k
  have i1 := hi.keeps k
  have b1 := (hb (.ref (h.objs.size + 1))).keeps k
  unfold isInstance callSpecial? specialOf
  repeat (first | with_reducible refine wpAny_call ?_ | lk)
  refine codeAny_mono hq fun r s' z => ?_
  rcases r with e | (v | _ | _ | _) <;> first | exact z | exact z.elim | skip
  obtain ⟨rfl, z⟩ := z
  exact wpAny_pure (wpAny_pure z)
end
end

-- part ExcSet
section
open PySem.Calls Builtin Builtin.ObjectAttr Builtin.Getset_descriptor
section
variable {prog : Program} {w : World} {A A' : Around} {K : Frag} {C x dx L : Addr} {R : Result → Shared → Prop} {s : Shared} {h₀ : Heap} {m : PySem.Str → Option Value} {news news' : List (Addr × Obj)} {es es' : List DictEntry} {n n' : Nat} {name : PySem.Str} {v : Value} {tk : Tok}

theorem store_dict (F : Fr h₀ L s.heap m) (N : News h₀ L s.heap news) (U : Upd dx (dictOf es n) (dictOf es' n') news news') (hl : (getL name es).isSome = true)
    (e : (putL name (PyData.keyHash w.params name) (.str name s.toks) v es, putN name es n) = (es', n')) (hz : es'.length ≤ 1000)
    (h : ∀ h', Fr h₀ L h' m → News h₀ L h' news' → R (.ok (.ret .none)) { s with heap := h', toks := s.toks + 1 }) :
    wpAny (model prog w) A' (storeInDict dx (.str name tk) name v)
      (fun fin s' => match fin with | .done f => R (.ok f) s' | .again c' => c'.quiet = true ∧ codeAny (model prog w) A c' R s') (fun e s' => R (.error e) s') s := by
  obtain ⟨pre, post, rfl, rfl, h1, h2⟩ := U.split
  obtain ⟨e1, e2⟩ := Prod.mk.inj e
  have hput : Obj.putName name (PyData.keyHash w.params name) (.str name s.toks) v (dictOf es n) = dictOf es' n' := by rw [putName_dict, e1, e2]
  obtain ⟨U1, U2⟩ := news_upd (f := Obj.putName name (PyData.keyHash w.params name) (.str name s.toks) v) F N h1 h2 hput rfl
  have D := (N (dx, dictOf es n) (by simp)).1
  have D' := (U2 (dx, dictOf es' n') (by simp)).1
  unfold storeInDict newKeyGuard
  refine wpAny_bind (wpAny_pure (wpAny_bind ?_))
  unfold nsSet
  refine wpAny_bind (wpAny_bind (wpAny_askSetting (wpAny_pure (wpAny_bind (wpAny_mkText (wpAny_bind (wpAny_loadPart D ?_)))))))
  have hl' : (lookIn name (dictOf es n)).isSome = true := by rw [lookIn_dict]; exact hl
  have c : (!es.toArray.any (·.key.isStr name) && es.toArray.any (·.refKey)) = false := by
    unfold lookIn dictOf at hl'
    dsimp only at hl'
    rw [← Array.any_toList, ← Array.any_toList]
    split at hl'
    · rename_i en he
      rw [List.any_eq_true.mpr ⟨en, List.mem_of_find?_eq_some he, List.find?_some he⟩]; rfl
    · split at hl'
      · cases hl'
      · rename_i z; rw [Bool.not_eq_true] at z; rw [z, Bool.and_false]
  dsimp only [dictOf]
  rw [aRefKeyMayBeTheName_at, c]
  refine wpAny_updatePart D ?_
  refine wpAny_bind (wpAny_lookBehind D' (by exact pastItsLine_dict (by rw [List.size_toArray, sizeLine_eq]; omega)) ?_)
  exact wpAny_pure (h _ U1 U2)

/-- a class below Exception: the built-in __setattr__ lets it pass -/
def excMro (cd : ClassData) : Bool := match cd.mro with
  | .ref _ :: .ref _ :: r => r == [.type "Exception", .type "BaseException", .type "object"]
  | _ => false
theorem excMro_is {cd : ClassData} (e : excMro cd = true) : ∃ a b, cd.mro = [.ref a, .ref b, .type "Exception", .type "BaseException", .type "object"] := by
  unfold excMro at e
  split at e
  · rename_i a b r q
    exact ⟨a, b, by rw [q, beq_iff_eq.mp e]⟩
  · cases e

theorem xsa_open {ox : Obj} {od : Option Obj} {cd : ClassData} (X : K.In s.heap) (I : InstAt s.heap x ox C od) (hc : clsIn K C = some cd) (hp : excMro cd = true) (ht : takerIn K C name = some none)
    (h : ∀ b, wpAny (model prog w) A.in1 (storeInOwnDict (.ref x) (.ref C) (.str name tk) name v b)
      (fun fin s' => match fin with | .done f => R (.ok f) s' | .again c' => c'.quiet = true ∧ codeAny (model prog w) A c' R s') (fun e s' => R (.error e) s') s) :
    codeAny (model prog w) A (.call (.builtin "object.__setattr__") ⟨[.ref x, .str name tk, v], []⟩) R s := by
  have SF := PySem.F.store_object
  obtain ⟨a, b, hm'⟩ := excMro_is hp
  have hm : Looks (model prog w) s.heap (mroOf (.ref C)) cd.mro := (looks_clsIn X hc).andThen .now
  have sub : Looks (model prog w) s.heap (isInstance (.ref x) (.type "object")) true := I.type.andThen (looks_mroIn X (by unfold mroIn; rw [hc, Option.bind_some, hm']; simp))
  refine codeAny_call_builtin SF.slot.plain SF.entry (@check_slot (model prog w) _ _ s "object.__setattr__" "object" "__setattr__" (.ref x) [.str name tk, v] [] _ SF.kind SF.split sub (SF.args (.ref x) (.str name tk) v) ?_)
  obtain ⟨attr, ha, hr⟩ := Option.bind_eq_some_iff.mp ht
  have L3 : Looks (model prog w) s.heap (storeTaker? attr) none := by
    cases attr with
    | none => cases hr; exact .now
    | some a =>
      obtain ⟨b, hb, e⟩ := Option.map_eq_some_iff.mp hr
      refine (looks_takesIn X hb).andThen ?_
      cases b <;> first | exact .now | (cases e)
  rw [osa_eq, refuse_eq]
  refine wpAny_bind (wpAny_bind (I.type.here (wpAny_bind (hm.here ?_))))
  rw [hm', refuseLoop_ref, refuseLoop_ref, PySem.F.store_Exception.passes]
  refine wpAny_pure (wpAny_bind (I.type.here (wpAny_bind ((looks_findIn X ha).here (wpAny_bind (L3.here ?_))))))
  exact h _

theorem xsa_more {ox : Obj} {cd : ClassData} (F : Fr h₀ L s.heap m) (N : News h₀ L s.heap news) (X : K.In s.heap) (I : InstAt s.heap x ox C (some (dictOf es n))) (hd : ox.dict = some dx) (hc : clsIn K C = some cd) (hp : excMro cd = true) (hh : cd.hasDict = true) (ht : takerIn K C name = some none)
    (U : Upd dx (dictOf es n) (dictOf es' n') news news') (hl : (getL name es).isSome = true)
    (e : (putL name (PyData.keyHash w.params name) (.str name s.toks) v es, putN name es n) = (es', n')) (hz : es'.length ≤ 1000)
    (h : ∀ h', Fr h₀ L h' m → News h₀ L h' news' → R (.ok (.ret .none)) { s with heap := h', toks := s.toks + 1 }) :
    codeAny (model prog w) A (.call (.builtin "object.__setattr__") ⟨[.ref x, .str name tk, v], []⟩) R s := by
  refine xsa_open X I hc hp ht fun b => ?_
  obtain ⟨hx, hcl, hn, -⟩ := I
  obtain ⟨oc, odi, oda, osl⟩ := ox
  dsimp only at hcl hd
  subst hcl hd
  refine wpAny_bind (wpAny_pure (wpAny_bind (wpAny_bind (wpAny_loadPart hx (wpAny_bind ((looks_clsIn X hc).here ?_))))))
  rw [hh]
  refine wpAny_pure (a := some dx) ?_
  dsimp only
  exact store_dict F N U hl e hz h

theorem xsa_first {ovs : Array Value} {osl : Array (Option Value)} {cd : ClassData} (F : Fr h₀ L s.heap m) (N : News h₀ L s.heap news) (X : K.In s.heap) (hc : clsIn K C = some cd) (hp : excMro cd = true) (hh : cd.hasDict = true) (ht : takerIn K C name = some none)
    (U : Upd x ⟨.ref C, none, (.fields ovs), osl⟩ ⟨.ref C, some s.heap.objs.size, (.fields ovs), osl⟩ news news')
    (h : ∀ h', Fr h₀ L h' m → News h₀ L h' ((s.heap.objs.size, dictOf [⟨PyData.keyHash w.params name, .str name s.toks, v⟩] 1) :: news') → R (.ok (.ret .none)) { s with heap := h', toks := s.toks + 1 }) :
    codeAny (model prog w) A (.call (.builtin "object.__setattr__") ⟨[.ref x, .str name tk, v], []⟩) R s := by
  obtain ⟨pre, post, rfl, rfl, h1, h2⟩ := U.split
  have hx := (N (x, ⟨.ref C, none, (.fields ovs), osl⟩) (by simp)).1
  have I : InstAt s.heap x ⟨.ref C, none, (.fields ovs), osl⟩ C none := ⟨hx, rfl, rfl, trivial⟩
  refine xsa_open X I hc hp ht fun b => ?_
  refine wpAny_bind (wpAny_pure (wpAny_bind (wpAny_bind (wpAny_loadPart hx (wpAny_bind ((looks_clsIn X hc).here ?_))))))
  rw [hh]
  have N1 := N.push F emptyDict
  have hx1 := (N1 (x, ⟨.ref C, none, (.fields ovs), osl⟩) (by simp)).1
  have hlt : x < s.heap.objs.size := Heap.lt_size hx
  obtain ⟨U1, U2⟩ := news_upd (d := x) (pre := (s.heap.objs.size, emptyDict) :: pre) (post := post) (o := ⟨.ref C, none, (.fields ovs), osl⟩) (o' := ⟨.ref C, some s.heap.objs.size, (.fields ovs), osl⟩) (f := fun o => { o with dict := some s.heap.objs.size }) (F.push emptyDict) N1
    (fun p hp => by rcases List.mem_cons.mp hp with rfl | hp; exact (Nat.ne_of_gt hlt); exact h1 p hp) h2 rfl rfl
  have e0 : putL name (PyData.keyHash w.params name) (.str name s.toks) v [] = [⟨PyData.keyHash w.params name, .str name s.toks, v⟩] := rfl
  have fin := store_dict (prog := prog) (A := A) (A' := A.in1) (R := R) (tk := tk) (v := v) (name := name) (es := []) (n := 0) (es' := [⟨PyData.keyHash w.params name, .str name s.toks, v⟩]) (n' := 1)
    (s := { s with heap := (s.heap.push emptyDict).update x fun o => { o with dict := some s.heap.objs.size } }) U1 U2 (.head ?_) rfl rfl (by simp) h
  · dsimp only
    simp only [Bool.not_true, Bool.false_eq_true, if_false, Bool.false_or]
    rw [if_neg (by simp [typeHasDict])]
    refine wpAny_bind (wpAny_alloc (wpAny_bind (wpAny_update hx1 ?_)))
    show wpAny _ _ (pure (some s.heap.objs.size) : Sem (Option Addr)) _ _ _
    exact wpAny_pure fin
  · intro p hp
    have hp' : p ∈ pre ++ (x, (⟨.ref C, none, (.fields ovs), osl⟩ : Obj)) :: post ∨ p = (x, ⟨.ref C, some s.heap.objs.size, (.fields ovs), osl⟩) := by
      rcases List.mem_append.mp hp with q | q
      · exact .inl (List.mem_append.mpr (.inl q))
      · rcases List.mem_cons.mp q with q | q
        · exact .inr q
        · exact .inl (List.mem_append.mpr (.inr (.tail _ q)))
    rcases hp' with q | q
    · exact Nat.ne_of_lt (Heap.lt_size (N p q).1)
    · rw [q]; exact Nat.ne_of_lt hlt
end
end

-- part ExcRule
section
open PySem.Calls Builtin Builtin.ObjectAttr Builtin.Getset_descriptor
theorem meta_Exception : typeOf (.type "Exception") = pure (.type "type") := by kernel_rfl

section
variable {prog : Program} {w : World} {A : Around} {h : Heap} {g : Array GenState} {d : Drawn} {t : Nat} {os : OsState} {E : Value → Shared → Prop}
variable {nm q : PySem.Str} {C N : Addr} {bs bm : List Value} {hdct : Bool} {sn : List PySem.Str} {sub : List Value} {ab : Bool} {col : Option Bool} {dd : Option Addr} {k0 k1 k2 k3 k5 : Option Value} {newId : String}

theorem xinit_raw {e t0 : Addr} {oe : Obj} {vs : Array Value} {x : Value} {Q : Value → Shared → Prop} (hC : h.get? C = some (excClassObj nm q C N bs bm hdct sn sub ab col dd k0 k1 k2 k3 k5 newId))
    (hB : bm.contains (.type "Exception") = true) (he : h.get? e = some oe) (hcls : oe.cls = .ref C) (hd : oe.data = .fields vs) (h0 : vs[0]? = some (.ref t0))
    (hq : Q .none ⟨(h.push (tupObj [x])).update e (Obj.mapFields (·.setIfInBounds 0 (.ref h.objs.size))), g, d, t, os⟩) :
    wpAny (model prog w) A (call (.builtin "Exception.__init__") [.ref e, x]) Q E ⟨h, g, d, t, os⟩ := by
  have F := PySem.F.excBase_Exception
  have cB : (Value.ref C :: bm).contains (.type "Exception") = true := by rw [List.contains_cons, hB, Bool.or_true]
  have hshort := F.noStar
  refine wpAny_call (codeAny_call_builtin F.init.plain F.initEntry ?_)
  simp only [checkBuiltinCall, F.initKind, F.initSplit, F.initRow]
  repeat (first | (with_reducible refine wpAny_loadPart_at he ?_; rw [hcls]) | with_reducible refine wpAny_loadPart_at hC ?_ | (with_reducible refine wpAny_isSubtype_exc hC ?_; rw [cB]) | wp_step)
  have hsz : 0 < vs.size := (Array.getElem?_eq_some_iff.mp h0).1
  have he₁ := Heap.get?_push_of_some (h := h) (tupObj [x]) he
  rw [hd]
  refine wpAny_pure ?_
  rw [h0]
  refine wpAny_pure (wpAny_bind (wpAny_setField he₁ hd hsz ?_))
  exact wpAny_letGo (wpAny_pure hq)
end

section
variable {prog : Program} {w : World} {A : Around} {K : Frag} {C x dx e t0 L : Addr} {s : Shared} {h₀ : Heap} {m : PySem.Str → Option Value} {news news' : List (Addr × Obj)} {gg : Obj → List (Addr × Obj)} {es es' : List DictEntry} {n n' : Nat} {name : PySem.Str} {v : Value} {Q : Value → Shared → Prop} {Q' : Unit → Shared → Prop} {E : Value → Shared → Prop}

theorem cls71 {P : Params} {h : Heap} (X : (Mine.hd.heap_1 P).In h) : ∃ nm q N bs hdct sn sub ab col dd k0 k1 k2 k3 k5, h.get? 71 = some (excClassObj nm q 71 N bs [.ref 39, .type "Exception", .type "BaseException", .type "object"] hdct sn sub ab col dd k0 k1 k2 k3 k5 "Exception.__new__") :=
  ⟨_, _, _, _, _, _, _, _, _, _, _, _, _, _, _, X 71 _ (by k_is)⟩

theorem upd_of {d : Addr} {o : Obj} : ∀ {l : List (Addr × Obj)} {g : Obj → List (Addr × Obj)}, UpdF d o l g → ∀ o', Upd d o o' l (g o')
  | _, _, .head h, _ => .head h
  | _, _, .tail h u, o' => .tail h (upd_of u o')

theorem xinit (F : Fr h₀ L s.heap m) (X₀ : (Mine.hd.heap_1 w.params).In h₀) (N : News h₀ L s.heap news) (U : UpdF e (excRaw 71 t0) news gg)
    (h : ∀ t' h', Fr h₀ L h' m → News h₀ L h' ((t', tupObj [v]) :: gg (excRaw 71 t')) → (∀ p ∈ news, p.1 < t') → Q .none { s with heap := h' }) :
    wpAny (model prog w) A (call (.builtin "Exception.__init__") [.ref e, v]) Q E s := by
  obtain ⟨pre, post, rfl, hg, h1, h2⟩ := U.split
  have X := X₀.keeps F.keep
  obtain ⟨nm, q, Nn, bs, hdct, sn, sub, ab, col, dd, k0, k1, k2, k3, k5, hC⟩ := cls71 X
  have he := (N (e, excRaw 71 t0) (by simp)).1
  obtain ⟨hh, g, d, t, os⟩ := s
  refine xinit_raw hC rfl he rfl rfl rfl ?_
  have N1 := N.push F (tupObj [v])
  have hlt : e < hh.objs.size := Heap.lt_size he
  obtain ⟨U1, U2⟩ := news_upd (d := e) (pre := (hh.objs.size, tupObj [v]) :: pre) (post := post) (o := excRaw 71 t0) (o' := excRaw 71 hh.objs.size) (f := Obj.mapFields (·.setIfInBounds 0 (.ref hh.objs.size))) (F.push (tupObj [v])) N1
    (fun p hp => by rcases List.mem_cons.mp hp with rfl | hp; exact (Nat.ne_of_gt hlt); exact h1 p hp) h2 rfl rfl
  exact h _ _ U1 (by rw [hg]; exact U2) fun p hp => Heap.lt_size (N p hp).1

theorem cd71 {P : Params} : ∃ cd, clsIn (Mine.hd.heap_1 P) 71 = some cd ∧ excMro cd = true ∧ cd.hasDict = true := ⟨_, by k_is, rfl, rfl⟩
theorem sa71 {P : Params} : findIn (Mine.hd.heap_1 P) (.ref 71) "__setattr__" = some (some (.builtin "object.__setattr__")) := by k_is
theorem ga71 {P : Params} : findIn (Mine.hd.heap_1 P) (.ref 71) "__getattribute__" = some (some (.builtin "BaseException.__getattribute__")) := by k_is
theorem gt71 {P : Params} : findIn (Mine.hd.heap_1 P) (.ref 71) "__getattr__" = some none := by k_is

abbrev excObj (dx t : Addr) : Obj := { cls := .ref 71, dict := some dx, data := excFields t }

theorem xset0 (F : Fr h₀ L s.heap m) (X₀ : (Mine.hd.heap_1 w.params).In h₀) (N : News h₀ L s.heap news) (ht : takerIn (Mine.hd.heap_1 w.params) 71 name = some none) (U : UpdF e (excRaw 71 t0) news gg)
    (h : ∀ dx h', Fr h₀ L h' m → News h₀ L h' ((dx, dictOf [⟨PyData.keyHash w.params name, .str name (s.toks + 1), v⟩] 1) :: gg (excObj dx t0)) → (∀ p ∈ news, p.1 < dx) → Q' () { s with heap := h', toks := s.toks + 1 + 1 }) :
    wpAny (model prog w) A (setAttr (.ref e) name v) Q' E s := by
  obtain ⟨cd, hc, hp, hh⟩ := cd71 (P := w.params)
  have X := X₀.keeps F.keep
  obtain ⟨pre, post, e1, _, _, _⟩ := id U.split
  have he := N (e, excRaw 71 t0) (by rw [e1]; simp)
  refine set_plain X (I := ⟨he.1, rfl, rfl, trivial⟩) (od := none) sa71 ?_
  exact xsa_first (s := { s with toks := s.toks + 1 }) F N X hc hp hh ht (upd_of U _) fun h' F' N' => h _ h' F' N' fun p hp => Heap.lt_size (N p hp).1

theorem xsetN (F : Fr h₀ L s.heap m) (X₀ : (Mine.hd.heap_1 w.params).In h₀) (N : News h₀ L s.heap news) (ht : takerIn (Mine.hd.heap_1 w.params) 71 name = some none) (hm : (e, excObj dx t0) ∈ news) (hmd : (dx, dictOf es n) ∈ news)
    (hl : (getL name es).isSome = true) (eq : (putL name (PyData.keyHash w.params name) (.str name (s.toks + 1)) v es, putN name es n) = (es', n')) (U : Upd dx (dictOf es n) (dictOf es' n') news news') (hz : es'.length ≤ 1000)
    (h : ∀ h', Fr h₀ L h' m → News h₀ L h' news' → Q' () { s with heap := h', toks := s.toks + 1 + 1 }) :
    wpAny (model prog w) A (setAttr (.ref e) name v) Q' E s := by
  obtain ⟨cd, hc, hp, hh⟩ := cd71 (P := w.params)
  have X := X₀.keeps F.keep
  have I : InstAt s.heap e (excObj dx t0) 71 (some (dictOf es n)) := ⟨(N _ hm).1, rfl, rfl, (N _ hmd).1⟩
  refine set_plain X I sa71 ?_
  exact xsa_more (s := { s with toks := s.toks + 1 }) F N X I rfl hc hp hh ht U hl eq hz h

theorem xget_gen {ox : Obj} {od : Option Obj} {expr : Bool} {cd : ClassData} (X : K.In s.heap) (I : InstAt s.heap x ox C od) (hc : clsIn K C = some cd) (hp : excMro cd = true)
    (hga : findIn K (.ref C) "__getattribute__" = some (some (.builtin "BaseException.__getattribute__"))) (hgt : findIn K (.ref C) "__getattr__" = some none)
    (hf : findObj K C od name = some (.value v)) (hv : handedIn v = true) (h : Q v { s with toks := s.toks + 1 }) :
    wpAny (model prog w) A (getAttr (.ref x) name expr) Q E s := by
  have slot := PySem.F.attr_Exception.ga
  obtain ⟨a, b, hmr⟩ := excMro_is hp
  obtain ⟨hhp, g, d, t, os⟩ := s
  have L0 := I.type (M := model prog w)
  have L1 := looks_findIn (M := model prog w) X hga
  have L2 := looks_findIn (M := model prog w) X hgt
  have L3 := looks_find (M := model prog w) X I hf
  have sub : Looks (model prog w) hhp (isInstance (.ref x) (.type "BaseException")) true := L0.andThen (looks_mroIn X (by unfold mroIn; rw [hc, Option.bind_some, hmr]; simp))
  unfold getAttr getAttrBy
  refine wpAny_bind (wpAny_mkText (wpAny_holding (wpAny_bind (L0.at (wpAny_bind (L1.at ?_))))))
  dsimp only
  rw [if_neg (by simp)]
  unfold getAttrByItsOwn hookBefore
  refine wpAny_bind ?_
  rw [if_pos (show onTheHeap (.ref C) = true from rfl)]
  refine L2.at (wpAny_bind (wpAny_attempt (wpAny_holding ?_)))
  unfold callGetattribute
  rw [if_neg (by cases expr <;> simp [onTheHeap])]
  unfold boundAndCalled
  rw [slot.bind]
  refine wpAny_bind (wpAny_pure ?_)
  dsimp only [List.cons_append, List.nil_append]
  refine wpAny_call ?_
  refine codeAny_call_builtin slot.plain PySem.F.entry_bexc_ga ?_
  refine @check_slot (model prog w) _ _ _ "BaseException.__getattribute__" "BaseException" "__getattribute__" (.ref x) [.str name t] [] _ (by decide +kernel) (by decide +kernel) ?_ (PySem.F.args_bexc_ga _ _) ?_
  · exact sub
  unfold Builtin.«object.__getattribute__»
  refine wpAny_bind (wpAny_pure (wpAny_bind (wpAny_pure (wpAny_bind (L0.at (wpAny_bind (L3.at ?_)))))))
  refine wpAny_pure ?_
  show wpAny _ _ (handedOut v) _ _ _
  rw [handedOut_of hv]; exact wpAny_pure h

theorem xget {dx t0 : Addr} {e : Addr} {expr : Bool} {attr : Option Value} (F : Fr h₀ L s.heap m) (X₀ : (Mine.hd.heap_1 w.params).In h₀) (N : News h₀ L s.heap news) (hm : (e, excObj dx t0) ∈ news) (hmd : (dx, dictOf es n) ∈ news)
    (ha : findIn (Mine.hd.heap_1 w.params) (.ref 71) name = some attr) (hn : noGet (Mine.hd.heap_1 w.params) attr = true) (hl : getL name es = some (some v)) (hv : handedIn v = true) (h : Q v { s with toks := s.toks + 1 }) :
    wpAny (model prog w) A (getAttr (.ref e) name expr) Q E s := by
  obtain ⟨cd, hc, hp, hh⟩ := cd71 (P := w.params)
  exact xget_gen (X₀.keeps F.keep) (I := ⟨(N _ hm).1, rfl, rfl, (N _ hmd).1⟩) (od := some (dictOf es n)) hc hp ga71 gt71 (findObj_own (by unfold hasDictIn; rw [hc]; exact hh) ha hn (by rw [lookIn_dict]; exact hl)) hv h
end
end

-- part Comp
section
open PySem.Calls
section
variable {prog : Program} {w : World} {A : Around} {h₀ : Heap} {L : Addr} {m : PySem.Str → Option Value} {env : Env} {elt ct : PySem.Expr} {x : PySem.Str} {scope : Scope} {cl : List (PySem.Str × Addr)} {s : Shared} {S : List (Addr × Obj) → Prop} {P : Nat → Value → Prop} {Fin : List Value → List (Addr × Obj) → Prop}

theorem comp_ind (n : Nat) (J : Nat → List Value → List (Addr × Obj) → Prop)
    (step : ∀ i ys news, i < n → J i ys news → ∀ v I oI C oC D m₂ h tk (E' : Value → Shared → Prop), P i v → LCg.NsObj oC m₂ → m₂ x = some v → Fr h₀ L h m → News h₀ L h ((I, oI) :: (C, oC) :: (D, LCg.lst ys) :: news) → LCg.Off3 I C D news → ((@Ne Nat I C) ∧ (@Ne Nat I D) ∧ (@Ne Nat C D)) →
      wpAny (model prog w) A (eval elt (compEnvC scope cl C env)) (LCg.CompEnd h₀ L m { s with heap := h, toks := tk } I oI C oC D (LCg.lst ys) S (fun y news' => J (i + 1) (ys ++ [y]) news')) E' { s with heap := h, toks := tk })
    (fin : ∀ ys news, J n ys news → Fin ys news) : ∀ k i ys news, i + k = n → J i ys news → LCg.CompRest prog w A h₀ L m env elt x scope cl s S P Fin k i ys news
  | 0, i, ys, news, e, hj => by
    obtain rfl : i = n := by omega
    exact fin _ _ hj
  | k + 1, i, ys, news, e, hj => by
    refine LCg.CompRest.succ fun v I oI C oC D m₂ h tk E' h1 h2 h3 h4 h5 h6 h7 => ?_
    refine wpAny_mono (step i ys news (by omega) hj v I oI C oC D m₂ h tk E' h1 h2 h3 h4 h5 h6 h7) (fun y s₂ z => ?_) fun _ _ z => z
    obtain ⟨h', tk', news', e', F', N', o', S', r'⟩ := z
    exact ⟨h', tk', news', e', F', N', o', S', comp_ind n J step fin k (i + 1) _ _ (by omega) r'⟩

theorem comp_indT (n : Nat) (J : Nat → List Value → List (Addr × Obj) → Prop)
    (step : ∀ i ys news, i < n → J i ys news → ∀ v I oI C oC D m₂ h tk (E' : Value → Shared → Prop), P i v → LCg.NsObj oC m₂ → m₂ x = some v → Fr h₀ L h m → News h₀ L h ((I, oI) :: (C, oC) :: (D, LCg.lst ys) :: news) → LCg.Off3 I C D news → ((@Ne Nat I C) ∧ (@Ne Nat I D) ∧ (@Ne Nat C D)) →
      wpAny (model prog w) A (isTrue ct (compEnvC scope cl C env) (eval ct (compEnvC scope cl C env))) (fun ok s' => if ok = true then
        wpAny (model prog w) A (eval elt (compEnvC scope cl C env)) (LCg.CompEnd h₀ L m { s with heap := h, toks := tk } I oI C oC D (LCg.lst ys) S (fun y news' => J (i + 1) (ys ++ [y]) news')) E' s'
        else LCg.CompEnd h₀ L m { s with heap := h, toks := tk } I oI C oC D (LCg.lst ys) S (fun _ news' => J (i + 1) ys news') Value.none s') E' { s with heap := h, toks := tk })
    (fin : ∀ ys news, J n ys news → Fin ys news) : ∀ k i ys news, i + k = n → J i ys news → LCt.CompRestT prog w A h₀ L m env ct elt x scope cl s S P Fin k i ys news
  | 0, i, ys, news, e, hj => by
    obtain rfl : i = n := by omega
    exact fin _ _ hj
  | k + 1, i, ys, news, e, hj => by
    refine LCt.CompRestT.succ fun v I oI C oC D m₂ h tk E' h1 h2 h3 h4 h5 h6 h7 => ?_
    refine wpAny_mono (step i ys news (by omega) hj v I oI C oC D m₂ h tk E' h1 h2 h3 h4 h5 h6 h7) (fun ok s₂ z => ?_) fun _ _ z => z
    cases ok with
    | true =>
      rw [if_pos rfl] at z ⊢
      refine wpAny_mono z (fun y s₃ z => ?_) fun _ _ z => z
      obtain ⟨h', tk', news', e', F', N', o', S', r'⟩ := z
      exact ⟨h', tk', news', e', F', N', o', S', comp_indT n J step fin k (i + 1) _ _ (by omega) r'⟩
    | false =>
      rw [if_neg (by decide)] at z ⊢
      obtain ⟨h', tk', news', e', F', N', o', S', r'⟩ := z
      exact ⟨h', tk', news', e', F', N', o', S', comp_indT n J step fin k (i + 1) _ _ (by omega) r'⟩

theorem compEnd2 {I C D : Addr} {s₁ : Shared} {oI oC oD : Obj} {rest : Value → List (Addr × Obj) → Prop} {y : Value} {h' : Heap} {tk : Nat} {p₁ p₂ : Addr × Obj} {news' : List (Addr × Obj)}
    (F : Fr h₀ L h' m) (N : News h₀ L h' (p₁ :: p₂ :: (I, oI) :: (C, oC) :: (D, oD) :: news')) (off : LCg.Off3 I C D (p₁ :: p₂ :: news')) (hS : S (p₁ :: p₂ :: news')) (r : rest y (p₁ :: p₂ :: news')) :
    LCg.CompEnd h₀ L m s₁ I oI C oC D oD S rest y { s₁ with heap := h', toks := tk } :=
  LCg.CompEnd.intro F N (p₁ :: p₂ :: news') (fun p hp => by
    simp only [List.mem_cons] at hp ⊢
    rcases hp with h | h | h | h | h | h <;> simp [h]) off hS r
end
end

-- part Raise
section
open PySem.Calls
section
variable {M : Model} {A : Around} {E : Value → Shared → Prop} {env : Env}
variable {nm q : PySem.Str} {C N : Addr} {bs bm : List Value} {hdct : Bool} {sn : List PySem.Str} {sub : List Value} {ab : Bool} {col : Option Bool} {dd : Option Addr} {k0 k1 k2 k3 k5 : Option Value} {newId : String}

theorem raise_x {s : Shared} {x : PySem.Expr} {pos : Pos} {Q : Flow → Shared → Prop} (hbase : bm.contains (.type "BaseException") = true) (hh : A.handled = none)
    (h : wpAny M A (eval x env) (fun v s₁ => ∃ e t od, v = .ref e ∧ s₁.heap.get? C = some (excClassObj nm q C N bs bm hdct sn sub ab col dd k0 k1 k2 k3 k5 newId) ∧
      s₁.heap.get? e = some { cls := .ref C, dict := od, data := excFields t } ∧ E (.ref e) s₁) E s) :
    wpAny M A (exec (.Raise (some x) none pos) env) Q E s := by
  have hcB : (Value.ref C :: bm).contains (.type "BaseException") = true := by rw [List.contains_cons, hbase, Bool.or_true]
  show wpAny M A (do standAt pos; raiseStmt env (some (do let v ← eval x env; standAt pos; pure v)) none) Q E s
  refine wpAny_bind (wpAny_standAt ?_)
  unfold raiseStmt
  dsimp only
  refine wpAny_bind (wpAny_bind (wpAny_mono h (fun v s₁ h₁ => wpAny_bind (wpAny_standAt (wpAny_pure ?_))) fun _ _ x => x))
  obtain ⟨e, t, od, rfl, hC, he, hE⟩ := h₁
  obtain ⟨hp, g, d, tk, os⟩ := s₁
  repeat (first | with_reducible refine wpAny_loadPart_at he ?_ | with_reducible refine wpAny_loadPart_at hC ?_ | (with_reducible refine wpAny_isSubtype_exc hC ?_; rw [hcB]) | wp_step)
  exact wpAny_raiseNew_none hh hE
end
end

-- part Mild
section
open PySem.Calls
/-- what an object's dict is does not turn -/
def DK (h h' : Heap) : Prop := ∀ b o, h.get? b = some o → ∃ o', h'.get? b = some o' ∧ o'.dict = o.dict
theorem DK.refl (h : Heap) : DK h h := fun _ o e => ⟨o, e, rfl⟩
theorem DK.trans {a b c : Heap} (x : DK a b) (y : DK b c) : DK a c := fun i o e =>
  let ⟨o', e', q⟩ := x i o e; let ⟨o'', e'', q'⟩ := y i o' e'; ⟨o'', e'', q'.trans q⟩
theorem DK.push (h : Heap) (o : Obj) : DK h (h.push o) := fun _ o e => ⟨o, Heap.get?_push_of_some _ e, rfl⟩
theorem DK.update (h : Heap) (a : Addr) (f : Obj → Obj) (hd : ∀ o, (f o).dict = o.dict) (hf : ∀ o, o.isFreed = false → (f o).isFreed = false) : DK h (h.update a f) := fun b o e => by
  by_cases q : a = b
  · subst q
    exact ⟨f o, Heap.get?_update_self f e (hf o (Heap.get?_some_iff.mp e).2), hd o⟩
  · exact ⟨o, (Heap.get?_update_other h f q).trans e, rfl⟩

/-- a tree that calls nothing and turns no object's dict -/
def Mild {α : Type} : Sem α → Prop
  | .pure _ => True
  | .raise _ => True
  | .unsupported _ => True
  | .finish _ => True
  | .rule _ k => Mild (k ())
  | .at _ k => Mild (k ())
  | .load _ _ k => ∀ o, Mild (k o)
  | .update _ _ f k => ((∀ o, (f o).dict = o.dict) ∧ ∀ o, o.isFreed = false → (f o).isFreed = false) ∧ Mild (k ())
  | .alloc _ k => ∀ a, Mild (k a)
  | .point _ k => Mild (k ())
  | .stack k => ∀ l, Mild (k l)
  | _ => False

theorem Mild.bind {α β : Type} {f : α → Sem β} (hf : ∀ a, Mild (f a)) {m : Sem α} (h : Mild m) : Mild (m.bind f) := by
  induction m with
  | pure a => exact hf a
  | raise _ => exact trivial
  | unsupported _ => exact trivial
  | finish _ => exact trivial
  | rule _ k ih => exact ih () h
  | «at» _ k ih => exact ih () h
  | load _ _ k ih => exact fun o => ih o (h o)
  | update _ _ g k ih => exact ⟨h.1, ih () h.2⟩
  | alloc _ k ih => exact fun a => ih a (h a)
  | point _ k ih => exact ih () h
  | stack k ih => exact fun l => ih l (h l)
  | _ => exact absurd h (fun z => z)

theorem wp_mild {α : Type} (M : Model) (Γ : Ctx) (Q : α → Pos → Shared → Prop) (E : Value → Pos → Shared → Prop) (t : Sem α) (p : Pos) (s : Shared) (hm : Mild t) (h : Sem.wp M Γ t Q E p s) :
    Sem.wp M Γ t (fun a p' s' => Q a p' s' ∧ DK s.heap s'.heap) (fun e p' s' => E e p' s' ∧ DK s.heap s'.heap) p s := by
  induction t generalizing p s with
  | pure a => rw [Sem.wp] at h ⊢; exact ⟨h, DK.refl _⟩
  | raise _ => rw [Sem.wp] at h ⊢; exact ⟨h, DK.refl _⟩
  | unsupported _ => rw [Sem.wp] at h; exact h.elim
  | finish _ => rw [Sem.wp] at h; exact h.elim
  | rule _ k ih => rw [Sem.wp] at h ⊢; exact ih () p s hm h
  | «at» p' k ih => rw [Sem.wp] at h ⊢; exact ih () p' s hm h
  | load a _ k ih =>
    rw [Sem.wp] at h ⊢
    obtain ⟨o, e, h⟩ := h
    exact ⟨o, e, ih o p s (hm o) h⟩
  | update a _ f k ih =>
    rw [Sem.wp] at h ⊢
    exact ⟨h.1, Sem.wp_mono M Γ _ (fun _ _ _ z => ⟨z.1, (DK.update _ _ _ hm.1.1 hm.1.2).trans z.2⟩) (fun _ _ _ z => ⟨z.1, (DK.update _ _ _ hm.1.1 hm.1.2).trans z.2⟩) _ _ (ih () p _ hm.2 h.2)⟩
  | alloc o k ih =>
    rw [Sem.wp] at h ⊢
    exact Sem.wp_mono M Γ _ (fun _ _ _ z => ⟨z.1, (DK.push _ _).trans z.2⟩) (fun _ _ _ z => ⟨z.1, (DK.push _ _).trans z.2⟩) _ _ (ih _ p _ (hm _) h)
  | point _ k ih => rw [Sem.wp] at h ⊢; exact ih () p s hm h
  | stack k ih => rw [Sem.wp] at h ⊢; exact ih _ p s (hm _) h
  | _ => exact absurd hm (fun z => z)

theorem wpAny_mild {α : Type} {M : Model} {A : Around} {t : Sem α} {Q : α → Shared → Prop} {E : Value → Shared → Prop} {s : Shared} (hm : Mild t) (h : wpAny M A t Q E s) :
    wpAny M A t (fun a s' => Q a s' ∧ DK s.heap s'.heap) (fun e s' => E e s' ∧ DK s.heap s'.heap) s :=
  fun Γ p hΓ => wp_mild M Γ _ _ t p s hm (h Γ p hΓ)

theorem freed_fields (f : Array Value → Array Value) (o : Obj) (h : o.isFreed = false) : (Obj.mapFields f o).isFreed = false := by
  obtain ⟨c, d, dt, sl⟩ := o
  cases dt <;> first | rfl | exact h
theorem dict_fields (f : Array Value → Array Value) (o : Obj) : (Obj.mapFields f o).dict = o.dict := by
  obtain ⟨c, d, dt, sl⟩ := o
  cases dt <;> rfl

theorem Mild.bind' {α β : Type} {m : Sem α} {f : α → Sem β} (h : Mild m) (hf : ∀ a, Mild (f a)) : Mild (m >>= f) := Mild.bind hf h
theorem Mild.map' {α β : Type} {m : Sem α} {f : α → β} (h : Mild m) : Mild (f <$> m) := Mild.bind (f := fun a => pure (f a)) (fun _ => trivial) h

theorem mild_field (v : Value) (i : Nat) : Mild (field v i) := by
  unfold field
  refine Mild.bind' ?_ fun a => ?_
  · unfold fieldsOf
    cases v <;> first | exact trivial | skip
    refine Mild.bind' (fun o => trivial) fun o => ?_
    cases o.data <;> exact trivial
  · cases a[i]? <;> exact trivial
theorem mild_setField (v : Value) (i : Nat) (x : Value) : Mild (setField v i x) := by
  unfold setField
  cases v <;> first | exact trivial | skip
  unfold updateField
  refine Mild.bind' (fun o => trivial) fun o => ?_
  cases o.data <;> first | exact trivial | skip
  dsimp only
  split
  · exact ⟨⟨dict_fields _, freed_fields _⟩, trivial⟩
  · exact trivial
theorem mild_setFlight (v : Value) (f : Option Addr) : Mild (setFlight v f) := by
  unfold setFlight
  refine Mild.bind' (mild_field _ _) fun a => ?_
  split
  · exact mild_setField _ _ _
  · exact trivial
theorem mild_ready : ∀ l : List Env, Mild (readyFrames l)
  | [] => trivial
  | env :: outer => by
    unfold readyFrames
    cases env.frame with
    | none => exact trivial
    | some f =>
      refine Mild.bind' (fun o => trivial) fun o => ?_
      split
      · exact trivial
      · refine Mild.bind' ?_ fun b => Mild.bind' ?_ fun c => Mild.bind' ⟨⟨fun _ => rfl, fun o h => ?_⟩, trivial⟩ fun _ => mild_ready outer
        · unfold behindIsImport
          split
          · exact trivial
          · split
            · exact trivial
            · exact Mild.bind' (mild_field _ _) fun _ => trivial
        · unfold keptBack
          split
          · split
            · exact trivial
            · refine Mild.bind' ?_ fun _ => trivial
              unfold underTheClaimsCaller
              exact Mild.bind' (fun _ => trivial) fun _ => trivial
          · exact trivial
        · obtain ⟨c, d, dt, sl⟩ := o
          cases dt <;> first | rfl | exact h
theorem mild_frameOf (env : Env) : Mild (PySem.frameOf env) := by
  unfold PySem.frameOf
  refine Mild.bind' ?_ fun l => Mild.bind' ?_ fun a => ?_
  · unfold frameEnvs
    exact Mild.bind' (fun _ => trivial) fun _ => trivial
  · generalize List.dropWhile _ _ = l'
    cases l' with
    | nil => exact trivial
    | cons e o => exact Mild.bind' (mild_ready _) fun _ => trivial
  · cases a <;> exact trivial
theorem mild_place (f : Addr) (b : Bool) : Mild (entryPlaceOf f b) := by
  unfold entryPlaceOf
  refine Mild.bind' (fun _ => trivial) fun acts => ?_
  split <;> exact trivial
theorem mild_newEntry (a b c d e : Value) (l : List Value) : Mild (EntryCells.newEntry a b c d e l) := by
  unfold EntryCells.newEntry newFields newObj newObjAsIs
  dsimp only
  repeat' split
  all_goals first | exact trivial | exact fun _ => trivial
theorem mild_noteFrame (e : Value) (env : Env) : Mild (noteFrame e env) := by
  unfold noteFrame
  cases env.frame with
  | none => exact trivial
  | some f =>
    refine Mild.bind' (mild_field _ _) fun hd => ?_
    have fin : Mild (do setField e 1 (← EntryCells.newEntry hd (← PySem.frameOf env) .none (rawInt f) .none (← entryPlaceOf f (hd != .none))) : Sem Unit) :=
      Mild.bind' (mild_frameOf _) fun _ => Mild.bind' (mild_place _ _) fun _ => Mild.bind' (mild_newEntry _ _ _ _ _ _) fun _ => mild_setField _ _ _
    split
    · refine Mild.bind' (mild_field _ _) fun x => ?_
      split
      · exact trivial
      · exact Mild.bind' (mild_setField _ _ _) fun _ => fin
    · exact fin
theorem mild_leaving (env : Env) (e : Value) : Mild (leaving env e) := Mild.bind' (mild_noteFrame _ _) fun _ => mild_setFlight _ _
end

-- part Leave
section
open PySem.Calls
/-- an error of Thrown is under way: what stands, the frames that it is to pass, its dict -/
def RaisedX (base G : Heap) (l : List Env) (e dx : Addr) (news : List (Addr × Obj)) (h : Heap) : Prop :=
  ∃ B t, base.StaysIn B ∧ (∀ b o, G.get? b = some o → b ∉ l.filterMap (·.frame) → B.get? b = some o) ∧ (∀ q ∈ news, B.get? q.1 = some q.2 ∧ G.get? q.1 = none ∧ base.get? q.1 = none) ∧
    Heap.FlyingW B l e (.ref 71) (.ref t) h ∧ ∃ oe, h.get? e = some oe ∧ oe.dict = some dx

section
variable {M : Model} {A : Around} {E : Value → Shared → Prop} {s' : Shared} {base g h : Heap} {outer : List Env} {L a e t dx : Addr} {m : PySem.Str → Option Value} {name : PySem.Str} {scope : Scope} {cd : Value} {Q : Unit → Shared → Prop} {news : List (Addr × Obj)}

theorem leave_x (K : Below A base outer g) (F : Fr g L s'.heap m) (N : News g L s'.heap ((e, excObj dx t) :: news)) (off : ∀ p ∈ news, p.1 ≠ e)
    (hQ : ∀ h', RaisedX base g outer e dx news h' → g.UpToSlots h' → Q () { s' with heap := h' }) (hk : scope.kind = .function := by rfl) :
    wpAny M (A.deeper (envOf name scope L a cd)) (leaving (envOf name scope L a cd) (.ref e)) Q E s' := by
  have K' := K.push (name := name) (a := a) (cd := cd) F hk
  have he := N _ (.head _)
  have hbe : base.get? e = none := fresh_of_stays K.stays he.2.2
  have hin : ∀ env ∈ (envOf name scope L a cd :: outer), ∀ b, env.frame = some b → b ∈ e :: (envOf name scope L a cd :: outer).filterMap (·.frame) := fun env he b hb => .tail _ (List.mem_filterMap.mpr ⟨env, he, hb⟩)
  have st : base.StaysIn (hideAll s'.heap (e :: (envOf name scope L a cd :: outer).filterMap (·.frame))) := fun b o q => hideAll_get _ (K'.stays b o q) fun hm => by
    rcases List.mem_cons.mp hm with hm | hm
    · rw [hm, hbe] at q; cases q
    · rw [(K'.frames.mem hm).1] at q; cases q
  have sg : ∀ b o, g.get? b = some o → b ∉ outer.filterMap (·.frame) → (hideAll s'.heap (e :: (envOf name scope L a cd :: outer).filterMap (·.frame))).get? b = some o := fun b o q nm => hideAll_get _ (F.keep b o q) fun hm => by
    rcases List.mem_cons.mp hm with hm | hm
    · rw [hm, he.2.2] at q; cases q
    · rcases kts_mem hm with z | z
      · rw [z, kts_self F] at q; cases q
      · exact nm z
  have hl : ∀ q ∈ news, (hideAll s'.heap (e :: (envOf name scope L a cd :: outer).filterMap (·.frame))).get? q.1 = some q.2 ∧ g.get? q.1 = none ∧ base.get? q.1 = none := fun q hq => by
    have hN := N q (.tail _ hq)
    refine ⟨hideAll_get _ hN.1 fun hm => ?_, hN.2.2, fresh_of_stays K.stays hN.2.2⟩
    rcases List.mem_cons.mp hm with hm | hm
    · exact off q hq hm
    · obtain ⟨env, he, hf⟩ := List.mem_filterMap.mp hm
      rcases List.mem_cons.mp he with rfl | he
      · exact hN.2.1 (Option.some.inj hf).symm
      · obtain ⟨o, ho, _⟩ := (K.frames.mem (List.mem_filterMap.mpr ⟨env, he, hf⟩)).2
        rw [hN.2.2] at ho; cases ho
  have hen : (hideAll s'.heap (e :: (envOf name scope L a cd :: outer).filterMap (·.frame))).get? e = none := hideAll_none _ (.head _)
  have key : wpAny M (A.deeper (envOf name scope L a cd)) (leaving (envOf name scope L a cd) (.ref e))
      (fun _ s₂ => ∃ h', s₂ = { s' with heap := h' } ∧ Heap.LeftW (hideAll s'.heap (e :: (envOf name scope L a cd :: outer).filterMap (·.frame))) (envOf name scope L a cd :: outer) e (.ref 71) (.ref t) s'.heap h') E s' :=
    wpAny_leaving_firstW (oe := excObj dx t) K'.stack (funFrames_hide K'.frames hin) rfl he.1 (fun b o q => of_hideAll _ q) hen rfl rfl rfl fun h' hL => ⟨h', rfl, hL⟩
  refine wpAny_mono (wpAny_mild (mild_leaving _ _) key) (fun _ s₂ z => ?_) fun _ _ z => z.1
  obtain ⟨⟨h', rfl, k1, ⟨_, _, k2⟩, k3, k4⟩, dk⟩ := z
  obtain ⟨oe, hoe, hd⟩ := dk e _ he.1
  exact hQ h' ⟨_, t, st, sg, hl, ⟨k1, hen, k2, k3⟩, oe, hoe, hd⟩ ((Heap.UpToSlots.of_keeps F.keep).trans k4)
end

/-- an open frame's environment counts by its address alone -/
theorem frames_as {env : Env} {L a : Addr} {outer : List Env} {name : PySem.Str} {scope : Scope} {cd : Value} (hf : env.frame = some L) : (env :: outer).filterMap (·.frame) = (envOf name scope L a cd :: outer).filterMap (·.frame) := by
  rw [List.filterMap_cons, List.filterMap_cons, hf]
  rfl
theorem ktx_mem {env : Env} {L b : Addr} {outer : List Env} (hf : env.frame = some L) (hm : b ∈ (env :: outer).filterMap (·.frame)) : b = L ∨ b ∈ outer.filterMap (·.frame) := by
  rw [frames_as (name := default) (scope := default) (a := 0) (cd := .none) hf] at hm
  exact kts_mem hm

section
variable {A₀ : Around} {base g G B h₅ : Heap} {outer : List Env} {L : Addr} {m : PySem.Str → Option Value} {env : Env}
theorem ktx_ground (hf : env.frame = some L) (K : Below A₀ base outer g) (F : Fr g L G m) (hBG : ∀ b o, G.get? b = some o → b ∉ (env :: outer).filterMap (·.frame) → B.get? b = some o) (hBh : B.StaysIn h₅) (hsm : G.UpToSlots h₅) :
    ∃ g', KtsTurn (outer.filterMap (·.frame)) g g' ∧ Fr g' L h₅ m ∧ Below A₀ base outer g' := by
  exact kts_ground (name := default) (scope := default) (a := 0) (cd := .none) K F (fun b o e n => hBG b o e (by rw [frames_as hf]; exact n)) hBh hsm
theorem ktx_fresh {b : Addr} (hf : env.frame = some L) (F : Fr g L G m) (hBG : ∀ b o, G.get? b = some o → b ∉ (env :: outer).filterMap (·.frame) → B.get? b = some o) (hb : B.get? b = none)
    (hnf : ∀ o, g.get? b = some o → b ∈ outer.filterMap (·.frame) → False) : g.get? b = none := by
  exact kts_fresh (name := default) (scope := default) (a := 0) (cd := .none) F (fun b o e n => hBG b o e (by rw [frames_as hf]; exact n)) hb hnf
end

section
variable {prog : Program} {w : World} {A₀ : Around} {E : Value → Shared → Prop} {s' : Shared} {base g G : Heap} {outer : List Env} {L a e dx : Addr} {m : PySem.Str → Option Value} {name : PySem.Str} {scope : Scope} {cd : Value} {cl : List (PySem.Str × Addr)}
  {n : PySem.Str} {b₀ : Stmt} {suite : List Stmt} {pos np : Pos} {rest : List ExceptHandler} {Q : Flow → Shared → Prop} {news : List (Addr × Obj)} {p : Program} {loose : List PySem.Str} {mean : ExcName → Option Value} {mg mb : PySem.Str → Option Value}

theorem caught_x (R : RaisedX base G (envX name scope L a cd cl :: outer) e dx news s'.heap) (F : Fr g L G m) (K : Below A₀ base outer g) (hsm : G.UpToSlots s'.heap) (XB : (Mine.hd.heap_1 w.params).In base) (TB : Top p loose mean mg mb base)
    (D : KtsDicts (outer.filterMap (·.frame)) g)
    (k : ∀ h' g' oe tk, KtsTurn (outer.filterMap (·.frame)) g g' → Fr g' L h' (fun y => if y = n then some (.ref e) else m y) → News g' L h' ((e, oe) :: news) → oe.cls = .ref 71 → notCls oe = true → oe.dict = some dx → Below A₀ base outer g' → (Mine.hd.heap_1 w.params).In g' → Top p loose mean mg mb g' → KtsDicts (outer.filterMap (·.frame)) g' →
      wpAny (model prog w) ((A₀.deeper (envX name scope L a cd cl)).mark (some (.ref e))) (execs (b₀ :: suite) (envX name scope L a cd cl))
        (fun f s₄ => wpAny (model prog w) (A₀.deeper (envX name scope L a cd cl)) (do bindName (envX name scope L a cd cl) n .none; unbindBehindTheSuite (envX name scope L a cd cl) n pos) (fun _ s₅ => Q f s₅) E s₄)
        (AsSuiteRaised (model prog w) ((A₀.deeper (envX name scope L a cd cl)).mark (some (.ref e))) (envX name scope L a cd cl) n pos (notedBy (model prog w) ((A₀.deeper (envX name scope L a cd cl)).mark (some (.ref e))) (envX name scope L a cd cl) (cameBackBy (model prog w) (A₀.deeper (envX name scope L a cd cl)) (envX name scope L a cd cl) E)))
        { s' with heap := h', toks := tk })
    (hk : scope.kind = .function := by rfl) (hlo : (envX name scope L a cd cl).kindOf n = some .local := by rfl) (hx : (envX name scope L a cd cl).kindOf (PySem.Str.ofString "Thrown") = some .globalImplicit := by rfl) :
    wpAny (model prog w) (A₀.deeper (envX name scope L a cd cl)) (noteFrame (.ref e) (envX name scope L a cd cl))
      (fun _ s₂ => wpAny (model prog w) (A₀.deeper (envX name scope L a cd cl)) (setFlight (.ref e) none) (fun _ s₃ =>
        wpAny (model prog w) (A₀.deeper (envX name scope L a cd cl)) (handleBy (.ref e) (envX name scope L a cd cl) (.ExceptHandler (some (.Name (PySem.Str.ofString "Thrown") np)) (some n) (b₀ :: suite) pos :: rest)) Q E s₃) E s₂) E s' := by
  obtain ⟨B, t, hB, hBG, hl, hfl, oe₀, he₀, hdx⟩ := R
  have hL : B.get? L = none := by
    obtain ⟨_, ⟨L', _, hf, hn', _⟩, _⟩ := hfl.2.2.1
    obtain rfl : L = L' := Option.some.inj hf
    exact hn'
  have st1 : wpAny (model prog w) (A₀.deeper (envX name scope L a cd cl)) (noteFrame (.ref e) (envX name scope L a cd cl))
      (fun _ s₂ => ∃ h₄, s₂ = { s' with heap := h₄ } ∧ Heap.HeldW B (envX name scope L a cd cl :: outer) e (.ref 71) (.ref t) L h₄ ∧ s'.heap.UpToSlots h₄) E s' :=
    wpAny_looks_onW (Around.frames_deeper K.stack) rfl hfl fun h₄ x y => ⟨h₄, rfl, x, y⟩
  refine wpAny_mono (wpAny_mild (mild_noteFrame _ _) st1) (fun _ s₂ z => ?_) fun _ _ z => z.1
  obtain ⟨⟨h₄, rfl, hheld₄, hsm₄⟩, dk₄⟩ := z
  have st2 : wpAny (model prog w) (A₀.deeper (envX name scope L a cd cl)) (setFlight (.ref e) none)
      (fun _ s₃ => ∃ h₅, s₃ = { s' with heap := h₅ } ∧ Heap.FlyingW B (envX name scope L a cd cl :: outer) e (.ref 71) (.ref t) h₅ ∧ h₄.UpToSlots h₅) E { s' with heap := h₄ } :=
    wpAny_landsW hheld₄ fun h₅ x y => ⟨h₅, rfl, x, y⟩
  refine wpAny_mono (wpAny_mild (mild_setFlight _ _) st2) (fun _ s₃ z => ?_) fun _ _ z => z.1
  obtain ⟨⟨h₅, rfl, hheld, hsm₅'⟩, dk₅⟩ := z
  have hsm₅ := hsm₄.trans hsm₅'
  obtain ⟨g₅, T₅, F₅, K₅⟩ := ktx_ground rfl K F hBG hheld.1 (hsm.trans hsm₅)
  have X₅ : (Mine.hd.heap_1 w.params).In g₅ := XB.keeps K₅.stays
  have P₅ : TopRead p loose mg mb g₅ := topRead_of (TB.keeps K₅.stays)
  obtain ⟨ob, hob, hobc⟩ := hheld.there
  obtain ⟨nm, q', Nn, bs, hdct, sn, sub, ab, col, dd, k0, k1, k2, k3, k5, hC⟩ := cls71 X₅
  have hC₅ := F₅.keep _ _ hC
  refine wpAny_handleBy_cons (codeAny_handlers_test (nameX_K F₅ X₅ P₅ (v := .ref 71) (by k_is) ?_ hk hx (by decide))) (by intro q; cases q)
  refine wpAny_excMatches_sub_self hC₅ hob hobc rfl (codeAny_handlers_suite_as ?_)
  have st3 : wpAny (model prog w) ((A₀.deeper (envX name scope L a cd cl)).mark (some (.ref e))) (setFlight (.ref e) none)
      (fun _ s₄ => ∃ h₆, s₄ = { s' with heap := h₆ } ∧ Heap.FlyingW B (envX name scope L a cd cl :: outer) e (.ref 71) (.ref t) h₆ ∧ h₅.UpToSlots h₆) (notedBy (model prog w) ((A₀.deeper (envX name scope L a cd cl)).mark (some (.ref e))) (envX name scope L a cd cl) (cameBackBy (model prog w) (A₀.deeper (envX name scope L a cd cl)) (envX name scope L a cd cl) E)) { s' with heap := h₅ } :=
    lands_againW hheld fun h₆ x y => ⟨h₆, rfl, x, y⟩
  refine wpAny_mono (wpAny_mild (mild_setFlight _ _) st3) (fun _ s₄ z => ?_) fun _ _ z => z.1
  obtain ⟨⟨h₆, rfl, hfl₆, hsm₆⟩, dk₆⟩ := z
  obtain ⟨g₆, T₆, F₆, K₆⟩ := ktx_ground rfl K F hBG hfl₆.1 ((hsm.trans hsm₅).trans hsm₆)
  obtain ⟨oe, ws, hoe, hoec, hoed, hoe0⟩ := hfl₆.first
  obtain ⟨oe', hoe', hd'⟩ := ((dk₄.trans dk₅).trans dk₆) e _ he₀
  obtain rfl : oe = oe' := Option.some.inj (hoe.symm.trans hoe')
  have ne₆ : g₆.get? e = none := T₆.none_ _ (ktx_fresh rfl F hBG hfl₆.2.1 fun o ho m => by
    obtain ⟨_, o', ho', hd⟩ := K.frames.mem m
    rw [ho] at ho'
    cases ho'
    obtain ⟨sl, hs⟩ := ((hsm.trans hsm₅).trans hsm₆) _ _ (F.keep _ _ ho) hd
    rw [hoe] at hs
    cases hs
    exact hd _ hoed)
  have N₆ : News g₆ L h₆ [(e, oe)] := News.more F₆ News.nil hoe (fun es n q => by rw [hoed] at q; cases q) ne₆
  have Nl : News g₆ L h₆ news := fun q hq => ⟨hfl₆.1 _ _ (hl q hq).1, (fun z => by have := (hl q hq).1; rw [z, hL] at this; cases this), T₆.none_ _ (kts_none F.keep (hl q hq).2.1)⟩
  refine storeX_L F₆ (news := (e, oe) :: news) (fun q hq => ?_) (fun h₇ F₇ N₇ => ?_) hk hlo
  · rcases List.mem_cons.mp hq with rfl | hq
    · exact N₆ _ (.head _)
    · exact Nl q hq
  · exact k h₇ g₆ oe _ T₆ F₇ N₇ hoec (by obtain ⟨_, _, dt, _⟩ := oe; cases hoed; rfl) (hd'.trans hdx) K₆ (XB.keeps K₆.stays) (TB.keeps K₆.stays) (D.turn T₆)
theorem caught_xC (R : RaisedX base G (envOfC name scope L a cd :: outer) e dx news s'.heap) (F : Fr g L G m) (K : Below A₀ base outer g) (hsm : G.UpToSlots s'.heap) (XB : (Mine.hd.heap_1 w.params).In base) (TB : Top p loose mean mg mb base)
    (D : KtsDicts (outer.filterMap (·.frame)) g)
    (k : ∀ h' g' oe tk, KtsTurn (outer.filterMap (·.frame)) g g' → Fr g' L h' (fun y => if y = n then some (.ref e) else m y) → News g' L h' ((e, oe) :: news) → oe.cls = .ref 71 → notCls oe = true → oe.dict = some dx → Below A₀ base outer g' → (Mine.hd.heap_1 w.params).In g' → Top p loose mean mg mb g' → KtsDicts (outer.filterMap (·.frame)) g' →
      wpAny (model prog w) ((A₀.deeper (envOfC name scope L a cd)).mark (some (.ref e))) (execs (b₀ :: suite) (envOfC name scope L a cd))
        (fun f s₄ => wpAny (model prog w) (A₀.deeper (envOfC name scope L a cd)) (do bindName (envOfC name scope L a cd) n .none; unbindBehindTheSuite (envOfC name scope L a cd) n pos) (fun _ s₅ => Q f s₅) E s₄)
        (AsSuiteRaised (model prog w) ((A₀.deeper (envOfC name scope L a cd)).mark (some (.ref e))) (envOfC name scope L a cd) n pos (notedBy (model prog w) ((A₀.deeper (envOfC name scope L a cd)).mark (some (.ref e))) (envOfC name scope L a cd) (cameBackBy (model prog w) (A₀.deeper (envOfC name scope L a cd)) (envOfC name scope L a cd) E)))
        { s' with heap := h', toks := tk })
    (hk : scope.kind = .function := by rfl) (hlo : (envOfC name scope L a cd).kindOf n = some .local := by rfl) (hx : (envOfC name scope L a cd).kindOf (PySem.Str.ofString "Thrown") = some .globalImplicit := by rfl) :
    wpAny (model prog w) (A₀.deeper (envOfC name scope L a cd)) (noteFrame (.ref e) (envOfC name scope L a cd))
      (fun _ s₂ => wpAny (model prog w) (A₀.deeper (envOfC name scope L a cd)) (setFlight (.ref e) none) (fun _ s₃ =>
        wpAny (model prog w) (A₀.deeper (envOfC name scope L a cd)) (handleBy (.ref e) (envOfC name scope L a cd) (.ExceptHandler (some (.Name (PySem.Str.ofString "Thrown") np)) (some n) (b₀ :: suite) pos :: rest)) Q E s₃) E s₂) E s' :=
  caught_x (cl := cellsFrom (L + 1) scope.names []) R F K hsm XB TB D k hk hlo hx
end
end

-- part Src
section
open PySem.Calls
theorem fmod_lo (z : Int) : 0 ≤ z.fmod 2147483647 + 5 := by
  rw [Int.fmod_eq_emod_of_nonneg _ (by decide)]; omega
theorem fmod_hi (z : Int) : z.fmod 2147483647 + 5 < 2 ^ 32 := by
  rw [Int.fmod_eq_emod_of_nonneg _ (by decide)]; omega

set_option maxHeartbeats 4000000 in
theorem source_c {w : World} {mean : ExcName → Option Value} {mg mb : PySem.Str → Option Value} {l : Addr} {vs : List Value} {ns : List Int} {news : List (Addr × Obj)}
    {dp un : Nat} {gd : Option (List Code)} {cn : PySem.Str} {cs : Scope} {a : Addr} {ccd : Value} {cl : List (PySem.Str × Addr)} {outer : List Env} {A₀ : Around} {base h₀ : Heap} {L : Addr} {m : PySem.Str → Option Value} {s : Shared} {Q E : Value → Shared → Prop}
    (B : Below A₀ base outer h₀) (F : Fr h₀ L s.heap m) (X : (Mine.hd.heap_1 w.params).In h₀) (N : News h₀ L s.heap news) (T : Top Mine.hd.view_1 LS mean mg mb h₀) (hkk : cs.kind = .function) (hd : dp + 10 < 500) (hu : un + 100 < 5000)
    (hl : h₀.IsList l vs.toArray) (hi : IntsAre vs ns) (hlen : ns.length ≤ 63)
    (hret : ∀ D a ta b tb h' tk', Fr h₀ L h' m → News h₀ L h' ((D, listOf #[Value.int a ta, .int b tb] 0) :: news) → (∀ p ∈ news, p.1 < D) → 0 ≤ b → b < 2 ^ 32 → Q (.ref D) { s with heap := h', toks := tk' }) :
    wpAny (model PySem.Challenge.rw_pq0693_01.row.prog w) (ktrTop dp un gd cn cs L a ccd cl outer) (call (.ref 278) [.ref l]) Q E s := by
  refine wpAny_call ?_
  k_dflt ktr_enter
  rename Fr _ _ _ m => FG
  have hl2 := hl.at fun o e => FG.keep l o e
  k_steps
  all_goals first
    | (refine hret _ _ _ _ _ _ _ (by k_asm) (by k_asm) ?_ ?_ ?_
       · first | exact ktn_ltOf (by assumption) | assumption
       · exact fmod_lo _
       · exact fmod_hi _)
end

-- part Rules
section
open PySem.Calls
def Stop (P : Prop) : Prop := P
theorem leN {a b : Nat} (h : a ≤ b) : a ≤ b := h
theorem stop_in {P : Prop} (h : Stop P) : P := h

theorem kl_last_app : ∀ (p : List Value) (y : Value), kl_last (p ++ [y]) = some (p, y)
  | [], y => rfl
  | x :: p, y => by
    show (match kl_last (p ++ [y]) with | some (p, y) => some (x :: p, y) | none => some ([], x)) = _
    rw [kl_last_app p y]

section
variable {prog : Program} {w : World} {A : Around} {E : Value → Shared → Prop} {s : Shared} {h₀ : Heap} {L l : Addr} {m : PySem.Str → Option Value} {news news' : List (Addr × Obj)} {xs ys : List Value} {v : Value} {n k : Nat} {Q : Value → Shared → Prop}

theorem my_len (N : News h₀ L s.heap news) (hm : (l, listOf xs.toArray n) ∈ news) (hx : xs.length ≤ 100000)
    (h : ∀ t, Q (.int xs.length t) { s with toks := s.toks + 1 + 1 }) : wpAny (model prog w) A (call (.builtin "len") [.ref l]) Q E s := by
  have hl : s.heap.IsList l xs.toArray := ⟨_, (N _ hm).1, rfl, n, rfl⟩
  refine len_list hl ?_ ?_
  · rw [List.size_toArray]; omega
  · have := h (s.toks + 1)
    simpa using this

theorem my_last {value slice : PySem.Expr} {u : Tok} (N : News h₀ L s.heap news) (hm : (l, listOf (ys ++ [v]).toArray n) ∈ news) (hx : ys.length ≤ 100000) (h : Q v s)
    (hs : subscripted slice false (.ref l) (.int (-1) u) = operate [.ref l, .int (-1) u] (getItem (.ref l) (.int (-1) u)) := by with_unfolding_all rfl) (hg : ∀ r, letTemporaryGo value (.ref l) r = pure () := by intro _; with_unfolding_all rfl) :
    wpAny (model prog w) A (subscriptTail value slice (.ref l) (.int (-1) u)) Q E s := by
  refine kim_back (l := ys ++ [v]) N hm rfl rfl (by decide) ?_ (by decide) ?_ h hs hg
  · rw [List.length_append, List.length_singleton]; omega
  · have e : (-1 + ((ys ++ [v]).length : Int)).toNat = ys.length := by rw [List.length_append, List.length_singleton]; omega
    rw [e]; simp

theorem my_pop (F : Fr h₀ L s.heap m) (N : News h₀ L s.heap news) (U : Upd l (listOf (ys ++ [v]).toArray n) (listOf ys.toArray (n + 1)) news news') (hx : ys.length ≤ 100000)
    (h : ∀ h', Fr h₀ L h' m → News h₀ L h' news' → Q v { s with heap := h' }) : wpAny (model prog w) A (call (.builtin "list.pop") [.ref l]) Q E s :=
  kl_pop F N (by rw [List.toList_toArray]; exact kl_last_app ys v) U (by rw [List.toList_toArray, List.length_append, List.length_singleton, sizeLine_eq]; omega) h

theorem my_append (F : Fr h₀ L s.heap m) (N : News h₀ L s.heap news) (U : Upd l (listOf xs.toArray n) (listOf (xs ++ [v]).toArray (n + 1)) news news') (hx : xs.length ≤ 100000)
    (h : ∀ h', Fr h₀ L h' m → News h₀ L h' news' → Q .none { s with heap := h' }) : wpAny (model prog w) A (call (.builtin "list.append") [.ref l, v]) Q E s :=
  append_K (hsz := by rw [List.size_toArray, sizeLine_eq]; omega) F N (by rw [List.push_toArray]; exact U) h

theorem my_slice {value slice : PySem.Expr} {vl vu : Value} {lo hi : Option Int} (F : Fr h₀ L s.heap m) (N : News h₀ L s.heap news) (hm : (l, listOf xs.toArray n) ∈ news) (pl : IsPart vl lo) (pu : IsPart vu hi) (hx : xs.length ≤ 100000)
    (h : ∀ D h', Fr h₀ L h' m → News h₀ L h' ((D, listOf (kms_pick xs lo hi).toArray 0) :: news) → (∀ p ∈ news, p.1 < D) → Q (.ref D) { s with heap := h' })
    (hs : subscripted slice false (.ref l) (.ref s.heap.objs.size) = operate [.ref s.heap.objs.size, .ref l] (getItem (.ref l) (.ref s.heap.objs.size))) (ht : ∀ r, letTemporaryGo value (.ref l) r = pure ()) :
    wpAny (model prog w) A (subscriptTail value slice (.ref l) (.ref s.heap.objs.size)) Q E { s with heap := s.heap.push { cls := .type "slice", data := .fields #[vl, vu, .none] } } :=
  kms_slice_lit F N ⟨_, (N _ hm).1, rfl, n, rfl⟩ pl pu (by rw [List.toList_toArray]) h hs ht (by rw [List.size_toArray, sizeLine_eq]; omega)

theorem my_copy (F : Fr h₀ L s.heap m) (N : News h₀ L s.heap news) (hm : (l, listOf xs.toArray n) ∈ news) (hx : xs.length ≤ 100000)
    (h : ∀ D c h', Fr h₀ L h' m → News h₀ L h' ((D, listOf xs.toArray c) :: news) → (∀ q ∈ news, q.1 < D) → Q (.ref D) { s with heap := h' }) :
    wpAny (model prog w) A (call (.type "list") [.ref l]) Q E s :=
  list_copyK F N ⟨_, (N _ hm).1, rfl, n, rfl⟩ h (by rw [List.size_toArray, sizeLine_eq]; omega)

theorem my_cat {a b : Addr} (F : Fr h₀ L s.heap m) (N : News h₀ L s.heap news) (ha : (a, listOf xs.toArray n) ∈ news) (hb : (b, listOf ys.toArray k) ∈ news) (hx : xs.length ≤ 100000) (hy : ys.length ≤ 100000)
    (h : ∀ D h', Fr h₀ L h' m → News h₀ L h' ((D, listOf (xs ++ ys).toArray 0) :: news) → (∀ p ∈ news, p.1 < D) → Q (.ref D) { s with heap := h' }) :
    wpAny (model prog w) A (binaryOp .Add (.ref a) (.ref b)) Q E s :=
  kmk_add_lit F N ⟨_, (N _ ha).1, rfl, n, rfl⟩ ⟨_, (N _ hb).1, rfl, k, rfl⟩ (by rw [List.toList_toArray, List.toList_toArray]) h (by rw [List.toList_toArray, List.toList_toArray, sizeLine_eq]; omega)
end

section
variable {prog : Program} {w : World} {A : Around} {E : Value → Shared → Prop} {s : Shared} {h₀ : Heap} {L l b : Addr} {m : PySem.Str → Option Value} {news : List (Addr × Obj)} {xs : List Value} {u va vb : Value} {da db : Dat} {n k : Nat} {Q : Value → Shared → Prop}

theorem my_eq_nil (N : News h₀ L s.heap news) (ha : (l, listOf (xs ++ [u]).toArray n) ∈ news) (hb : (b, listOf ([] : List Value).toArray k) ∈ news) (hu : A.units < cLine) (h : Q (.bool false) s) :
    wpAny (model prog w) A (compareOp .Eq (.ref l) (.ref b)) Q E s := by
  refine SeqAt.eq_list_lengthsAt (items := (xs ++ [u]).toArray) (items2 := #[]) ⟨_, (N _ ha).1, rfl, n, rfl⟩ ⟨_, (N _ hb).1, rfl, k, rfl⟩ ?_ hu h
  simp

open Classical in
theorem my_eq (N : News h₀ L s.heap news) (ha : DatIn news va da) (hb : DatIn news vb db) (oa : kqdOk 8 da = true) (ob : kqdOk 8 db = true) (hu : A.units + 64 < cLine) (h : Q (.bool (decide (da = db))) s) :
    wpAny (model prog w) A (compareOp .Eq va vb) Q E s := by
  obtain ⟨as, ra⟩ := kqd_in N 8 ha oa
  obtain ⟨bs, rb⟩ := kqd_in N 8 hb ob
  have q1 := kqd_lay 8 da oa
  have q2 := kqd_lay 8 db ob
  have e : PyData.eqv (kqdP da) (kqdP db) = decide (da = db) := by
    have q := kqd_eqv 8 da db 8 oa ob
    by_cases hq : da = db
    · rw [decide_eq_true hq]; exact q.mpr hq
    · rw [decide_eq_false hq]; exact Bool.eq_false_iff.mpr fun x => hq (q.mp x)
  refine eq_dataH ra rb ?_ ?_ hu (by rw [e]; exact h)
  · unfold SeqAt.shaped; rw [q1.1, Bool.true_and]; exact decide_eq_true (Nat.le_trans q1.2 (by decide))
  · unfold SeqAt.shaped; rw [q2.1, Bool.true_and]; exact decide_eq_true (Nat.le_trans q2.2 (by decide))

open Classical in
theorem my_ne (N : News h₀ L s.heap news) (ha : DatIn news va da) (hb : DatIn news vb db) (oa : kqdOk 8 da = true) (ob : kqdOk 8 db = true) (hu : A.units + 64 < cLine) (h : Q (.bool (!decide (da = db))) s) :
    wpAny (model prog w) A (compareOp .NotEq va vb) Q E s := by
  obtain ⟨as, ra⟩ := kqd_in N 8 ha oa
  obtain ⟨bs, rb⟩ := kqd_in N 8 hb ob
  have q1 := kqd_lay 8 da oa
  have q2 := kqd_lay 8 db ob
  have e : PyData.eqv (kqdP da) (kqdP db) = decide (da = db) := by
    have q := kqd_eqv 8 da db 8 oa ob
    by_cases hq : da = db
    · rw [decide_eq_true hq]; exact q.mpr hq
    · rw [decide_eq_false hq]; exact Bool.eq_false_iff.mpr fun x => hq (q.mp x)
  refine ne_dataH ra rb ?_ ?_ hu (by rw [e]; exact h)
  · unfold SeqAt.shaped; rw [q1.1, Bool.true_and]; exact decide_eq_true (Nat.le_trans q1.2 (by decide))
  · unfold SeqAt.shaped; rw [q2.1, Bool.true_and]; exact decide_eq_true (Nat.le_trans q2.2 (by decide))
end

theorem ints_dat {news : List (Addr × Obj)} : ∀ {vs : List Value} {ns : List Int}, IntsAre vs ns → DatAll news vs (ns.map Dat.int)
  | _, _, .nil => .nil
  | _, _, .cons _ _ h => .cons (.int _ _) (ints_dat h)

theorem allLt_ne {d : Addr} : ∀ {l : List (Addr × Obj)}, AllLt d l → ∀ p ∈ l, p.1 ≠ d
  | [], _, _, hp => nomatch hp
  | q :: r, h, p, hp => by
    rcases List.mem_cons.mp hp with rfl | hp
    · exact Nat.ne_of_lt h.1
    · exact allLt_ne h.2 p hp

theorem Tell.use {w : World} {mean : ExcName → Option Value} {mg mb : PySem.Str → Option Value} {dd uu : Nat} {f : Addr} {vs : List Value} {news news₀ : List (Addr × Obj)} {R : Value → List (Addr × Obj) → Prop}
    {dp un : Nat} {gd : Option (List Code)} {cn : PySem.Str} {cs : Scope} {a : Addr} {ccd : Value} {cl : List (PySem.Str × Addr)} {outer : List Env} {A₀ : Around} {base h₀ : Heap} {L : Addr} {m : PySem.Str → Option Value} {s : Shared} {Q E : Value → Shared → Prop}
    (C : Tell w mean mg mb dd uu f vs news R) (B : Below A₀ base outer h₀) (F : Fr h₀ L s.heap m) (X : (Mine.hd.heap_1 w.params).In h₀) (N : News h₀ L s.heap news₀) (T : Top Mine.hd.view_1 LS mean mg mb h₀) (hk : cs.kind = .function)
    (hd : dp + dd < 500) (hu : un + uu < 5000) (sub : ∀ p ∈ news, p ∈ news₀)
    (ret : ∀ r news' h' tk', Fr h₀ L h' m → News h₀ L h' news' → R r news' → Q r { s with heap := h', toks := tk' }) :
    wpAny (model PySem.Challenge.rw_pq0693_01.row.prog w) (ktrTop dp un gd cn cs L a ccd cl outer) (call (.ref f) vs) Q E s :=
  C _ _ _ _ _ _ _ _ _ _ _ _ _ _ _ _ _ B F X (fun p hp => N p (sub p hp)) T hk hd hu ret
end

section
local macro_rules | `(tactic| k_all) => `(tactic| exact allLt_ne (by assumption))
local macro_rules | `(tactic| k_all) => `(tactic| assumption)
local macro_rules | `(tactic| k_lt $h) => `(tactic| (replace $h := allLt_of $h; (try simp only [AllLt, and_true] at $h:ident); (repeat (have := And.left $h; replace $h := And.right $h))))
local macro_rules | `(tactic| k_mem) => `(tactic| assumption)
local macro_rules | `(tactic| size_fits) => `(tactic| (simp only [List.length_append, List.length_cons, List.length_nil, List.length_map, List.length_singleton, sizeLine_eq]; omega))
local macro_rules | `(tactic| walk_at "call builtin:len") => `(tactic| (k_here; (with_reducible show wpAny _ _ (call (Value.builtin "len") [Value.ref _]) _ _ _); k_dflt (refine' my_len ?k1 ?k2 ?k3 ?_; (case k1 => k_asm); (case k2 => k_mem); (case k3 => (refine leN ?_; first | assumption | omega | ((simp only [List.length_append, List.length_cons, List.length_nil, List.length_map, List.length_singleton]); omega))); k_whole); intro _))
local macro_rules | `(tactic| walk_at "subscriptTail") => `(tactic| (k_here; (with_reducible show wpAny _ _ (subscriptTail _ (PySem.Expr.UnaryOp _ _ _) (Value.ref _) (Value.int _ _)) _ _ _); k_dflt (refine' my_last ?k1 ?k2 ?k3 ?_; (case k1 => k_asm); (case k2 => k_mem); (case k3 => (refine leN ?_; first | assumption | omega | ((simp only [List.length_append, List.length_cons, List.length_nil, List.length_map, List.length_singleton]); omega))); k_whole)))
local macro_rules | `(tactic| walk_at "call builtin:list.pop") => `(tactic| (k_here; k_dflt (refine' my_pop ?k1 ?k2 ?k3 ?k4 ?_; (case k1 => k_asm); (case k2 => k_asm); (case k3 => k_upd); (case k4 => (refine leN ?_; first | assumption | omega | ((simp only [List.length_append, List.length_cons, List.length_nil, List.length_map, List.length_singleton]); omega))); k_whole); intro h' F' N'; (try k_sweep)))
local macro_rules | `(tactic| walk_at "call builtin:list.append") => `(tactic| (k_here; (with_reducible show wpAny _ _ (call (Value.builtin _) [Value.ref _, _]) _ _ _); k_dflt (refine' my_append ?k1 ?k2 ?k3 ?k4 ?_; (case k1 => k_asm); (case k2 => k_asm); (case k3 => k_upd); (case k4 => (refine leN ?_; first | assumption | omega | ((simp only [List.length_append, List.length_cons, List.length_nil, List.length_map, List.length_singleton]); omega))); k_whole); intro h' F' N'; (try k_sweep)))
local macro_rules | `(tactic| walk_at "subscriptTail Name Slice ref ref") => `(tactic| (k_here; (with_reducible show wpAny _ _ (subscriptTail _ (PySem.Expr.Slice _ _ none _) (Value.ref _) (Value.ref _)) _ _ _); k_dflt (refine' my_slice ?F ?N ?l ?p ?q ?z ?_ ?s ?t; (case F => k_asm); (case N => k_asm); (case l => k_mem); (case p => kmk_part); (case q => kmk_part); (case z => (refine leN ?_; first | assumption | omega | ((simp only [List.length_append, List.length_cons, List.length_nil, List.length_map, List.length_singleton]); omega))); (case s => with_unfolding_all rfl); (case t => kmk_pure)); intro D' h' F' N' l1; (try k_lt l1); (try k_sweep)))
local macro_rules | `(tactic| walk_at "subscriptTail Attribute Name Slice ref ref") => `(tactic| (k_here; (with_reducible show wpAny _ _ (subscriptTail _ (PySem.Expr.Slice _ _ none _) (Value.ref _) (Value.ref _)) _ _ _); k_dflt (refine' my_slice ?F ?N ?l ?p ?q ?z ?_ ?s ?t; (case F => k_asm); (case N => k_asm); (case l => k_mem); (case p => kmk_part); (case q => kmk_part); (case z => (refine leN ?_; first | assumption | omega | ((simp only [List.length_append, List.length_cons, List.length_nil, List.length_map, List.length_singleton]); omega))); (case s => with_unfolding_all rfl); (case t => kmk_pure)); intro D' h' F' N' l1; (try k_lt l1); (try k_sweep)))
local macro_rules | `(tactic| walk_at "binaryOp Add ref ref") => `(tactic| (k_here; (with_reducible show wpAny _ _ (binaryOp _ (Value.ref _) (Value.ref _)) _ _ _); k_dflt (refine' my_cat ?F ?N ?a ?b ?z ?y ?_; (case F => k_asm); (case N => k_asm); (case a => k_mem); (case b => k_mem); (case z => (refine leN ?_; first | assumption | omega | ((simp only [List.length_append, List.length_cons, List.length_nil, List.length_map, List.length_singleton]); omega))); (case y => (refine leN ?_; first | assumption | omega | ((simp only [List.length_append, List.length_cons, List.length_nil, List.length_map, List.length_singleton]); omega)))); intro D' h' F' N' l1; (try k_lt l1); (try k_sweep)))
local macro_rules | `(tactic| walk_at "compareOp Eq ref ref") => `(tactic| (k_here; (with_reducible show wpAny _ _ (compareOp CmpOp.Eq (Value.ref _) (Value.ref _)) _ _ _); k_dflt (refine' my_eq_nil ?N ?a ?b ?u ?_; (case N => k_asm); (case a => k_mem); (case b => k_mem); (case u => ((simp only [units_in1, units_deeper, Around.mark_units, cLine_is]); (try dsimp only [ktrTop]); omega)); k_whole)))
local macro_rules | `(tactic| k_ne) => `(tactic| first | assumption | exact Ne.symm (by assumption) | (dsimp only; first | assumption | exact Ne.symm (by assumption)))
local macro_rules | `(tactic| k_room) => `(tactic| ((show _ < 1000); (simp only [depth_under_make, depth_under_kw, depth_in1, depth_deeper, depth_caller]); (try dsimp only [ktrTop]); omega))
local macro_rules | `(tactic| walk_at "call type:list") => `(tactic| (k_here; (with_reducible show wpAny _ _ (call (Value.type _) [Value.ref _]) _ _ _); k_dflt (refine' my_copy ?F ?N ?m ?z ?_; (case F => k_asm); (case N => k_asm); (case m => k_mem); (case z => (refine leN ?_; first | assumption | omega | ((simp only [List.length_append, List.length_cons, List.length_nil, List.length_map, List.length_singleton]); omega)))); intro D' c' h' F' N' l1; (try k_lt l1); (try k_sweep)))
local macro_rules | `(tactic| k_handed) => `(tactic| assumption)
-- part Meth
section
abbrev Ent (w : World) (x : PySem.Str) (t : Tok) (v : Value) : DictEntry := ⟨PyData.keyHash w.params x, .str x t, v⟩
abbrev framesD (w : World) (t : Tok) (rl : Addr) : Obj := dictOf [Ent w (PySem.Str.ofString "rows") t (.ref rl)] 1
section
variable {w : World} {mean : ExcName → Option Value} {mg mb : PySem.Str → Option Value} {f fd rl : Addr} {ft : Tok} {xs ys : List Value} {v : Value} {n : Nat} {rest : List (Addr × Obj)}

set_option maxHeartbeats 4000000 in
theorem many_c (hx : xs.length ≤ 1000) :
    Tell w mean mg mb 10 100 197 [.ref f] ((f, instObj 235 fd) :: (fd, framesD w ft rl) :: (rl, listOf xs.toArray n) :: rest)
      (fun r news' => ∃ t, r = .int xs.length t ∧ news' = (f, instObj 235 fd) :: (fd, framesD w ft rl) :: (rl, listOf xs.toArray n) :: rest) := by
  unfold Tell
  intro dp un gd cn cs a ccd cl outer A₀ base h₀ L m s Q E B F X N T hkk hd hu hret
  refine wpAny_call ?_
  k_dflt ktr_enter
  k_steps
  exact hret _ _ _ _ (by k_asm) (by k_asm) ⟨_, rfl, rfl⟩

set_option maxHeartbeats 4000000 in
theorem top_c (hx : ys.length ≤ 1000) :
    Tell w mean mg mb 10 100 204 [.ref f] ((f, instObj 235 fd) :: (fd, framesD w ft rl) :: (rl, listOf (ys ++ [v]).toArray n) :: rest)
      (fun r news' => r = v ∧ news' = (f, instObj 235 fd) :: (fd, framesD w ft rl) :: (rl, listOf (ys ++ [v]).toArray n) :: rest) := by
  unfold Tell
  intro dp un gd cn cs a ccd cl outer A₀ base h₀ L m s Q E B F X N T hkk hd hu hret
  refine wpAny_call ?_
  k_dflt ktr_enter
  k_steps
  exact hret _ _ _ _ (by k_asm) (by k_asm) ⟨rfl, rfl⟩

set_option maxHeartbeats 4000000 in
theorem pop_c (hx : ys.length ≤ 1000) (h1 : (f : Nat) ≠ rl) (h2 : (fd : Nat) ≠ rl) (h3 : ∀ p ∈ rest, p.1 ≠ rl) :
    Tell w mean mg mb 10 100 218 [.ref f] ((f, instObj 235 fd) :: (fd, framesD w ft rl) :: (rl, listOf (ys ++ [v]).toArray n) :: rest)
      (fun r news' => r = v ∧ news' = (f, instObj 235 fd) :: (fd, framesD w ft rl) :: (rl, listOf ys.toArray (n + 1)) :: rest) := by
  unfold Tell
  intro dp un gd cn cs a ccd cl outer A₀ base h₀ L m s Q E B F X N T hkk hd hu hret
  refine wpAny_call ?_
  k_dflt ktr_enter
  k_steps
  exact hret _ _ _ _ (by k_asm) (by k_asm) ⟨rfl, rfl⟩

set_option maxHeartbeats 4000000 in
theorem push_c (hx : xs.length ≤ 100) (h1 : (f : Nat) ≠ rl) (h2 : (fd : Nat) ≠ rl) (h3 : ∀ p ∈ rest, p.1 ≠ rl) :
    Tell w mean mg mb 10 100 211 [.ref f, v] ((f, instObj 235 fd) :: (fd, framesD w ft rl) :: (rl, listOf xs.toArray n) :: rest)
      (fun r news' => news' = (f, instObj 235 fd) :: (fd, framesD w ft rl) :: (rl, listOf (xs ++ [v]).toArray (n + 1)) :: rest) := by
  unfold Tell
  intro dp un gd cn cs a ccd cl outer A₀ base h₀ L m s Q E B F X N T hkk hd hu hret
  refine wpAny_call ?_
  k_dflt ktr_enter
  k_steps
  all_goals first | exact hret _ _ _ _ (by k_asm) (by k_asm) rfl
end
end

-- part Fram
section
/-- what never turns in a frame's dict -/
structure Fix where
  code : Value
  regs : Value
  world : Value
  stat : Value
  goal : Value
  t0 : Tok
  t1 : Tok
  t2 : Tok
  t3 : Tok
  t4 : Tok
  t5 : Tok
  t6 : Tok
  t7 : Tok

abbrev frD (w : World) (x : Fix) (at_ handlers caught : Value) : Obj := dictOf [
  Ent w (PySem.Str.ofString "code") x.t0 x.code, Ent w (PySem.Str.ofString "registers") x.t1 x.regs, Ent w (PySem.Str.ofString "at") x.t2 at_, Ent w (PySem.Str.ofString "world") x.t3 x.world,
  Ent w (PySem.Str.ofString "statics") x.t4 x.stat, Ent w (PySem.Str.ofString "goal") x.t5 x.goal, Ent w (PySem.Str.ofString "handlers") x.t6 handlers, Ent w (PySem.Str.ofString "caught") x.t7 caught] 8

section
variable {w : World} {mean : ExcName → Option Value} {mg mb : PySem.Str → Option Value} {a d hl : Addr} {x : Fix} {xs ys : List Value} {at_ v c : Value} {n : Nat} {rest : List (Addr × Obj)}

set_option maxHeartbeats 4000000 in
theorem enter_c (hx : xs.length ≤ 1000) (h1 : (a : Nat) ≠ hl) (h2 : (d : Nat) ≠ hl) (h3 : ∀ p ∈ rest, p.1 ≠ hl) :
    Tell w mean mg mb 10 100 155 [.ref a, v] ((a, instObj 172 d) :: (d, frD w x at_ (.ref hl) c) :: (hl, listOf xs.toArray n) :: rest)
      (fun r news' => news' = (a, instObj 172 d) :: (d, frD w x at_ (.ref hl) c) :: (hl, listOf (xs ++ [v]).toArray (n + 1)) :: rest) := by
  unfold Tell
  intro dp un gd cn cs a ccd cl outer A₀ base h₀ L m s Q E B F X N T hkk hd hu hret
  refine wpAny_call ?_
  k_dflt ktr_enter
  k_steps
  all_goals first | exact hret _ _ _ _ (by k_asm) (by k_asm) rfl

set_option maxHeartbeats 4000000 in
theorem leave_c {k : Int} {tk : Tok} (hx : xs.length ≤ 1000) (hk : 0 ≤ k) (hk2 : k ≤ xs.length) (h1 : (a : Nat) ≠ d) (h2 : (hl : Nat) ≠ d) (h3 : ∀ p ∈ rest, p.1 ≠ d) :
    Tell w mean mg mb 10 100 162 [.ref a, .int k tk] ((a, instObj 172 d) :: (d, frD w x at_ (.ref hl) c) :: (hl, listOf xs.toArray n) :: rest)
      (fun r news' => ∃ hl', (∀ p ∈ ((a, instObj 172 d) :: (d, frD w x at_ (.ref hl) c) :: (hl, listOf xs.toArray n) :: rest), p.1 < hl') ∧ news' = (hl', listOf (kms_pick xs none (some ((xs.length : Int) - k))).toArray 0) :: (a, instObj 172 d) :: (d, frD w x at_ (.ref hl') c) :: (hl, listOf xs.toArray n) :: rest) := by
  unfold Tell
  intro dp un gd cn cs a ccd cl outer A₀ base h₀ L m s Q E B F X N T hkk hd hu hret
  refine wpAny_call ?_
  k_dflt ktr_enter
  k_steps
  refine hret _ _ _ _ (by k_asm) (by k_asm) ⟨_, ?_, rfl⟩
  refine List.forall_mem_cons.mpr ⟨by assumption, List.forall_mem_cons.mpr ⟨by assumption, List.forall_mem_cons.mpr ⟨by assumption, ktn_ltOf (by assumption)⟩⟩⟩

set_option maxHeartbeats 4000000 in
theorem catch_none_c :
    Tell w mean mg mb 10 100 169 [.ref a, v] ((a, instObj 172 d) :: (d, frD w x at_ (.ref hl) c) :: (hl, listOf (([] : List Value)).toArray n) :: rest)
      (fun r news' => r = .bool false ∧ news' = ((a, instObj 172 d) :: (d, frD w x at_ (.ref hl) c) :: (hl, listOf (([] : List Value)).toArray n) :: rest)) := by
  unfold Tell
  intro dp un gd cn cs a ccd cl outer A₀ base h₀ L m s Q E B F X N T hkk hd hu hret
  refine wpAny_call ?_
  k_dflt ktr_enter
  k_steps
  exact hret _ _ _ _ (by k_asm) (fun p hp => (by k_asm : News _ _ _ (_ :: _)) p (.tail _ hp)) ⟨rfl, rfl⟩

set_option maxHeartbeats 4000000 in
theorem catch_some_c {u : Value} (hx : xs.length ≤ 1000) (h0 : (a : Nat) ≠ hl) (h1 : (a : Nat) ≠ d) (h2 : (hl : Nat) ≠ d) (h3 : ∀ p ∈ rest, p.1 ≠ d) (h4 : ∀ p ∈ rest, p.1 ≠ hl) :
    Tell w mean mg mb 10 100 169 [.ref a, v] ((a, instObj 172 d) :: (d, frD w x at_ (.ref hl) c) :: (hl, listOf (xs ++ [u]).toArray n) :: rest)
      (fun r news' => r = .bool true ∧ news' = ((a, instObj 172 d) :: (d, frD w x u (.ref hl) v) :: (hl, listOf xs.toArray (n + 1)) :: rest)) := by
  unfold Tell
  intro dp un gd cn cs a ccd cl outer A₀ base h₀ L m s Q E B F X N T hkk hd hu hret
  refine wpAny_call ?_
  k_dflt ktr_enter
  k_steps
  all_goals first | exact hret _ _ _ _ (by k_asm) (fun p hp => (by k_asm : News _ _ _ (_ :: _)) p (.tail _ hp)) ⟨rfl, rfl⟩
end
end

section
local macro_rules | `(tactic| walk_at "getMethod type:Exception") => `(tactic| (k_here; refine' method_type ?F ?X ?m (by decide +kernel) ?e ?h ?_; (case F => k_asm); (case X => k_asm); (case m => exact meta_Exception); (case e => k_dflt k_is); (case h => k_handed)))
local macro_rules | `(tactic| walk_at "call builtin:Exception.__init__") => `(tactic| (k_here; k_dflt (refine' xinit ?F ?X ?N ?U ?_; (case F => k_asm); (case X => k_asm); (case N => k_asm); (case U => k_updF)); intro t' h' F' N' l1; (try dsimp only at N'); (try k_lt l1); (try k_sweep)))
local macro_rules | `(tactic| walk_at "setAttr ref") => `(tactic| (k_here; k_dflt (first
  | (refine' xset0 ?F ?X ?N ?t ?U ?_; (case F => k_asm); (case X => k_asm); (case N => k_asm); (case t => k_is); (case U => k_updF); intro d' h' F' N' l1; (try dsimp only at N'); (try k_lt l1); (try k_sweep))
  | (refine' xsetN ?F ?X ?N ?t ?m ?md ?l ?e ?U ?z ?_; (case F => k_asm); (case X => k_asm); (case N => k_asm); (case t => k_is); (case m => k_mem); (case md => k_mem); (case l => k_get); (case e => k_put); (case U => k_upd); (case z => exact Nat.le_of_ble_eq_true rfl); k_whole; intro h' F' N'; (try k_sweep)))))
local macro_rules | `(tactic| walk_at "getAttr ref") => `(tactic| (k_here; k_dflt (refine' xget ?F ?X ?N ?m ?md ?a ?n ?l ?v ?_; (case F => k_asm); (case X => k_asm); (case N => k_asm); (case m => k_mem); (case md => k_mem); (case a => k_is); (case n => k_is); (case l => k_get); (case v => k_handed); k_whole)))
-- part Thr
section
open PySem.Calls
section
variable {w : World} {mean : ExcName → Option Value} {mg mb : PySem.Str → Option Value} {v : Value} {news : List (Addr × Obj)}

theorem call_thrown {prog : Program} {w : World} {A : Around} {s : Shared} {h₀ : Heap} {L : Addr} {m : PySem.Str → Option Value} {news : List (Addr × Obj)} {v : Value} {Q E : Value → Shared → Prop}
    (F : Fr h₀ L s.heap m) (X₀ : (Mine.hd.heap_1 w.params).In h₀) (N : News h₀ L s.heap news)
    (h : ∀ e t h', Fr h₀ L h' m → News h₀ L h' ((e, excRaw 71 t) :: (t, tupObj [v]) :: news) → (∀ p ∈ news, p.1 < t) → t < e → (∀ p ∈ news, p.1 < e) →
      codeAny (model prog w) (A.under (.builtin "type.__call__" ⟨[.ref 71, v], []⟩)) (.call (.ref 68) ⟨[.ref e, v], []⟩) (InitBack e fun r s' => match r with | .ok (.ret v) => Q v s' | .ok _ => False | .error e => E e s') { s with heap := h' }) :
    wpAny (model prog w) A (call (.ref 71) [v]) Q E s := by
  have X := X₀.keeps F.keep
  obtain ⟨nm, q, Nn, bs, hdct, sn, sub, ab, col, dd, k0, k1, k2, k3, k5, hC⟩ := cls71 X
  obtain ⟨hh, g, d, t, os⟩ := s
  refine wpAny_call (exc_make hC rfl rfl rfl (looks_specialIn X (by k_is)) (looks_instIn X (by k_is)) (looks_mroIn X (by k_is)) (looks_findIn X (by k_is)) (fun s => bind_fn X s (by k_is)) ?_)
  have N1 := (N.push F (tupObj [v])).push (F.push _) (excRaw 71 hh.objs.size)
  rw [Heap.size_push] at N1
  exact h _ _ _ ((F.push _).push _) N1 (fun p hp => Heap.lt_size (N p hp).1) (Nat.lt_succ_self _) (fun p hp => Nat.lt_succ_of_lt (Heap.lt_size (N p hp).1))

abbrev excD (w : World) (ta tb tc td : Tok) (v : Value) : Obj := dictOf [Ent w (PySem.Str.ofString "message") ta (.str (PySem.Str.ofString "a value is thrown") tb), Ent w (PySem.Str.ofString "spot") tc .none, Ent w (PySem.Str.ofString "value") td v] 3

/-- what an error made by Thrown(v) is -/
structure ExcIn (w : World) (news : List (Addr × Obj)) (e : Addr) (v : Value) : Prop where
  is : ∃ dx t ta tb tc td, (e, excObj dx t) ∈ news ∧ (dx, excD w ta tb tc td v) ∈ news ∧ (∃ vs, (t, tupObj vs) ∈ news)

theorem ExcIn.mono {w : World} {news news' : List (Addr × Obj)} {e : Addr} {v : Value} (h : ExcIn w news e v) (s : ∀ p ∈ news, p ∈ news') : ExcIn w news' e v :=
  let ⟨dx, t, ta, tb, tc, td, h1, h2, vs, h3⟩ := h.is; ⟨dx, t, ta, tb, tc, td, s _ h1, s _ h2, vs, s _ h3⟩

theorem news_drop3 {h₀ h : Heap} {L : Addr} {a b c d : Addr × Obj} {l : List (Addr × Obj)} (N : News h₀ L h (a :: b :: c :: d :: l)) : News h₀ L h (a :: b :: c :: l) := fun p hp => N p (by
  simp only [List.mem_cons] at hp ⊢
  rcases hp with h | h | h | h <;> simp [h])

set_option maxHeartbeats 4000000 in
theorem thrown_c :
    Tell w mean mg mb 10 100 71 [v] news (fun r news' => ∃ e dx t ta tb tc td te, r = .ref e ∧ (∀ p ∈ news, p.1 < e) ∧ e < t ∧ t < dx ∧ news' = (dx, excD w ta tb tc td v) :: (t, tupObj [.str (PySem.Str.ofString "a value is thrown") te]) :: (e, excObj dx t) :: news) := by
  unfold Tell
  intro dp un gd cn cs a ccd cl outer A₀ base h₀ L m s Q E B F X N T hkk hd hu hret
  refine call_thrown F X N fun e t h' F' N' l1 l2 l3 => ?_
  k_lt l1; k_lt l3; k_lt2 l2
  clear F N
  k_dflt ktr_enter
  k_steps
  rename Fr h₀ _ _ _ => FF
  rename News h₀ _ _ _ => NN
  refine hret _ _ _ _ FF (news_drop3 NN) ⟨_, _, _, _, _, _, _, _, rfl, ktn_ltOf l3, ?_, ?_, rfl⟩
  · assumption
  · assumption
end
end

-- part Reth
section
open PySem.Calls
section
variable {w : World} {mean : ExcName → Option Value} {mg mb : PySem.Str → Option Value} {v : Value} {a d hl t : Addr} {x : Fix} {at_ : Value} {rest : List (Addr × Obj)}

set_option maxHeartbeats 4000000 in
theorem rethrown_some_c :
    Tell w mean mg mb 20 200 108 [.ref a] ((a, instObj 172 d) :: (d, frD w x at_ (.ref hl) (.ref t)) :: rest) (fun r news' => ∃ e, r = .ref e ∧ ExcIn w news' e (.ref t) ∧ (∀ p ∈ (a, instObj 172 d) :: (d, frD w x at_ (.ref hl) (.ref t)) :: rest, p ∈ news')) := by
  unfold Tell
  intro dp un gd cn cs a ccd cl outer A₀ base h₀ L m s Q E B F X N T hkk hd hu hret
  refine wpAny_call ?_
  k_dflt ktr_enter
  k_steps
  · (try unfold Stop); k_dflt (refine' Tell.use (thrown_c) ?k1 ?k2 ?k3 ?k4 ?k5 ?kK ?kd ?ku ?ks ?_; (case k1 => k_asm); (case k2 => k_asm); (case k3 => k_asm); (case k4 => k_asm); (case k5 => k_asm); (case kK => first | exact rfl | assumption); (case kd => ((show _ < 500); (try simp only [depth_under_make, depth_under_kw, depth_in1, depth_deeper, depth_caller]); (try dsimp only [ktrTop]); omega)); (case ku => ((show _ < 5000); (try simp only [units_in1, units_deeper, Around.mark_units, units_caller]); (try dsimp only [ktrTop]); omega)); (case ks => exact fun _ h => h))
    rintro r news' h' tk' F' N' ⟨e, dx, t, ta, tb, tc, td, te, rfl, l1, l2, l3, rfl⟩
    k_steps
    rename Fr h₀ _ _ _ => FF
    rename News h₀ _ _ _ => NN
    refine hret _ _ _ _ FF NN ⟨e, rfl, ⟨dx, t, ta, tb, tc, td, ?_, ?_, ?_⟩, ?_⟩
    · simp
    · simp
    · exact ⟨_, .tail _ (.head _)⟩
    · intro p hp; exact .tail _ (.tail _ (.tail _ hp))

set_option maxHeartbeats 4000000 in
theorem rethrown_none_c :
    Tell w mean mg mb 30 300 108 [.ref a] ((a, instObj 172 d) :: (d, frD w x at_ (.ref hl) .none) :: rest) (fun r news' => ∃ e D q p2 ts n, r = .ref e ∧ ExcIn w news' e (.ref D) ∧
      (D, ({ cls := .type "tuple", data := .seq [.str (PySem.Str.ofString "struct") ts, .ref q, .ref p2].toArray n } : Obj)) ∈ news' ∧ DatIn news' (.ref q) (.tuple [.str (PySem.Str.ofString "name"), .str (PySem.Str.ofString "ErrorException"), .tuple []]) ∧
      (∀ p ∈ (a, instObj 172 d) :: (d, frD w x at_ (.ref hl) .none) :: rest, p ∈ news')) := by
  unfold Tell
  intro dp un gd cn cs a ccd cl outer A₀ base h₀ L m s Q E B F X N T hkk hd hu hret
  refine wpAny_call ?_
  k_dflt ktr_enter
  k_steps
  · (try unfold Stop); k_dflt (refine' Tell.use (thrown_c) ?k1 ?k2 ?k3 ?k4 ?k5 ?kK ?kd ?ku ?ks ?_; (case k1 => k_asm); (case k2 => k_asm); (case k3 => k_asm); (case k4 => k_asm); (case k5 => k_asm); (case kK => first | exact rfl | assumption); (case kd => ((show _ < 500); (try simp only [depth_under_make, depth_under_kw, depth_in1, depth_deeper, depth_caller]); (try dsimp only [ktrTop]); omega)); (case ku => ((show _ < 5000); (try simp only [units_in1, units_deeper, Around.mark_units, units_caller]); (try dsimp only [ktrTop]); omega)); (case ks => exact fun _ h => h))
    rintro r news' h' tk' F' N' ⟨e, dx, t, ta, tb, tc, td, te, rfl, l1, l2, l3, rfl⟩
    k_steps
    rename Fr h₀ _ _ _ => FF
    rename News h₀ _ _ _ => NN
    refine hret _ _ _ _ FF NN ⟨e, ?D, ?q, ?p2, ?ts, ?n, rfl, ⟨dx, t, ta, tb, tc, td, ?a1, ?a2, ?a3⟩, ?a4, ?a5, ?a6⟩
    case a1 => exact .tail _ (.tail _ (.head _))
    case a2 => exact .head _
    case a3 => exact ⟨_, .tail _ (.head _)⟩
    case a4 => k_mem
    case a5 => exact .tuple (by k_mem) (.cons (.str _ _) (.cons (.str _ _) (.cons (.tuple (by k_mem) .nil) .nil)))
    case a6 =>
      intro p hp
      iterate 8 refine List.Mem.tail _ ?_
      exact hp
end
end

-- part Again
section
open PySem.Calls
local macro_rules | `(tactic| walk_at "call ref") => `(tactic| ((show wpAny _ _ (call (Value.ref 108) _) _ _ _); refine stop_in ?_))
section
variable {w : World} {mean : ExcName → Option Value} {mg mb : PySem.Str → Option Value} {v : Value} {a d hl t t' : Addr} {x : Fix} {at_ : Value} {D : Dat} {rest : List (Addr × Obj)}

set_option maxHeartbeats 4000000 in
theorem again_some_c (h1 : DatIn rest (.ref t) D) (h2 : DatIn rest (.ref t') D) (ok : kqdOk 8 D = true) :
    Tell w mean mg mb 40 400 302 [.ref a, .ref t'] ((a, instObj 172 d) :: (d, frD w x at_ (.ref hl) (.ref t)) :: rest) (fun r news' => r = .bool true ∧ news' = (a, instObj 172 d) :: (d, frD w x at_ (.ref hl) (.ref t)) :: rest) := by
  unfold Tell
  intro dp un gd cn cs a ccd cl outer A₀ base h₀ L m s Q E B F X N T hkk hd hu hret
  refine wpAny_call ?_
  k_dflt ktr_enter
  k_steps
  · (try unfold Stop); k_dflt (refine' Tell.use (rethrown_some_c) ?k1 ?k2 ?k3 ?k4 ?k5 ?kK ?kd ?ku ?ks ?_; (case k1 => k_asm); (case k2 => k_asm); (case k3 => k_asm); (case k4 => k_asm); (case k5 => k_asm); (case kK => first | exact rfl | assumption); (case kd => ((show _ < 500); (try simp only [depth_under_make, depth_under_kw, depth_in1, depth_deeper, depth_caller]); (try dsimp only [ktrTop]); omega)); (case ku => ((show _ < 5000); (try simp only [units_in1, units_deeper, Around.mark_units, units_caller]); (try dsimp only [ktrTop]); omega)); (case ks => exact fun _ h => h))
    rintro r news' h' tk' F' N' ⟨e, rfl, ⟨dx, t, ta, tb, tc, td, m1, m2, m3⟩, sub⟩
    k_steps
    k_dflt (refine' my_eq ?qqN ?qqa ?qqb ?qqoa ?qqob ?qqu ?_; (case qqN => k_asm); (case qqa => exact h1.mono fun p hp => sub p (.tail _ (.tail _ hp))); (case qqb => exact h2.mono fun p hp => sub p (.tail _ (.tail _ hp))); (case qqoa => exact ok); (case qqob => exact ok); (case qqu => ((show _ + 64 < cLine); (simp only [units_in1, units_deeper, units_caller, Around.mark_units, cLine_is]); (try dsimp only [ktrTop]); omega)))
    simp only [decide_true]
    k_steps
    rename Fr h₀ _ _ _ => FF
    rename News h₀ _ _ _ => NN
    exact hret _ _ _ _ FF (fun p hp => NN p (sub p hp)) ⟨rfl, rfl⟩

set_option maxHeartbeats 4000000 in
theorem again_none_c :
    Tell w mean mg mb 40 400 302 [.ref a, .none] ((a, instObj 172 d) :: (d, frD w x at_ (.ref hl) .none) :: rest) (fun r news' => r = .bool true ∧ news' = (a, instObj 172 d) :: (d, frD w x at_ (.ref hl) .none) :: rest) := by
  unfold Tell
  intro dp un gd cn cs a ccd cl outer A₀ base h₀ L m s Q E B F X N T hkk hd hu hret
  refine wpAny_call ?_
  k_dflt ktr_enter
  k_steps
  · (try unfold Stop); k_dflt (refine' Tell.use (rethrown_none_c) ?k1 ?k2 ?k3 ?k4 ?k5 ?kK ?kd ?ku ?ks ?_; (case k1 => k_asm); (case k2 => k_asm); (case k3 => k_asm); (case k4 => k_asm); (case k5 => k_asm); (case kK => first | exact rfl | assumption); (case kd => ((show _ < 500); (try simp only [depth_under_make, depth_under_kw, depth_in1, depth_deeper, depth_caller]); (try dsimp only [ktrTop]); omega)); (case ku => ((show _ < 5000); (try simp only [units_in1, units_deeper, Around.mark_units, units_caller]); (try dsimp only [ktrTop]); omega)); (case ks => exact fun _ h => h))
    rintro r news' h' tk' F' N' ⟨e, D, q, p2, ts, n, rfl, ⟨dx, t, ta, tb, tc, td, m1, m2, m3⟩, m4, m5, sub⟩
    k_steps
    k_dflt (refine' my_eq ?qqN ?qqa ?qqb ?qqoa ?qqob ?qqu ?_; (case qqN => k_asm); (case qqa => exact m5.mono fun p hp => .tail _ (.tail _ hp)); (case qqb => exact .tuple (.head _) (.cons (.str _ _) (.cons (.str _ _) (.cons (.tuple (.tail _ (.head _)) .nil) .nil)))); (case qqoa => decide +kernel); (case qqob => decide +kernel); (case qqu => ((show _ + 64 < cLine); (simp only [units_in1, units_deeper, units_caller, Around.mark_units, cLine_is]); (try dsimp only [ktrTop]); omega)))
    simp only [decide_true]
    k_steps
    rename Fr h₀ _ _ _ => FF
    rename News h₀ _ _ _ => NN
    exact hret _ _ _ _ FF (fun p hp => NN p (.tail _ (.tail _ (sub p hp)))) ⟨rfl, rfl⟩
end
end

-- part Rows
section
open PySem.Calls
local macro_rules | `(tactic| walk_at "eval ListComp") => `(tactic| (refine stop_in ?_))
local macro_rules | `(tactic| walk_at "exec Assign cons ListComp") => `(tactic| (refine stop_in ?_))
local macro_rules | `(tactic| walk_at "CompSrc") => `(tactic| (refine stop_in ?_))
local macro_rules | `(tactic| walk_at "CompSrcT") => `(tactic| (refine stop_in ?_))
local macro_rules | `(tactic| walk_at "CompEnd") => `(tactic| (refine stop_in ?_))
/-- a frame, as the law sees it -/
structure FrA where
  hs : List Int
  at_ : Int
  c : Option Int
def datC : Option Int → Dat
  | none => .none
  | some k => .tuple [.str (PySem.Str.ofString "int"), .str (PySem.Str.ofString "Int64"), .int k]
def datF (x : FrA) : Dat := .list [.list (x.hs.map Dat.int), .int x.at_, datC x.c]
/-- a frame, as the heap holds it -/
structure FrR where
  a : Addr
  d : Addr
  hl : Addr
  fx : Fix
  hv : List Value
  hn : Nat
  av : Value
  cv : Value
structure FrOk (w : World) (news : List (Addr × Obj)) (r : FrR) (x : FrA) : Prop where
  m1 : (r.a, instObj 172 r.d) ∈ news
  m2 : (r.d, frD w r.fx r.av (.ref r.hl) r.cv) ∈ news
  m3 : (r.hl, listOf r.hv.toArray r.hn) ∈ news
  hs : IntsAre r.hv x.hs
  at_ : ∃ t, r.av = .int x.at_ t
  c : DatIn news r.cv (datC x.c)
inductive FrsOk (w : World) (news : List (Addr × Obj)) : List FrR → List FrA → Prop
  | nil : FrsOk w news [] []
  | cons {r x rs xs} : FrOk w news r x → FrsOk w news rs xs → FrsOk w news (r :: rs) (x :: xs)

theorem FrOk.mono {w : World} {news news' : List (Addr × Obj)} {r : FrR} {x : FrA} (h : FrOk w news r x) (s : ∀ p ∈ news, p ∈ news') : FrOk w news' r x :=
  ⟨s _ h.m1, s _ h.m2, s _ h.m3, h.hs, h.at_, h.c.mono s⟩
theorem FrsOk.mono {w : World} {news news' : List (Addr × Obj)} {rs : List FrR} {xs : List FrA} (h : FrsOk w news rs xs) (s : ∀ p ∈ news, p ∈ news') : FrsOk w news' rs xs := by
  induction h with
  | nil => exact .nil
  | cons h _ ih => exact .cons (h.mono s) ih
theorem FrsOk.length {w : World} {news : List (Addr × Obj)} {rs : List FrR} {xs : List FrA} (h : FrsOk w news rs xs) : rs.length = xs.length := by
  induction h with
  | nil => rfl
  | cons _ _ ih => simp [ih]
theorem FrsOk.get {w : World} {news : List (Addr × Obj)} {rs : List FrR} {xs : List FrA} (h : FrsOk w news rs xs) : ∀ {i : Nat} {r : FrR}, rs[i]? = some r → ∃ x, xs[i]? = some x ∧ FrOk w news r x := by
  induction h with
  | nil => intro i r e; simp at e
  | cons h _ ih =>
    intro i r e
    cases i with
    | zero => simp only [List.getElem?_cons_zero, Option.some.injEq] at e; subst e; exact ⟨_, rfl, h⟩
    | succ i => simp only [List.getElem?_cons_succ] at e ⊢; exact ih e

section
variable {w : World} {mean : ExcName → Option Value} {mg mb : PySem.Str → Option Value} {f fd rl : Addr} {ft : Tok} {frs : List FrR} {fs : List FrA} {n : Nat} {rest : List (Addr × Obj)}

set_option maxHeartbeats 4000000 in
theorem rows_c (ok : FrsOk w rest frs fs) (hsz : ∀ x ∈ fs, x.hs.length ≤ 1000) (hl : fs.length ≤ 1000) :
    Tell w mean mg mb 40 400 290 [.ref f] ((f, instObj 235 fd) :: (fd, framesD w ft rl) :: (rl, listOf (frs.map fun r => Value.ref r.a).toArray n) :: rest)
      (fun r news' => DatIn news' r (.list (fs.map datF)) ∧ ∀ p ∈ (f, instObj 235 fd) :: (fd, framesD w ft rl) :: (rl, listOf (frs.map fun r => Value.ref r.a).toArray n) :: rest, p ∈ news') := by
  unfold Tell
  intro dp un gd cn cs a ccd cl outer A₀ base h₀ L m s Q E B F X N T hkk hd hu hret
  refine wpAny_call ?_
  k_dflt ktr_enter
  k_steps
  unfold Stop
  k_dflt (refine LCg.ListComp_U (F₀ := by k_asm) (by rfl) (by decide) (by rfl) (by decide) (by rfl) ?_)
  k_steps
  unfold Stop
  k_dflt (refine LCg.CompSrc.ledger (by rfl) (by k_asm) (by k_asm) (by k_mem) (by rw [List.size_toArray, List.length_map, sizeLine_eq, ok.length]; omega) ?_)
  intro g
  rename News _ _ _ _ => N0
  clear F N N0
  refine comp_ind (frs.map fun r => Value.ref r.a).length (fun i ys news' => (∀ p ∈ (f, instObj 235 fd) :: (fd, framesD w ft rl) :: (rl, listOf (frs.map fun r => Value.ref r.a).toArray n) :: rest, p ∈ news') ∧ DatAll news' ys ((fs.take i).map datF)) ?_ ?_ _ _ _ _ (by simp) ⟨fun _ h => h, .nil⟩
  · rintro i ys news' hi ⟨sub, hys⟩ v I oI C oC D m₂ h tk E' hv hC hx F' N' off' ne'
    have hv' : (frs.map fun r => Value.ref r.a)[i]? = some v := by simpa using hv
    rw [List.getElem?_map] at hv'
    obtain ⟨r, hr, rfl⟩ := Option.map_eq_some_iff.mp hv'
    obtain ⟨xa, hxa, q1, q2, q3, q4, ⟨ta, q5⟩, q6⟩ := ok.get hr
    have q1' := sub _ (.tail _ (.tail _ (.tail _ q1)))
    have q2' := sub _ (.tail _ (.tail _ (.tail _ q2)))
    have q3' := sub _ (.tail _ (.tail _ (.tail _ q3)))
    have q6' := q6.mono fun p hp => sub _ (.tail _ (.tail _ (.tail _ hp)))
    rw [q5] at q2'
    have hcv : handedIn r.cv = true := q6.handed
    have hlen : r.hv.length ≤ 1000 := by rw [q4.length]; exact hsz _ (List.mem_of_getElem? hxa)
    k_steps
    unfold Stop
    rename Fr _ _ _ _ => FF
    rename News _ _ _ _ => NN
    refine compEnd2 FF NN ⟨⟨?_, ?_, ?_⟩, ⟨?_, ?_, ?_⟩, off'⟩ (.inr ⟨_, .tail _ (.tail _ (sub _ (.tail _ (.tail _ (.head _))))), rfl, _, rfl⟩) ⟨fun p hp => .tail _ (.tail _ (sub p hp)), ?_⟩
    iterate 6 (refine neN ?_; dsimp only; omega)
    have et : fs.take (i + 1) = fs.take i ++ [xa] := by rw [List.take_add_one, hxa]; rfl
    rw [et, List.map_append]
    refine (hys.mono fun p hp => .tail _ (.tail _ hp)).append (.one (.list (.head _) (.cons (.list (.tail _ (.head _)) (ints_dat q4)) (.cons (.int _ _) (.cons (q6'.mono fun p hp => .tail _ (.tail _ hp)) .nil)))))
  · rintro ys news' ⟨sub, hys⟩
    k_steps
    rename Fr h₀ _ _ _ => FF
    rename News h₀ _ _ _ => NN
    refine hret _ _ _ _ FF NN ⟨.list (.head _) ?_, fun p hp => .tail _ (sub p hp)⟩
    rw [List.length_map, ok.length, List.take_length] at hys
    exact hys.mono fun p hp => .tail _ hp
end
end

-- part Unw
section
open PySem.Calls
local macro_rules | `(tactic| walk_at "call ref") => `(tactic| ((show wpAny _ _ (call (Value.ref 197) _) _ _ _); refine stop_in ?_))
local macro_rules | `(tactic| walk_at "call ref") => `(tactic| ((show wpAny _ _ (call (Value.ref 204) _) _ _ _); refine stop_in ?_))
local macro_rules | `(tactic| walk_at "call ref") => `(tactic| ((show wpAny _ _ (call (Value.ref 169) _) _ _ _); refine stop_in ?_))
local macro_rules | `(tactic| walk_at "call ref") => `(tactic| ((show wpAny _ _ (call (Value.ref 218) _) _ _ _); refine stop_in ?_))
local macro_rules | `(tactic| walk_at "exec While Compare cons nil") => `(tactic| (refine stop_in ?_))
local macro_rules | `(tactic| walk_at "exec Raise some none") => `(tactic| (refine stop_in ?_))
local macro_rules | `(tactic| walk_at "WhileStep2") => `(tactic| (refine stop_in ?_))
local macro_rules | `(tactic| walk_at "Exists") => `(tactic| (refine stop_in ?_))
noncomputable section
/-- what a call that raises tells -/
def TellX (w : World) (mean : ExcName → Option Value) (mg mb : PySem.Str → Option Value) (dd uu : Nat) (f : Addr) (vs : List Value) (news : List (Addr × Obj)) (R : Addr → Addr → List (Addr × Obj) → Prop) : Prop :=
  ∀ (dp un : Nat) (gd : Option (List Code)) (cn : PySem.Str) (cs : Scope) (a : Addr) (ccd : Value) (cl : List (PySem.Str × Addr)) (outer : List Env) (A₀ : Around) (base h₀ : Heap) (L : Addr) (m : PySem.Str → Option Value) (s : Shared)
    (Q E : Value → Shared → Prop),
    Below A₀ base outer h₀ → Fr h₀ L s.heap m → (Mine.hd.heap_1 w.params).In h₀ → News h₀ L s.heap news → Top Mine.hd.view_1 LS mean mg mb h₀ → cs.kind = .function → dp + dd < 500 → un + uu < 5000 →
    (∀ G e dx news' h' tk', Fr h₀ L G m → RaisedX base G (envX cn cs L a ccd cl :: outer) e dx news' h' → G.UpToSlots h' → R e dx news' → E (.ref e) { s with heap := h', toks := tk' }) →
    wpAny (model PySem.Challenge.rw_pq0693_01.row.prog w) (ktrTop dp un gd cn cs L a ccd cl outer) (call (.ref f) vs) Q E s
end

/-- frames without a handler -/
def Bare (w : World) (rest : List (Addr × Obj)) (r : FrR) : Prop :=
  (r.a, instObj 172 r.d) ∈ rest ∧ (r.d, frD w r.fx r.av (.ref r.hl) r.cv) ∈ rest ∧ (r.hl, listOf ([] : List Value).toArray r.hn) ∈ rest

theorem perm33 {α : Type} {a b c x y z : α} {l : List α} : ∀ p ∈ a :: b :: c :: x :: y :: z :: l, p ∈ x :: y :: z :: a :: b :: c :: l := fun p hp => by
  simp only [List.mem_cons] at hp ⊢
  rcases hp with h | h | h | h | h | h | h <;> simp [h]
theorem cover3 {α : Type} {a b c : α} {l l' : List α} (h1 : a ∈ l) (h2 : b ∈ l) (h3 : c ∈ l) (h : ∀ p ∈ l', p ∈ l) : ∀ p ∈ a :: b :: c :: l', p ∈ l :=
  List.forall_mem_cons.mpr ⟨h1, List.forall_mem_cons.mpr ⟨h2, List.forall_mem_cons.mpr ⟨h3, h⟩⟩⟩
section
variable {w : World} {mean : ExcName → Option Value} {mg mb : PySem.Str → Option Value} {f fd rl e dx t : Addr} {ft ta tb tc td : Tok} {v : Value} {n : Nat} {rest news : List (Addr × Obj)} {lo : List Value} {hi : List FrR}

set_option maxHeartbeats 4000000 in
theorem unw_raise_c {b : Int} {bt : Tok} (hb : b = lo.length) (hsz : lo.length + hi.length ≤ 900) (hi_ok : ∀ r ∈ hi, Bare w rest r)
    (h1 : (f : Nat) ≠ rl) (h2 : (fd : Nat) ≠ rl) (h3 : ∀ p ∈ rest, p.1 ≠ rl) (he : ∀ p ∈ rest, p.1 ≠ e) (hfe : (f : Nat) ≠ e) (hfde : (fd : Nat) ≠ e) (hrle : (rl : Nat) ≠ e) (md : (dx, excD w ta tb tc td v) ∈ rest) (hv : handedIn v = true) :
    TellX w mean mg mb 20 200 101 [.ref f, .int b bt, .ref e] ((f, instObj 235 fd) :: (fd, framesD w ft rl) :: (rl, listOf (lo ++ hi.map fun r => Value.ref r.a).toArray n) :: (e, excObj dx t) :: rest)
      (fun e' dx' news' => e' = e ∧ dx' = dx ∧ ∃ n', news' = (f, instObj 235 fd) :: (fd, framesD w ft rl) :: (rl, listOf lo.toArray n') :: rest) := by
  unfold TellX
  intro dp un gd cn cs a ccd cl outer A₀ base h₀ L m s Q E B F X N T hkk hd hu hret
  refine wpAny_call ?_
  k_dflt ktr_enter
  rename Fr _ _ _ m => FG
  rename Below _ _ _ _ => BB
  rename Frag.In _ _ => XX
  k_steps
  unfold Stop
  rename Fr _ _ _ _ => FF
  rename News _ _ _ _ => NN
  refine While_inv2 (fun k m₁ news₁ => m₁ = _ ∧ ∃ hi' n', hi'.length = k ∧ (∀ r ∈ hi', Bare w rest r) ∧ lo.length + hi'.length ≤ 900 ∧ news₁ = (f, instObj 235 fd) :: (fd, framesD w ft rl) :: (rl, listOf (lo ++ hi'.map fun r => Value.ref r.a).toArray n') :: (e, excObj dx t) :: rest) FF NN ⟨rfl, hi, n, rfl, hi_ok, hsz, rfl⟩ ?_
  clear FF NN
  rintro k m₁ news₁ h₁ tk₁ F₁ N₁ ⟨rfl, hi', n', hk, hok, hsz', rfl⟩
  rcases List.eq_nil_or_concat hi' with rfl | ⟨hi'', r, e0⟩
  · have e1 : (lo ++ ([] : List FrR).map fun r => Value.ref r.a) = lo := by simp
    rw [e1] at N₁
    have hlo : lo.length ≤ 1000 := by omega
    k_steps
    (try unfold Stop); k_dflt (refine' Tell.use (many_c hlo) ?k1 ?k2 ?k3 ?k4 ?k5 ?kK ?kd ?ku ?ks ?_; (case k1 => k_asm); (case k2 => k_asm); (case k3 => k_asm); (case k4 => k_asm); (case k5 => k_asm); (case kK => first | exact rfl | assumption); (case kd => ((show _ < 500); (try simp only [depth_under_make, depth_under_kw, depth_in1, depth_deeper, depth_caller]); (try dsimp only [ktrTop]); omega)); (case ku => ((show _ < 5000); (try simp only [units_in1, units_deeper, Around.mark_units, units_caller]); (try dsimp only [ktrTop]); omega)); (case ks => exact fun p hp => hp))
    rintro r news' h' tk' F' N' ⟨t', rfl, rfl⟩
    k_steps
    unfold Stop
    rename Fr _ _ _ _ => FF
    rename News _ _ _ _ => NN
    obtain ⟨nm, q, Nn, bs, hdct, sn, sub, ab, col, dd, k0, k1, k2, k3, k5, hC⟩ := cls71 XX
    have me := NN (e, excObj dx t) (by k_mem)
    refine raise_x (nm := nm) (q := q) (C := 71) (N := Nn) (bs := bs) (hdct := hdct) (sn := sn) (sub := sub) (ab := ab) (col := col) (dd := dd) (k0 := k0) (k1 := k1) (k2 := k2) (k3 := k3) (k5 := k5) (newId := "Exception.__new__") (bm := [.ref 39, .type "Exception", .type "BaseException", .type "object"]) rfl rfl ?_
    k_steps
    unfold Stop
    refine ⟨e, t, some dx, rfl, FF.keep _ _ hC, me.1, ?_⟩
    refine leave_x (dx := dx) (t := t) BB FF (news := (f, instObj 235 fd) :: (fd, framesD w ft rl) :: (rl, listOf lo.toArray n') :: rest) (fun p hp => NN p ?_) ?_ fun h' R' U' => ?_
    · simp only [List.mem_cons] at hp ⊢
      rcases hp with h | h | h | h | h <;> simp [h]
    · intro p hp
      simp only [List.mem_cons] at hp
      rcases hp with rfl | rfl | rfl | h
      · exact hfe
      · exact hfde
      · exact hrle
      · exact he _ h
    · exact hret _ _ _ _ _ _ FG R' U' ⟨rfl, rfl, _, rfl⟩
  · rw [List.concat_eq_append] at e0
    subst e0
    have e1 : (lo ++ (hi'' ++ [r]).map fun r => Value.ref r.a) = (lo ++ hi''.map fun r => Value.ref r.a) ++ [.ref r.a] := by simp
    rw [e1] at N₁
    rw [List.length_append, List.length_singleton] at hk hsz'
    have hl : (((lo ++ hi''.map fun r => Value.ref r.a) ++ [Value.ref r.a]).length : Int) > b := by simp; omega
    have hlo : ((lo ++ hi''.map fun r => Value.ref r.a) ++ [Value.ref r.a]).length ≤ 1000 := by simp; omega
    have hlo2 : (lo ++ hi''.map fun r => Value.ref r.a).length ≤ 1000 := by simp; omega
    obtain ⟨b1, b2, b3⟩ := hok r (by simp)
    have hoff : ∀ p ∈ (e, excObj dx t) :: rest, p.1 ≠ rl := List.forall_mem_cons.mpr ⟨Ne.symm hrle, h3⟩
    k_steps
    (try unfold Stop); k_dflt (refine' Tell.use (many_c hlo) ?k1 ?k2 ?k3 ?k4 ?k5 ?kK ?kd ?ku ?ks ?_; (case k1 => k_asm); (case k2 => k_asm); (case k3 => k_asm); (case k4 => k_asm); (case k5 => k_asm); (case kK => first | exact rfl | assumption); (case kd => ((show _ < 500); (try simp only [depth_under_make, depth_under_kw, depth_in1, depth_deeper, depth_caller]); (try dsimp only [ktrTop]); omega)); (case ku => ((show _ < 5000); (try simp only [units_in1, units_deeper, Around.mark_units, units_caller]); (try dsimp only [ktrTop]); omega)); (case ks => exact fun p hp => hp))
    rintro r' news' h' tk' F' N' ⟨t', rfl, rfl⟩
    k_steps
    (try unfold Stop); k_dflt (refine' Tell.use (top_c hlo2) ?k1 ?k2 ?k3 ?k4 ?k5 ?kK ?kd ?ku ?ks ?_; (case k1 => k_asm); (case k2 => k_asm); (case k3 => k_asm); (case k4 => k_asm); (case k5 => k_asm); (case kK => first | exact rfl | assumption); (case kd => ((show _ < 500); (try simp only [depth_under_make, depth_under_kw, depth_in1, depth_deeper, depth_caller]); (try dsimp only [ktrTop]); omega)); (case ku => ((show _ < 5000); (try simp only [units_in1, units_deeper, Around.mark_units, units_caller]); (try dsimp only [ktrTop]); omega)); (case ks => exact fun p hp => hp))
    rintro r' news' h' tk' F' N' ⟨rfl, rfl⟩
    k_steps
    (try unfold Stop); k_dflt (refine' Tell.use (catch_none_c) ?k1 ?k2 ?k3 ?k4 ?k5 ?kK ?kd ?ku ?ks ?_; (case k1 => k_asm); (case k2 => k_asm); (case k3 => k_asm); (case k4 => k_asm); (case k5 => k_asm); (case kK => first | exact rfl | assumption); (case kd => ((show _ < 500); (try simp only [depth_under_make, depth_under_kw, depth_in1, depth_deeper, depth_caller]); (try dsimp only [ktrTop]); omega)); (case ku => ((show _ < 5000); (try simp only [units_in1, units_deeper, Around.mark_units, units_caller]); (try dsimp only [ktrTop]); omega)); (case ks => exact cover3 (by k_mem) (by k_mem) (by k_mem) fun p hp => hp))
    rintro r' news' h' tk' F' N' ⟨rfl, rfl⟩
    k_steps
    (try unfold Stop); k_dflt (refine' Tell.use (pop_c hlo2 h1 h2 hoff) ?k1 ?k2 ?k3 ?k4 ?k5 ?kK ?kd ?ku ?ks ?_; (case k1 => k_asm); (case k2 => k_asm); (case k3 => k_asm); (case k4 => k_asm); (case k5 => k_asm); (case kK => first | exact rfl | assumption); (case kd => ((show _ < 500); (try simp only [depth_under_make, depth_under_kw, depth_in1, depth_deeper, depth_caller]); (try dsimp only [ktrTop]); omega)); (case ku => ((show _ < 5000); (try simp only [units_in1, units_deeper, Around.mark_units, units_caller]); (try dsimp only [ktrTop]); omega)); (case ks => exact fun p hp => .tail _ (.tail _ (.tail _ hp))))
    rintro r' news' h' tk' F' N' ⟨rfl, rfl⟩
    k_steps
    unfold Stop
    exact ⟨_, _, _, _, hi''.length, rfl, F', N', by omega, rfl, hi'', _, rfl, fun r hr => hok r (List.mem_append_left _ hr), by omega, rfl⟩

theorem off4 {p q r : Addr × Obj} {l : List (Addr × Obj)} {x : Addr} (h1 : p.1 ≠ x) (h2 : q.1 ≠ x) (h3 : r.1 ≠ x) (h : ∀ p ∈ l, p.1 ≠ x) : ∀ z ∈ p :: q :: r :: l, z.1 ≠ x :=
  List.forall_mem_cons.mpr ⟨h1, List.forall_mem_cons.mpr ⟨h2, List.forall_mem_cons.mpr ⟨h3, h⟩⟩⟩

set_option maxHeartbeats 4000000 in
theorem unw_ret_c {b : Int} {bt : Tok} {a' d hl : Addr} {fx : Fix} {av cv u : Value} {xs : List Value} {hn : Nat} (hb : b ≤ lo.length) (hsz : lo.length + hi.length ≤ 900) (hxs : xs.length ≤ 900) (hi_ok : ∀ r ∈ hi, Bare w rest r)
    (h1 : (f : Nat) ≠ rl) (h2 : (fd : Nat) ≠ rl) (h3 : (a' : Nat) ≠ rl) (h4 : (d : Nat) ≠ rl) (h5 : (hl : Nat) ≠ rl) (h6 : ∀ p ∈ rest, p.1 ≠ rl)
    (g1 : (f : Nat) ≠ d) (g2 : (fd : Nat) ≠ d) (g3 : (a' : Nat) ≠ d) (g5 : (hl : Nat) ≠ d) (g6 : ∀ p ∈ rest, p.1 ≠ d)
    (k1 : (f : Nat) ≠ hl) (k2 : (fd : Nat) ≠ hl) (k3 : (a' : Nat) ≠ hl) (k6 : ∀ p ∈ rest, p.1 ≠ hl)
    (me : (e, excObj dx t) ∈ rest) (md : (dx, excD w ta tb tc td v) ∈ rest) (hv : handedIn v = true) :
    Tell w mean mg mb 20 200 101 [.ref f, .int b bt, .ref e] ((f, instObj 235 fd) :: (fd, framesD w ft rl) :: (rl, listOf (lo ++ [Value.ref a'] ++ hi.map fun r => Value.ref r.a).toArray n) :: (a', instObj 172 d) :: (d, frD w fx av (.ref hl) cv) :: (hl, listOf (xs ++ [u]).toArray hn) :: rest)
      (fun r news' => ∃ n', news' = (a', instObj 172 d) :: (d, frD w fx u (.ref hl) v) :: (hl, listOf xs.toArray (hn + 1)) :: (f, instObj 235 fd) :: (fd, framesD w ft rl) :: (rl, listOf (lo ++ [Value.ref a']).toArray n') :: rest) := by
  unfold Tell
  intro dp un gd cn cs a ccd cl outer A₀ base h₀ L m s Q E B F X N T hkk hd hu hret
  refine wpAny_call ?_
  k_dflt ktr_enter
  rename Fr _ _ _ m => FG
  rename Below _ _ _ _ => BB
  rename Frag.In _ _ => XX
  k_steps
  unfold Stop
  rename Fr _ _ _ _ => FF
  rename News _ _ _ _ => NN
  refine While_inv2 (fun k m₁ news₁ => m₁ = _ ∧ ∃ hi' n', hi'.length = k ∧ (∀ r ∈ hi', Bare w rest r) ∧ lo.length + hi'.length ≤ 900 ∧ news₁ = (f, instObj 235 fd) :: (fd, framesD w ft rl) :: (rl, listOf (lo ++ [Value.ref a'] ++ hi'.map fun r => Value.ref r.a).toArray n') :: (a', instObj 172 d) :: (d, frD w fx av (.ref hl) cv) :: (hl, listOf (xs ++ [u]).toArray hn) :: rest) FF NN ⟨rfl, hi, n, rfl, hi_ok, hsz, rfl⟩ ?_
  clear FF NN
  rintro k m₁ news₁ h₁ tk₁ F₁ N₁ ⟨rfl, hi', n', hk, hok, hsz', rfl⟩
  rcases List.eq_nil_or_concat hi' with rfl | ⟨hi'', r, e0⟩
  · have e1 : (lo ++ [Value.ref a'] ++ ([] : List FrR).map fun r => Value.ref r.a) = lo ++ [Value.ref a'] := by simp
    rw [e1] at N₁
    have hlo : (lo ++ [Value.ref a']).length ≤ 1000 := by simp at hsz' ⊢; omega
    have hlo2 : lo.length ≤ 1000 := by simp at hsz' ⊢; omega
    have hlb : ((lo ++ [Value.ref a']).length : Int) > b := by simp; omega
    have hxs' : xs.length ≤ 1000 := by omega
    have o1 : ∀ p ∈ (f, instObj 235 fd) :: (fd, framesD w ft rl) :: (rl, listOf (lo ++ [Value.ref a']).toArray n') :: rest, p.1 ≠ d := off4 g1 g2 (Ne.symm h4) g6
    have o2 : ∀ p ∈ (f, instObj 235 fd) :: (fd, framesD w ft rl) :: (rl, listOf (lo ++ [Value.ref a']).toArray n') :: rest, p.1 ≠ hl := off4 k1 k2 (Ne.symm h5) k6
    k_steps
    (try unfold Stop); k_dflt (refine' Tell.use (many_c hlo) ?k1 ?k2 ?k3 ?k4 ?k5 ?kK ?kd ?ku ?ks ?_; (case k1 => k_asm); (case k2 => k_asm); (case k3 => k_asm); (case k4 => k_asm); (case k5 => k_asm); (case kK => first | exact rfl | assumption); (case kd => ((show _ < 500); (try simp only [depth_under_make, depth_under_kw, depth_in1, depth_deeper, depth_caller]); (try dsimp only [ktrTop]); omega)); (case ku => ((show _ < 5000); (try simp only [units_in1, units_deeper, Around.mark_units, units_caller]); (try dsimp only [ktrTop]); omega)); (case ks => exact fun p hp => hp))
    rintro r news' h' tk' F' N' ⟨t', rfl, rfl⟩
    k_steps
    (try unfold Stop); k_dflt (refine' Tell.use (top_c hlo2) ?k1 ?k2 ?k3 ?k4 ?k5 ?kK ?kd ?ku ?ks ?_; (case k1 => k_asm); (case k2 => k_asm); (case k3 => k_asm); (case k4 => k_asm); (case k5 => k_asm); (case kK => first | exact rfl | assumption); (case kd => ((show _ < 500); (try simp only [depth_under_make, depth_under_kw, depth_in1, depth_deeper, depth_caller]); (try dsimp only [ktrTop]); omega)); (case ku => ((show _ < 5000); (try simp only [units_in1, units_deeper, Around.mark_units, units_caller]); (try dsimp only [ktrTop]); omega)); (case ks => exact fun p hp => hp))
    rintro r' news' h' tk' F' N' ⟨rfl, rfl⟩
    k_steps
    (try unfold Stop); k_dflt (refine' Tell.use (catch_some_c hxs' k3 g3 g5 o1 o2) ?k1 ?k2 ?k3 ?k4 ?k5 ?kK ?kd ?ku ?ks ?_; (case k1 => k_asm); (case k2 => k_asm); (case k3 => k_asm); (case k4 => k_asm); (case k5 => k_asm); (case kK => first | exact rfl | assumption); (case kd => ((show _ < 500); (try simp only [depth_under_make, depth_under_kw, depth_in1, depth_deeper, depth_caller]); (try dsimp only [ktrTop]); omega)); (case ku => ((show _ < 5000); (try simp only [units_in1, units_deeper, Around.mark_units, units_caller]); (try dsimp only [ktrTop]); omega)); (case ks => exact perm33))
    rintro r' news' h' tk' F' N' ⟨rfl, rfl⟩
    k_steps
    unfold Stop
    dsimp only [WhileStep2]
    show LeaveK h₀ L m _ _ _ _
    k_steps
    exact hret _ _ _ _ (by k_asm) (by k_asm) ⟨_, rfl⟩
  · rw [List.concat_eq_append] at e0
    subst e0
    have e1 : (lo ++ [Value.ref a'] ++ (hi'' ++ [r]).map fun r => Value.ref r.a) = (lo ++ [Value.ref a'] ++ hi''.map fun r => Value.ref r.a) ++ [.ref r.a] := by simp
    rw [e1] at N₁
    rw [List.length_append, List.length_singleton] at hk hsz'
    have hlb : (((lo ++ [Value.ref a'] ++ hi''.map fun r => Value.ref r.a) ++ [Value.ref r.a]).length : Int) > b := by simp; omega
    have hlo : ((lo ++ [Value.ref a'] ++ hi''.map fun r => Value.ref r.a) ++ [Value.ref r.a]).length ≤ 1000 := by simp; omega
    have hlo2 : (lo ++ [Value.ref a'] ++ hi''.map fun r => Value.ref r.a).length ≤ 1000 := by simp; omega
    obtain ⟨b1, b2, b3⟩ := hok r (by simp)
    have hoff : ∀ p ∈ (a', instObj 172 d) :: (d, frD w fx av (.ref hl) cv) :: (hl, listOf (xs ++ [u]).toArray hn) :: rest, p.1 ≠ rl := off4 h3 h4 h5 h6
    k_steps
    (try unfold Stop); k_dflt (refine' Tell.use (many_c hlo) ?k1 ?k2 ?k3 ?k4 ?k5 ?kK ?kd ?ku ?ks ?_; (case k1 => k_asm); (case k2 => k_asm); (case k3 => k_asm); (case k4 => k_asm); (case k5 => k_asm); (case kK => first | exact rfl | assumption); (case kd => ((show _ < 500); (try simp only [depth_under_make, depth_under_kw, depth_in1, depth_deeper, depth_caller]); (try dsimp only [ktrTop]); omega)); (case ku => ((show _ < 5000); (try simp only [units_in1, units_deeper, Around.mark_units, units_caller]); (try dsimp only [ktrTop]); omega)); (case ks => exact fun p hp => hp))
    rintro r' news' h' tk' F' N' ⟨t', rfl, rfl⟩
    k_steps
    (try unfold Stop); k_dflt (refine' Tell.use (top_c hlo2) ?k1 ?k2 ?k3 ?k4 ?k5 ?kK ?kd ?ku ?ks ?_; (case k1 => k_asm); (case k2 => k_asm); (case k3 => k_asm); (case k4 => k_asm); (case k5 => k_asm); (case kK => first | exact rfl | assumption); (case kd => ((show _ < 500); (try simp only [depth_under_make, depth_under_kw, depth_in1, depth_deeper, depth_caller]); (try dsimp only [ktrTop]); omega)); (case ku => ((show _ < 5000); (try simp only [units_in1, units_deeper, Around.mark_units, units_caller]); (try dsimp only [ktrTop]); omega)); (case ks => exact fun p hp => hp))
    rintro r' news' h' tk' F' N' ⟨rfl, rfl⟩
    k_steps
    (try unfold Stop); k_dflt (refine' Tell.use (catch_none_c) ?k1 ?k2 ?k3 ?k4 ?k5 ?kK ?kd ?ku ?ks ?_; (case k1 => k_asm); (case k2 => k_asm); (case k3 => k_asm); (case k4 => k_asm); (case k5 => k_asm); (case kK => first | exact rfl | assumption); (case kd => ((show _ < 500); (try simp only [depth_under_make, depth_under_kw, depth_in1, depth_deeper, depth_caller]); (try dsimp only [ktrTop]); omega)); (case ku => ((show _ < 5000); (try simp only [units_in1, units_deeper, Around.mark_units, units_caller]); (try dsimp only [ktrTop]); omega)); (case ks => exact cover3 (by k_mem) (by k_mem) (by k_mem) fun p hp => hp))
    rintro r' news' h' tk' F' N' ⟨rfl, rfl⟩
    k_steps
    (try unfold Stop); k_dflt (refine' Tell.use (pop_c hlo2 h1 h2 hoff) ?k1 ?k2 ?k3 ?k4 ?k5 ?kK ?kd ?ku ?ks ?_; (case k1 => k_asm); (case k2 => k_asm); (case k3 => k_asm); (case k4 => k_asm); (case k5 => k_asm); (case kK => first | exact rfl | assumption); (case kd => ((show _ < 500); (try simp only [depth_under_make, depth_under_kw, depth_in1, depth_deeper, depth_caller]); (try dsimp only [ktrTop]); omega)); (case ku => ((show _ < 5000); (try simp only [units_in1, units_deeper, Around.mark_units, units_caller]); (try dsimp only [ktrTop]); omega)); (case ks => exact fun p hp => .tail _ (.tail _ (.tail _ hp))))
    rintro r' news' h' tk' F' N' ⟨rfl, rfl⟩
    k_steps
    unfold Stop
    exact ⟨_, _, _, _, hi''.length, rfl, F', N', by omega, rfl, hi'', _, rfl, fun r hr => hok r (List.mem_append_left _ hr), by omega, rfl⟩
end
end

-- part TellS
section
open PySem.Calls
noncomputable section
/-- what a call tells within which a try may catch: the frames around may have turned -/
def TellS (w : World) (mean : ExcName → Option Value) (mg mb : PySem.Str → Option Value) (dd uu : Nat) (f : Addr) (vs : List Value) (news : List (Addr × Obj)) (R : Value → List (Addr × Obj) → Prop) : Prop :=
  ∀ (dp un : Nat) (gd : Option (List Code)) (cn : PySem.Str) (cs : Scope) (a : Addr) (ccd : Value) (cl : List (PySem.Str × Addr)) (outer : List Env) (A₀ : Around) (base h₀ : Heap) (L : Addr) (m : PySem.Str → Option Value) (s : Shared)
    (Q E : Value → Shared → Prop),
    Below A₀ base outer h₀ → Fr h₀ L s.heap m → (Mine.hd.heap_1 w.params).In h₀ → News h₀ L s.heap news → Top Mine.hd.view_1 LS mean mg mb h₀ → (Mine.hd.heap_1 w.params).In base → Top Mine.hd.view_1 LS mean mg mb base → KtsDicts (outer.filterMap (·.frame)) h₀ → cs.kind = .function → dp + dd < 500 → un + uu < 5000 →
    (∀ r news' h' tk' h₀', KtsTurn (outer.filterMap (·.frame)) h₀ h₀' → Fr h₀' L h' m → News h₀' L h' news' → Below A₀ base outer h₀' → (Mine.hd.heap_1 w.params).In h₀' → Top Mine.hd.view_1 LS mean mg mb h₀' → KtsDicts (outer.filterMap (·.frame)) h₀' → R r news' → Q r { s with heap := h', toks := tk' }) →
    wpAny (model PySem.Challenge.rw_pq0693_01.row.prog w) (ktrTop dp un gd cn cs L a ccd cl outer) (call (.ref f) vs) Q E s
end

section
variable {prog : Program} {w : World} {A₀ A : Around} {s : Shared} {base h₀ : Heap} {outer : List Env} {L : Addr} {m mg mb : PySem.Str → Option Value} {env : Env} {news : List (Addr × Obj)} {K : Frag} {p : Program} {loose : List PySem.Str} {mean : ExcName → Option Value}
  {R : Result → Shared → Prop} {name qual : PySem.Str} {params : Arguments} {body : List Stmt} {scope : Scope} {dV kV doc pm cdv ct oc : Value} {an od : Option Addr} {osl : Array (Option Value)} {f : Addr} {args : Args} {binds : List (PySem.Str × Value)}

/-- what is asked at a def's end, held behind a name of its own: the walk copies the name alone -/
def Held (q : Value → Shared → Prop) (v : Value) (s : Shared) : Prop := q v s
theorem held_ {q r : Value → Shared → Prop} {v : Value} {s : Shared} (h : ∀ v s, r v s → q v s) (g : r v s) : Held q v s := h _ _ g
/-- leaving a frame: the frames below the caller's may have turned -/
def LeaveT (fs : List Addr) (A₀ : Around) (base : Heap) (outer : List Env) (K : Frag) (p : Program) (loose : List PySem.Str) (mean : ExcName → Option Value) (mg mb : PySem.Str → Option Value) (h₀ : Heap) (L : Addr) (m : PySem.Str → Option Value) (g : Heap) (R : Result → Shared → Prop) (v : Value) (s' : Shared) : Prop :=
  ∃ g' L' m' news', KtsTurn fs g g' ∧ Fr g' L' s'.heap m' ∧ News g' L' s'.heap news' ∧ ∀ h₀', KtsTurn (outer.filterMap (·.frame)) h₀ h₀' → Fr h₀' L s'.heap m → News h₀' L s'.heap news' → Below A₀ base outer h₀' → K.In h₀' → Top p loose mean mg mb h₀' →
    KtsDicts (outer.filterMap (·.frame)) h₀' → R (.ok (.ret v)) s'

theorem groundT (B : Below A₀ base outer h₀) (F : Fr h₀ L s.heap m) (N : News h₀ L s.heap news) (X₀ : K.In h₀) (T : Top p loose mean mg mb h₀) (XB : K.In base) (TB : Top p loose mean mg mb base) (D : KtsDicts (outer.filterMap (·.frame)) h₀)
    (hA : A.frames = some (env :: outer)) (hf : env.frame = some L) (hke : env.scope.kind = .function) :
    Fr h₀ L (hideAll s.heap (news.map (·.1))) m ∧ Below A base (env :: outer) (hideAll s.heap (news.map (·.1))) ∧ h₀.StaysIn (hideAll s.heap (news.map (·.1))) ∧ KtsDicts ((env :: outer).filterMap (·.frame)) (hideAll s.heap (news.map (·.1))) ∧
      ∀ v s', LeaveT ((env :: outer).filterMap (·.frame)) A₀ base outer K p loose mean mg mb h₀ L m (hideAll s.heap (news.map (·.1))) R v s' → R (.ok (.ret v)) s' := by
  have nm : ∀ b o, h₀.get? b = some o → b ∉ news.map (·.1) := fun b o e q => by
    obtain ⟨p, hp, rfl⟩ := List.mem_map.mp q
    rw [(N p hp).2.2] at e; cases e
  have st : h₀.StaysIn (hideAll s.heap (news.map (·.1))) := fun b o e => hideAll_get _ (F.keep b o e) (nm b o e)
  obtain ⟨oL, es, ep, hL, hLd, hLk, hLf⟩ := id F.ns
  have nL : L ∉ news.map (·.1) := fun q => by
    obtain ⟨p, hp, e⟩ := List.mem_map.mp q
    exact (N p hp).2.1 e
  have hLg := hideAll_get (news.map (·.1)) hL nL
  have B₁ := pushX B F hf hke
  have hNs : ∀ (sl : Array (Option Value)) h', h'.get? L = some { oL with slots := sl } → Heap.Ns h' L m := fun sl h' e => ⟨_, es, ep, e, hLd, hLk, hLf⟩
  refine ⟨⟨⟨oL, es, ep, hLg, hLd, hLk, hLf⟩, st, F.above⟩, ⟨hA, fun b o e => st b o (B.stays b o e), funFrames_hideAll B₁.frames fun env' he b hb hf' => ?_⟩, st, fun b hb => ?_, fun v s' hl => ?_⟩
  · cases he with
    | head => exact nL ((Option.some.inj (hf.symm.trans hf') : L = b) ▸ hb)
    | tail _ he =>
      obtain ⟨L₁, o₁, hf₁, ho₁⟩ := funFrames_in B.frames env' he
      rw [hf₁] at hf'
      exact nm L₁ o₁ ho₁ ((Option.some.inj hf' : L₁ = b) ▸ hb)
  · rcases ktx_mem hf hb with rfl | hb
    · exact ⟨oL, es, ep, hLg, hLd⟩
    · obtain ⟨o, es', n', ho', hd'⟩ := D b hb
      exact ⟨o, es', n', st b o ho', hd'⟩
  · have nL₀ : h₀.get? L = none := kts_self F
    obtain ⟨g', L', m', news', T', F', N', k⟩ := hl
    obtain ⟨sl, hs⟩ := T'.up hLg
    obtain ⟨T₁, S₁⟩ := kts_turn_at (h := s'.heap) (fs := outer.filterMap (·.frame)) (g := h₀)
      (fun b hb => by
        obtain ⟨_, o, ho', _⟩ := B.frames.mem hb
        exact ⟨o, ho'⟩)
      (fun b o e nmem => F'.keep b o (T'.other b o (st b o e) (fun q => by
        rcases ktx_mem hf q with z | z
        · rw [z, nL₀] at e
          cases e
        · exact nmem z)))
      (fun b o e hm => by
        obtain ⟨sl', hs'⟩ := T'.up (st b o e)
        exact ⟨sl', F'.keep _ _ hs'⟩)
    have B₃ : Below A₀ base outer (ktsHeap s'.heap (outer.filterMap (·.frame)) h₀) := ⟨B.stack, fun b o e => T₁.other b o (B.stays b o e) (fun hm => by
      rw [(B.frames.mem hm).1] at e
      cases e), B.frames.of_keeps fun b o e _ => by
      obtain ⟨sl', hs'⟩ := T₁.up e
      exact ⟨_, hs', rfl⟩⟩
    refine k _ T₁ ⟨hNs sl _ (F'.keep _ _ hs), S₁, by rw [T₁.size]; exact F.above⟩ (fun p hp => ⟨(N' p hp).1, fun q => ?_, ?_⟩) B₃ (XB.keeps B₃.stays) (TB.keeps B₃.stays) (D.turn T₁)
    · have := (N' p hp).2.2; rw [q, hs] at this; cases this
    · refine T₁.none_ _ ?_
      cases q : h₀.get? p.1 with
      | none => rfl
      | some o =>
        obtain ⟨sl', hs'⟩ := T'.up (st _ _ q)
        have := (N' p hp).2.2
        rw [hs'] at this
        cases this

theorem code_defT (B : Below A₀ base outer h₀) (F : Fr h₀ L s.heap m) (X₀ : K.In h₀) (N : News h₀ L s.heap news) (T : Top p loose mean mg mb h₀) (XB : K.In base) (TB : Top p loose mean mg mb base) (D : KtsDicts (outer.filterMap (·.frame)) h₀)
    (hA : A.frames = some (env :: outer)) (hf : env.frame = some L) (hke : env.scope.kind = .function)
    (ho : K.lookup f = some ⟨oc, od, .func (fnOf name qual params body scope dV kV doc pm an cdv ct), osl⟩) (hcd : codeIn K cdv qual = true) (hroom : A.depth < recursionLimit)
    (hbind : BindsTo s (fnOf name qual params body scope dV kV doc pm an cdv ct) args binds) (hloc : ∀ y ∈ binds, scope.names.lookup y.1 = some .local)
    (h : ∀ g L' h₁ tk (q : Value → Shared → Prop) (e : Value → Shared → Prop), Fr h₀ L g m → Fr g L' h₁ (fun y => binds.reverse.lookup y) → News g L' h₁ news → Below A base (env :: outer) g → K.In g → Top p loose mean mg mb g → KtsDicts ((env :: outer).filterMap (·.frame)) g → (∀ p ∈ news, p.1 < L') →
      (∀ v s', LeaveT ((env :: outer).filterMap (·.frame)) A₀ base outer K p loose mean mg mb h₀ L m g R v s' → q v s') →
      wpAny (model prog w) (A.deeper (envOf qual scope L' f cdv)) (execs body (envOf qual scope L' f cdv))
        (fun fl s' => Held q (match fl with | .ret v => v | _ => .none) s') e { s with heap := h₁, toks := tk })
    (hco : scope.isCoroutine = false) (hgen : scope.isGenerator = false) (hk : scope.kind = .function)
    (hcell : ∀ x ∈ scope.names, x.2 ≠ .cell) : codeAny (model prog w) A (.call (.ref f) args) R s := by
  have X := X₀.keeps F.keep
  obtain ⟨FG, BG, st, DG, lv⟩ := groundT (R := R) B F N X₀ T XB TB D hA hf hke
  refine codeAny_call_def (fd := fnOf name qual params body scope dV kV doc pm an cdv ct) (body := body) (binds := binds) hroom (X _ _ ho) rfl (T.nolimit.keeps F.keep) (codeRec_of X hcd) rfl hbind hcell hloc (fun h₁ hns hk₁ => ?_) hco hgen hk
  exact wpAny_mono (h _ s.heap.objs.size h₁ _ _ _ FG ⟨hns, fun b o e => hk₁ b o (of_hideAll _ e), Nat.le_of_eq (hideAll_size _ _)⟩
    (fun p hp => ⟨hk₁ _ _ (N p hp).1, Nat.ne_of_lt (Heap.lt_size (N p hp).1), hideAll_none _ (List.mem_map_of_mem hp)⟩) BG (X₀.keeps st) (T.keeps st) DG (fun p hp => Heap.lt_size (N p hp).1) (fun _ _ x => x)) (fun fl s' hl => lv _ _ hl) fun _ _ y => y

theorem code_defTC (B : Below A₀ base outer h₀) (F : Fr h₀ L s.heap m) (X₀ : K.In h₀) (N : News h₀ L s.heap news) (T : Top p loose mean mg mb h₀) (XB : K.In base) (TB : Top p loose mean mg mb base) (D : KtsDicts (outer.filterMap (·.frame)) h₀)
    (hA : A.frames = some (env :: outer)) (hf : env.frame = some L) (hke : env.scope.kind = .function)
    (ho : K.lookup f = some ⟨oc, od, .func (fnOf name qual params body scope dV kV doc pm an cdv ct), osl⟩) (hcd : codeIn K cdv qual = true) (hroom : A.depth < recursionLimit)
    (hbind : BindsTo s (fnOf name qual params body scope dV kV doc pm an cdv ct) args binds) (hkind : (binds.all fun y => scope.names.lookup y.1 == some .local || scope.names.lookup y.1 == some .cell) = true)
    (hnd : ((cellsFrom 0 scope.names []).map (·.1)).Nodup)
    (h : ∀ g L' h₁ tk cells (q : Value → Shared → Prop) (e : Value → Shared → Prop), Fr h₀ L g m → Fr g L' h₁ (bindL (envOfC qual scope L' f cdv).kindOf binds fun _ => none) → News g L' h₁ (cells ++ news) →
      CellsAre (bindC (envOfC qual scope L' f cdv).kindOf binds fun _ => none) (cellsFrom (L' + 1) scope.names []) cells → Below A base (env :: outer) g → K.In g → Top p loose mean mg mb g → KtsDicts ((env :: outer).filterMap (·.frame)) g → (∀ p ∈ news, p.1 < L') →
      (∀ v s', LeaveT ((env :: outer).filterMap (·.frame)) A₀ base outer K p loose mean mg mb h₀ L m g R v s' → q v s') →
      wpAny (model prog w) (A.deeper (envOfC qual scope L' f cdv)) (execs body (envOfC qual scope L' f cdv))
        (fun fl s' => Held q (match fl with | .ret v => v | _ => .none) s') e { s with heap := h₁, toks := tk })
    (hco : scope.isCoroutine = false) (hgen : scope.isGenerator = false) (hk : scope.kind = .function) : codeAny (model prog w) A (.call (.ref f) args) R s := by
  have X := X₀.keeps F.keep
  obtain ⟨FG, BG, st, DG, lv⟩ := groundT (R := R) B F N X₀ T XB TB D hA hf hke
  refine codeAny_call_function hroom (X _ _ ho) rfl hco hgen rfl (codeRec_of X hcd) (hbind _ _ _ _ ?_)
  refine wpAny_newFunctionEnv_cells hk (kindsX hkind _) fun env' he s' x => ?_
  subst he
  refine ⟨(T.nolimit.keeps F.keep).keeps x.toInCall.keep, codeAny_func ?_⟩
  obtain ⟨h₁, tk, rfl, _⟩ := x.done
  have hk₁ := x.toInCall.keep
  obtain ⟨cells, NC, Y⟩ := Cl.news (h₀ := s.heap) (Nat.le_refl _) fun n c hm => ⟨x.cell n c (lookup_of_mem_nodup (cellsFrom_names scope.names 0 (s.heap.objs.size + 1) [] [] rfl ▸ hnd) hm), x.above n c hm⟩
  refine wpAny_mono (h _ s.heap.objs.size h₁ tk cells _ _ FG ⟨x.toInCall.ns, fun b o e => hk₁ b o (of_hideAll _ e), Nat.le_of_eq (hideAll_size _ _)⟩ (fun p hp => ?_) Y BG (X₀.keeps st) (T.keeps st) DG (fun p hp => Heap.lt_size (N p hp).1) (fun _ _ x => x)) (fun fl s' hl => lv _ _ hl) fun _ _ y => y
  rcases List.mem_append.mp hp with hp | hp
  · refine ⟨(NC p hp).1, (NC p hp).2.1, ?_⟩
    cases q : (hideAll s.heap (news.map (·.1))).get? p.1 with
    | none => rfl
    | some o => have := of_hideAll _ q; rw [(NC p hp).2.2] at this; cases this
  · exact ⟨hk₁ _ _ (N p hp).1, Nat.ne_of_lt (Heap.lt_size (N p hp).1), hideAll_none _ (List.mem_map_of_mem hp)⟩

theorem leaveT_ {fs : List Addr} {g g' : Heap} {L' : Addr} {m' : PySem.Str → Option Value} {news' : List (Addr × Obj)} {v : Value} {s' : Shared}
    (F' : Fr g' L' s'.heap m') (N' : News g' L' s'.heap news') (T : KtsTurn fs g g')
    (k : ∀ h₀', KtsTurn (outer.filterMap (·.frame)) h₀ h₀' → Fr h₀' L s'.heap m → News h₀' L s'.heap news' → Below A₀ base outer h₀' → K.In h₀' → Top p loose mean mg mb h₀' → KtsDicts (outer.filterMap (·.frame)) h₀' → R (.ok (.ret v)) s') :
    LeaveT fs A₀ base outer K p loose mean mg mb h₀ L m g R v s' := ⟨g', L', m', news', T, F', N', k⟩

theorem TellS.use {w : World} {mean : ExcName → Option Value} {mg mb : PySem.Str → Option Value} {dd uu : Nat} {f : Addr} {vs : List Value} {news news₀ : List (Addr × Obj)} {R : Value → List (Addr × Obj) → Prop}
    {dp un : Nat} {gd : Option (List Code)} {cn : PySem.Str} {cs : Scope} {a : Addr} {ccd : Value} {cl : List (PySem.Str × Addr)} {outer : List Env} {A₀ : Around} {base h₀ : Heap} {L : Addr} {m : PySem.Str → Option Value} {s : Shared} {Q E : Value → Shared → Prop}
    (C : TellS w mean mg mb dd uu f vs news R) (B : Below A₀ base outer h₀) (F : Fr h₀ L s.heap m) (X : (Mine.hd.heap_1 w.params).In h₀) (N : News h₀ L s.heap news₀) (T : Top Mine.hd.view_1 LS mean mg mb h₀)
    (XB : (Mine.hd.heap_1 w.params).In base) (TB : Top Mine.hd.view_1 LS mean mg mb base) (D : KtsDicts (outer.filterMap (·.frame)) h₀) (hk : cs.kind = .function)
    (hd : dp + dd < 500) (hu : un + uu < 5000) (sub : ∀ p ∈ news, p ∈ news₀)
    (ret : ∀ r news' h' tk' h₀', KtsTurn (outer.filterMap (·.frame)) h₀ h₀' → Fr h₀' L h' m → News h₀' L h' news' → Below A₀ base outer h₀' → (Mine.hd.heap_1 w.params).In h₀' → Top Mine.hd.view_1 LS mean mg mb h₀' → KtsDicts (outer.filterMap (·.frame)) h₀' → R r news' → Q r { s with heap := h', toks := tk' }) :
    wpAny (model PySem.Challenge.rw_pq0693_01.row.prog w) (ktrTop dp un gd cn cs L a ccd cl outer) (call (.ref f) vs) Q E s :=
  C _ _ _ _ _ _ _ _ _ _ _ _ _ _ _ _ _ B F X (fun p hp => N p (sub p hp)) T XB TB D hk hd hu ret

theorem TellX.use {w : World} {mean : ExcName → Option Value} {mg mb : PySem.Str → Option Value} {dd uu : Nat} {f : Addr} {vs : List Value} {news news₀ : List (Addr × Obj)} {R : Addr → Addr → List (Addr × Obj) → Prop}
    {dp un : Nat} {gd : Option (List Code)} {cn : PySem.Str} {cs : Scope} {a : Addr} {ccd : Value} {cl : List (PySem.Str × Addr)} {outer : List Env} {A₀ : Around} {base h₀ : Heap} {L : Addr} {m : PySem.Str → Option Value} {s : Shared} {Q E : Value → Shared → Prop}
    (C : TellX w mean mg mb dd uu f vs news R) (B : Below A₀ base outer h₀) (F : Fr h₀ L s.heap m) (X : (Mine.hd.heap_1 w.params).In h₀) (N : News h₀ L s.heap news₀) (T : Top Mine.hd.view_1 LS mean mg mb h₀) (hk : cs.kind = .function)
    (hd : dp + dd < 500) (hu : un + uu < 5000) (sub : ∀ p ∈ news, p ∈ news₀)
    (ret : ∀ G e dx news' h' tk', Fr h₀ L G m → RaisedX base G (envX cn cs L a ccd cl :: outer) e dx news' h' → G.UpToSlots h' → R e dx news' → E (.ref e) { s with heap := h', toks := tk' }) :
    wpAny (model PySem.Challenge.rw_pq0693_01.row.prog w) (ktrTop dp un gd cn cs L a ccd cl outer) (call (.ref f) vs) Q E s :=
  C _ _ _ _ _ _ _ _ _ _ _ _ _ _ _ _ _ B F X (fun p hp => N p (sub p hp)) T hk hd hu ret
end
end

-- part State
section
open PySem.Calls
inductive All2 {α β : Type} (R : α → β → Prop) : List α → List β → Prop
  | nil : All2 R [] []
  | cons {a b as bs} : R a b → All2 R as bs → All2 R (a :: as) (b :: bs)
section
variable {α β : Type} {R R' : α → β → Prop} {as as' : List α} {bs bs' : List β}
theorem All2.mono (h : All2 R as bs) (s : ∀ a b, a ∈ as → R a b → R' a b) : All2 R' as bs := by
  induction h with
  | nil => exact .nil
  | cons h _ ih => exact .cons (s _ _ (.head _) h) (ih fun a b ha => s a b (.tail _ ha))
theorem All2.append (h : All2 R as bs) (k : All2 R as' bs') : All2 R (as ++ as') (bs ++ bs') := by
  induction h with
  | nil => exact k
  | cons h _ ih => exact .cons h ih
theorem All2.length (h : All2 R as bs) : as.length = bs.length := by
  induction h with
  | nil => rfl
  | cons _ _ ih => simp [ih]
theorem All2.split (h : All2 R as (bs ++ bs')) : ∃ a₁ a₂, as = a₁ ++ a₂ ∧ All2 R a₁ bs ∧ All2 R a₂ bs' := by
  induction bs generalizing as with
  | nil => exact ⟨[], as, rfl, .nil, h⟩
  | cons b bs ih =>
    cases h with
    | cons h r =>
      obtain ⟨a₁, a₂, rfl, h1, h2⟩ := ih r
      exact ⟨_ :: a₁, a₂, rfl, .cons h h1, h2⟩
theorem All2.one {b : β} (h : All2 R as [b]) : ∃ a, as = [a] ∧ R a b := by
  cases h with
  | cons h r => cases r; exact ⟨_, rfl, h⟩
theorem All2.get {a : α} {i : Nat} (h : All2 R as bs) (e : as[i]? = some a) : ∃ b, bs[i]? = some b ∧ R a b := by
  induction h generalizing i with
  | nil => simp at e
  | cons h _ ih =>
    cases i with
    | zero => simp only [List.getElem?_cons_zero, Option.some.injEq] at e; subst e; exact ⟨_, rfl, h⟩
    | succ i => simp only [List.getElem?_cons_succ] at e ⊢; exact ih e
theorem All2.mem {a : α} (h : All2 R as bs) (ha : a ∈ as) : ∃ b ∈ bs, R a b := by
  induction h with
  | nil => cases ha
  | cons h _ ih =>
    rcases List.mem_cons.mp ha with rfl | ha
    · exact ⟨_, .head _, h⟩
    · obtain ⟨b, hb, r⟩ := ih ha
      exact ⟨b, .tail _ hb, r⟩
end

/-- a frame's parts that no ledger entry turns -/
structure FrV (imm : List (Addr × Obj)) (r : FrR) (x : FrA) : Prop where
  hs : IntsAre r.hv x.hs
  at_ : ∃ t, r.av = .int x.at_ t
  c : DatIn imm r.cv (datC x.c)
  ma : (r.a, instObj 172 r.d) ∈ imm
theorem FrV.mono {imm imm' : List (Addr × Obj)} {r : FrR} {x : FrA} (h : FrV imm r x) (s : ∀ p ∈ imm, p ∈ imm') : FrV imm' r x := ⟨h.hs, h.at_, h.c.mono s, s _ h.ma⟩

abbrev frE (w : World) (r : FrR) : List (Addr × Obj) := [(r.d, frD w r.fx r.av (.ref r.hl) r.cv), (r.hl, listOf r.hv.toArray r.hn)]
abbrev frU (r : FrR) : List Addr := [r.d, r.hl]
abbrev rowsO (frs : List FrR) (n : Nat) : Obj := listOf (frs.map fun r => Value.ref r.a).toArray n

/-- the state that the law keeps: the frames, and all else that does not turn -/
structure St (w : World) (f fd rl src : Addr) (ft : Tok) (frs : List FrR) (fs : List FrA) (imm news : List (Addr × Obj)) : Prop where
  mf : (f, instObj 235 fd) ∈ imm
  mfd : (fd, framesD w ft rl) ∈ imm
  all : All2 (FrV imm) frs fs
  nd : (src :: rl :: frs.flatMap frU).Nodup
  off : ∀ p ∈ imm, p.1 ∉ src :: rl :: frs.flatMap frU
  msrc : ∃ a ta b tb n, 0 ≤ b ∧ b < 2 ^ 32 ∧ (src, listOf #[.int a ta, .int b tb] n) ∈ news
  mrl : ∃ n, (rl, rowsO frs n) ∈ news
  sub : ∀ p ∈ frs.flatMap (frE w) ++ imm, p ∈ news

theorem ints_of {news : List (Addr × Obj)} : ∀ {vs : List Value} {ns : List Int}, DatAll news vs (ns.map Dat.int) → IntsAre vs ns
  | _, [], .nil => .nil
  | _, n :: ns, .cons h r => by
    cases h with
    | int _ t => exact .cons _ _ (ints_of r)

/-- a row of the law's own list, opened -/
theorem row_open {news : List (Addr × Obj)} {v : Value} {x : FrA} (h : DatIn news v (datF x)) :
    ∃ a n ha hv hn t cv, v = .ref a ∧ (a, listOf [Value.ref ha, .int x.at_ t, cv].toArray n) ∈ news ∧ (ha, listOf hv.toArray hn) ∈ news ∧ IntsAre hv x.hs ∧ DatIn news cv (datC x.c) := by
  unfold datF at h
  cases h with
  | list m r =>
    cases r with
    | cons h1 r =>
      cases r with
      | cons h2 r =>
        cases r with
        | cons h3 r =>
          cases r
          cases h1 with
          | list m1 r1 =>
            cases h2 with
            | int _ t => exact ⟨_, _, _, _, _, t, _, rfl, m, m1, ints_of r1, h3⟩

theorem own_open {news : List (Addr × Obj)} {v : Value} {fs : List FrA} (h : DatIn news v (.list (fs.map datF))) : ∃ a vs n, v = .ref a ∧ (a, listOf vs.toArray n) ∈ news ∧ DatAll news vs (fs.map datF) := by
  cases h with
  | list m r => exact ⟨_, _, _, rfl, m, r⟩

theorem datAll_split {news : List (Addr × Obj)} {vs : List Value} {ds es : List Dat} (h : DatAll news vs (ds ++ es)) : ∃ v₁ v₂, vs = v₁ ++ v₂ ∧ DatAll news v₁ ds ∧ DatAll news v₂ es := by
  induction ds generalizing vs with
  | nil => exact ⟨[], vs, rfl, .nil, h⟩
  | cons d ds ih =>
    cases h with
    | cons h r =>
      obtain ⟨v₁, v₂, rfl, h1, h2⟩ := ih r
      exact ⟨_ :: v₁, v₂, rfl, .cons h h1, h2⟩

theorem kqd_ints (n : Nat) (ns : List Int) : (ns.map Dat.int).all (kqdOk n) = true := by
  induction ns with
  | nil => rfl
  | cons x r ih => rw [List.map_cons, List.all_cons, ih, Bool.and_true]; cases n <;> rfl
theorem kqd_c (n : Nat) (c : Option Int) : kqdOk (n + 2) (datC c) = true := by
  cases c with
  | none => rfl
  | some k =>
    have h1 : PyData.strOk (PySem.Str.ofString "int") = true := by decide +kernel
    have h2 : PyData.strOk (PySem.Str.ofString "Int64") = true := by decide +kernel
    show ([Dat.str (PySem.Str.ofString "int"), .str (PySem.Str.ofString "Int64"), .int k].all (kqdOk (n + 1))) = true
    simp [kqdOk, h1, h2]
theorem kqd_f (n : Nat) (x : FrA) : kqdOk (n + 3) (datF x) = true := by
  show ([Dat.list (x.hs.map Dat.int), .int x.at_, datC x.c].all (kqdOk (n + 2))) = true
  have h1 : kqdOk (n + 2) (Dat.list (x.hs.map Dat.int)) = true := by
    show ((x.hs.map Dat.int).all (kqdOk (n + 1))) = true
    exact kqd_ints _ _
  simp [kqdOk, h1, kqd_c n x.c]
theorem kqd_own (fs : List FrA) : kqdOk 8 (.list (fs.map datF)) = true := by
  show ((fs.map datF).all (kqdOk 7)) = true
  rw [List.all_eq_true]
  intro d hd
  obtain ⟨x, _, rfl⟩ := List.mem_map.mp hd
  exact kqd_f 4 x

theorem my_item {prog : Program} {w : World} {A : Around} {E : Value → Shared → Prop} {s : Shared} {h₀ : Heap} {L l : Addr} {news : List (Addr × Obj)} {value slice : PySem.Expr} {xs : List Value} {n : Nat} {k : Int} {u : Tok} {x : Value} {Q : Value → Shared → Prop}
    (N : News h₀ L s.heap news) (hm : (l, listOf xs.toArray n) ∈ news) (h0 : 0 ≤ k) (hfit : k < 2 ^ 63) (hx : xs[k.toNat]? = some x) (h : Q x s)
    (hs : subscripted slice false (.ref l) (.int k u) = operate [.ref l, .int k u] (getItem (.ref l) (.int k u)) := by with_unfolding_all rfl) (hg : ∀ r, letTemporaryGo value (.ref l) r = pure () := by intro _; with_unfolding_all rfl) :
    wpAny (model prog w) A (subscriptTail value slice (.ref l) (.int k u)) Q E s := kim_list N hm rfl rfl h0 hfit hx h hs hg

theorem off1_mem {D : Addr} : ∀ {l : List (Addr × Obj)}, LCg.Off1 D l → ∀ p ∈ l, p.1 ≠ D
  | [], _, _, h => nomatch h
  | _ :: _, x, p, h => by
    rcases List.mem_cons.mp h with rfl | h
    · exact x.1
    · exact off1_mem x.2 p h


theorem xgetE {prog : Program} {w : World} {A : Around} {E : Value → Shared → Prop} {s : Shared} {h₀ : Heap} {L dx e : Addr} {m : PySem.Str → Option Value} {news : List (Addr × Obj)} {oe : Obj} {es : List DictEntry} {n : Nat} {name : PySem.Str} {v : Value} {Q : Value → Shared → Prop} {expr : Bool} {attr : Option Value}
    (F : Fr h₀ L s.heap m) (X₀ : (Mine.hd.heap_1 w.params).In h₀) (N : News h₀ L s.heap news) (hm : (e, oe) ∈ news) (h1 : oe.cls = .ref 71) (h2 : notCls oe = true) (h3 : oe.dict = some dx) (hmd : (dx, dictOf es n) ∈ news)
    (ha : findIn (Mine.hd.heap_1 w.params) (.ref 71) name = some attr) (hn : noGet (Mine.hd.heap_1 w.params) attr = true) (hl : getL name es = some (some v)) (hv : handedIn v = true) (h : Q v { s with toks := s.toks + 1 }) :
    wpAny (model prog w) A (getAttr (.ref e) name expr) Q E s := by
  obtain ⟨cd, hc, hp, hh⟩ := cd71 (P := w.params)
  exact xget_gen (X₀.keeps F.keep) (I := ⟨(N _ hm).1, h1, h2, by rw [h3]; exact (N _ hmd).1⟩) (od := some (dictOf es n)) hc hp ga71 gt71 (findObj_own (by unfold hasDictIn; rw [hc]; exact hh) ha hn (by rw [lookIn_dict]; exact hl)) hv h

/-- a ledger without some addresses -/
theorem cut {h₀ h : Heap} {L : Addr} {led : List (Addr × Obj)} (_N : News h₀ L h led) (bad : Addr → Prop) : ∃ rest' : List (Addr × Obj), ∀ p, p ∈ rest' ↔ p ∈ led ∧ ¬ bad p.1 := by
  classical
  exact ⟨led.filter (fun p => decide (¬ bad p.1)), fun p => by simp [List.mem_filter]⟩

abbrev mutsOf (src rl : Addr) (frs : List FrR) : List Addr := src :: rl :: frs.flatMap frU

theorem allLt_mem {d : Addr} : ∀ {l : List (Addr × Obj)}, AllLt d l → ∀ p ∈ l, p.1 < d
  | [], _, _, hp => nomatch hp
  | q :: r, h, p, hp => by
    rcases List.mem_cons.mp hp with rfl | hp
    · exact h.1
    · exact allLt_mem h.2 p hp

theorem mem_frU {w : World} {frs : List FrR} {x : Addr} (h : x ∈ frs.flatMap frU) : ∃ o, (x, o) ∈ frs.flatMap (frE w) := by
  obtain ⟨r, hr, hx⟩ := List.mem_flatMap.mp h
  simp only [frU, List.mem_cons, List.not_mem_nil, or_false] at hx
  rcases hx with rfl | rfl
  · exact ⟨_, List.mem_flatMap.mpr ⟨r, hr, .head _⟩⟩
  · exact ⟨_, List.mem_flatMap.mpr ⟨r, hr, .tail _ (.head _)⟩⟩

theorem fresh_muts {w : World} {src rl D : Addr} {frs : List FrR} {rest : List (Addr × Obj)} {o : Obj} (h : AllLt D rest) (hs : (src : Nat) < D) (hrl : (rl, o) ∈ rest) (hsub : ∀ p ∈ frs.flatMap (frE w), p ∈ rest) : D ∉ mutsOf src rl frs := fun hm => by
  rcases List.mem_cons.mp hm with rfl | hm
  · exact absurd hs (Nat.lt_irrefl _)
  · rcases List.mem_cons.mp hm with rfl | hm
    · exact absurd (allLt_mem h _ hrl) (Nat.lt_irrefl _)
    · obtain ⟨o', ho⟩ := mem_frU (w := w) hm
      exact absurd (allLt_mem h _ (hsub _ ho)) (Nat.lt_irrefl _)
theorem fresh_rest {D : Addr} {rest : List (Addr × Obj)} (h : AllLt D rest) {p : Addr × Obj} (hp : p ∈ rest) : p.1 ≠ D := fun q => absurd (allLt_mem h p hp) (by rw [q]; exact Nat.lt_irrefl _)


theorem bare_of {w : World} {imm rest rest' : List (Addr × Obj)} {rhi : List FrR} {hi : List FrA} {rl : Addr} (hB : All2 (FrV imm) rhi hi) (hbare : ∀ y ∈ hi, y.hs = []) (hin : ∀ p ∈ rest, p.1 ≠ rl → p ∈ rest')
    (hsubI : ∀ p ∈ imm, p ∈ rest) (hneI : ∀ p ∈ imm, p.1 ≠ rl) (hsubF : ∀ p ∈ rhi.flatMap (frE w), p ∈ rest) (hne : rl ∉ rhi.flatMap frU) : ∀ r ∈ rhi, Bare w rest' r := fun r hr' => by
  obtain ⟨x, hx, hv⟩ := hB.mem hr'
  have hv1 : r.hv = [] := List.length_eq_zero_iff.mp (by rw [hv.hs.length, hbare x hx]; rfl)
  have hf : ∀ p ∈ frE w r, p ∈ rhi.flatMap (frE w) := fun p hp => List.mem_flatMap.mpr ⟨r, hr', hp⟩
  have b3 : (r.hl, listOf r.hv.toArray r.hn) ∈ frE w r := .tail _ (.head _)
  refine ⟨hin _ (hsubI _ hv.ma) (hneI _ hv.ma), hin _ (hsubF _ (hf _ (.head _))) (fun q => hne ?_), hin _ ?_ (fun q => hne ?_)⟩
  · exact List.mem_flatMap.mpr ⟨r, hr', by rw [← q]; exact .head _⟩
  · rw [← hv1]; exact hsubF _ (hf _ b3)
  · exact List.mem_flatMap.mpr ⟨r, hr', by rw [← q]; exact .tail _ (.head _)⟩


theorem headdat {h₀ h : Heap} {L vD : Addr} {t1 t2 tv : Tok} {k : Int} {n : Nat} {l : List (Addr × Obj)}
    (N : News h₀ L h ((vD, ({ cls := .type "tuple", data := .seq #[Value.str (PySem.Str.ofString "int") t1, .str (PySem.Str.ofString "Int64") t2, .int k tv] n } : Obj)) :: l)) :
    ∃ vo, DatIn [(vD, vo)] (.ref vD) (datC (some k)) ∧ News h₀ L h ((vD, vo) :: l) :=
  ⟨_, .tuple (vs := [Value.str (PySem.Str.ofString "int") t1, .str (PySem.Str.ofString "Int64") t2, .int k tv]) (.head _) (.cons (.str _ _) (.cons (.str _ _) (.cons (.int _ _) .nil))), N⟩
theorem head_name {h₀ h : Heap} {L : Addr} {p : Addr × Obj} {l : List (Addr × Obj)} (_N : News h₀ L h (p :: l)) : ∃ x, x = p.1 := ⟨_, rfl⟩
theorem dat_at {vD : Addr} {vo : Obj} {v : Value} {d : Dat} {l : List (Addr × Obj)} (h : DatIn [(vD, vo)] v d) (m : (vD, vo) ∈ l) : DatIn l v d := h.mono fun p hp => by rw [List.mem_singleton.mp hp]; exact m


theorem name_goes_C {M : Model} {A : Around} {E : Value → Shared → Prop} {s : Shared} {name : PySem.Str} {scope : Scope} {L a : Addr} {cd : Value} {h₀ : Heap} {m : PySem.Str → Option Value} {news : List (Addr × Obj)} {n : PySem.Str} {pos : Pos} {Q : Unit → Shared → Prop} (F : Fr h₀ L s.heap m) (N : News h₀ L s.heap news)
    (h : ∀ h' v, Fr h₀ L h' (fun x => if x = n then v else m x) → News h₀ L h' news → Q () { s with heap := h', toks := s.toks + 1 })
    (hk : scope.kind = .function := by rfl) (hl : (envOfC name scope L a cd).kindOf n = some .local := by rfl) :
    wpAny M A (do bindName (envOfC name scope L a cd) n .none; unbindBehindTheSuite (envOfC name scope L a cd) n pos) Q E s :=
  wpAny_nameGoes_keeps hl F.ns (by show (scope.kind == .class || (scope.kind == .module && L != mainGlobals)) = false; rw [hk]; rfl) fun h' v hn hs => h h' v (F.set hn hs) (N.set hs)


theorem second_name {h₀ h : Heap} {L : Addr} {p q : Addr × Obj} {l : List (Addr × Obj)} (_N : News h₀ L h (p :: q :: l)) : ∃ x, x = q.1 := ⟨_, rfl⟩
theorem pick_to (xs : List Value) {d : Int} (h0 : 0 ≤ d) : kms_pick xs none (some d) = xs.take d.toNat := by
  unfold kms_pick
  have e1 : kms_lo none xs.length = 0 := rfl
  have e2 : xs.take (kms_hi (some d) xs.length - 0) = xs.take d.toNat := by
    unfold kms_hi
    dsimp only
    rw [if_neg (by omega), Nat.sub_zero]
    rcases Nat.le_total d.toNat xs.length with q | q
    · congr 1; omega
    · rw [List.take_of_length_le q, List.take_of_length_le]; omega
  rw [e1, List.drop_zero]
  exact e2
theorem datAll_take {news : List (Addr × Obj)} {vs : List Value} {ds es : List Dat} (h : DatAll news vs (ds ++ es)) : DatAll news (vs.take ds.length) ds := by
  obtain ⟨v₁, v₂, rfl, h1, h2⟩ := datAll_split h
  rw [← h1.length, List.take_left]
  exact h1


theorem addr_frE {w : World} {frs : List FrR} {p : Addr × Obj} (h : p ∈ frs.flatMap (frE w)) : p.1 ∈ frs.flatMap frU := by
  obtain ⟨r, hr, hp⟩ := List.mem_flatMap.mp h
  refine List.mem_flatMap.mpr ⟨r, hr, ?_⟩
  simp only [frE, List.mem_cons, List.not_mem_nil, or_false] at hp
  rcases hp with rfl | rfl
  · exact .head _
  · exact .tail _ (.head _)
theorem muts_left {src rl : Addr} {r₁ r₂ : List FrR} : ∀ x ∈ mutsOf src rl r₁, x ∈ mutsOf src rl (r₁ ++ r₂) := fun x hx => by
  unfold mutsOf at *
  rw [List.flatMap_append]
  rcases List.mem_cons.mp hx with rfl | hx
  · exact .head _
  · rcases List.mem_cons.mp hx with rfl | hx
    · exact .tail _ (.head _)
    · exact .tail _ (.tail _ (List.mem_append_left _ hx))
theorem nodup_left {src rl : Addr} {r₁ r₂ : List FrR} (h : (mutsOf src rl (r₁ ++ r₂)).Nodup) : (mutsOf src rl r₁).Nodup := by
  unfold mutsOf at *
  rw [List.flatMap_append] at h
  exact List.Pairwise.sublist (List.Sublist.cons₂ _ (List.Sublist.cons₂ _ (List.sublist_append_left _ _))) h


theorem ints_snoc {n : Int} : ∀ {ns : List Int} {vs : List Value}, IntsAre vs (ns ++ [n]) → ∃ vs0 t, vs = vs0 ++ [.int n t] ∧ IntsAre vs0 ns
  | [], _, .cons _ t .nil => ⟨[], t, rfl, .nil⟩
  | m :: ns, _, .cons _ t h => by
    obtain ⟨vs0, t', rfl, h'⟩ := ints_snoc (ns := ns) h
    exact ⟨_ :: vs0, t', rfl, .cons _ _ h'⟩
theorem ints_add {n : Int} {t : Tok} : ∀ {ns : List Int} {vs : List Value}, IntsAre vs ns → IntsAre (vs ++ [.int n t]) (ns ++ [n])
  | _, _, .nil => .cons _ _ .nil
  | _, _, .cons _ _ h => .cons _ _ (ints_add h)
theorem pick_but_last (xs : List Value) (v : Value) : kms_pick (xs ++ [v]) none (some (-1)) = xs := by
  unfold kms_pick
  have e1 : kms_lo none (xs ++ [v]).length = 0 := rfl
  have e2 : kms_hi (some (-1)) (xs ++ [v]).length = xs.length := by
    unfold kms_hi
    dsimp only
    rw [if_pos (by decide)]
    simp
  rw [e1, e2, List.drop_zero, Nat.sub_zero, List.take_left]

theorem my_ne_nil {prog : Program} {w : World} {A : Around} {E : Value → Shared → Prop} {s : Shared} {h₀ : Heap} {L l b : Addr} {news : List (Addr × Obj)} {xs : List Value} {n k : Nat} {Q : Value → Shared → Prop}
    (N : News h₀ L s.heap news) (ha : (l, listOf xs.toArray n) ∈ news) (hx : xs ≠ []) (hb : (b, listOf ([] : List Value).toArray k) ∈ news) (hu : A.units < cLine) (h : Q (.bool true) s) :
    wpAny (model prog w) A (compareOp .NotEq (.ref l) (.ref b)) Q E s := by
  refine SeqAt.RcNeAt.lists_lengths (items := xs.toArray) (items2 := #[]) ⟨_, (N _ ha).1, rfl, n, rfl⟩ ⟨_, (N _ hb).1, rfl, k, rfl⟩ ?_ hu prog w E Q h
  cases xs with
  | nil => exact absurd rfl hx
  | cons _ _ => simp

theorem my_slice_e {prog : Program} {w : World} {A : Around} {E : Value → Shared → Prop} {s : Shared} {h₀ : Heap} {L l : Addr} {m : PySem.Str → Option Value} {news : List (Addr × Obj)} {xs zs : List Value} {n : Nat} {Q : Value → Shared → Prop} {value slice : PySem.Expr} {vl vu : Value} {lo hi : Option Int} (F : Fr h₀ L s.heap m) (N : News h₀ L s.heap news) (hm : (l, listOf xs.toArray n) ∈ news) (pl : IsPart vl lo) (pu : IsPart vu hi) (e : kms_pick xs lo hi = zs) (hx : xs.length ≤ 100000)
    (h : ∀ D h', Fr h₀ L h' m → News h₀ L h' ((D, listOf zs.toArray 0) :: news) → (∀ p ∈ news, p.1 < D) → Q (.ref D) { s with heap := h' })
    (hs : subscripted slice false (.ref l) (.ref s.heap.objs.size) = operate [.ref s.heap.objs.size, .ref l] (getItem (.ref l) (.ref s.heap.objs.size))) (ht : ∀ r, letTemporaryGo value (.ref l) r = pure ()) :
    wpAny (model prog w) A (subscriptTail value slice (.ref l) (.ref s.heap.objs.size)) Q E { s with heap := s.heap.push { cls := .type "slice", data := .fields #[vl, vu, .none] } } := by
  subst e
  exact my_slice F N hm pl pu hx h hs ht


theorem names4 {h₀ h : Heap} {L : Addr} {p q r t : Addr × Obj} {l : List (Addr × Obj)} (_N : News h₀ L h (p :: q :: r :: t :: l)) : ∃ a b c, a = p.1 ∧ b = r.1 ∧ c = t.1 := ⟨_, _, _, rfl, rfl, rfl⟩

theorem bare_of2 {w : World} {imm rest rest' : List (Addr × Obj)} {rhi : List FrR} {hi : List FrA} {ok : Addr → Prop} (hB : All2 (FrV imm) rhi hi) (hbare : ∀ y ∈ hi, y.hs = []) (hin : ∀ p ∈ rest, ok p.1 → p ∈ rest')
    (hsubI : ∀ p ∈ imm, p ∈ rest) (hneI : ∀ p ∈ imm, ok p.1) (hsubF : ∀ p ∈ rhi.flatMap (frE w), p ∈ rest) (hne : ∀ a ∈ rhi.flatMap frU, ok a) : ∀ r ∈ rhi, Bare w rest' r := fun r hr' => by
  obtain ⟨x, hx, hv⟩ := hB.mem hr'
  have hv1 : r.hv = [] := List.length_eq_zero_iff.mp (by rw [hv.hs.length, hbare x hx]; rfl)
  have hf : ∀ p ∈ frE w r, p ∈ rhi.flatMap (frE w) := fun p hp => List.mem_flatMap.mpr ⟨r, hr', hp⟩
  have b3 : (r.hl, listOf r.hv.toArray r.hn) ∈ frE w r := .tail _ (.head _)
  refine ⟨hin _ (hsubI _ hv.ma) (hneI _ hv.ma), hin _ (hsubF _ (hf _ (.head _))) (hne _ ?_), hin _ ?_ (hne _ ?_)⟩
  · exact List.mem_flatMap.mpr ⟨r, hr', .head _⟩
  · rw [← hv1]; exact hsubF _ (hf _ b3)
  · exact List.mem_flatMap.mpr ⟨r, hr', .tail _ (.head _)⟩

structure NdMid (src rl d hl : Addr) (rlo rhi : List FrR) : Prop where
  s1 : src ≠ rl
  s2 : src ≠ d
  s3 : src ≠ hl
  r1 : rl ≠ d
  r2 : rl ≠ hl
  d1 : d ≠ hl
  lo : ∀ a ∈ rlo.flatMap frU, a ≠ src ∧ a ≠ rl ∧ a ≠ d ∧ a ≠ hl
  hi : ∀ a ∈ rhi.flatMap frU, a ≠ src ∧ a ≠ rl ∧ a ≠ d ∧ a ≠ hl
theorem nd_mid {src rl : Addr} {rlo rhi : List FrR} {rx : FrR} (h : (mutsOf src rl (rlo ++ rx :: rhi)).Nodup) : NdMid src rl rx.d rx.hl rlo rhi := by
  unfold mutsOf at h
  rw [List.flatMap_append, List.flatMap_cons] at h
  simp only [frU, List.cons_append, List.nil_append] at h
  have e : (List.flatMap (fun r : FrR => [r.d, r.hl]) rlo) = rlo.flatMap frU := rfl
  have e' : (List.flatMap (fun r : FrR => [r.d, r.hl]) rhi) = rhi.flatMap frU := rfl
  rw [e, e'] at h
  simp only [List.nodup_cons, List.mem_cons, List.mem_append, not_or, List.nodup_append] at h
  obtain ⟨⟨a1, a2, a3, a4, a5⟩, ⟨b1, b2, b3, b4⟩, c1, ⟨⟨d1, d2⟩, d3, d4⟩, f⟩ := h
  refine ⟨a1, a3, a4, b2, b3, d1, fun a ha => ⟨fun q => a2 (q ▸ ha), fun q => b1 (q ▸ ha), ?_, ?_⟩, fun a ha => ⟨fun q => a5 (q ▸ ha), fun q => b4 (q ▸ ha), fun q => d2 (q ▸ ha), fun q => d3 (q ▸ ha)⟩⟩
  · exact f a ha rx.d (by simp)
  · exact f a ha rx.hl (by simp)
theorem nodup_top {src rl : Addr} {rlo rhi : List FrR} {rx rx' : FrR} (h : (mutsOf src rl (rlo ++ rx :: rhi)).Nodup) (e1 : rx'.d = rx.d) (e2 : rx'.hl = rx.hl) : (mutsOf src rl (rlo ++ [rx'])).Nodup := by
  have h' : (mutsOf src rl (rlo ++ [rx])).Nodup := nodup_left (r₂ := rhi) (by simpa using h)
  unfold mutsOf at *
  rw [List.flatMap_append] at *
  simpa [frU, e1, e2] using h'
theorem muts_top {src rl : Addr} {rlo rhi : List FrR} {rx rx' : FrR} (e1 : rx'.d = rx.d) (e2 : rx'.hl = rx.hl) : ∀ x ∈ mutsOf src rl (rlo ++ [rx']), x ∈ mutsOf src rl (rlo ++ rx :: rhi) := fun x hx => by
  have : x ∈ mutsOf src rl (rlo ++ [rx]) := by
    unfold mutsOf at *
    rw [List.flatMap_append] at *
    simpa [frU, e1, e2] using hx
  have := muts_left (r₂ := rhi) x this
  simpa using this


theorem tup_top {prog : Program} {w : World} {A : Around} {E : Value → Shared → Prop} {s : Shared} {h₀ : Heap} {L t : Addr} {m : PySem.Str → Option Value} {K : Frag} {o : Obj} {items : Array Value} {n : Nat} {Q : Value → Shared → Prop}
    (F : Fr h₀ L s.heap m) (X : K.In h₀) (e : K.lookup t = some o) (hc : o.cls = .type "tuple") (hd : o.data = .seq items n) (h : Q (.ref t) s) : wpAny (model prog w) A (call (.type "tuple") [.ref t]) Q E s :=
  call_tuple_same ⟨o, F.keep _ _ (X _ _ e), hc, n, hd⟩ h


theorem newframe {w : World} {h₀ h : Heap} {L hl xa da : Addr} {l : List (Addr × Obj)} {t0 t1 t2 t3 t4 t5 t6 t7 ta : Tok} {c r wd st g : Value}
    (N : News h₀ L h ((hl, listOf #[] 0) :: (xa, instObj 172 da) :: (da, dictOf [
      Ent w (PySem.Str.ofString "code") t0 c, Ent w (PySem.Str.ofString "registers") t1 r, Ent w (PySem.Str.ofString "at") t2 (.int 0 ta), Ent w (PySem.Str.ofString "world") t3 wd,
      Ent w (PySem.Str.ofString "statics") t4 st, Ent w (PySem.Str.ofString "goal") t5 g, Ent w (PySem.Str.ofString "handlers") t6 (.ref hl), Ent w (PySem.Str.ofString "caught") t7 .none] 8) :: l)) :
    ∃ r : FrR, xa = r.a ∧ da = r.d ∧ hl = r.hl ∧ r.hv = [] ∧ (∃ t, r.av = .int 0 t) ∧ r.cv = .none ∧ News h₀ L h ((r.hl, listOf r.hv.toArray r.hn) :: (r.a, instObj 172 r.d) :: (r.d, frD w r.fx r.av (.ref r.hl) r.cv) :: l) :=
  ⟨⟨xa, da, hl, ⟨c, r, wd, st, g, t0, t1, t2, t3, t4, t5, t6, t7⟩, [], 0, .int 0 ta, .none⟩, rfl, rfl, rfl, rfl, ⟨_, rfl⟩, rfl, N⟩

theorem nodup_push {src rl : Addr} {frs : List FrR} {r : FrR} (h : (mutsOf src rl frs).Nodup) (h1 : r.d ∉ mutsOf src rl frs) (h2 : r.hl ∉ mutsOf src rl frs) (h3 : r.d ≠ r.hl) : (mutsOf src rl (frs ++ [r])).Nodup := by
  have e : mutsOf src rl (frs ++ [r]) = mutsOf src rl frs ++ [r.d, r.hl] := by unfold mutsOf; rw [List.flatMap_append]; rfl
  rw [e, List.nodup_append]
  refine ⟨h, by simp [h3], fun a ha b hb q => ?_⟩
  simp only [List.mem_cons, List.not_mem_nil, or_false] at hb
  rcases hb with rfl | rfl
  · exact h1 (q ▸ ha)
  · exact h2 (q ▸ ha)
theorem mem_push {src rl x : Addr} {frs : List FrR} {r : FrR} (h : x ∈ mutsOf src rl (frs ++ [r])) : x ∈ mutsOf src rl frs ∨ x = r.d ∨ x = r.hl := by
  have e : mutsOf src rl (frs ++ [r]) = mutsOf src rl frs ++ [r.d, r.hl] := by unfold mutsOf; rw [List.flatMap_append]; rfl
  rw [e, List.mem_append] at h
  simpa using h
theorem off_push {src rl x : Addr} {frs : List FrR} {r : FrR} (h : x ∉ mutsOf src rl frs) (h1 : x ≠ r.d) (h2 : x ≠ r.hl) : x ∉ mutsOf src rl (frs ++ [r]) := fun q => by
  rcases mem_push q with q | q | q
  · exact h q
  · exact h1 q
  · exact h2 q


theorem allLt_up {d d' : Addr} : ∀ {l : List (Addr × Obj)}, AllLt d l → @LT.lt Nat _ d d' → AllLt d' l
  | [], _, _ => trivial
  | _ :: _, h, q => ⟨Nat.lt_trans h.1 q, allLt_up h.2 q⟩
theorem fresh_muts2 {D rl : Addr} {l : List Addr} {rest' : List (Addr × Obj)} (h : AllLt D rest') (hrl : @LT.lt Nat _ rl D) (hm : ∀ x ∈ l, x = rl ∨ ∃ o, (x, o) ∈ rest') : D ∉ l := fun q => by
  rcases hm D q with q | ⟨o, q⟩
  · rw [q] at hrl; exact absurd hrl (Nat.lt_irrefl _)
  · exact absurd (allLt_mem h _ q) (Nat.lt_irrefl _)


section
variable {prog : Program} {w : World} {A : Around} {E : Value → Shared → Prop} {s : Shared} {a b : Int} {t u : Tok} {Q : Value → Shared → Prop}
theorem my_eqI (e : a = b) (h : Q (.bool true) s) : wpAny (model prog w) A (compareOp .Eq (.int a t) (.int b u)) Q E s := PyProof.Rows.eq_int (by rw [beq_iff_eq.mpr e]; exact h)
theorem my_neqI (e : a ≠ b) (h : Q (.bool false) s) : wpAny (model prog w) A (compareOp .Eq (.int a t) (.int b u)) Q E s := PyProof.Rows.eq_int (by rw [beq_eq_false_iff_ne.mpr e]; exact h)
theorem my_ltI (e : a < b) (h : Q (.bool true) s) : wpAny (model prog w) A (compareOp .Lt (.int a t) (.int b u)) Q E s := PyProof.Rows.lt_int (by rw [decide_eq_true e]; exact h)
theorem my_nltI (e : ¬ a < b) (h : Q (.bool false) s) : wpAny (model prog w) A (compareOp .Lt (.int a t) (.int b u)) Q E s := PyProof.Rows.lt_int (by rw [decide_eq_false e]; exact h)
end


theorem ints_take : ∀ {vs : List Value} {ns : List Int} (k : Nat), IntsAre vs ns → IntsAre (vs.take k) (ns.take k)
  | _, _, 0, _ => by rw [List.take_zero, List.take_zero]; exact .nil
  | _, _, _ + 1, .nil => .nil
  | _, _, k + 1, .cons _ _ h => .cons _ _ (ints_take k h)

/-- the end of a turn of a comprehension -/
def CE (h₀ : Heap) (L : Addr) (m : PySem.Str → Option Value) (s : Shared) (l : List (Addr × Obj)) (P : Prop) (s' : Shared) : Prop :=
  ∃ h' tk, s' = { s with heap := h', toks := tk } ∧ Fr h₀ L h' m ∧ News h₀ L h' l ∧ P
theorem CE.intro {h₀ h' : Heap} {L : Addr} {m : PySem.Str → Option Value} {s : Shared} {tk : Nat} {l l' : List (Addr × Obj)} {P : Prop} (F : Fr h₀ L h' m) (N : News h₀ L h' l') (sub : ∀ p ∈ l, p ∈ l') (p : P) :
    CE h₀ L m s l P { s with heap := h', toks := tk } := ⟨h', tk, rfl, F, fun p hp => N p (sub p hp), p⟩

theorem range_compT {prog : Program} {w : World} {A : Around} {h₀ : Heap} {L : Addr} {m : PySem.Str → Option Value} {env : Env} {elt ct : PySem.Expr} {x y : PySem.Str} {scope : Scope} {cl : List (PySem.Str × Addr)} {s₁ : Shared} {Q : Flow → Shared → Prop}
    {r : Addr} {a b : Int} {t u v : Tok} {n : Nat} {news : List (Addr × Obj)}
    (hh : A.handled = none) (F : Fr h₀ L s₁.heap m) (N : News h₀ L s₁.heap news) (hr : IsRange s₁.heap r a b 1 t u v) (hsm : Builtin.Range.small a b 1 = true) (hn : Builtin.Range.rangeSize a b 1 = ((n : Nat) : Int)) (hsz : n ≤ sizeLine)
    (J : Nat → List Value → Prop) (j0 : J 0 [])
    (step : ∀ i ys, i < n → J i ys → ∀ t I oI C oC D m₂ h tk g (E' : Value → Shared → Prop), LCg.NsObj oC m₂ → m₂ x = some (.int (a + (i : Int)) t) → Fr h₀ L h m → News h₀ L h ((I, oI) :: (C, oC) :: (D, LCg.lst ys) :: news) → LCg.Off3 I C D news → ((@Ne Nat I C) ∧ (@Ne Nat I D) ∧ (@Ne Nat C D)) →
      wpAny (model prog w) A (isTrue ct (compEnvC scope cl C env) (eval ct (compEnvC scope cl C env))) (fun ok s' => if ok = true then
        wpAny (model prog w) A (eval elt (compEnvC scope cl C env)) (fun y s'' => CE h₀ L m { s₁ with heap := g } ((I, oI) :: (C, oC) :: (D, LCg.lst ys) :: news) (J (i + 1) (ys ++ [y])) s'') E' s'
        else CE h₀ L m { s₁ with heap := g } ((I, oI) :: (C, oC) :: (D, LCg.lst ys) :: news) (J (i + 1) ys) s') E' { s₁ with heap := h, toks := tk })
    (fin : ∀ ys D h tk g, J n ys → Fr h₀ L h (fun z => if z = y then some (.ref D) else m z) → News h₀ L h ((D, LCg.lst ys) :: news) → (∀ p ∈ news, p.1 ≠ D) → Q .next { { s₁ with heap := g } with heap := h, toks := tk }) :
    LCt.CompSrcT prog w A h₀ L m env ct elt x scope cl (fun s₂ => LCg.FinA h₀ L m s₂ y Q) (.ref r) s₁ := by
  refine LCt.CompSrcT.range hh F N hr hsm hn hsz fun g => ?_
  refine comp_indT (P := fun i v => ∃ t, v = Value.int (a + (i : Int)) t) n (fun i ys news' => news' = news ∧ J i ys) ?_ ?_ _ _ _ _ (Nat.zero_add n) ⟨rfl, j0⟩
  · rintro i ys news' hi ⟨rfl, hj⟩ v I oI C oC D m₂ h tk E' ⟨t, rfl⟩ hC hx F' N' off' ne'
    refine wpAny_mono (step i ys hi hj t I oI C oC D m₂ h tk g E' hC hx F' N' off' ne') (fun ok s' z => ?_) fun _ _ z => z
    cases ok with
    | true =>
      rw [if_pos rfl] at z ⊢
      refine wpAny_mono z (fun y s'' z => ?_) fun _ _ z => z
      obtain ⟨h', tk', rfl, F', N', p⟩ := z
      exact LCg.CompEnd.intro F' N' _ (fun _ h => h) off' trivial ⟨rfl, p⟩
    | false =>
      rw [if_neg (by decide)] at z ⊢
      obtain ⟨h', tk', rfl, F', N', p⟩ := z
      exact LCg.CompEnd.intro F' N' _ (fun _ h => h) off' trivial ⟨rfl, p⟩
  · rintro ys news' ⟨rfl, hj⟩ D h tk F' N' o
    exact fin ys D h tk g hj F' N' (off1_mem o)
end

-- part Loop
section
open PySem.Calls
section
variable {prog : Program} {w : World} {A : Around} {E : Value → Shared → Prop} {s : Shared} {env : Env} {h₀ : Heap} {x : PySem.Str} {body : List Stmt} {Q : Flow → Shared → Prop}

/-- the end of a turn of the law's loop -/
def TurnEnd2 (h₀ : Heap) (L : Addr) (J : (PySem.Str → Option Value) → List (Addr × Obj) → Prop) (I : Addr) (oI : Obj) (s : Shared) (Q : Flow → Shared → Prop) (f : Flow) (s₂ : Shared) : Prop :=
  match f with
  | .ret v => Q (.ret v) s₂
  | .brk => Q .next s₂
  | _ => ∃ h' tk' m' news', s₂ = { s with heap := h', toks := tk' } ∧ Fr h₀ L h' m' ∧ News h₀ L h' ((I, oI) :: news') ∧ (∀ p ∈ news', p.1 ≠ I) ∧ J m' news'

theorem law_range {r : Addr} {a₀ b₀ : Int} {t₀ u₀ v₀ : Tok} {n : Nat} {m₀ : PySem.Str → Option Value} {news : List (Addr × Obj)} (J : Nat → (PySem.Str → Option Value) → List (Addr × Obj) → Prop)
    (hh : A.handled = none) (hr : IsRange s.heap r a₀ b₀ 1 t₀ u₀ v₀) (hsmall : Builtin.Range.small a₀ b₀ 1 = true) (hn : Builtin.Range.rangeSize a₀ b₀ 1 = (n : Int)) (F : Fr h₀ env.locals s.heap m₀) (N : News h₀ env.locals s.heap news) (hj : J 0 m₀ news)
    (turn : ∀ i k t m₁ news₁ h tk I oI, i < n → oI.cls = .type "range_iterator" → J i m₁ news₁ → (∀ p ∈ news₁, p.1 ≠ I) → Fr h₀ env.locals h (fun y => if y = x then some (.int k t) else m₁ y) → News h₀ env.locals h ((I, oI) :: news₁) →
      wpAny (model prog w) A (execs body env) (TurnEnd2 h₀ env.locals (J (i + 1)) I oI { s with heap := h, toks := tk } Q) E { s with heap := h, toks := tk })
    (done : ∀ m₁ news₁ h tk, J n m₁ news₁ → Fr h₀ env.locals h m₁ → News h₀ env.locals h news₁ → Q .next { s with heap := h, toks := tk }) :
    wpAny (model prog w) A (pyIter (.ref r)) (fun it s₂ => LoopAtV prog w A h₀ env x body Q E it s₂) E s := by
  refine wpAny_pyIter_range hr hsmall ?_
  have W : Walks prog w A s.heap.objs.size [s.heap.objs.size] [s.heap.objs.size] n (fun i v => i < n ∧ ∃ t, v = .int (a₀ + i * 1) t)
      (fun i h => IsRangeIter h s.heap.objs.size (a₀ + (i : Nat) * 1) ((n : Int) - (i : Nat)) 1) := (Walks.range hh _ a₀ 1 n).bound
  have hI₀ : h₀.get? s.heap.objs.size = none := next_is_new F
  refine ⟨_, _, _, n, _, _, m₀, news, J, rfl, W, ?_, ?_, ?_, by show IsRangeIter _ _ _ _ _; rw [hn]; simpa using Heap.get?_push_size _ rfl, F.push _, (fun p hp => ⟨Heap.get?_push_of_some _ (N p hp).1, (N p hp).2⟩), hj, ?_, ?_⟩
  · intro hm
    exact absurd F.ns.lt ((List.mem_singleton.mp hm) ▸ Nat.lt_irrefl _)
  · intro b hb
    rw [List.mem_singleton.mp hb]
    exact hI₀
  · intro p hp hI
    exact absurd (Heap.lt_size (N p hp).1) ((List.mem_singleton.mp hI) ▸ Nat.lt_irrefl _)
  · rintro i v m₁ news₁ s₁ own ⟨hh', tk', rfl⟩ hin ⟨_, t, rfl⟩ hJ hoff hown _ hall hst F₁ N₁
    obtain ⟨oI, hoI, hcI⟩ : ∃ o, hh'.get? s.heap.objs.size = some o ∧ o.cls = .type "range_iterator" := ⟨_, hst, rfl⟩
    have hI := hall s.heap.objs.size (List.mem_singleton.mpr rfl) hI₀ _ hoI
    have own1 : ∀ p ∈ own, p = (s.heap.objs.size, oI) := fun p hp => by
      have a := N₁ p (List.mem_append.mpr (.inl hp))
      have b : p.1 = s.heap.objs.size := List.mem_singleton.mp (hown p hp)
      have c := a.1
      rw [b] at c
      exact Prod.ext b (Option.some.inj (c.symm.trans hoI))
    have NI : News h₀ env.locals hh' ((s.heap.objs.size, oI) :: news₁) := fun p hp => by
      rcases List.mem_cons.mp hp with rfl | hp
      · exact N₁ _ (List.mem_append.mpr (.inl hI))
      · exact N₁ p (List.mem_append.mpr (.inr hp))
    refine wpAny_mono (turn i _ t m₁ news₁ hh' tk' _ _ hin hcI hJ (fun p hp q => hoff p hp (List.mem_singleton.mpr q)) F₁ NI) (fun f s₂ p => ?_) fun _ _ e => e
    have fin : (∃ h' tk' m' news', s₂ = { s with heap := h', toks := tk' } ∧ Fr h₀ env.locals h' m' ∧ News h₀ env.locals h' ((s.heap.objs.size, oI) :: news') ∧ (∀ p ∈ news', p.1 ≠ s.heap.objs.size) ∧ J (i + 1) m' news') → LoopStepU h₀ env.locals [s.heap.objs.size] own (J (i + 1)) { s with heap := hh', toks := tk' } .next s₂ := by
      rintro ⟨h', tk, m', news', rfl, F', N', ho, hm⟩
      refine ⟨rfl, h', tk, m', news', rfl, F', fun p hp => ?_, fun p hp hq => ho p hp (List.mem_singleton.mp hq), hm⟩
      rcases List.mem_append.mp hp with hp | hp
      · rw [own1 p hp]
        exact N' _ List.mem_cons_self
      · exact N' p (List.mem_cons_of_mem _ hp)
    cases f with
    | ret v => exact .ret p
    | brk => exact .brk p
    | next => exact .next (fin p)
    | cont => exact .cont (fin p)
  · rintro h' tk m' news' F' N' _ hJ
    exact done m' news' h' tk hJ F' N'
end

mutual
theorem dat_keep {news news' : List (Addr × Obj)} (hs : ∀ p ∈ news, (p.2.cls = .type "list" ∨ p.2.cls = .type "tuple") → p ∈ news') : ∀ {v : Value} {d : Dat}, DatIn news v d → DatIn news' v d
  | _, _, .none => .none
  | _, _, .bool b => .bool b
  | _, _, .int i t => .int i t
  | _, _, .str x t => .str x t
  | _, _, .bytes b t => .bytes b t
  | _, _, .tuple h r => .tuple (hs _ h (.inr rfl)) (datAll_keep hs r)
  | _, _, .list h r => .list (hs _ h (.inl rfl)) (datAll_keep hs r)
theorem datAll_keep {news news' : List (Addr × Obj)} (hs : ∀ p ∈ news, (p.2.cls = .type "list" ∨ p.2.cls = .type "tuple") → p ∈ news') : ∀ {vs : List Value} {ds : List Dat}, DatAll news vs ds → DatAll news' vs ds
  | _, _, .nil => .nil
  | _, _, .cons h r => .cons (dat_keep hs h) (datAll_keep hs r)
end

theorem St.drop {w : World} {f fd rl src : Addr} {ft : Tok} {frs : List FrR} {fs : List FrA} {imm news : List (Addr × Obj)} (S : St w f fd rl src ft frs fs imm news) :
    ∃ imm' news', St w f fd rl src ft frs fs imm' news' ∧ (∀ p ∈ news', p ∈ news ∧ p.2.cls ≠ .type "range_iterator") ∧ ∀ v d, DatIn imm v d → DatIn imm' v d := by
  classical
  have hn : ∀ {l : List (Addr × Obj)} {p}, p ∈ l.filter (fun p => decide (p.2.cls ≠ .type "range_iterator")) ↔ p ∈ l ∧ p.2.cls ≠ .type "range_iterator" := by
    intro l p
    simp [List.mem_filter]
  have hk : ∀ p ∈ imm, (p.2.cls = .type "list" ∨ p.2.cls = .type "tuple") → p ∈ imm.filter (fun p => decide (p.2.cls ≠ .type "range_iterator")) := fun p hp h => hn.mpr ⟨hp, by rcases h with h | h <;> rw [h] <;> simp⟩
  refine ⟨imm.filter (fun p => decide (p.2.cls ≠ .type "range_iterator")), news.filter (fun p => decide (p.2.cls ≠ .type "range_iterator")), ⟨hn.mpr ⟨S.mf, by simp [instObj]⟩, hn.mpr ⟨S.mfd, by simp [framesD, dictOf]⟩, ?_, S.nd, fun p hp => S.off p (hn.mp hp).1, ?_, ?_, ?_⟩, fun p hp => hn.mp hp, fun v d h => dat_keep hk h⟩
  · exact S.all.mono fun a b _ h => ⟨h.hs, h.at_, dat_keep hk h.c, hn.mpr ⟨h.ma, by simp [instObj]⟩⟩
  · obtain ⟨a, ta, b, tb, n, h0, h1, hm⟩ := S.msrc
    exact ⟨a, ta, b, tb, n, h0, h1, hn.mpr ⟨hm, by simp [W.listOf]⟩⟩
  · obtain ⟨n, hm⟩ := S.mrl
    exact ⟨n, hn.mpr ⟨hm, by simp [W.listOf]⟩⟩
  · intro p hp
    rcases List.mem_append.mp hp with hp | hp
    · refine hn.mpr ⟨S.sub p (List.mem_append_left _ hp), ?_⟩
      obtain ⟨r, _, hq⟩ := List.mem_flatMap.mp hp
      simp only [frE, List.mem_cons, List.not_mem_nil, or_false] at hq
      rcases hq with rfl | rfl
      · simp [dictOf]
      · simp [W.listOf]
    · exact hn.mpr ⟨S.sub p (List.mem_append_right _ (hn.mp hp).1), (hn.mp hp).2⟩

theorem St.addr {w : World} {f fd rl src : Addr} {ft : Tok} {frs : List FrR} {fs : List FrA} {imm news : List (Addr × Obj)} (S : St w f fd rl src ft frs fs imm news) : ∀ x ∈ mutsOf src rl frs, ∃ o, (x, o) ∈ news := fun x hx => by
  rcases List.mem_cons.mp hx with rfl | hx
  · obtain ⟨a, ta, b, tb, n, h0, h1, hm⟩ := S.msrc
    exact ⟨_, hm⟩
  · rcases List.mem_cons.mp hx with rfl | hx
    · obtain ⟨n, hm⟩ := S.mrl
      exact ⟨_, hm⟩
    · obtain ⟨o, ho⟩ := mem_frU (w := w) hx
      exact ⟨o, S.sub _ (List.mem_append_left _ ho)⟩
theorem St.add {w : World} {f fd rl src I : Addr} {oI : Obj} {ft : Tok} {frs : List FrR} {fs : List FrA} {imm news : List (Addr × Obj)} (S : St w f fd rl src ft frs fs imm news) (hI : ∀ p ∈ news, p.1 ≠ I) : St w f fd rl src ft frs fs ((I, oI) :: imm) ((I, oI) :: news) where
  mf := .tail _ S.mf
  mfd := .tail _ S.mfd
  all := S.all.mono fun a b _ h => h.mono fun p hp => .tail _ hp
  nd := S.nd
  off := List.forall_mem_cons.mpr ⟨fun q => by
    obtain ⟨o, ho⟩ := S.addr _ q
    exact hI _ ho rfl, S.off⟩
  msrc := by
    obtain ⟨a, ta, b, tb, n, h0, h1, hm⟩ := S.msrc
    exact ⟨a, ta, b, tb, n, h0, h1, .tail _ hm⟩
  mrl := by
    obtain ⟨n, hm⟩ := S.mrl
    exact ⟨n, .tail _ hm⟩
  sub := fun p hp => by
    rcases List.mem_append.mp hp with hp | hp
    · exact .tail _ (S.sub p (List.mem_append_left _ hp))
    · rcases List.mem_cons.mp hp with rfl | hp
      · exact .head _
      · exact .tail _ (S.sub p (List.mem_append_right _ hp))
theorem St.frs {w : World} {f fd rl src : Addr} {ft : Tok} {imm news : List (Addr × Obj)} : ∀ {frs : List FrR} {fs : List FrA}, All2 (FrV imm) frs fs → (∀ p ∈ frs.flatMap (frE w) ++ imm, p ∈ news) → FrsOk w news frs fs
  | _, _, .nil, _ => .nil
  | r :: rs, _, .cons h q, s => by
    have si : ∀ p ∈ imm, p ∈ news := fun p hp => s p (List.mem_append_right _ hp)
    refine .cons ⟨si _ h.ma, s _ (List.mem_append_left _ ?_), s _ (List.mem_append_left _ ?_), h.hs, h.at_, h.c.mono si⟩ (St.frs (src := src) (rl := rl) (f := f) (fd := fd) (ft := ft) q fun p hp => s p ?_)
    · rw [List.flatMap_cons]; exact .head _
    · rw [List.flatMap_cons]; exact .tail _ (.head _)
    · rcases List.mem_append.mp hp with hp | hp
      · rw [List.flatMap_cons, List.append_assoc]; exact List.mem_append_right _ (List.mem_append_left _ hp)
      · exact List.mem_append_right _ hp

theorem turn_back {h₀ h₀' h : Heap} {L : Addr} {m : PySem.Str → Option Value} (TT : KtsTurn [] h₀ h₀') (F : Fr h₀' L h m) : Fr h₀ L h m := ⟨F.ns, fun b o e => F.keep b o (TT.other b o e (by simp)), by rw [← TT.size]; exact F.above⟩
theorem turn_backN {h₀ h₀' h : Heap} {L : Addr} {news : List (Addr × Obj)} (TT : KtsTurn [] h₀ h₀') (N : News h₀' L h news) : News h₀ L h news := fun p hp => ⟨(N p hp).1, (N p hp).2.1, by
  cases q : h₀.get? p.1 with
  | none => rfl
  | some o =>
    have := TT.other _ _ q (by simp)
    rw [(N p hp).2.2] at this
    cases this⟩
theorem names_law {h₀ h : Heap} {L : Addr} {p q r t u : Addr × Obj} {l : List (Addr × Obj)} (_N : News h₀ L h (p :: q :: r :: t :: u :: l)) : ∃ a b c d, a = q.1 ∧ b = r.1 ∧ c = t.1 ∧ d = u.1 := ⟨_, _, _, _, rfl, rfl, rfl, rfl⟩
theorem my_neI {prog : Program} {w : World} {A : Around} {E : Value → Shared → Prop} {s : Shared} {a b : Int} {t u : Tok} {Q : Value → Shared → Prop} (e : a = b) (h : Q (.bool false) s) : wpAny (model prog w) A (compareOp .NotEq (.int a t) (.int b u)) Q E s :=
  PyProof.Rows.ne_int (by rw [show (a != b) = false by simp [e]]; exact h)
theorem mem_front {α : Type} {a b c d e x : α} : ∀ p ∈ x :: b :: c :: d :: [e], p ∈ a :: b :: c :: d :: e :: [x] := fun p hp => by
  simp only [List.mem_cons, List.not_mem_nil, or_false] at hp ⊢
  rcases hp with h | h | h | h | h <;> simp [h]

theorem start_st {w : World} {h₀ h : Heap} {L src ol rl f fd : Addr} {a b : Int} {ta tb ft : Tok} {n : Nat} (hne : @Ne Nat src rl ∧ @Ne Nat ol src ∧ @Ne Nat ol rl ∧ @Ne Nat f src ∧ @Ne Nat f rl ∧ @Ne Nat fd src ∧ @Ne Nat fd rl) (hb : 0 ≤ b) (hb2 : b < 2 ^ 32)
    (N : News h₀ L h [(src, W.listOf #[Value.int a ta, .int b tb] n), (ol, W.listOf ([] : List Value).toArray 0), (rl, W.listOf ([] : List Value).toArray 0), (f, instObj 235 fd), (fd, framesD w ft rl)]) :
    News h₀ L h [(src, W.listOf #[Value.int a ta, .int b tb] n), (rl, W.listOf ([] : List Value).toArray 0), (ol, W.listOf ([] : List Value).toArray 0), (f, instObj 235 fd), (fd, framesD w ft rl)] ∧
    St w f fd rl src ft [] [] [(ol, W.listOf ([] : List Value).toArray 0), (f, instObj 235 fd), (fd, framesD w ft rl)] [(src, W.listOf #[Value.int a ta, .int b tb] n), (rl, W.listOf ([] : List Value).toArray 0), (ol, W.listOf ([] : List Value).toArray 0), (f, instObj 235 fd), (fd, framesD w ft rl)] := by
  obtain ⟨n1, n2, n3, n4, n5, n6, n7⟩ := hne
  refine ⟨fun p hp => N p ?_, ⟨.tail _ (.head _), .tail _ (.tail _ (.head _)), .nil, by simp [n1], fun p hp => ?_, ⟨a, ta, b, tb, n, hb, hb2, .head _⟩, ⟨0, .tail _ (.head _)⟩, fun p hp => ?_⟩⟩
  · simp only [List.mem_cons, List.not_mem_nil, or_false] at hp ⊢
    rcases hp with h | h | h | h | h <;> simp [h]
  · simp only [List.mem_cons, List.not_mem_nil, or_false] at hp
    rcases hp with rfl | rfl | rfl
    · simp; exact ⟨n2, n3⟩
    · simp; exact ⟨n4, n5⟩
    · simp; exact ⟨n6, n7⟩
  · rw [List.flatMap_nil, List.nil_append] at hp
    exact .tail _ (.tail _ hp)

/-- what holds between the turns of the law's loop -/
def LawJ (w : World) (f fd rl src : Addr) (ft : Tok) (m₀ : PySem.Str → Option Value) (i : Nat) (m₁ : PySem.Str → Option Value) (news₁ : List (Addr × Obj)) : Prop :=
  ∃ frs fs imm ov, St w f fd rl src ft frs fs imm news₁ ∧ DatIn imm ov (.list (fs.map datF)) ∧ fs.length ≤ 6 ∧ (∀ x ∈ fs, x.hs.length ≤ i) ∧ m₁ (PySem.Str.ofString "own") = some ov ∧ ∀ z, z ≠ PySem.Str.ofString "turn" → z ≠ PySem.Str.ofString "own" → m₁ z = m₀ z
theorem lawJ_start {w : World} {f fd rl src ol : Addr} {ft : Tok} {m₀ : PySem.Str → Option Value} {imm news : List (Addr × Obj)} {n : Nat} (S : St w f fd rl src ft [] [] imm news) (h : (ol, W.listOf ([] : List Value).toArray n) ∈ imm) (hm : m₀ (PySem.Str.ofString "own") = some (.ref ol)) :
    LawJ w f fd rl src ft m₀ 0 m₀ news := ⟨[], [], imm, .ref ol, S, .list (vs := []) h .nil, by simp, fun x hx => (nomatch hx), hm, fun z _ _ => rfl⟩

theorem law_turn_end {w : World} {f fd rl src I ol2 L : Addr} {oI : Obj} {ft : Tok} {frs' : List FrR} {fs' : List FrA} {imm' news' led : List (Addr × Obj)} {h₀ h' : Heap} {m₀ m' : PySem.Str → Option Value} {i tk' : Nat} {s : Shared} {Q : Flow → Shared → Prop}
    (S' : St w f fd rl src ft frs' fs' imm' news') (dd : DatIn imm' (.ref ol2) (.list (fs'.map datF))) (ll : fs'.length ≤ 6) (hh : ∀ x' ∈ fs', x'.hs.length ≤ i + 1) (F : Fr h₀ L h' m') (N : News h₀ L h' led) (sub : ∀ p ∈ news', p ∈ led) (mI : (I, oI) ∈ led) (hcI : oI.cls = .type "range_iterator")
    (hm : m' (PySem.Str.ofString "own") = some (.ref ol2)) (hz : ∀ z, z ≠ PySem.Str.ofString "turn" → z ≠ PySem.Str.ofString "own" → m' z = m₀ z) :
    TurnEnd2 h₀ L (LawJ w f fd rl src ft m₀ (i + 1)) I oI s Q .next { s with heap := h', toks := tk' } := by
  obtain ⟨imm2, news2, S2, hn, dk⟩ := S'.drop
  refine ⟨h', tk', m', news2, rfl, F, fun p hp => ?_, fun p hp q => ?_, frs', fs', imm2, .ref ol2, S2, dk _ _ dd, ll, hh, hm, hz⟩
  · rcases List.mem_cons.mp hp with rfl | hp
    · exact N _ mI
    · exact N p (sub p (hn p hp).1)
  · have a := (N p (sub p (hn p hp).1)).1
    have b := (N _ mI).1
    rw [q] at a
    exact (hn p hp).2 (by rw [Option.some.inj (a.symm.trans b)]; exact hcI)
theorem dat_tuple {news : List (Addr × Obj)} {v : Value} {ds : List Dat} (h : DatIn news v (.tuple ds)) : ∃ t, v = .ref t := by
  cases h with
  | tuple m r => exact ⟨_, rfl⟩
theorem dat_none {news : List (Addr × Obj)} {v : Value} (h : DatIn news v .none) : v = .none := by
  cases h
  rfl
theorem c_some {news : List (Addr × Obj)} {v : Value} {k : Int} (h : DatIn news v (datC (some k))) : ∃ t, v = .ref t := dat_tuple h
theorem c_none {news : List (Addr × Obj)} {v : Value} (h : DatIn news v (datC none)) : v = .none := dat_none h
theorem FrsOk.split {w : World} {news : List (Addr × Obj)} {x : FrA} : ∀ (lo : List FrA) {rs : List FrR}, FrsOk w news rs (lo ++ [x]) → ∃ rlo rx, rs = rlo ++ [rx] ∧ rlo.length = lo.length ∧ FrOk w news rx x := by
  have key : ∀ (fs : List FrA) {rs : List FrR}, FrsOk w news rs fs → ∀ lo, fs = lo ++ [x] → ∃ rlo rx, rs = rlo ++ [rx] ∧ rlo.length = lo.length ∧ FrOk w news rx x := by
    intro fs rs h
    induction h with
    | nil => intro lo e; exact absurd e.symm (by simp)
    | @cons r y rs ys h1 h2 ih =>
      intro lo e
      cases lo with
      | nil =>
        have e' : y = x ∧ ys = [] := by simpa using e
        obtain ⟨rfl, rfl⟩ := e'
        refine ⟨[], r, ?_, rfl, h1⟩
        have hr : rs = [] := List.length_eq_zero_iff.mp h2.length
        rw [hr]
        rfl
      | cons z lo =>
        have e' : y = z ∧ ys = lo ++ [x] := by simpa using e
        obtain ⟨rlo, rx, e1, hl, hx⟩ := ih lo e'.2
        exact ⟨r :: rlo, rx, by rw [e1]; rfl, by simp [hl], hx⟩
  exact fun lo rs h => key _ h lo rfl
end

section
local macro_rules | `(tactic| k_lt $h) => `(tactic| (replace $h := allLt_of $h; (try simp only [AllLt, and_true] at $h:ident); (repeat (have := And.left $h; replace $h := And.right $h))))
local macro_rules | `(tactic| walk_at "Held") => `(tactic| (refine held_ (by assumption) ?_))
local macro_rules | `(tactic| walk_at "LeaveT") => `(tactic| (k_dflt (refine' leaveT_ ?F ?N ?T ?_; (case F => k_asm); (case N => k_asm); (case T => first | assumption | exact KtsTurn.refl); k_whole); intro kg kT kF kN kB kX₀ kP kD; (try dsimp only)))
local macro_rules | `(tactic| walk_at "exec Assign cons ListComp") => `(tactic| (refine stop_in ?_))
local macro_rules | `(tactic| walk_at "eval ListComp") => `(tactic| (refine stop_in ?_))
local macro_rules | `(tactic| walk_at "CompSrc") => `(tactic| (refine stop_in ?_))
local macro_rules | `(tactic| walk_at "CompSrcT") => `(tactic| (refine stop_in ?_))
local macro_rules | `(tactic| walk_at "CompEnd") => `(tactic| (refine stop_in ?_))
local macro_rules | `(tactic| walk_at "CE") => `(tactic| (refine stop_in ?_))
local macro_rules | `(tactic| walk_at "compareOp NotEq ref ref") => `(tactic| (k_here; (with_reducible show wpAny _ _ (compareOp CmpOp.NotEq (Value.ref _) (Value.ref _)) _ _ _); k_dflt (refine' my_ne_nil ?nnN ?nna ?nnx ?nnb ?nnu ?_; (case nnN => k_asm); (case nna => k_mem); (case nnx => first | assumption | (simp; done)); (case nnb => k_mem); (case nnu => ((simp only [units_in1, units_deeper, Around.mark_units, cLine_is]); (try dsimp only [ktrTop]); omega)); k_whole)))
local macro_rules | `(tactic| walk_at "subscriptTail Name Slice ref ref") => `(tactic| (k_here; (with_reducible show wpAny _ _ (subscriptTail _ (PySem.Expr.Slice _ _ none _) (Value.ref _) (Value.ref _)) _ _ _); k_dflt (refine' my_slice_e ?ssF ?ssN ?ssl ?ssp ?ssq ?sse ?ssz ?_ ?sss ?sst; (case ssF => k_asm); (case ssN => k_asm); (case ssl => k_mem); (case ssp => kmk_part); (case ssq => kmk_part); (case sse => assumption); (case ssz => (refine leN ?_; first | assumption | omega | ((simp only [List.length_append, List.length_cons, List.length_nil, List.length_map, List.length_singleton]); omega))); (case sss => with_unfolding_all rfl); (case sst => kmk_pure)); intro D' h' F' N' l1; (try k_lt l1); (try k_sweep)))
local macro_rules | `(tactic| walk_at "last subscriptTail") => `(tactic| (k_here; (with_reducible show wpAny _ _ (subscriptTail _ (PySem.Expr.Slice _ _ none _) (Value.ref _) (Value.ref _)) _ _ _); k_dflt (refine' my_slice_e ?ssF ?ssN ?ssl ?ssp ?ssq ?sse ?ssz ?_ ?sss ?sst; (case ssF => k_asm); (case ssN => k_asm); (case ssl => k_mem); (case ssp => kmk_part); (case ssq => kmk_part); (case sse => assumption); (case ssz => (refine leN ?_; first | assumption | omega | ((simp only [List.length_append, List.length_cons, List.length_nil, List.length_map, List.length_singleton]); omega))); (case sss => with_unfolding_all rfl); (case sst => kmk_pure)); intro D' h' F' N' l1; (try k_lt l1); (try k_sweep)))
local macro_rules | `(tactic| walk_at "compareOp Eq int int") => `(tactic| (k_here; (with_reducible show wpAny _ _ (compareOp CmpOp.Eq (Value.int _ _) (Value.int _ _)) _ _ _); first
  | (refine' my_eqI ?eeq ?_; (case eeq => first | omega | (simp only [List.length_append, List.length_cons, List.length_nil, List.length_singleton]; omega)))
  | (refine' my_neqI ?eeq ?_; (case eeq => first | omega | (simp only [List.length_append, List.length_cons, List.length_nil, List.length_singleton]; omega)))))
local macro_rules | `(tactic| walk_at "compareOp Lt int int") => `(tactic| (k_here; (with_reducible show wpAny _ _ (compareOp CmpOp.Lt (Value.int _ _) (Value.int _ _)) _ _ _); first
  | (refine' my_ltI ?eeq ?_; (case eeq => first | omega | (simp only [List.length_append, List.length_cons, List.length_nil, List.length_singleton]; omega)))
  | (refine' my_nltI ?eeq ?_; (case eeq => first | omega | (simp only [List.length_append, List.length_cons, List.length_nil, List.length_singleton]; omega)))))
local macro_rules | `(tactic| walk_at "call ref") => `(tactic| ((show wpAny _ _ (call (Value.ref 285) _) _ _ _); refine stop_in ?_))
-- part Lthr
section
open PySem.Calls
local macro_rules | `(tactic| walk_at "call ref") => `(tactic| ((show wpAny _ _ (call (Value.ref 101) _) _ _ _); refine stop_in ?_))
local macro_rules | `(tactic| walk_at "call ref") => `(tactic| ((show wpAny _ _ (call (Value.ref 71) _) _ _ _); refine stop_in ?_))
local macro_rules | `(tactic| walk_at "getAttr ref") => `(tactic| (refine stop_in ?_))
local macro_rules | `(tactic| walk_at "exec Try") => `(tactic| (refine stop_in ?_))
theorem swap2 {α : Type} {a b : α} {l : List α} : ∀ p ∈ b :: a :: l, p ∈ a :: b :: l := fun p hp => by
  simp only [List.mem_cons] at hp ⊢
  rcases hp with h | h | h <;> simp [h]
theorem split_at (fs : List FrA) : ∀ (d : Nat), d ≤ fs.length → (∃ lo hi, fs = lo ++ hi ∧ lo.length = d ∧ ∀ y ∈ hi, y.hs = []) ∨ (∃ lo x hi hs0 h, fs = lo ++ x :: hi ∧ d ≤ lo.length ∧ x.hs = hs0 ++ [h] ∧ ∀ y ∈ hi, y.hs = []) := by
  have key : ∀ n (fs : List FrA) (d : Nat), fs.length = n → d ≤ fs.length → (∃ lo hi, fs = lo ++ hi ∧ lo.length = d ∧ ∀ y ∈ hi, y.hs = []) ∨ (∃ lo x hi hs0 h, fs = lo ++ x :: hi ∧ d ≤ lo.length ∧ x.hs = hs0 ++ [h] ∧ ∀ y ∈ hi, y.hs = []) := by
    intro n
    induction n with
    | zero =>
      intro fs d hn hd
      have : fs = [] := List.length_eq_zero_iff.mp hn
      subst this
      exact .inl ⟨[], [], rfl, by simp at hd; simp [hd], fun y hy => nomatch hy⟩
    | succ n ih =>
      intro fs d hn hd
      rcases List.eq_nil_or_concat fs with rfl | ⟨fs', z, e⟩
      · simp at hn
      · rw [List.concat_eq_append] at e
        subst e
        rw [List.length_append, List.length_singleton] at hn hd
        by_cases hde : d = fs'.length + 1
        · exact .inl ⟨fs' ++ [z], [], by simp, by simp [hde], fun y hy => nomatch hy⟩
        · rcases List.eq_nil_or_concat z.hs with hz | ⟨hs0, h, hz⟩
          · rcases ih fs' d (by omega) (by omega) with ⟨lo, hi, rfl, h1, h2⟩ | ⟨lo, x, hi, hs0, h, rfl, h1, h2, h3⟩
            · exact .inl ⟨lo, hi ++ [z], by simp, h1, fun y hy => by
                rcases List.mem_append.mp hy with q | q
                · exact h2 y q
                · rw [List.mem_singleton.mp q]; exact hz⟩
            · exact .inr ⟨lo, x, hi ++ [z], hs0, h, by simp, h1, h2, fun y hy => by
                rcases List.mem_append.mp hy with q | q
                · exact h3 y q
                · rw [List.mem_singleton.mp q]; exact hz⟩
          · exact .inr ⟨fs', z, [], hs0, h, rfl, by omega, by rw [hz, List.concat_eq_append], fun y hy => nomatch hy⟩
  exact fun d hd => key _ fs d rfl hd
theorem own_get {news : List (Addr × Obj)} {ovs : List Value} {fs : List FrA} (ho : DatAll news ovs (fs.map datF)) {k : Nat} (hk : k < fs.length) : ∃ x v, fs[k]? = some x ∧ ovs[k]? = some v ∧ DatIn news v (datF x) := by
  obtain ⟨v, hv, hd⟩ := ho.get (k := k) (by rw [List.length_map]; exact hk)
  exact ⟨fs[k], v, List.getElem?_eq_getElem hk, hv, by simpa using hd⟩
theorem sub6 {α : Type} {a b c d e g : α} {l l' : List α} (h1 : a ∈ l') (h2 : b ∈ l') (h3 : c ∈ l') (h4 : d ∈ l') (h5 : e ∈ l') (h6 : g ∈ l') (h : ∀ p ∈ l, p ∈ l') : ∀ p ∈ a :: b :: c :: d :: e :: g :: l, p ∈ l' :=
  List.forall_mem_cons.mpr ⟨h1, List.forall_mem_cons.mpr ⟨h2, List.forall_mem_cons.mpr ⟨h3, List.forall_mem_cons.mpr ⟨h4, List.forall_mem_cons.mpr ⟨h5, List.forall_mem_cons.mpr ⟨h6, h⟩⟩⟩⟩⟩⟩
theorem sub4 {α : Type} {a b c d : α} {l l' : List α} (h1 : a ∈ l') (h2 : b ∈ l') (h3 : c ∈ l') (h4 : d ∈ l') (h : ∀ p ∈ l, p ∈ l') : ∀ p ∈ a :: b :: c :: d :: l, p ∈ l' :=
  List.forall_mem_cons.mpr ⟨h1, List.forall_mem_cons.mpr ⟨h2, List.forall_mem_cons.mpr ⟨h3, List.forall_mem_cons.mpr ⟨h4, h⟩⟩⟩⟩
section
variable {w : World} {mean : ExcName → Option Value} {mg mb : PySem.Str → Option Value} {f fd rl src ol : Addr} {ft ta tb : Tok} {a₁ b₁ : Int} {n on : Nat} {rest : List (Addr × Obj)} {ovs : List Value} {fs : List FrA}

abbrev LthrR (w : World) (f fd rl src : Addr) (ft : Tok) (fs : List FrA) (imm : List (Addr × Obj)) (r : Value) (news' : List (Addr × Obj)) : Prop :=
  ∃ frs' fs' imm', St w f fd rl src ft frs' fs' imm' news' ∧ (∀ p ∈ imm, p ∈ imm') ∧ DatIn imm' r (.list (fs'.map datF)) ∧ fs'.length ≤ fs.length ∧ ∀ x' ∈ fs', ∃ x ∈ fs, x'.hs.length ≤ x.hs.length

set_option maxHeartbeats 4000000 in
theorem lthr_raw {imm : List (Addr × Obj)} {frs : List FrR} {nr : Nat} (hnd : (mutsOf src rl frs).Nodup) (hoffI : ∀ p ∈ imm, p.1 ∉ mutsOf src rl frs) (mf : (f, instObj 235 fd) ∈ imm) (mfd : (fd, framesD w ft rl) ∈ imm) (hall : All2 (FrV imm) frs fs)
    (hrl : (rl, rowsO frs nr) ∈ rest) (hsub : ∀ p ∈ frs.flatMap (frE w) ++ imm, p ∈ rest) (hoff : ∀ p ∈ rest, p.1 ≠ src) (moI : (ol, listOf ovs.toArray on) ∈ imm) (hoI : DatAll imm ovs (fs.map datF))
    (hfs : ovs.length ≤ 6) (hsz : ∀ x ∈ fs, x.hs.length ≤ 500) (hb : 0 ≤ b₁) (hb2 : b₁ < 2 ^ 32) :
    TellS w mean mg mb 60 600 295 [.ref f, .ref ol, .ref src] ((src, listOf #[.int a₁ ta, .int b₁ tb] n) :: rest) (LthrR w f fd rl src ft fs imm) := by
  have hsubI : ∀ p ∈ imm, p ∈ rest := fun p hp => hsub p (List.mem_append_right _ hp)
  have hsubF : ∀ p ∈ frs.flatMap (frE w), p ∈ rest := fun p hp => hsub p (List.mem_append_left _ hp)
  have mo := hsubI _ moI
  have ho := hoI.mono hsubI
  unfold TellS
  intro dp un gd cn cs a ccd cl outer A₀ base h₀ L m s Q E B F X N T XB TB D hkk hd hu hret
  refine wpAny_call ?_
  k_dflt (refine' code_defTC ?k1 ?k2 ?k3 ?k4 ?k5 ?XB ?TB ?D ?kA ?kF ?kK ?k6 ?k7 ?k8 ?k9 ?kB ?kD ?_ ?c2 ?c3 ?c4; (case kA => exact rfl); (case kF => exact rfl); (case kK => assumption); (case k1 => k_asm); (case k2 => k_asm); (case k3 => k_asm); (case k4 => k_asm); (case k5 => k_asm); (case XB => assumption); (case TB => assumption); (case D => assumption); (case k6 => k_is); (case k7 => k_is); (case k8 => ktr_room); (case k9 => exact BindsTo.of_eq rfl); (case kB => exact rfl); (case kD => decide +kernel); (case c2 => exact rfl); (case c3 => exact rfl); (case c4 => exact rfl); k_whole; intro g' L' h' tk' cells' q' e' FG' F' N' Y' B' X' T' D' l1 hq'; (try k_lt l1); k_cells Y'; (try simp only [List.cons_append, List.nil_append] at N'); (try dsimp only); (try k_fold))
  replace F' : Fr g' L' h' fun y => if y = PySem.Str.ofString "source" then some (Value.ref src) else if y = PySem.Str.ofString "frames" then some (.ref f) else none := F'
  rename Obj => oc
  have hfs' : ovs.length ≤ 1000 := by omega
  have hk1 : (1 : Int) ≤ (if (ovs.length : Int) + 1 < 3 then (ovs.length : Int) + 1 else 3) := by split <;> omega
  have hk2 : (if (ovs.length : Int) + 1 < 3 then (ovs.length : Int) + 1 else 3) < 100 := by split <;> omega
  have ho1 : ∀ p ∈ (L' + 1, oc) :: rest, p.1 ≠ src := List.forall_mem_cons.mpr ⟨by refine neN ?_; dsimp only; omega, hoff⟩
  k_steps
  (try unfold Stop); k_dflt (refine' Tell.use (digit_c hk1 hk2 hb hb2 ho1) ?k1 ?k2 ?k3 ?k4 ?k5 ?kK ?kd ?ku ?ks ?_; (case k1 => k_asm); (case k2 => k_asm); (case k3 => k_asm); (case k4 => k_asm); (case k5 => k_asm); (case kK => first | exact rfl | assumption); (case kd => ((show _ < 500); (try simp only [depth_under_make, depth_under_kw, depth_in1, depth_deeper, depth_caller]); (try dsimp only [ktrTop]); omega)); (case ku => ((show _ < 5000); (try simp only [units_in1, units_deeper, Around.mark_units, units_caller]); (try dsimp only [ktrTop]); omega)); (case ks => exact swap2))
  rintro r news' h' tk' F' N' ⟨d, td, a₂, ta₂, b₂, tb₂, n₂, rfl, hd0, hd1, hb0, hb1, rfl⟩
  have hd2 : d ≤ ovs.length ∧ d ≤ 2 := by split at hd1 <;> omega
  clear hd1 hk1 hk2
  k_steps
  (try unfold Stop); k_dflt (refine' Tell.use (digit_c (by decide) (by decide) hb0 hb1 ho1) ?k1 ?k2 ?k3 ?k4 ?k5 ?kK ?kd ?ku ?ks ?_; (case k1 => k_asm); (case k2 => k_asm); (case k3 => k_asm); (case k4 => k_asm); (case k5 => k_asm); (case kK => first | exact rfl | assumption); (case kd => ((show _ < 500); (try simp only [depth_under_make, depth_under_kw, depth_in1, depth_deeper, depth_caller]); (try dsimp only [ktrTop]); omega)); (case ku => ((show _ < 5000); (try simp only [units_in1, units_deeper, Around.mark_units, units_caller]); (try dsimp only [ktrTop]); omega)); (case ks => exact fun _ h => h))
  rintro r news' h' tk' F' N' ⟨vk, tv, a₃, ta₃, b₃, tb₃, n₃, rfl, hv0, hv1, hb0', hb1', rfl⟩
  k_steps
  unfold Stop
  rename News _ _ _ _ => NV
  obtain ⟨vD, hvD0⟩ := head_name NV
  dsimp only at hvD0
  subst hvD0
  obtain ⟨vo, hvo, NV'⟩ := headdat NV
  clear NV
  have hvD : vD ∉ mutsOf src rl frs := fresh_muts (by assumption) (by omega) hrl hsubF
  have hlen : ovs.length = (fs.map datF).length := ho.length
  have hdn : ((ovs.length : Int) - d).toNat = ovs.length - d.toNat := by omega
  rcases split_at fs d.toNat (by rw [← List.length_map (f := datF), ← ho.length]; omega) with ⟨lo, hi, rfl, hlo, hbare⟩ | ⟨lo, x, hi, hs0, h0, rfl, hlo, hx, hbare⟩
  · k_dflt (refine LCt.Assign_ListComp_T (F₀ := by k_asm) (by rfl) (by with_unfolding_all rfl) (by with_unfolding_all rfl) (by decide) (by rfl) (by decide) (by rfl) (by rfl) (by rfl) ?_)
    k_steps
    unfold Stop
    k_dflt (refine range_compT (by rfl) (by k_asm) (by k_asm) (by assumption) (small_one (by omega) (by omega) (by omega) (by omega)) (rangeSize_nat _ _) (by rw [sizeLine_eq]; omega) (fun i ys => ys = []) rfl ?_ ?_)
    · rintro i ys hi rfl t I oI C oC D m₂ h tk g E' hC hx F' N' off' ne'
      obtain ⟨x, vx, hx1, hx2, hx3⟩ := own_get ho (k := (d + (i : Int)).toNat) (by rw [List.length_map] at hlen; omega)
      have hxs : x.hs = [] := by
        rw [List.getElem?_append_right (by omega)] at hx1
        exact hbare _ (List.mem_of_getElem? hx1)
      obtain ⟨fa, fn, ha, hv, hn, t', cv, rfl, m1, m2, i1, c1⟩ := row_open hx3
      rw [hxs] at i1
      cases i1
      k_steps
      refine my_item N' (by k_mem) (by omega) (by omega) hx2 ?_
      k_steps
      refine my_item (xs := [Value.ref ha, .int x.at_ t', cv]) N' (by k_mem) (by decide) (by decide) rfl ?_
      k_steps
      unfold Stop
      exact CE.intro (by assumption) (by assumption) (fun p hp => .tail _ hp) trivial
    · rintro ys D h tk g rfl F' N' lD
      k_steps
      unfold Stop
      rename News _ _ _ _ => NK
      obtain ⟨kD, hk0⟩ := second_name NK
      dsimp only at hk0
      subst hk0
      have hkD : kD ∉ mutsOf src rl _ := fresh_muts (by assumption) (by omega) hrl hsubF
      have hkr : ∀ p ∈ rest, p.1 ≠ kD := fun p hp => fresh_rest (by assumption) hp
      refine wpAny_Try_except ?_
      k_steps
      (try unfold Stop); k_dflt (refine' Tell.use (thrown_c) ?k1 ?k2 ?k3 ?k4 ?k5 ?kK ?kd ?ku ?ks ?_; (case k1 => k_asm); (case k2 => k_asm); (case k3 => k_asm); (case k4 => k_asm); (case k5 => k_asm); (case kK => first | exact rfl | assumption); (case kd => ((show _ < 500); (try simp only [depth_under_make, depth_under_kw, depth_in1, depth_deeper, depth_caller]); (try dsimp only [ktrTop]); omega)); (case ku => ((show _ < 5000); (try simp only [units_in1, units_deeper, Around.mark_units, units_caller]); (try dsimp only [ktrTop]); omega)); (case ks => exact fun _ h => h))
      rintro r news' h' tk' F' N' ⟨e, dx, t, ta, tb, tc, td', te, rfl, le, l2, l3, rfl⟩
      k_steps
      obtain ⟨rlo, rhi, rfl, hA, hB⟩ := hall.split
      have hlA := hA.length
      have hlB := hB.length
      have hlen2 : ovs.length = lo.length + hi.length := by rw [hlen]; simp
      have hrl' : (rl, listOf (rlo.map (fun r => Value.ref r.a) ++ rhi.map fun r => Value.ref r.a).toArray nr) ∈ rest := by rw [← List.map_append]; exact hrl
      obtain ⟨rest', hr⟩ := cut N' (fun a => a = rl ∨ a = e)
      have hle : ∀ p ∈ rest, p.1 ≠ e := fun p hp => Nat.ne_of_lt (le p (by simp only [List.mem_cons, hp, or_true]))
      have hin : ∀ p ∈ rest, p.1 ≠ rl → p ∈ rest' := fun p hp hne => (hr p).mpr ⟨by simp only [List.mem_cons, hp, or_true], fun q => q.elim hne (hle p hp)⟩
      have hrm : rl ∈ mutsOf src rl (rlo ++ rhi) := .tail _ (.head _)
      have hneI : ∀ p ∈ imm, p.1 ≠ rl := fun p hp q => hoffI p hp (q ▸ hrm)
      have hndr : rl ∉ (rlo ++ rhi).flatMap frU := (List.nodup_cons.mp (List.nodup_cons.mp hnd).2).1
      have hiok : ∀ r ∈ rhi, Bare w rest' r := bare_of hB hbare hin hsubI hneI (fun p hp => hsubF p (by rw [List.flatMap_append]; exact List.mem_append_right _ hp)) (fun q => hndr (by rw [List.flatMap_append]; exact List.mem_append_right _ q))
      have lrl : @LT.lt Nat _ rl e := le (rl, rowsO (rlo ++ rhi) nr) (by simp only [List.mem_cons, hrl, or_true])
      k_lt2 l2; k_lt2 l3
      have hdx1 : @Ne Nat dx rl := by omega
      have hdx2 : @Ne Nat dx e := by omega
      have hrle : @Ne Nat rl e := by omega
      have md' : (dx, _) ∈ rest' := (hr _).mpr ⟨.head _, fun q => q.elim hdx1 hdx2⟩
      have hvr : (vD, vo) ∈ rest' := (hr _).mpr ⟨by simp only [List.mem_cons, true_or, or_true], fun q => q.elim (fun q => hvD (q ▸ hrm)) (Nat.ne_of_lt (le (vD, vo) (by simp only [List.mem_cons, true_or, or_true])))⟩
      have hDr : (D, LCg.lst []) ∈ rest' := (hr _).mpr ⟨by simp only [List.mem_cons, true_or, or_true], fun q => q.elim (fun q => lD (rl, rowsO (rlo ++ rhi) nr) (by simp only [List.mem_cons, hrl, or_true]) q.symm) (Nat.ne_of_lt (le (D, LCg.lst []) (by simp only [List.mem_cons, true_or, or_true])))⟩
      (try unfold Stop); k_dflt (refine' TellX.use (unw_raise_c (hi := rhi) (lo := rlo.map fun r => Value.ref r.a) (n := nr) (rest := rest') (t := t) (f := f) (fd := fd) (ft := ft) (rl := rl) (by rw [List.length_map]; omega) (by rw [List.length_map]; omega) hiok (hneI _ mf) (hneI _ mfd) (fun p hp q => ((hr p).mp hp).2 (.inl q)) (fun p hp q => ((hr p).mp hp).2 (.inr q)) (hle _ (hsubI _ mf)) (hle _ (hsubI _ mfd)) hrle md' rfl) ?k1 ?k2 ?k3 ?k4 ?k5 ?kK ?kd ?ku ?ks ?_; (case k1 => k_asm); (case k2 => k_asm); (case k3 => k_asm); (case k4 => k_asm); (case k5 => k_asm); (case kK => first | exact rfl | assumption); (case kd => ((show _ < 500); (try simp only [depth_under_make, depth_under_kw, depth_in1, depth_deeper, depth_caller]); (try dsimp only [ktrTop]); omega)); (case ku => ((show _ < 5000); (try simp only [units_in1, units_deeper, Around.mark_units, units_caller]); (try dsimp only [ktrTop]); omega)); (case ks => exact sub4 (by simp only [List.mem_cons, hsubI _ mf, or_true]) (by simp only [List.mem_cons, hsubI _ mfd, or_true]) (by simp only [List.mem_cons, hrl', or_true]) (.tail _ (.tail _ (.head _))) fun p hp => ((hr p).mp hp).1))
      intro G e' dx' news' h' tk' FG2 RX UG ⟨q1, q2, n', q3⟩
      subst q1 q2 q3
      refine caught_xC RX FG2 B' UG XB TB D' ?_
      intro h₂ g₂ oe tk₂ TT F₂ N₂ hcls hnot hdict BB XX T₂ DD
      k_steps
      unfold Stop
      k_dflt (refine' xgetE F₂ XX N₂ (.head _) hcls hnot hdict (.tail _ (.tail _ (.tail _ (.tail _ md')))) ?ha ?hn ?hl ?hv ?_; (case ha => k_is); (case hn => k_is); (case hl => k_get); (case hv => exact rfl))
      k_steps
      k_dflt (refine' my_eq ?qqN ?qqa ?qqb ?qqoa ?qqob ?qqu ?_; (case qqN => k_asm); (case qqa => exact dat_at hvo (.tail _ (.tail _ (.tail _ (.tail _ hvr))))); (case qqb => exact dat_at hvo (.tail _ (.tail _ (.tail _ (.tail _ hvr))))); (case qqoa => exact kqd_c 6 _); (case qqob => exact kqd_c 6 _); (case qqu => ((show _ + 64 < cLine); (simp only [units_in1, units_deeper, units_caller, Around.mark_units, cLine_is]); (try dsimp only [ktrTop]); omega)))
      simp only [decide_true]
      k_steps
      rename Fr _ _ _ _ => FF
      rename News _ _ _ _ => NN
      refine name_goes_C FF NN ?_
      intro h₃ v₃ F₃ N₃
      clear FF NN
      k_steps
      refine hret _ _ _ _ _ (by assumption) (by assumption) (by assumption) (by assumption) (by assumption) (by assumption) (by assumption) ?_
      have hkr' : (kD, listOf (kms_pick ovs none (some d)).toArray 0) ∈ rest' := (hr _).mpr ⟨by simp only [List.mem_cons, true_or, or_true], fun q => q.elim (fun q => hkD (q ▸ hrm)) (Nat.ne_of_lt (le (kD, listOf (kms_pick ovs none (some d)).toArray 0) (by simp only [List.mem_cons, true_or, or_true])))⟩
      have hsr : (src, listOf #[.int a₃ ta₃, .int b₃ tb₃] n₃) ∈ rest' := (hr _).mpr ⟨by simp only [List.mem_cons, true_or, or_true], fun q => q.elim (fun q => (List.nodup_cons.mp hnd).1 (q ▸ .head _)) (Nat.ne_of_lt (le (src, listOf #[.int a₃ ta₃, .int b₃ tb₃] n₃) (by simp only [List.mem_cons, true_or, or_true])))⟩
      refine ⟨rlo, lo, (kD, listOf (kms_pick ovs none (some d)).toArray 0) :: imm, ⟨.tail _ mf, .tail _ mfd, hA.mono (fun a b _ h => h.mono fun p hp => .tail _ hp), nodup_left hnd, List.forall_mem_cons.mpr ⟨fun q => hkD (muts_left _ q), fun p hp q => hoffI p hp (muts_left _ q)⟩, ⟨a₃, ta₃, b₃, tb₃, n₃, hb0', hb1', ?_⟩, ⟨n', ?_⟩, ?_⟩, fun p hp => .tail _ hp, ?_, by simp, fun x' hx' => ⟨x', List.mem_append_left _ hx', Nat.le_refl _⟩⟩
      · simp only [List.mem_cons, hsr, or_true]
      · simp only [List.mem_cons, true_or, or_true]
      · intro p hp
        have hp' : p ∈ rest' := by
          rcases List.mem_append.mp hp with hp | hp
          · have hp1 : p ∈ (rlo ++ rhi).flatMap (frE w) := by rw [List.flatMap_append]; exact List.mem_append_left _ hp
            exact hin p (hsubF p hp1) fun q => hndr (q ▸ addr_frE hp1)
          · rcases List.mem_cons.mp hp with rfl | hp
            · exact hkr'
            · exact hin p (hsubI p hp) (hneI p hp)
        simp only [List.mem_cons, hp', or_true]
      · refine .list (.head _) ?_
        rw [pick_to _ hd0]
        have hoI' := hoI
        rw [List.map_append] at hoI'
        have hh := datAll_take hoI'
        rw [List.length_map, hlo] at hh
        exact hh.mono fun p hp => .tail _ hp
  · have hlenB : ovs.length = lo.length + 1 + hi.length := by rw [hlen]; simp; omega
    obtain ⟨vlo, vrest, hov, hd1, hd2⟩ := datAll_split (ds := lo.map datF) (es := datF x :: hi.map datF) (by simpa using hoI)
    obtain ⟨vx, vhi, rfl, hdx, -⟩ : ∃ vx vhi, vrest = vx :: vhi ∧ DatIn imm vx (datF x) ∧ DatAll imm vhi (hi.map datF) := by
      cases hd2 with
      | cons h r => exact ⟨_, _, rfl, h, r⟩
    have hvlo : vlo.length = lo.length := by rw [hd1.length, List.length_map]
    obtain ⟨fa, fn, ha, hv, hn, t', cv, rfl, m1, m2, i1, c1⟩ := row_open hdx
    rw [hx] at i1
    obtain ⟨hv0, th, rfl, i0⟩ := ints_snoc i1
    have hv0l : hv0.length ≤ 600 := by
      have := hsz x (by simp)
      rw [hx, List.length_append] at this
      rw [i0.length]; omega
    have hp1 : kms_pick ovs none (some ((lo.length : Int) + 1)) = vlo ++ [Value.ref fa] := by
      rw [pick_to _ (by omega), hov]
      have : ((lo.length : Int) + 1).toNat = (vlo ++ [Value.ref fa]).length := by rw [List.length_append, hvlo, List.length_singleton]; omega
      rw [this, show vlo ++ Value.ref fa :: vhi = (vlo ++ [Value.ref fa]) ++ vhi by simp, List.take_left]
    have hp2 : kms_pick (vlo ++ [Value.ref fa]) none (some (-1)) = vlo := pick_but_last _ _
    have hp3 : kms_pick (hv0 ++ [Value.int h0 th]) none (some (-1)) = hv0 := pick_but_last _ _
    have m1' := hsubI _ m1
    have m2' := hsubI _ m2
    k_dflt (refine LCt.Assign_ListComp_T (F₀ := by k_asm) (by rfl) (by with_unfolding_all rfl) (by with_unfolding_all rfl) (by decide) (by rfl) (by decide) (by rfl) (by rfl) (by rfl) ?_)
    k_steps
    unfold Stop
    k_dflt (refine range_compT (by rfl) (by k_asm) (by k_asm) (by assumption) (small_one (by omega) (by omega) (by omega) (by omega)) (rangeSize_nat _ _) (by rw [sizeLine_eq]; omega) (fun i ys => ys.length ≤ i ∧ (d.toNat + i ≤ lo.length ∨ ∃ ys0 t, ys = ys0 ++ [Value.int lo.length t])) ⟨Nat.le_refl _, .inl (by omega)⟩ ?_ ?_)
    · rintro i ys hi' ⟨hyl, hJ⟩ t I oI C oC D m₂ h tk g E' hC hx' F' N' off' ne'
      obtain ⟨z, vz, hz1, hz2, hz3⟩ := own_get ho (k := (d + (i : Int)).toNat) (by rw [List.length_map] at hlen; omega)
      obtain ⟨za, zn, zh, zv, zhn, zt, zc, rfl, z1, z2, z3, z4⟩ := row_open hz3
      by_cases hzs : z.hs = []
      · have hne : (d + (i : Int)).toNat ≠ lo.length := fun q => by
          rw [q] at hz1
          have : z = x := by simpa using hz1.symm
          rw [this, hx] at hzs
          simp at hzs
        have hJ' : d.toNat + (i + 1) ≤ lo.length ∨ ∃ ys0 t, ys = ys0 ++ [Value.int lo.length t] := by
          rcases hJ with q | q
          · exact .inl (by omega)
          · exact .inr q
        rw [hzs] at z3
        cases z3
        k_steps
        refine my_item N' (by k_mem) (by omega) (by omega) hz2 ?_
        k_steps
        refine my_item (xs := [Value.ref zh, .int z.at_ zt, zc]) N' (by k_mem) (by decide) (by decide) rfl ?_
        k_steps
        unfold Stop
        exact CE.intro (by assumption) (by assumption) (fun p hp => .tail _ hp) ⟨by omega, hJ'⟩
      · have hzv : zv ≠ [] := fun q => hzs (List.length_eq_zero_iff.mp (by rw [← z3.length, q]; rfl))
        have hle : (d + (i : Int)).toNat ≤ lo.length := by
          refine Nat.le_of_not_lt fun q => hzs ?_
          rw [show lo ++ x :: hi = (lo ++ [x]) ++ hi by simp, List.getElem?_append_right (by simp; omega)] at hz1
          exact hbare _ (List.mem_of_getElem? hz1)
        have hJ' : d.toNat + (i + 1) ≤ lo.length ∨ ∃ ys0 t', ys ++ [Value.int (d + (i : Int)) t] = ys0 ++ [Value.int lo.length t'] := by
          by_cases q : (d + (i : Int)).toNat = lo.length
          · exact .inr ⟨ys, t, by rw [show d + (i : Int) = lo.length by omega]⟩
          · exact .inl (by omega)
        k_steps
        refine my_item N' (by k_mem) (by omega) (by omega) hz2 ?_
        k_steps
        refine my_item (xs := [Value.ref zh, .int z.at_ zt, zc]) N' (by k_mem) (by decide) (by decide) rfl ?_
        k_steps
        unfold Stop
        exact CE.intro (by assumption) (by assumption) (fun p hp => .tail _ hp) ⟨by rw [List.length_append, List.length_singleton]; omega, hJ'⟩
    · rintro ys D h tk g ⟨hyl, hJ⟩ F' N' lD
      obtain ⟨ys0, ty, rfl⟩ : ∃ ys0 t, ys = ys0 ++ [Value.int lo.length t] := hJ.elim (fun q => absurd q (by omega)) id
      rw [List.length_append, List.length_singleton] at hyl
      k_steps
      refine my_item (xs := [Value.ref ha, .int x.at_ t', cv]) (by k_asm) (by k_mem) (by decide) (by decide) rfl ?_
      k_steps
      unfold Stop
      rename News _ _ _ _ => NK
      obtain ⟨kD, rD, hD, hk0, hk1, hk2⟩ := names4 NK
      dsimp only at hk0 hk1 hk2
      subst hk0 hk1 hk2
      have fkD : kD ∉ mutsOf src rl frs := fresh_muts (by assumption) (by omega) hrl hsubF
      have frD' : rD ∉ mutsOf src rl frs := fresh_muts (by assumption) (by omega) hrl hsubF
      have fhD : hD ∉ mutsOf src rl frs := fresh_muts (by assumption) (by omega) hrl hsubF
      have fDD : D ∉ mutsOf src rl frs := fun q => by
        rcases List.mem_cons.mp q with q | q
        · exact lD (src, listOf #[.int a₃ ta₃, .int b₃ tb₃] n₃) (by simp only [List.mem_cons, true_or, or_true]) q.symm
        · rcases List.mem_cons.mp q with q | q
          · exact lD (rl, rowsO frs nr) (by simp only [List.mem_cons, hrl, or_true]) q.symm
          · obtain ⟨o', ho'⟩ := mem_frU (w := w) q
            exact lD (D, o') (by simp only [List.mem_cons, hsubF _ ho', or_true]) rfl
      refine wpAny_Try_except ?_
      k_steps
      (try unfold Stop); k_dflt (refine' Tell.use (thrown_c) ?k1 ?k2 ?k3 ?k4 ?k5 ?kK ?kd ?ku ?ks ?_; (case k1 => k_asm); (case k2 => k_asm); (case k3 => k_asm); (case k4 => k_asm); (case k5 => k_asm); (case kK => first | exact rfl | assumption); (case kd => ((show _ < 500); (try simp only [depth_under_make, depth_under_kw, depth_in1, depth_deeper, depth_caller]); (try dsimp only [ktrTop]); omega)); (case ku => ((show _ < 5000); (try simp only [units_in1, units_deeper, Around.mark_units, units_caller]); (try dsimp only [ktrTop]); omega)); (case ks => exact fun _ h => h))
      rintro r news' h' tk' F' N' ⟨e, dx, t, ta, tb, tc, td', te, rfl, le, l2, l3, rfl⟩
      k_lt2 l2; k_lt2 l3
      k_steps
      obtain ⟨rlo, rr, rfl, hA, hB'⟩ := hall.split
      obtain ⟨rx, rhi, rfl, hX, hB⟩ : ∃ rx rhi, rr = rx :: rhi ∧ FrV imm rx x ∧ All2 (FrV imm) rhi hi := by
        cases hB' with
        | cons h r => exact ⟨_, _, rfl, h, r⟩
      have ND := nd_mid hnd
      have hlA := hA.length
      have hlB := hB.length
      have hbad : ∀ a, a = rl ∨ a = rx.d ∨ a = rx.hl → a ∈ mutsOf src rl (rlo ++ rx :: rhi) := fun a q => by
        rcases q with rfl | rfl | rfl
        · exact .tail _ (.head _)
        · exact .tail _ (.tail _ (by rw [List.flatMap_append, List.flatMap_cons]; exact List.mem_append_right _ (List.mem_append_left _ (.head _))))
        · exact .tail _ (.tail _ (by rw [List.flatMap_append, List.flatMap_cons]; exact List.mem_append_right _ (List.mem_append_left _ (.tail _ (.head _)))))
      obtain ⟨rest', hr⟩ := cut N' (fun a => a = rl ∨ a = rx.d ∨ a = rx.hl)
      have hin : ∀ p ∈ rest, ¬ (p.1 = rl ∨ p.1 = rx.d ∨ p.1 = rx.hl) → p ∈ rest' := fun p hp hne => (hr p).mpr ⟨by simp only [List.mem_cons, hp, or_true], hne⟩
      have hinI : ∀ p ∈ imm, p ∈ rest' := fun p hp => hin p (hsubI p hp) fun q => hoffI p hp (hbad _ q)
      have hxhs := hX.hs
      rw [hx] at hxhs
      obtain ⟨xv0, tx, hxv, ix0⟩ := ints_snoc hxhs
      have xv0l : xv0.length ≤ 600 := by rw [ix0.length, ← i0.length]; omega
      have hmx : ∀ p ∈ frE w rx, p ∈ rest := fun p hp => hsubF p (by rw [List.flatMap_append, List.flatMap_cons]; exact List.mem_append_right _ (List.mem_append_left _ hp))
      have mx1 := hmx (rx.d, frD w rx.fx rx.av (.ref rx.hl) rx.cv) (.head _)
      have mx2 := hmx (rx.hl, listOf rx.hv.toArray rx.hn) (.tail _ (.head _))
      rw [hxv] at mx2
      have hiok : ∀ r ∈ rhi, Bare w rest' r := bare_of2 (ok := fun a => ¬ (a = rl ∨ a = rx.d ∨ a = rx.hl)) hB hbare hin hsubI (fun p hp q => hoffI p hp (hbad _ q)) (fun p hp => hsubF p (by rw [List.flatMap_append, List.flatMap_cons]; exact List.mem_append_right _ (List.mem_append_right _ hp))) (fun a ha q => by
        obtain ⟨-, q1, q2, q3⟩ := ND.hi a ha
        rcases q with q | q | q
        · exact q1 q
        · exact q2 q
        · exact q3 q)
      have hrl' : (rl, listOf ((rlo.map fun r => Value.ref r.a) ++ [Value.ref rx.a] ++ rhi.map fun r => Value.ref r.a).toArray nr) ∈ rest := by
        have := hrl
        simpa [rowsO] using this
      have lrl : @LT.lt Nat _ rl e := le (rl, rowsO (rlo ++ rx :: rhi) nr) (by simp only [List.mem_cons, hrl, or_true])
      have ld1 : @LT.lt Nat _ rx.d e := le (rx.d, frD w rx.fx rx.av (.ref rx.hl) rx.cv) (by simp only [List.mem_cons, mx1, or_true])
      have lh1 : @LT.lt Nat _ rx.hl e := le (rx.hl, listOf (xv0 ++ [Value.int h0 tx]).toArray rx.hn) (by simp only [List.mem_cons, mx2, or_true])
      have me' : (e, excObj dx t) ∈ rest' := (hr _).mpr ⟨by simp only [List.mem_cons, true_or, or_true], fun q => by
        rcases q with q | q | q
        · exact absurd lrl (by rw [← q]; exact Nat.lt_irrefl _)
        · exact absurd ld1 (by rw [← q]; exact Nat.lt_irrefl _)
        · exact absurd lh1 (by rw [← q]; exact Nat.lt_irrefl _)⟩
      have md' : (dx, _) ∈ rest' := (hr _).mpr ⟨.head _, fun q => by
        have ldx : @LT.lt Nat _ e dx := by omega
        rcases q with q | q | q
        · exact absurd (Nat.lt_trans lrl ldx) (by rw [← q]; exact Nat.lt_irrefl _)
        · exact absurd (Nat.lt_trans ld1 ldx) (by rw [← q]; exact Nat.lt_irrefl _)
        · exact absurd (Nat.lt_trans lh1 ldx) (by rw [← q]; exact Nat.lt_irrefl _)⟩
      have nI : ∀ {p : Addr × Obj}, p ∈ imm → ¬ (p.1 = rl ∨ p.1 = rx.d ∨ p.1 = rx.hl) := fun hp q => hoffI _ hp (hbad _ q)
      have hDr : (D, LCg.lst (ys0 ++ [Value.int lo.length ty])) ∈ rest' := (hr _).mpr ⟨by simp only [List.mem_cons, true_or, or_true], fun q => fDD (hbad _ q)⟩
      have b1 : d ≤ ((rlo.map fun r => Value.ref r.a).length : Int) := by rw [List.length_map]; omega
      have b2 : (rlo.map fun r => Value.ref r.a).length + rhi.length ≤ 900 := by rw [List.length_map]; omega
      (try unfold Stop); k_dflt (refine' Tell.use (unw_ret_c (hi := rhi) (lo := rlo.map fun r => Value.ref r.a) (n := nr) (rest := rest') (t := t) (f := f) (fd := fd) (ft := ft) (rl := rl) (a' := rx.a) (d := rx.d) (hl := rx.hl) (fx := rx.fx) (av := rx.av) (cv := rx.cv) (xs := xv0) (u := .int h0 tx) (hn := rx.hn) b1 b2 (by omega) hiok (fun q => nI mf (.inl q)) (fun q => nI mfd (.inl q)) (fun q => nI hX.ma (.inl q)) (Ne.symm ND.r1) (Ne.symm ND.r2) (fun p hp q => ((hr p).mp hp).2 (.inl q)) (fun q => nI mf (.inr (.inl q))) (fun q => nI mfd (.inr (.inl q))) (fun q => nI hX.ma (.inr (.inl q))) (Ne.symm ND.d1) (fun p hp q => ((hr p).mp hp).2 (.inr (.inl q))) (fun q => nI mf (.inr (.inr q))) (fun q => nI mfd (.inr (.inr q))) (fun q => nI hX.ma (.inr (.inr q))) (fun p hp q => ((hr p).mp hp).2 (.inr (.inr q))) me' md' rfl) ?k1 ?k2 ?k3 ?k4 ?k5 ?kK ?kd ?ku ?ks ?_; (case k1 => k_asm); (case k2 => k_asm); (case k3 => k_asm); (case k4 => k_asm); (case k5 => k_asm); (case kK => first | exact rfl | assumption); (case kd => ((show _ < 500); (try simp only [depth_under_make, depth_under_kw, depth_in1, depth_deeper, depth_caller]); (try dsimp only [ktrTop]); omega)); (case ku => ((show _ < 5000); (try simp only [units_in1, units_deeper, Around.mark_units, units_caller]); (try dsimp only [ktrTop]); omega)); (case ks => exact sub6 (by simp only [List.mem_cons, hsubI _ mf, or_true]) (by simp only [List.mem_cons, hsubI _ mfd, or_true]) (by simp only [List.mem_cons, hrl', or_true]) (by simp only [List.mem_cons, hsubI _ hX.ma, or_true]) (by simp only [List.mem_cons, mx1, or_true]) (by simp only [List.mem_cons, mx2, or_true]) fun p hp => ((hr p).mp hp).1))
      rintro r news' h' tk' F' N' ⟨n', rfl⟩
      k_steps
      refine hret _ _ _ _ _ (by assumption) (by assumption) (by assumption) (by assumption) (by assumption) (by assumption) (by assumption) ?_
      have kr : (kD, listOf (vlo ++ [Value.ref rD]).toArray 0) ∈ rest' := (hr _).mpr ⟨by simp only [List.mem_cons, true_or, or_true], fun q => fkD (hbad _ q)⟩
      have rr' : (rD, listOf [Value.ref hD, .int h0 th, .ref vD].toArray 0) ∈ rest' := (hr _).mpr ⟨by simp only [List.mem_cons, true_or, or_true], fun q => frD' (hbad _ q)⟩
      have hr' : (hD, listOf hv0.toArray 0) ∈ rest' := (hr _).mpr ⟨by simp only [List.mem_cons, true_or, or_true], fun q => fhD (hbad _ q)⟩
      have vr' : (vD, vo) ∈ rest' := (hr _).mpr ⟨by simp only [List.mem_cons, true_or, or_true], fun q => hvD (hbad _ q)⟩
      have hsr : (src, listOf #[.int a₃ ta₃, .int b₃ tb₃] n₃) ∈ rest' := (hr _).mpr ⟨by simp only [List.mem_cons, true_or, or_true], fun q => by
        rcases q with q | q | q
        · exact ND.s1 q
        · exact ND.s2 q
        · exact ND.s3 q⟩
      refine ⟨rlo ++ [{ rx with hv := xv0, hn := rx.hn + 1, av := .int h0 tx, cv := .ref vD }], lo ++ [⟨hs0, h0, some vk⟩], (kD, listOf (vlo ++ [Value.ref rD]).toArray 0) :: (rD, listOf [Value.ref hD, .int h0 th, .ref vD].toArray 0) :: (hD, listOf hv0.toArray 0) :: (vD, vo) :: imm,
        ⟨.tail _ (.tail _ (.tail _ (.tail _ mf))), .tail _ (.tail _ (.tail _ (.tail _ mfd))), ?_, nodup_top hnd rfl rfl, ?_, ⟨a₃, ta₃, b₃, tb₃, n₃, hb0', hb1', ?_⟩, ⟨n', ?_⟩, ?_⟩, fun p hp => .tail _ (.tail _ (.tail _ (.tail _ hp))), ?_, by simp, ?_⟩
      · refine (hA.mono fun a b _ h => h.mono fun p hp => .tail _ (.tail _ (.tail _ (.tail _ hp)))).append (.cons ⟨ix0, ⟨_, rfl⟩, dat_at hvo (.tail _ (.tail _ (.tail _ (.head _)))), .tail _ (.tail _ (.tail _ (.tail _ hX.ma)))⟩ .nil)
      · have hmt := muts_top (src := src) (rl := rl) (rlo := rlo) (rhi := rhi) (rx := rx) (rx' := { rx with hv := xv0, hn := rx.hn + 1, av := .int h0 tx, cv := .ref vD }) rfl rfl
        refine List.forall_mem_cons.mpr ⟨fun q => fkD (hmt _ q), List.forall_mem_cons.mpr ⟨fun q => frD' (hmt _ q), List.forall_mem_cons.mpr ⟨fun q => fhD (hmt _ q), List.forall_mem_cons.mpr ⟨fun q => hvD (hmt _ q), fun p hp q => hoffI p hp (hmt _ q)⟩⟩⟩⟩
      · simp only [List.mem_cons, hsr, or_true]
      · simp [rowsO]
      · intro p hp
        rcases List.mem_append.mp hp with hp | hp
        · rw [List.flatMap_append] at hp
          rcases List.mem_append.mp hp with hp | hp
          · have hp1 : p ∈ (rlo ++ rx :: rhi).flatMap (frE w) := by rw [List.flatMap_append]; exact List.mem_append_left _ hp
            have hp' : p ∈ rest' := hin p (hsubF p hp1) fun q => by
              obtain ⟨-, q1, q2, q3⟩ := ND.lo p.1 (addr_frE hp)
              rcases q with q | q | q
              · exact q1 q
              · exact q2 q
              · exact q3 q
            simp only [List.mem_cons, hp', or_true]
          · simp only [List.flatMap_cons, List.flatMap_nil, List.append_nil, frE, List.mem_cons, List.not_mem_nil, or_false] at hp
            rcases hp with rfl | rfl
            · exact .tail _ (.tail _ (.head _))
            · exact .tail _ (.tail _ (.tail _ (.head _)))
        · have hp' : p ∈ rest' := by
            rcases List.mem_cons.mp hp with rfl | hp
            · exact kr
            · rcases List.mem_cons.mp hp with rfl | hp
              · exact rr'
              · rcases List.mem_cons.mp hp with rfl | hp
                · exact hr'
                · rcases List.mem_cons.mp hp with rfl | hp
                  · exact vr'
                  · exact hinI p hp
          simp only [List.mem_cons, hp', or_true]
      · refine .list (.head _) ?_
        rw [List.map_append]
        exact (hd1.mono fun p hp => .tail _ (.tail _ (.tail _ (.tail _ hp)))).append (.one (.list (.tail _ (.head _)) (.cons (.list (.tail _ (.tail _ (.head _))) (ints_dat i0)) (.cons (.int _ _) (.cons (dat_at hvo (.tail _ (.tail _ (.tail _ (.head _))))) .nil)))))
      · intro x' hx'
        rcases List.mem_append.mp hx' with q | q
        · exact ⟨x', List.mem_append_left _ q, Nat.le_refl _⟩
        · rw [List.mem_singleton.mp q]
          exact ⟨x, by simp, by rw [hx]; simp⟩
end
end

-- part Turn
section
open PySem.Calls
local macro_rules | `(tactic| walk_at "call type:tuple") => `(tactic| (k_here; (with_reducible show wpAny _ _ (call (Value.type _) [Value.ref _]) _ _ _); k_dflt (refine' tup_top ?ttF ?ttX ?tte ?ttc ?ttd ?_; (case ttF => k_asm); (case ttX => k_asm); (case tte => k_is); (case ttc => exact rfl); (case ttd => exact rfl); k_whole)))
local macro_rules | `(tactic| walk_at "call ref") => `(tactic| ((show wpAny _ _ (call (Value.ref 211) _) _ _ _); refine stop_in ?_))
local macro_rules | `(tactic| walk_at "call ref") => `(tactic| ((show wpAny _ _ (call (Value.ref 218) _) _ _ _); refine stop_in ?_))
local macro_rules | `(tactic| walk_at "call ref") => `(tactic| ((show wpAny _ _ (call (Value.ref 204) _) _ _ _); refine stop_in ?_))
local macro_rules | `(tactic| walk_at "call ref") => `(tactic| ((show wpAny _ _ (call (Value.ref 155) _) _ _ _); refine stop_in ?_))
local macro_rules | `(tactic| walk_at "call ref") => `(tactic| ((show wpAny _ _ (call (Value.ref 162) _) _ _ _); refine stop_in ?_))
local macro_rules | `(tactic| walk_at "call ref") => `(tactic| ((show wpAny _ _ (call (Value.ref 295) _) _ _ _); refine stop_in ?_))
theorem St.canon {w : World} {f fd rl src : Addr} {ft : Tok} {frs : List FrR} {fs : List FrA} {imm news : List (Addr × Obj)} (S : St w f fd rl src ft frs fs imm news) :
    ∃ a ta b tb n nr, 0 ≤ b ∧ b < 2 ^ 32 ∧ (∀ p ∈ (src, listOf #[Value.int a ta, .int b tb] n) :: (rl, rowsO frs nr) :: (frs.flatMap (frE w) ++ imm), p ∈ news) ∧ (∀ p ∈ (rl, rowsO frs nr) :: (frs.flatMap (frE w) ++ imm), p.1 ≠ src) := by
  obtain ⟨a, ta, b, tb, n, h0, h1, hm⟩ := S.msrc
  obtain ⟨nr, hr⟩ := S.mrl
  have nd := (List.nodup_cons.mp S.nd).1
  refine ⟨a, ta, b, tb, n, nr, h0, h1, List.forall_mem_cons.mpr ⟨hm, List.forall_mem_cons.mpr ⟨hr, S.sub⟩⟩, List.forall_mem_cons.mpr ⟨fun q => nd (q ▸ .head _), fun p hp q => ?_⟩⟩
  rcases List.mem_append.mp hp with hp | hp
  · exact nd (q ▸ .tail _ (addr_frE hp))
  · exact S.off p hp (q ▸ .head _)

theorem lthr_c {w : World} {mean : ExcName → Option Value} {mg mb : PySem.Str → Option Value} {f fd rl src : Addr} {ft : Tok} {frs : List FrR} {fs : List FrA} {imm news : List (Addr × Obj)} {own : Value} (S : St w f fd rl src ft frs fs imm news)
    (ho : DatIn imm own (.list (fs.map datF))) (hfs : fs.length ≤ 6) (hsz : ∀ x ∈ fs, x.hs.length ≤ 500) : TellS w mean mg mb 60 600 295 [.ref f, own, .ref src] news (LthrR w f fd rl src ft fs imm) := by
  obtain ⟨ol, ovs, on, rfl, mo, ho'⟩ := own_open ho
  obtain ⟨a, ta, b, tb, n, nr, h0, h1, hsub, hoff⟩ := S.canon
  intro dp un gd cn cs a' ccd cl outer A₀ base h₀ L m s Q E B F X N T XB TB D hkk hd hu hret
  exact lthr_raw (rest := (rl, rowsO frs nr) :: (frs.flatMap (frE w) ++ imm)) S.nd S.off S.mf S.mfd S.all (.head _) (fun p hp => .tail _ hp) hoff mo ho' (by rw [ho'.length, List.length_map]; exact hfs) hsz h0 h1
    _ _ _ _ _ _ _ _ _ _ _ _ _ _ _ _ _ B F X (fun p hp => N p (hsub p hp)) T XB TB D hkk hd hu hret

theorem sub3 {α : Type} {a b c : α} {l l' : List α} (h1 : a ∈ l') (h2 : b ∈ l') (h3 : c ∈ l') (h : ∀ p ∈ l, p ∈ l') : ∀ p ∈ a :: b :: c :: l, p ∈ l' :=
  List.forall_mem_cons.mpr ⟨h1, List.forall_mem_cons.mpr ⟨h2, List.forall_mem_cons.mpr ⟨h3, h⟩⟩⟩
abbrev TurnR (w : World) (f fd rl src : Addr) (ft : Tok) (K : Nat) (imm : List (Addr × Obj)) (r : Value) (news' : List (Addr × Obj)) : Prop :=
  ∃ frs' fs' imm', St w f fd rl src ft frs' fs' imm' news' ∧ (∀ p ∈ imm, p ∈ imm') ∧ DatIn imm' r (.list (fs'.map datF)) ∧ fs'.length ≤ 6 ∧ ∀ x' ∈ fs', x'.hs.length ≤ K + 1

section
variable {w : World} {mean : ExcName → Option Value} {mg mb : PySem.Str → Option Value} {f fd rl src ol : Addr} {ft ta tb : Tok} {a₁ b₁ : Int} {n on K : Nat} {rest : List (Addr × Obj)} {ovs : List Value} {fs : List FrA}

set_option maxHeartbeats 4000000 in
theorem turn_raw {imm : List (Addr × Obj)} {frs : List FrR} {nr : Nat} (hnd : (mutsOf src rl frs).Nodup) (hoffI : ∀ p ∈ imm, p.1 ∉ mutsOf src rl frs) (mf : (f, instObj 235 fd) ∈ imm) (mfd : (fd, framesD w ft rl) ∈ imm) (hall : All2 (FrV imm) frs fs)
    (hrl : (rl, rowsO frs nr) ∈ rest) (hsub : ∀ p ∈ frs.flatMap (frE w) ++ imm, p ∈ rest) (hoff : ∀ p ∈ rest, p.1 ≠ src) (moI : (ol, listOf ovs.toArray on) ∈ imm) (hoI : DatAll imm ovs (fs.map datF))
    (hfs : ovs.length ≤ 6) (hK : K ≤ 400) (hsz : ∀ x ∈ fs, x.hs.length ≤ K) (hb : 0 ≤ b₁) (hb2 : b₁ < 2 ^ 32) :
    TellS w mean mg mb 80 800 309 [.ref f, .ref ol, .ref src] ((src, listOf #[.int a₁ ta, .int b₁ tb] n) :: rest) (TurnR w f fd rl src ft K imm) := by
  have hsubI : ∀ p ∈ imm, p ∈ rest := fun p hp => hsub p (List.mem_append_right _ hp)
  have hsubF : ∀ p ∈ frs.flatMap (frE w), p ∈ rest := fun p hp => hsub p (List.mem_append_left _ hp)
  have mo := hsubI _ moI
  have mf' := hsubI _ mf
  have mfd' := hsubI _ mfd
  have hlen : ovs.length = fs.length := by rw [hoI.length, List.length_map]
  have hfs' : ovs.length ≤ 1000 := by omega
  unfold TellS
  intro dp un gd cn cs a ccd cl outer A₀ base h₀ L m s Q E B F X N T XB TB D hkk hd hu hret
  refine wpAny_call ?_
  k_dflt (refine' code_defT ?k1 ?k2 ?k3 ?k4 ?k5 ?XB ?TB ?D ?kA ?kF ?kK ?k6 ?k7 ?k8 ?k9 ?kB ?_ ?c2 ?c3 ?c4 ?c5; (case kA => exact rfl); (case kF => exact rfl); (case kK => assumption); (case k1 => k_asm); (case k2 => k_asm); (case k3 => k_asm); (case k4 => k_asm); (case k5 => k_asm); (case XB => assumption); (case TB => assumption); (case D => assumption); (case k6 => k_is); (case k7 => k_is); (case k8 => ktr_room); (case k9 => exact BindsTo.of_eq rfl); (case kB => exact locs rfl); (case c5 => decide); (case c2 => exact rfl); (case c3 => exact rfl); (case c4 => exact rfl); k_whole; intro g' L' h' tk' q' e' FG' F' N' B' X' T' D' l1 hq'; (try k_lt l1); (try dsimp only); (try k_fold))
  replace F' : Fr g' L' h' fun y => List.lookup y [(PySem.Str.ofString "source", Value.ref src), (PySem.Str.ofString "own", .ref ol), (PySem.Str.ofString "frames", .ref f)] := F'
  k_steps
  (try unfold Stop); k_dflt (refine' Tell.use (digit_c (by decide) (by decide) hb hb2 hoff) ?k1 ?k2 ?k3 ?k4 ?k5 ?kK ?kd ?ku ?ks ?_; (case k1 => k_asm); (case k2 => k_asm); (case k3 => k_asm); (case k4 => k_asm); (case k5 => k_asm); (case kK => first | exact rfl | assumption); (case kd => ((show _ < 500); (try simp only [depth_under_make, depth_under_kw, depth_in1, depth_deeper, depth_caller]); (try dsimp only [ktrTop]); omega)); (case ku => ((show _ < 5000); (try simp only [units_in1, units_deeper, Around.mark_units, units_caller]); (try dsimp only [ktrTop]); omega)); (case ks => exact fun _ h => h))
  rintro r news' h' tk' F' N' ⟨way, td, a₂, ta₂, b₂, tb₂, n₂, rfl, hd0, hd1, hb0, hb1, rfl⟩
  by_cases hp1 : way = 0 ∧ ovs.length < 6
  · obtain ⟨hw, hl6⟩ := hp1
    subst hw
    k_steps
    unfold Stop
    rename News _ _ _ _ => NK
    obtain ⟨r, rfl, rfl, rfl, hr0, hr1, hr2, NR⟩ := newframe NK
    clear NK
    have fd1 : r.d ∉ mutsOf src rl frs := fresh_muts (by assumption) (by omega) hrl hsubF
    have fl1 : r.hl ∉ mutsOf src rl frs := fresh_muts (by assumption) (by omega) hrl hsubF
    have hda1 : @LT.lt Nat _ r.d r.a := by first | omega | exact ltN (by assumption)
    have hsd : @LT.lt Nat _ src r.d := by omega
    have fa1 : r.a ∉ mutsOf src rl frs := fresh_muts (allLt_up (d := r.d) (by assumption) hda1) (Nat.lt_trans hsd hda1) hrl hsubF
    have hdl : @Ne Nat r.d r.hl := by omega
    have hda : @Ne Nat r.a r.d := by omega
    have hla : @Ne Nat r.a r.hl := by omega
    have dR : ∀ p ∈ rest, p.1 ≠ r.d := fun p hp => fresh_rest (by assumption) hp
    have lR : ∀ p ∈ rest, p.1 ≠ r.hl := fun p hp => fresh_rest (by assumption) hp
    have hrm : rl ∈ mutsOf src rl frs := .tail _ (.head _)
    obtain ⟨rest', hr⟩ := cut NR (fun a => a = rl)
    have hin : ∀ p ∈ rest, p.1 ≠ rl → p ∈ rest' := fun p hp hne => (hr p).mpr ⟨by simp only [List.mem_cons, hp, or_true], hne⟩
    have hneI : ∀ p ∈ imm, p.1 ≠ rl := fun p hp q => hoffI p hp (q ▸ hrm)
    have hinI : ∀ p ∈ imm, p ∈ rest' := fun p hp => hin p (hsubI p hp) (hneI p hp)
    have mo' := hinI _ moI
    have r1 : (r.hl, listOf r.hv.toArray r.hn) ∈ rest' := (hr _).mpr ⟨.head _, fun q => fl1 (q ▸ hrm)⟩
    have r2 : (r.a, instObj 172 r.d) ∈ rest' := (hr _).mpr ⟨.tail _ (.head _), fun q => fa1 (q ▸ hrm)⟩
    have r3 : (r.d, frD w r.fx r.av (.ref r.hl) r.cv) ∈ rest' := (hr _).mpr ⟨.tail _ (.tail _ (.head _)), fun q => fd1 (q ▸ hrm)⟩
    have hsr : (src, listOf #[.int a₂ ta₂, .int b₂ tb₂] n₂) ∈ rest' := (hr _).mpr ⟨by simp only [List.mem_cons, true_or, or_true], fun q => (List.nodup_cons.mp hnd).1 (q ▸ .head _)⟩
    have hfl : (frs.map fun r => Value.ref r.a).length ≤ 100 := by rw [List.length_map, hall.length, ← hlen]; omega
    (try unfold Stop); k_dflt (refine' Tell.use (push_c (xs := frs.map fun r => Value.ref r.a) (n := nr) (rest := rest') (f := f) (fd := fd) (ft := ft) (rl := rl) hfl (hneI _ mf) (hneI _ mfd) (fun p hp => ((hr p).mp hp).2)) ?k1 ?k2 ?k3 ?k4 ?k5 ?kK ?kd ?ku ?ks ?_; (case k1 => k_asm); (case k2 => k_asm); (case k3 => k_asm); (case k4 => k_asm); (case k5 => k_asm); (case kK => first | exact rfl | assumption); (case kd => ((show _ < 500); (try simp only [depth_under_make, depth_under_kw, depth_in1, depth_deeper, depth_caller]); (try dsimp only [ktrTop]); omega)); (case ku => ((show _ < 5000); (try simp only [units_in1, units_deeper, Around.mark_units, units_caller]); (try dsimp only [ktrTop]); omega)); (case ks => exact sub3 (by simp only [List.mem_cons, mf', or_true]) (by simp only [List.mem_cons, mfd', or_true]) (by simp only [List.mem_cons, hrl, or_true]) fun p hp => ((hr p).mp hp).1))
    rintro r' news' h' tk' F' N' rfl
    k_steps
    rename News _ _ _ _ => NZ
    obtain ⟨kD, rD, eD, q1, q2, q3⟩ := names4 NZ
    dsimp only at q1 q2 q3
    subst q1 q2 q3
    have hmem : ∀ x ∈ mutsOf src rl (frs ++ [r]), x = rl ∨ ∃ o, (x, o) ∈ rest' := fun x hx => by
      rcases mem_push hx with q | rfl | rfl
      · rcases List.mem_cons.mp q with rfl | q
        · exact .inr ⟨_, hsr⟩
        · rcases List.mem_cons.mp q with rfl | q
          · exact .inl rfl
          · obtain ⟨o, ho⟩ := mem_frU (w := w) q
            exact .inr ⟨o, hin _ (hsubF _ ho) fun e => (List.nodup_cons.mp (List.nodup_cons.mp hnd).2).1 (e ▸ q)⟩
      · exact .inr ⟨_, r3⟩
      · exact .inr ⟨_, r1⟩
    have fk : kD ∉ mutsOf src rl (frs ++ [r]) := fresh_muts2 (by assumption) (by omega) hmem
    have fr : rD ∉ mutsOf src rl (frs ++ [r]) := fresh_muts2 (by assumption) (by omega) hmem
    have fe : eD ∉ mutsOf src rl (frs ++ [r]) := fresh_muts2 (by assumption) (by omega) hmem
    obtain ⟨tz, hr1'⟩ := hr1
    refine hret _ _ _ _ _ (by assumption) (by assumption) (by assumption) (by assumption) (by assumption) (by assumption) (by assumption) ?_
    refine ⟨frs ++ [r], fs ++ [⟨[], 0, none⟩], (kD, listOf (ovs ++ [Value.ref rD]).toArray 0) :: (rD, listOf [Value.ref eD, .int 0 tk', .none].toArray 0) :: (eD, listOf ([] : List Value).toArray 0) :: (r.a, instObj 172 r.d) :: imm,
      ⟨.tail _ (.tail _ (.tail _ (.tail _ mf))), .tail _ (.tail _ (.tail _ (.tail _ mfd))), ?_, nodup_push hnd fd1 fl1 hdl, ?_, ⟨a₂, ta₂, b₂, tb₂, n₂, hb0, hb1, ?_⟩, ⟨nr + 1, ?_⟩, ?_⟩, fun p hp => .tail _ (.tail _ (.tail _ (.tail _ hp))), ?_, ?_, ?_⟩
    · refine (hall.mono fun a b _ h => h.mono fun p hp => .tail _ (.tail _ (.tail _ (.tail _ hp)))).append (.cons ⟨?_, ⟨tz, hr1'⟩, ?_, .tail _ (.tail _ (.tail _ (.head _)))⟩ .nil)
      · rw [hr0]; exact .nil
      · rw [hr2]; exact .none
    · refine List.forall_mem_cons.mpr ⟨fk, List.forall_mem_cons.mpr ⟨fr, List.forall_mem_cons.mpr ⟨fe, List.forall_mem_cons.mpr ⟨off_push fa1 hda hla, fun p hp => off_push (hoffI p hp) (dR p (hsubI p hp)) (lR p (hsubI p hp))⟩⟩⟩⟩
    · simp only [List.mem_cons, hsr, or_true]
    · simp [rowsO]
    · intro p hp
      rcases List.mem_append.mp hp with hp | hp
      · have hp' : p ∈ rest' := by
          rw [List.flatMap_append] at hp
          rcases List.mem_append.mp hp with hp | hp
          · exact hin p (hsubF p hp) fun e => (List.nodup_cons.mp (List.nodup_cons.mp hnd).2).1 (e ▸ addr_frE hp)
          · simp only [List.flatMap_cons, List.flatMap_nil, List.append_nil, frE, List.mem_cons, List.not_mem_nil, or_false] at hp
            rcases hp with rfl | rfl
            · exact r3
            · exact r1
        simp only [List.mem_cons, hp', or_true]
      · rcases List.mem_cons.mp hp with rfl | hp
        · exact .head _
        · rcases List.mem_cons.mp hp with rfl | hp
          · exact .tail _ (.tail _ (.head _))
          · rcases List.mem_cons.mp hp with rfl | hp
            · exact .tail _ (.tail _ (.tail _ (.head _)))
            · have hp' : p ∈ rest' := by
                rcases List.mem_cons.mp hp with rfl | hp
                · exact r2
                · exact hinI p hp
              simp only [List.mem_cons, hp', or_true]
    · refine .list (.head _) ?_
      rw [List.map_append]
      exact (hoI.mono fun p hp => .tail _ (.tail _ (.tail _ (.tail _ hp)))).append (.one (.list (.tail _ (.head _)) (.cons (.list (vs := []) (.tail _ (.tail _ (.head _))) .nil) (.cons (.int _ _) (.cons .none .nil)))))
    · rw [List.length_append, ← hlen, List.length_singleton]; omega
    · intro x' hx'
      rcases List.mem_append.mp hx' with q | q
      · exact Nat.le_succ_of_le (hsz x' q)
      · rw [List.mem_singleton.mp q]; exact Nat.zero_le _
  rcases List.eq_nil_or_concat ovs with rfl | ⟨vlo, vx, hov⟩
  · have hw : way ≠ 0 := fun q => hp1 ⟨q, by simp⟩
    have hw1 : 1 ≤ way := by omega
    k_steps
    unfold Stop
    rename News _ _ _ _ => NK
    obtain ⟨r, rfl, rfl, rfl, hr0, hr1, hr2, NR⟩ := newframe NK
    clear NK
    have fd1 : r.d ∉ mutsOf src rl frs := fresh_muts (by assumption) (by omega) hrl hsubF
    have fl1 : r.hl ∉ mutsOf src rl frs := fresh_muts (by assumption) (by omega) hrl hsubF
    have hda1 : @LT.lt Nat _ r.d r.a := by first | omega | exact ltN (by assumption)
    have hsd : @LT.lt Nat _ src r.d := by omega
    have fa1 : r.a ∉ mutsOf src rl frs := fresh_muts (allLt_up (d := r.d) (by assumption) hda1) (Nat.lt_trans hsd hda1) hrl hsubF
    have hdl : @Ne Nat r.d r.hl := by omega
    have hda : @Ne Nat r.a r.d := by omega
    have hla : @Ne Nat r.a r.hl := by omega
    have dR : ∀ p ∈ rest, p.1 ≠ r.d := fun p hp => fresh_rest (by assumption) hp
    have lR : ∀ p ∈ rest, p.1 ≠ r.hl := fun p hp => fresh_rest (by assumption) hp
    have hrm : rl ∈ mutsOf src rl frs := .tail _ (.head _)
    obtain ⟨rest', hr⟩ := cut NR (fun a => a = rl)
    have hin : ∀ p ∈ rest, p.1 ≠ rl → p ∈ rest' := fun p hp hne => (hr p).mpr ⟨by simp only [List.mem_cons, hp, or_true], hne⟩
    have hneI : ∀ p ∈ imm, p.1 ≠ rl := fun p hp q => hoffI p hp (q ▸ hrm)
    have hinI : ∀ p ∈ imm, p ∈ rest' := fun p hp => hin p (hsubI p hp) (hneI p hp)
    have mo' := hinI _ moI
    have r1 : (r.hl, listOf r.hv.toArray r.hn) ∈ rest' := (hr _).mpr ⟨.head _, fun q => fl1 (q ▸ hrm)⟩
    have r2 : (r.a, instObj 172 r.d) ∈ rest' := (hr _).mpr ⟨.tail _ (.head _), fun q => fa1 (q ▸ hrm)⟩
    have r3 : (r.d, frD w r.fx r.av (.ref r.hl) r.cv) ∈ rest' := (hr _).mpr ⟨.tail _ (.tail _ (.head _)), fun q => fd1 (q ▸ hrm)⟩
    have hsr : (src, listOf #[.int a₂ ta₂, .int b₂ tb₂] n₂) ∈ rest' := (hr _).mpr ⟨by simp only [List.mem_cons, true_or, or_true], fun q => (List.nodup_cons.mp hnd).1 (q ▸ .head _)⟩
    have hfl : (frs.map fun r => Value.ref r.a).length ≤ 100 := by rw [List.length_map, hall.length, ← hlen]; simp
    (try unfold Stop); k_dflt (refine' Tell.use (push_c (xs := frs.map fun r => Value.ref r.a) (n := nr) (rest := rest') (f := f) (fd := fd) (ft := ft) (rl := rl) hfl (hneI _ mf) (hneI _ mfd) (fun p hp => ((hr p).mp hp).2)) ?k1 ?k2 ?k3 ?k4 ?k5 ?kK ?kd ?ku ?ks ?_; (case k1 => k_asm); (case k2 => k_asm); (case k3 => k_asm); (case k4 => k_asm); (case k5 => k_asm); (case kK => first | exact rfl | assumption); (case kd => ((show _ < 500); (try simp only [depth_under_make, depth_under_kw, depth_in1, depth_deeper, depth_caller]); (try dsimp only [ktrTop]); omega)); (case ku => ((show _ < 5000); (try simp only [units_in1, units_deeper, Around.mark_units, units_caller]); (try dsimp only [ktrTop]); omega)); (case ks => exact sub3 (by simp only [List.mem_cons, mf', or_true]) (by simp only [List.mem_cons, mfd', or_true]) (by simp only [List.mem_cons, hrl, or_true]) fun p hp => ((hr p).mp hp).1))
    rintro r' news' h' tk' F' N' rfl
    k_steps
    rename News _ _ _ _ => NZ
    obtain ⟨kD, rD, eD, q1, q2, q3⟩ := names4 NZ
    dsimp only at q1 q2 q3
    subst q1 q2 q3
    have hmem : ∀ x ∈ mutsOf src rl (frs ++ [r]), x = rl ∨ ∃ o, (x, o) ∈ rest' := fun x hx => by
      rcases mem_push hx with q | rfl | rfl
      · rcases List.mem_cons.mp q with rfl | q
        · exact .inr ⟨_, hsr⟩
        · rcases List.mem_cons.mp q with rfl | q
          · exact .inl rfl
          · obtain ⟨o, ho⟩ := mem_frU (w := w) q
            exact .inr ⟨o, hin _ (hsubF _ ho) fun e => (List.nodup_cons.mp (List.nodup_cons.mp hnd).2).1 (e ▸ q)⟩
      · exact .inr ⟨_, r3⟩
      · exact .inr ⟨_, r1⟩
    have fk : kD ∉ mutsOf src rl (frs ++ [r]) := fresh_muts2 (by assumption) (by omega) hmem
    have fr : rD ∉ mutsOf src rl (frs ++ [r]) := fresh_muts2 (by assumption) (by omega) hmem
    have fe : eD ∉ mutsOf src rl (frs ++ [r]) := fresh_muts2 (by assumption) (by omega) hmem
    obtain ⟨tz, hr1'⟩ := hr1
    refine hret _ _ _ _ _ (by assumption) (by assumption) (by assumption) (by assumption) (by assumption) (by assumption) (by assumption) ?_
    refine ⟨frs ++ [r], fs ++ [⟨[], 0, none⟩], (kD, listOf (([] : List Value) ++ [Value.ref rD]).toArray 0) :: (rD, listOf [Value.ref eD, .int 0 tk', .none].toArray 0) :: (eD, listOf ([] : List Value).toArray 0) :: (r.a, instObj 172 r.d) :: imm,
      ⟨.tail _ (.tail _ (.tail _ (.tail _ mf))), .tail _ (.tail _ (.tail _ (.tail _ mfd))), ?_, nodup_push hnd fd1 fl1 hdl, ?_, ⟨a₂, ta₂, b₂, tb₂, n₂, hb0, hb1, ?_⟩, ⟨nr + 1, ?_⟩, ?_⟩, fun p hp => .tail _ (.tail _ (.tail _ (.tail _ hp))), ?_, ?_, ?_⟩
    · refine (hall.mono fun a b _ h => h.mono fun p hp => .tail _ (.tail _ (.tail _ (.tail _ hp)))).append (.cons ⟨?_, ⟨tz, hr1'⟩, ?_, .tail _ (.tail _ (.tail _ (.head _)))⟩ .nil)
      · rw [hr0]; exact .nil
      · rw [hr2]; exact .none
    · refine List.forall_mem_cons.mpr ⟨fk, List.forall_mem_cons.mpr ⟨fr, List.forall_mem_cons.mpr ⟨fe, List.forall_mem_cons.mpr ⟨off_push fa1 hda hla, fun p hp => off_push (hoffI p hp) (dR p (hsubI p hp)) (lR p (hsubI p hp))⟩⟩⟩⟩
    · simp only [List.mem_cons, hsr, or_true]
    · simp [rowsO]
    · intro p hp
      rcases List.mem_append.mp hp with hp | hp
      · have hp' : p ∈ rest' := by
          rw [List.flatMap_append] at hp
          rcases List.mem_append.mp hp with hp | hp
          · exact hin p (hsubF p hp) fun e => (List.nodup_cons.mp (List.nodup_cons.mp hnd).2).1 (e ▸ addr_frE hp)
          · simp only [List.flatMap_cons, List.flatMap_nil, List.append_nil, frE, List.mem_cons, List.not_mem_nil, or_false] at hp
            rcases hp with rfl | rfl
            · exact r3
            · exact r1
        simp only [List.mem_cons, hp', or_true]
      · rcases List.mem_cons.mp hp with rfl | hp
        · exact .head _
        · rcases List.mem_cons.mp hp with rfl | hp
          · exact .tail _ (.tail _ (.head _))
          · rcases List.mem_cons.mp hp with rfl | hp
            · exact .tail _ (.tail _ (.tail _ (.head _)))
            · have hp' : p ∈ rest' := by
                rcases List.mem_cons.mp hp with rfl | hp
                · exact r2
                · exact hinI p hp
              simp only [List.mem_cons, hp', or_true]
    · refine .list (.head _) ?_
      rw [List.map_append]
      exact (hoI.mono fun p hp => .tail _ (.tail _ (.tail _ (.tail _ hp)))).append (.one (.list (.tail _ (.head _)) (.cons (.list (vs := []) (.tail _ (.tail _ (.head _))) .nil) (.cons (.int _ _) (.cons .none .nil)))))
    · rw [List.length_append, ← hlen, List.length_singleton]; simp
    · intro x' hx'
      rcases List.mem_append.mp hx' with q | q
      · exact Nat.le_succ_of_le (hsz x' q)
      · rw [List.mem_singleton.mp q]; exact Nat.zero_le _
  rw [List.concat_eq_append] at hov
  subst hov
  obtain ⟨lo, x, rfl⟩ : ∃ lo x, fs = lo ++ [x] := by
    rcases List.eq_nil_or_concat fs with rfl | ⟨lo, x, e⟩
    · simp at hlen
    · exact ⟨lo, x, by rw [← List.concat_eq_append]; exact e⟩
  have hvl : vlo.length = lo.length := by simpa using hlen
  obtain ⟨hd1', hd2'⟩ : DatAll imm vlo (lo.map datF) ∧ DatIn imm vx (datF x) := by
    rw [List.map_append] at hoI
    obtain ⟨es, d, e, h1, h2⟩ := hoI.snoc
    obtain ⟨rfl, e'⟩ := List.append_inj' e (by simp)
    have e'' : datF x = d := by simpa using e'
    subst e''
    exact ⟨h1, h2⟩
  obtain ⟨fa, fn, ha, hv, hn, t', cv, rfl, m1, m2, i1, c1⟩ := row_open hd2'
  have m1' := hsubI _ m1
  have m2' := hsubI _ m2
  have hvl2 : vlo.length ≤ 5 := by rw [List.length_append, List.length_singleton] at hfs; omega
  have hpk : kms_pick (vlo ++ [Value.ref fa]) none (some (-1)) = vlo := pick_but_last _ _
  have hxK : hv.length ≤ K := by rw [i1.length]; exact hsz x (by simp)
  have hcv : handedIn cv = true := c1.handed
  obtain ⟨rlo, rr, rfl, hA, hX'⟩ := hall.split
  obtain ⟨rx, rfl, hX⟩ := hX'.one
  have ND := nd_mid (rhi := []) hnd
  have hmx : ∀ p ∈ frE w rx, p ∈ rest := fun p hp => hsubF p (by rw [List.flatMap_append, List.flatMap_cons]; exact List.mem_append_right _ (List.mem_append_left _ hp))
  have mx1 := hmx (rx.d, frD w rx.fx rx.av (.ref rx.hl) rx.cv) (.head _)
  have mx2 := hmx (rx.hl, listOf rx.hv.toArray rx.hn) (.tail _ (.head _))
  have mx0 := hsubI _ hX.ma
  have hbad : ∀ a, a = rl ∨ a = rx.d ∨ a = rx.hl → a ∈ mutsOf src rl (rlo ++ [rx]) := fun a q => by
    rcases q with rfl | rfl | rfl
    · exact .tail _ (.head _)
    · exact .tail _ (.tail _ (by rw [List.flatMap_append, List.flatMap_cons]; exact List.mem_append_right _ (List.mem_append_left _ (.head _))))
    · exact .tail _ (.tail _ (by rw [List.flatMap_append, List.flatMap_cons]; exact List.mem_append_right _ (List.mem_append_left _ (.tail _ (.head _)))))
  have hrl' : (rl, listOf ((rlo.map fun r => Value.ref r.a) ++ [Value.ref rx.a]).toArray nr) ∈ rest := by
    have := hrl
    simpa [rowsO] using this
  have hrlo : (rlo.map fun r => Value.ref r.a).length ≤ 1000 := by rw [List.length_map, hA.length]; omega
  rcases (by omega : way = 1 ∨ way = 0 ∨ (2 ≤ way ∧ way < 4) ∨ way = 4 ∨ way = 5) with hw | hw | hw | hw | hw
  · skip
    subst hw
    k_steps
    unfold Stop
    rename News _ _ _ _ => NK
    obtain ⟨rest', hr⟩ := cut NK (fun a => a = rl)
    have hin : ∀ p ∈ rest, p.1 ≠ rl → p ∈ rest' := fun p hp hne => (hr p).mpr ⟨by simp only [List.mem_cons, hp, or_true], hne⟩
    have hneI : ∀ p ∈ imm, p.1 ≠ rl := fun p hp q => hoffI p hp (q ▸ .tail _ (.head _))
    have hinI : ∀ p ∈ imm, p ∈ rest' := fun p hp => hin p (hsubI p hp) (hneI p hp)
    have mo' := hinI _ moI
    have hsr : (src, listOf #[.int a₂ ta₂, .int b₂ tb₂] n₂) ∈ rest' := (hr _).mpr ⟨by simp only [List.mem_cons, true_or, or_true], fun q => ND.s1 q⟩
    (try unfold Stop); k_dflt (refine' Tell.use (pop_c (ys := rlo.map fun r => Value.ref r.a) (v := .ref rx.a) (n := nr) (rest := rest') (f := f) (fd := fd) (ft := ft) (rl := rl) hrlo (hneI _ mf) (hneI _ mfd) (fun p hp => ((hr p).mp hp).2)) ?k1 ?k2 ?k3 ?k4 ?k5 ?kK ?kd ?ku ?ks ?_; (case k1 => k_asm); (case k2 => k_asm); (case k3 => k_asm); (case k4 => k_asm); (case k5 => k_asm); (case kK => first | exact rfl | assumption); (case kd => ((show _ < 500); (try simp only [depth_under_make, depth_under_kw, depth_in1, depth_deeper, depth_caller]); (try dsimp only [ktrTop]); omega)); (case ku => ((show _ < 5000); (try simp only [units_in1, units_deeper, Around.mark_units, units_caller]); (try dsimp only [ktrTop]); omega)); (case ks => exact sub3 (by simp only [List.mem_cons, mf', or_true]) (by simp only [List.mem_cons, mfd', or_true]) (by simp only [List.mem_cons, hrl', or_true]) fun p hp => ((hr p).mp hp).1))
    rintro r' news' h' tk' F' N' ⟨rfl, rfl⟩
    k_steps
    rename News _ _ _ _ => NZ
    obtain ⟨kD, q1⟩ := head_name NZ
    dsimp only at q1
    subst q1
    have hmem : ∀ x ∈ mutsOf src rl rlo, x = rl ∨ ∃ o, (x, o) ∈ rest' := fun x hx => by
      rcases List.mem_cons.mp hx with rfl | q
      · exact .inr ⟨_, hsr⟩
      · rcases List.mem_cons.mp q with rfl | q
        · exact .inl rfl
        · obtain ⟨o, ho⟩ := mem_frU (w := w) q
          exact .inr ⟨o, hin _ (hsubF _ (by rw [List.flatMap_append]; exact List.mem_append_left _ ho)) (ND.lo _ q).2.1⟩
    have fk : kD ∉ mutsOf src rl rlo := fresh_muts2 (by assumption) (by omega) hmem
    refine hret _ _ _ _ _ (by assumption) (by assumption) (by assumption) (by assumption) (by assumption) (by assumption) (by assumption) ?_
    refine ⟨rlo, lo, (kD, listOf vlo.toArray 0) :: imm, ⟨.tail _ mf, .tail _ mfd, hA.mono (fun a b _ h => h.mono fun p hp => .tail _ hp), nodup_left hnd, List.forall_mem_cons.mpr ⟨fk, fun p hp q => hoffI p hp (muts_left _ q)⟩, ⟨a₂, ta₂, b₂, tb₂, n₂, hb0, hb1, ?_⟩, ⟨nr + 1, ?_⟩, ?_⟩, fun p hp => .tail _ hp, ?_, ?_, ?_⟩
    · simp only [List.mem_cons, hsr, or_true]
    · simp [rowsO]
    · intro p hp
      rcases List.mem_append.mp hp with hp | hp
      · have hp' : p ∈ rest' := hin p (hsubF p (by rw [List.flatMap_append]; exact List.mem_append_left _ hp)) (ND.lo _ (addr_frE hp)).2.1
        simp only [List.mem_cons, hp', or_true]
      · rcases List.mem_cons.mp hp with rfl | hp
        · exact .head _
        · have hp' := hinI p hp
          simp only [List.mem_cons, hp', or_true]
    · exact .list (.head _) (hd1'.mono fun p hp => .tail _ hp)
    · omega
    · intro x' hx'
      exact Nat.le_succ_of_le (hsz x' (List.mem_append_left _ hx'))
  · have h6 : 5 ≤ vlo.length := Nat.le_of_not_lt fun q => hp1 ⟨hw, by rw [List.length_append, List.length_singleton]; omega⟩
    subst hw
    k_steps
    unfold Stop
    rename News _ _ _ _ => NK
    obtain ⟨lD, q1⟩ := head_name NK
    dsimp only at q1
    subst q1
    have ho1 : ∀ p ∈ (lD, listOf ([] : List Value).toArray 0) :: rest, p.1 ≠ src := List.forall_mem_cons.mpr ⟨neN (by dsimp only; omega), hoff⟩
    (try unfold Stop); k_dflt (refine' Tell.use (digit_c (by decide) (by decide) hb0 hb1 ho1) ?k1 ?k2 ?k3 ?k4 ?k5 ?kK ?kd ?ku ?ks ?_; (case k1 => k_asm); (case k2 => k_asm); (case k3 => k_asm); (case k4 => k_asm); (case k5 => k_asm); (case kK => first | exact rfl | assumption); (case kd => ((show _ < 500); (try simp only [depth_under_make, depth_under_kw, depth_in1, depth_deeper, depth_caller]); (try dsimp only [ktrTop]); omega)); (case ku => ((show _ < 5000); (try simp only [units_in1, units_deeper, Around.mark_units, units_caller]); (try dsimp only [ktrTop]); omega)); (case ks => exact swap2))
    rintro r news' h' tk' F' N' ⟨at_, tat, a₃, ta₃, b₃, tb₃, n₃, rfl, he0, he1, hc0, hc1, rfl⟩
    k_steps
    (try unfold Stop); k_dflt (refine' Tell.use (top_c (ys := rlo.map fun r => Value.ref r.a) (v := .ref rx.a) (n := nr) (f := f) (fd := fd) (ft := ft) (rl := rl) hrlo) ?k1 ?k2 ?k3 ?k4 ?k5 ?kK ?kd ?ku ?ks ?_; (case k1 => k_asm); (case k2 => k_asm); (case k3 => k_asm); (case k4 => k_asm); (case k5 => k_asm); (case kK => first | exact rfl | assumption); (case kd => ((show _ < 500); (try simp only [depth_under_make, depth_under_kw, depth_in1, depth_deeper, depth_caller]); (try dsimp only [ktrTop]); omega)); (case ku => ((show _ < 5000); (try simp only [units_in1, units_deeper, Around.mark_units, units_caller]); (try dsimp only [ktrTop]); omega)); (case ks => exact sub3 (by simp only [List.mem_cons, mf', or_true]) (by simp only [List.mem_cons, mfd', or_true]) (by simp only [List.mem_cons, hrl', or_true]) fun p hp => hp))
    rintro r news' h' tk' F' N' ⟨rfl, rfl⟩
    k_steps
    unfold Stop
    rename News _ _ _ _ => NK
    obtain ⟨rest', hr⟩ := cut NK (fun a => a = rx.hl)
    have hin : ∀ p ∈ rest, p.1 ≠ rx.hl → p ∈ rest' := fun p hp hne => (hr p).mpr ⟨by simp only [List.mem_cons, hp, or_true], hne⟩
    have hneI : ∀ p ∈ imm, p.1 ≠ rx.hl := fun p hp q => hoffI p hp (hbad _ (.inr (.inr q)))
    have hinI : ∀ p ∈ imm, p ∈ rest' := fun p hp => hin p (hsubI p hp) (hneI p hp)
    have mo' := hinI _ moI
    have m1'' := hinI _ m1
    have m2'' := hinI _ m2
    have hsr : (src, listOf #[.int a₃ ta₃, .int b₃ tb₃] n₃) ∈ rest' := (hr _).mpr ⟨by simp only [List.mem_cons, true_or, or_true], fun q => ND.s3 q⟩
    have hrlr : (rl, listOf ((rlo.map fun r => Value.ref r.a) ++ [Value.ref rx.a]).toArray nr) ∈ rest' := hin _ hrl' ND.r2
    have hdr : (rx.d, frD w rx.fx rx.av (.ref rx.hl) rx.cv) ∈ rest' := hin _ mx1 ND.d1
    have hxv : rx.hv.length ≤ 1000 := by rw [hX.hs.length]; have := hsz x (by simp); omega
    (try unfold Stop); k_dflt (refine' Tell.use (enter_c (x := rx.fx) (at_ := rx.av) (c := rx.cv) (xs := rx.hv) (a := rx.a) (d := rx.d) (hl := rx.hl) (n := rx.hn) (rest := rest') hxv (hneI _ hX.ma) ND.d1 (fun p hp => ((hr p).mp hp).2)) ?k1 ?k2 ?k3 ?k4 ?k5 ?kK ?kd ?ku ?ks ?_; (case k1 => k_asm); (case k2 => k_asm); (case k3 => k_asm); (case k4 => k_asm); (case k5 => k_asm); (case kK => first | exact rfl | assumption); (case kd => ((show _ < 500); (try simp only [depth_under_make, depth_under_kw, depth_in1, depth_deeper, depth_caller]); (try dsimp only [ktrTop]); omega)); (case ku => ((show _ < 5000); (try simp only [units_in1, units_deeper, Around.mark_units, units_caller]); (try dsimp only [ktrTop]); omega)); (case ks => exact sub3 (by simp only [List.mem_cons, mx0, or_true]) (by simp only [List.mem_cons, mx1, or_true]) (by simp only [List.mem_cons, mx2, or_true]) fun p hp => ((hr p).mp hp).1))
    rintro r' news' h' tk' F' N' rfl
    k_steps
    rename News _ _ _ _ => NZ
    obtain ⟨kD, rD, hD, q1, q2, q3⟩ := names4 NZ
    dsimp only at q1 q2 q3
    subst q1 q2 q3
    have hmem : ∀ y ∈ mutsOf src rl (rlo ++ [rx]), y = rx.hl ∨ ∃ o, (y, o) ∈ rest' := fun y hy => by
      rcases mem_push hy with q | rfl | rfl
      · rcases List.mem_cons.mp q with rfl | q
        · exact .inr ⟨_, hsr⟩
        · rcases List.mem_cons.mp q with rfl | q
          · exact .inr ⟨_, hrlr⟩
          · obtain ⟨o, ho⟩ := mem_frU (w := w) q
            exact .inr ⟨o, hin _ (hsubF _ (by rw [List.flatMap_append]; exact List.mem_append_left _ ho)) (ND.lo _ q).2.2.2⟩
      · exact .inr ⟨_, hdr⟩
      · exact .inl rfl
    have fk : kD ∉ mutsOf src rl (rlo ++ [rx]) := fresh_muts2 (by assumption) (by omega) hmem
    have fr : rD ∉ mutsOf src rl (rlo ++ [rx]) := fresh_muts2 (by assumption) (by omega) hmem
    have fh : hD ∉ mutsOf src rl (rlo ++ [rx]) := fresh_muts2 (by assumption) (by omega) hmem
    have hmt := muts_top (src := src) (rl := rl) (rlo := rlo) (rhi := []) (rx := rx) (rx' := { rx with hv := rx.hv ++ [.int at_ tat], hn := rx.hn + 1 }) rfl rfl
    refine hret _ _ _ _ _ (by assumption) (by assumption) (by assumption) (by assumption) (by assumption) (by assumption) (by assumption) ?_
    refine ⟨rlo ++ [{ rx with hv := rx.hv ++ [.int at_ tat], hn := rx.hn + 1 }], lo ++ [⟨x.hs ++ [at_], x.at_, x.c⟩], (kD, listOf (vlo ++ [Value.ref rD]).toArray 0) :: (rD, listOf [Value.ref hD, .int x.at_ t', cv].toArray 0) :: (hD, listOf (hv ++ [Value.int at_ tat]).toArray 0) :: imm,
      ⟨.tail _ (.tail _ (.tail _ mf)), .tail _ (.tail _ (.tail _ mfd)), ?_, nodup_top hnd rfl rfl, ?_, ⟨a₃, ta₃, b₃, tb₃, n₃, hc0, hc1, ?_⟩, ⟨nr, ?_⟩, ?_⟩, fun p hp => .tail _ (.tail _ (.tail _ hp)), ?_, ?_, ?_⟩
    · exact (hA.mono fun a b _ h => h.mono fun p hp => .tail _ (.tail _ (.tail _ hp))).append (.cons ⟨ints_add hX.hs, hX.at_, hX.c.mono fun p hp => .tail _ (.tail _ (.tail _ hp)), .tail _ (.tail _ (.tail _ hX.ma))⟩ .nil)
    · exact List.forall_mem_cons.mpr ⟨fun q => fk (hmt _ q), List.forall_mem_cons.mpr ⟨fun q => fr (hmt _ q), List.forall_mem_cons.mpr ⟨fun q => fh (hmt _ q), fun p hp q => hoffI p hp (hmt _ q)⟩⟩⟩
    · simp only [List.mem_cons, hsr, or_true]
    · have hrr : (rl, rowsO (rlo ++ [{ rx with hv := rx.hv ++ [.int at_ tat], hn := rx.hn + 1 }]) nr) ∈ rest' := by simpa [rowsO] using hrlr
      simp only [List.mem_cons, hrr, or_true]
    · intro p hp
      rcases List.mem_append.mp hp with hp | hp
      · rw [List.flatMap_append] at hp
        rcases List.mem_append.mp hp with hp | hp
        · have hp' : p ∈ rest' := hin p (hsubF p (by rw [List.flatMap_append]; exact List.mem_append_left _ hp)) (ND.lo _ (addr_frE hp)).2.2.2
          simp only [List.mem_cons, hp', or_true]
        · simp only [List.flatMap_cons, List.flatMap_nil, List.append_nil, frE, List.mem_cons, List.not_mem_nil, or_false] at hp
          rcases hp with rfl | rfl
          · simp only [List.mem_cons, hdr, or_true]
          · simp only [List.mem_cons, true_or, or_true]
      · rcases List.mem_cons.mp hp with rfl | hp
        · exact .head _
        · rcases List.mem_cons.mp hp with rfl | hp
          · exact .tail _ (.tail _ (.head _))
          · rcases List.mem_cons.mp hp with rfl | hp
            · exact .tail _ (.tail _ (.tail _ (.head _)))
            · have hp' := hinI p hp
              simp only [List.mem_cons, hp', or_true]
    · refine .list (.head _) ?_
      rw [List.map_append]
      exact (hd1'.mono fun p hp => .tail _ (.tail _ (.tail _ hp))).append (.one (.list (.tail _ (.head _)) (.cons (.list (.tail _ (.tail _ (.head _))) (ints_dat (ints_add i1))) (.cons (.int _ _) (.cons (c1.mono fun p hp => .tail _ (.tail _ (.tail _ hp))) .nil)))))
    · rw [List.length_append, List.length_singleton]; omega
    · intro x' hx'
      rcases List.mem_append.mp hx' with q | q
      · exact Nat.le_succ_of_le (hsz x' (List.mem_append_left _ q))
      · rw [List.mem_singleton.mp q]
        have := hsz x (by simp)
        rw [List.length_append, List.length_singleton]; omega
  · obtain ⟨hw1, hw4⟩ := hw
    k_steps
    unfold Stop
    rename News _ _ _ _ => NK
    obtain ⟨lD, q1⟩ := head_name NK
    dsimp only at q1
    subst q1
    have ho1 : ∀ p ∈ (lD, listOf ([] : List Value).toArray 0) :: rest, p.1 ≠ src := List.forall_mem_cons.mpr ⟨neN (by dsimp only; omega), hoff⟩
    (try unfold Stop); k_dflt (refine' Tell.use (digit_c (by decide) (by decide) hb0 hb1 ho1) ?k1 ?k2 ?k3 ?k4 ?k5 ?kK ?kd ?ku ?ks ?_; (case k1 => k_asm); (case k2 => k_asm); (case k3 => k_asm); (case k4 => k_asm); (case k5 => k_asm); (case kK => first | exact rfl | assumption); (case kd => ((show _ < 500); (try simp only [depth_under_make, depth_under_kw, depth_in1, depth_deeper, depth_caller]); (try dsimp only [ktrTop]); omega)); (case ku => ((show _ < 5000); (try simp only [units_in1, units_deeper, Around.mark_units, units_caller]); (try dsimp only [ktrTop]); omega)); (case ks => exact swap2))
    rintro r news' h' tk' F' N' ⟨at_, tat, a₃, ta₃, b₃, tb₃, n₃, rfl, he0, he1, hc0, hc1, rfl⟩
    k_steps
    (try unfold Stop); k_dflt (refine' Tell.use (top_c (ys := rlo.map fun r => Value.ref r.a) (v := .ref rx.a) (n := nr) (f := f) (fd := fd) (ft := ft) (rl := rl) hrlo) ?k1 ?k2 ?k3 ?k4 ?k5 ?kK ?kd ?ku ?ks ?_; (case k1 => k_asm); (case k2 => k_asm); (case k3 => k_asm); (case k4 => k_asm); (case k5 => k_asm); (case kK => first | exact rfl | assumption); (case kd => ((show _ < 500); (try simp only [depth_under_make, depth_under_kw, depth_in1, depth_deeper, depth_caller]); (try dsimp only [ktrTop]); omega)); (case ku => ((show _ < 5000); (try simp only [units_in1, units_deeper, Around.mark_units, units_caller]); (try dsimp only [ktrTop]); omega)); (case ks => exact sub3 (by simp only [List.mem_cons, mf', or_true]) (by simp only [List.mem_cons, mfd', or_true]) (by simp only [List.mem_cons, hrl', or_true]) fun p hp => hp))
    rintro r news' h' tk' F' N' ⟨rfl, rfl⟩
    k_steps
    unfold Stop
    rename News _ _ _ _ => NK
    obtain ⟨rest', hr⟩ := cut NK (fun a => a = rx.hl)
    have hin : ∀ p ∈ rest, p.1 ≠ rx.hl → p ∈ rest' := fun p hp hne => (hr p).mpr ⟨by simp only [List.mem_cons, hp, or_true], hne⟩
    have hneI : ∀ p ∈ imm, p.1 ≠ rx.hl := fun p hp q => hoffI p hp (hbad _ (.inr (.inr q)))
    have hinI : ∀ p ∈ imm, p ∈ rest' := fun p hp => hin p (hsubI p hp) (hneI p hp)
    have mo' := hinI _ moI
    have m1'' := hinI _ m1
    have m2'' := hinI _ m2
    have hsr : (src, listOf #[.int a₃ ta₃, .int b₃ tb₃] n₃) ∈ rest' := (hr _).mpr ⟨by simp only [List.mem_cons, true_or, or_true], fun q => ND.s3 q⟩
    have hrlr : (rl, listOf ((rlo.map fun r => Value.ref r.a) ++ [Value.ref rx.a]).toArray nr) ∈ rest' := hin _ hrl' ND.r2
    have hdr : (rx.d, frD w rx.fx rx.av (.ref rx.hl) rx.cv) ∈ rest' := hin _ mx1 ND.d1
    have hxv : rx.hv.length ≤ 1000 := by rw [hX.hs.length]; have := hsz x (by simp); omega
    (try unfold Stop); k_dflt (refine' Tell.use (enter_c (x := rx.fx) (at_ := rx.av) (c := rx.cv) (xs := rx.hv) (a := rx.a) (d := rx.d) (hl := rx.hl) (n := rx.hn) (rest := rest') hxv (hneI _ hX.ma) ND.d1 (fun p hp => ((hr p).mp hp).2)) ?k1 ?k2 ?k3 ?k4 ?k5 ?kK ?kd ?ku ?ks ?_; (case k1 => k_asm); (case k2 => k_asm); (case k3 => k_asm); (case k4 => k_asm); (case k5 => k_asm); (case kK => first | exact rfl | assumption); (case kd => ((show _ < 500); (try simp only [depth_under_make, depth_under_kw, depth_in1, depth_deeper, depth_caller]); (try dsimp only [ktrTop]); omega)); (case ku => ((show _ < 5000); (try simp only [units_in1, units_deeper, Around.mark_units, units_caller]); (try dsimp only [ktrTop]); omega)); (case ks => exact sub3 (by simp only [List.mem_cons, mx0, or_true]) (by simp only [List.mem_cons, mx1, or_true]) (by simp only [List.mem_cons, mx2, or_true]) fun p hp => ((hr p).mp hp).1))
    rintro r' news' h' tk' F' N' rfl
    k_steps
    rename News _ _ _ _ => NZ
    obtain ⟨kD, rD, hD, q1, q2, q3⟩ := names4 NZ
    dsimp only at q1 q2 q3
    subst q1 q2 q3
    have hmem : ∀ y ∈ mutsOf src rl (rlo ++ [rx]), y = rx.hl ∨ ∃ o, (y, o) ∈ rest' := fun y hy => by
      rcases mem_push hy with q | rfl | rfl
      · rcases List.mem_cons.mp q with rfl | q
        · exact .inr ⟨_, hsr⟩
        · rcases List.mem_cons.mp q with rfl | q
          · exact .inr ⟨_, hrlr⟩
          · obtain ⟨o, ho⟩ := mem_frU (w := w) q
            exact .inr ⟨o, hin _ (hsubF _ (by rw [List.flatMap_append]; exact List.mem_append_left _ ho)) (ND.lo _ q).2.2.2⟩
      · exact .inr ⟨_, hdr⟩
      · exact .inl rfl
    have fk : kD ∉ mutsOf src rl (rlo ++ [rx]) := fresh_muts2 (by assumption) (by omega) hmem
    have fr : rD ∉ mutsOf src rl (rlo ++ [rx]) := fresh_muts2 (by assumption) (by omega) hmem
    have fh : hD ∉ mutsOf src rl (rlo ++ [rx]) := fresh_muts2 (by assumption) (by omega) hmem
    have hmt := muts_top (src := src) (rl := rl) (rlo := rlo) (rhi := []) (rx := rx) (rx' := { rx with hv := rx.hv ++ [.int at_ tat], hn := rx.hn + 1 }) rfl rfl
    refine hret _ _ _ _ _ (by assumption) (by assumption) (by assumption) (by assumption) (by assumption) (by assumption) (by assumption) ?_
    refine ⟨rlo ++ [{ rx with hv := rx.hv ++ [.int at_ tat], hn := rx.hn + 1 }], lo ++ [⟨x.hs ++ [at_], x.at_, x.c⟩], (kD, listOf (vlo ++ [Value.ref rD]).toArray 0) :: (rD, listOf [Value.ref hD, .int x.at_ t', cv].toArray 0) :: (hD, listOf (hv ++ [Value.int at_ tat]).toArray 0) :: imm,
      ⟨.tail _ (.tail _ (.tail _ mf)), .tail _ (.tail _ (.tail _ mfd)), ?_, nodup_top hnd rfl rfl, ?_, ⟨a₃, ta₃, b₃, tb₃, n₃, hc0, hc1, ?_⟩, ⟨nr, ?_⟩, ?_⟩, fun p hp => .tail _ (.tail _ (.tail _ hp)), ?_, ?_, ?_⟩
    · exact (hA.mono fun a b _ h => h.mono fun p hp => .tail _ (.tail _ (.tail _ hp))).append (.cons ⟨ints_add hX.hs, hX.at_, hX.c.mono fun p hp => .tail _ (.tail _ (.tail _ hp)), .tail _ (.tail _ (.tail _ hX.ma))⟩ .nil)
    · exact List.forall_mem_cons.mpr ⟨fun q => fk (hmt _ q), List.forall_mem_cons.mpr ⟨fun q => fr (hmt _ q), List.forall_mem_cons.mpr ⟨fun q => fh (hmt _ q), fun p hp q => hoffI p hp (hmt _ q)⟩⟩⟩
    · simp only [List.mem_cons, hsr, or_true]
    · have hrr : (rl, rowsO (rlo ++ [{ rx with hv := rx.hv ++ [.int at_ tat], hn := rx.hn + 1 }]) nr) ∈ rest' := by simpa [rowsO] using hrlr
      simp only [List.mem_cons, hrr, or_true]
    · intro p hp
      rcases List.mem_append.mp hp with hp | hp
      · rw [List.flatMap_append] at hp
        rcases List.mem_append.mp hp with hp | hp
        · have hp' : p ∈ rest' := hin p (hsubF p (by rw [List.flatMap_append]; exact List.mem_append_left _ hp)) (ND.lo _ (addr_frE hp)).2.2.2
          simp only [List.mem_cons, hp', or_true]
        · simp only [List.flatMap_cons, List.flatMap_nil, List.append_nil, frE, List.mem_cons, List.not_mem_nil, or_false] at hp
          rcases hp with rfl | rfl
          · simp only [List.mem_cons, hdr, or_true]
          · simp only [List.mem_cons, true_or, or_true]
      · rcases List.mem_cons.mp hp with rfl | hp
        · exact .head _
        · rcases List.mem_cons.mp hp with rfl | hp
          · exact .tail _ (.tail _ (.head _))
          · rcases List.mem_cons.mp hp with rfl | hp
            · exact .tail _ (.tail _ (.tail _ (.head _)))
            · have hp' := hinI p hp
              simp only [List.mem_cons, hp', or_true]
    · refine .list (.head _) ?_
      rw [List.map_append]
      exact (hd1'.mono fun p hp => .tail _ (.tail _ (.tail _ hp))).append (.one (.list (.tail _ (.head _)) (.cons (.list (.tail _ (.tail _ (.head _))) (ints_dat (ints_add i1))) (.cons (.int _ _) (.cons (c1.mono fun p hp => .tail _ (.tail _ (.tail _ hp))) .nil)))))
    · rw [List.length_append, List.length_singleton]; omega
    · intro x' hx'
      rcases List.mem_append.mp hx' with q | q
      · exact Nat.le_succ_of_le (hsz x' (List.mem_append_left _ q))
      · rw [List.mem_singleton.mp q]
        have := hsz x (by simp)
        rw [List.length_append, List.length_singleton]; omega
  · skip
    subst hw
    k_steps
    unfold Stop
    rename News _ _ _ _ => NK
    obtain ⟨lD, q1⟩ := head_name NK
    dsimp only at q1
    subst q1
    have ho1 : ∀ p ∈ (lD, listOf ([] : List Value).toArray 0) :: rest, p.1 ≠ src := List.forall_mem_cons.mpr ⟨neN (by dsimp only; omega), hoff⟩
    have hk1 : (1 : Int) ≤ (if (hv.length : Int) < 2 then (hv.length : Int) else 2) + 1 := by split <;> omega
    have hk2 : (if (hv.length : Int) < 2 then (hv.length : Int) else 2) + 1 < 100 := by split <;> omega
    (try unfold Stop); k_dflt (refine' Tell.use (digit_c hk1 hk2 hb0 hb1 ho1) ?k1 ?k2 ?k3 ?k4 ?k5 ?kK ?kd ?ku ?ks ?_; (case k1 => k_asm); (case k2 => k_asm); (case k3 => k_asm); (case k4 => k_asm); (case k5 => k_asm); (case kK => first | exact rfl | assumption); (case kd => ((show _ < 500); (try simp only [depth_under_make, depth_under_kw, depth_in1, depth_deeper, depth_caller]); (try dsimp only [ktrTop]); omega)); (case ku => ((show _ < 5000); (try simp only [units_in1, units_deeper, Around.mark_units, units_caller]); (try dsimp only [ktrTop]); omega)); (case ks => exact swap2))
    rintro r news' h' tk' F' N' ⟨many, tm, a₃, ta₃, b₃, tb₃, n₃, rfl, he0, he1, hc0, hc1, rfl⟩
    have he2 : many ≤ hv.length := by split at he1 <;> omega
    clear he1 hk1 hk2
    have hq : kms_pick hv none (some ((hv.length : Int) - many)) = hv.take ((hv.length : Int) - many).toNat := pick_to _ (by omega)
    k_steps
    (try unfold Stop); k_dflt (refine' Tell.use (top_c (ys := rlo.map fun r => Value.ref r.a) (v := .ref rx.a) (n := nr) (f := f) (fd := fd) (ft := ft) (rl := rl) hrlo) ?k1 ?k2 ?k3 ?k4 ?k5 ?kK ?kd ?ku ?ks ?_; (case k1 => k_asm); (case k2 => k_asm); (case k3 => k_asm); (case k4 => k_asm); (case k5 => k_asm); (case kK => first | exact rfl | assumption); (case kd => ((show _ < 500); (try simp only [depth_under_make, depth_under_kw, depth_in1, depth_deeper, depth_caller]); (try dsimp only [ktrTop]); omega)); (case ku => ((show _ < 5000); (try simp only [units_in1, units_deeper, Around.mark_units, units_caller]); (try dsimp only [ktrTop]); omega)); (case ks => exact sub3 (by simp only [List.mem_cons, mf', or_true]) (by simp only [List.mem_cons, mfd', or_true]) (by simp only [List.mem_cons, hrl', or_true]) fun p hp => hp))
    rintro r news' h' tk' F' N' ⟨rfl, rfl⟩
    k_steps
    unfold Stop
    rename News _ _ _ _ => NK
    obtain ⟨rest', hr⟩ := cut NK (fun a => a = rx.d)
    have hin : ∀ p ∈ rest, p.1 ≠ rx.d → p ∈ rest' := fun p hp hne => (hr p).mpr ⟨by simp only [List.mem_cons, hp, or_true], hne⟩
    have hneI : ∀ p ∈ imm, p.1 ≠ rx.d := fun p hp q => hoffI p hp (hbad _ (.inr (.inl q)))
    have hinI : ∀ p ∈ imm, p ∈ rest' := fun p hp => hin p (hsubI p hp) (hneI p hp)
    have mo' := hinI _ moI
    have m1'' := hinI _ m1
    have m2'' := hinI _ m2
    have hsr : (src, listOf #[.int a₃ ta₃, .int b₃ tb₃] n₃) ∈ rest' := (hr _).mpr ⟨by simp only [List.mem_cons, true_or, or_true], fun q => ND.s2 q⟩
    have hrlr : (rl, listOf ((rlo.map fun r => Value.ref r.a) ++ [Value.ref rx.a]).toArray nr) ∈ rest' := hin _ hrl' ND.r1
    have hxv : rx.hv.length = hv.length := by rw [hX.hs.length, i1.length]
    have hq2 : kms_pick rx.hv none (some ((rx.hv.length : Int) - many)) = rx.hv.take ((hv.length : Int) - many).toNat := by rw [hxv]; exact pick_to _ (by omega)
    (try unfold Stop); k_dflt (refine' Tell.use (leave_c (x := rx.fx) (at_ := rx.av) (c := rx.cv) (xs := rx.hv) (a := rx.a) (d := rx.d) (hl := rx.hl) (n := rx.hn) (rest := rest') (k := many) (by omega) he0 (by omega) (hneI _ hX.ma) (Ne.symm ND.d1) (fun p hp => ((hr p).mp hp).2)) ?k1 ?k2 ?k3 ?k4 ?k5 ?kK ?kd ?ku ?ks ?_; (case k1 => k_asm); (case k2 => k_asm); (case k3 => k_asm); (case k4 => k_asm); (case k5 => k_asm); (case kK => first | exact rfl | assumption); (case kd => ((show _ < 500); (try simp only [depth_under_make, depth_under_kw, depth_in1, depth_deeper, depth_caller]); (try dsimp only [ktrTop]); omega)); (case ku => ((show _ < 5000); (try simp only [units_in1, units_deeper, Around.mark_units, units_caller]); (try dsimp only [ktrTop]); omega)); (case ks => exact sub3 (by simp only [List.mem_cons, mx0, or_true]) (by simp only [List.mem_cons, mx1, or_true]) (by simp only [List.mem_cons, mx2, or_true]) fun p hp => ((hr p).mp hp).1))
    rintro r' news' h' tk' F' N' ⟨hl', hlt, rfl⟩
    rw [hq2] at N'
    have hlI : ∀ p ∈ rest', p.1 ≠ hl' := fun p hp => Nat.ne_of_lt (hlt p (by simp only [List.mem_cons, hp, or_true]))
    have hld : @LT.lt Nat _ rx.d hl' := hlt (rx.d, frD w rx.fx rx.av (.ref rx.hl) rx.cv) (.tail _ (.head _))
    k_steps
    rename News _ _ _ _ => NZ
    obtain ⟨kD, rD, hD, q1, q2, q3⟩ := names4 NZ
    dsimp only at q1 q2 q3
    subst q1 q2 q3
    have hmem : ∀ y ∈ mutsOf src rl rlo, y = rx.d ∨ ∃ o, (y, o) ∈ rest' := fun y hy => by
      rcases List.mem_cons.mp hy with rfl | q
      · exact .inr ⟨_, hsr⟩
      · rcases List.mem_cons.mp q with rfl | q
        · exact .inr ⟨_, hrlr⟩
        · obtain ⟨o, ho⟩ := mem_frU (w := w) q
          exact .inr ⟨o, hin _ (hsubF _ (by rw [List.flatMap_append]; exact List.mem_append_left _ ho)) (ND.lo _ q).2.2.1⟩
    have hdn : rx.d ∉ mutsOf src rl rlo := fun q => by
      rcases List.mem_cons.mp q with q | q
      · exact ND.s2 q.symm
      · rcases List.mem_cons.mp q with q | q
        · exact ND.r1 q.symm
        · exact (ND.lo _ q).2.2.1 rfl
    have hln : hl' ∉ mutsOf src rl rlo := fun q => by
      rcases hmem _ q with q | ⟨o, q⟩
      · rw [q] at hld; exact absurd hld (Nat.lt_irrefl _)
      · exact hlI _ q rfl
    have hln2 : rx.d ≠ hl' := Nat.ne_of_lt hld
    have fk := off_push (r := { rx with hl := hl', hv := rx.hv.take ((hv.length : Int) - many).toNat, hn := 0 }) (fresh_muts2 (D := kD) (rl := rx.d) (by assumption) (by omega) hmem) (neN (by dsimp only; omega)) (neN (by dsimp only; omega))
    have fr := off_push (r := { rx with hl := hl', hv := rx.hv.take ((hv.length : Int) - many).toNat, hn := 0 }) (fresh_muts2 (D := rD) (rl := rx.d) (by assumption) (by omega) hmem) (neN (by dsimp only; omega)) (neN (by dsimp only; omega))
    have fh := off_push (r := { rx with hl := hl', hv := rx.hv.take ((hv.length : Int) - many).toNat, hn := 0 }) (fresh_muts2 (D := hD) (rl := rx.d) (by assumption) (by omega) hmem) (neN (by dsimp only; omega)) (neN (by dsimp only; omega))
    refine hret _ _ _ _ _ (by assumption) (by assumption) (by assumption) (by assumption) (by assumption) (by assumption) (by assumption) ?_
    refine ⟨rlo ++ [{ rx with hl := hl', hv := rx.hv.take ((hv.length : Int) - many).toNat, hn := 0 }], lo ++ [⟨x.hs.take ((hv.length : Int) - many).toNat, x.at_, x.c⟩], (kD, listOf (vlo ++ [Value.ref rD]).toArray 0) :: (rD, listOf [Value.ref hD, .int x.at_ t', cv].toArray 0) :: (hD, listOf (hv.take ((hv.length : Int) - many).toNat).toArray 0) :: imm,
      ⟨.tail _ (.tail _ (.tail _ mf)), .tail _ (.tail _ (.tail _ mfd)), ?_, nodup_push (nodup_left hnd) hdn hln hln2, ?_, ⟨a₃, ta₃, b₃, tb₃, n₃, hc0, hc1, ?_⟩, ⟨nr, ?_⟩, ?_⟩, fun p hp => .tail _ (.tail _ (.tail _ hp)), ?_, ?_, ?_⟩
    · exact (hA.mono fun a b _ h => h.mono fun p hp => .tail _ (.tail _ (.tail _ hp))).append (.cons ⟨ints_take _ hX.hs, hX.at_, hX.c.mono fun p hp => .tail _ (.tail _ (.tail _ hp)), .tail _ (.tail _ (.tail _ hX.ma))⟩ .nil)
    · exact List.forall_mem_cons.mpr ⟨fk, List.forall_mem_cons.mpr ⟨fr, List.forall_mem_cons.mpr ⟨fh, fun p hp => off_push (fun q => hoffI p hp (muts_left _ q)) (hneI p hp) (hlI p (hinI p hp))⟩⟩⟩
    · simp only [List.mem_cons, hsr, or_true]
    · have hrr : (rl, rowsO (rlo ++ [{ rx with hl := hl', hv := rx.hv.take ((hv.length : Int) - many).toNat, hn := 0 }]) nr) ∈ rest' := by simpa [rowsO] using hrlr
      simp only [List.mem_cons, hrr, or_true]
    · intro p hp
      rcases List.mem_append.mp hp with hp | hp
      · rw [List.flatMap_append] at hp
        rcases List.mem_append.mp hp with hp | hp
        · have hp' : p ∈ rest' := hin p (hsubF p (by rw [List.flatMap_append]; exact List.mem_append_left _ hp)) (ND.lo _ (addr_frE hp)).2.2.1
          simp only [List.mem_cons, hp', or_true]
        · simp only [List.flatMap_cons, List.flatMap_nil, List.append_nil, frE, List.mem_cons, List.not_mem_nil, or_false] at hp
          rcases hp with rfl | rfl
          · simp only [List.mem_cons, true_or, or_true]
          · simp only [List.mem_cons, true_or, or_true]
      · rcases List.mem_cons.mp hp with rfl | hp
        · exact .head _
        · rcases List.mem_cons.mp hp with rfl | hp
          · exact .tail _ (.tail _ (.head _))
          · rcases List.mem_cons.mp hp with rfl | hp
            · exact .tail _ (.tail _ (.tail _ (.head _)))
            · have hp' := hinI p hp
              simp only [List.mem_cons, hp', or_true]
    · refine .list (.head _) ?_
      rw [List.map_append]
      exact (hd1'.mono fun p hp => .tail _ (.tail _ (.tail _ hp))).append (.one (.list (.tail _ (.head _)) (.cons (.list (.tail _ (.tail _ (.head _))) (ints_dat (ints_take _ i1))) (.cons (.int _ _) (.cons (c1.mono fun p hp => .tail _ (.tail _ (.tail _ hp))) .nil)))))
    · rw [List.length_append, List.length_singleton]; omega
    · intro x' hx'
      rcases List.mem_append.mp hx' with q | q
      · exact Nat.le_succ_of_le (hsz x' (List.mem_append_left _ q))
      · rw [List.mem_singleton.mp q]
        have := hsz x (by simp)
        rw [List.length_take]; omega
  · skip
    subst hw
    k_steps
    have SS : St w f fd rl src ft (rlo ++ [rx]) (lo ++ [x]) imm ((src, listOf #[.int a₂ ta₂, .int b₂ tb₂] n₂) :: rest) := ⟨mf, mfd, hall, hnd, hoffI, ⟨a₂, ta₂, b₂, tb₂, n₂, hb0, hb1, .head _⟩, ⟨nr, .tail _ hrl⟩, fun p hp => .tail _ (hsub p hp)⟩
    have hfl : (lo ++ [x]).length ≤ 6 := by rw [List.length_append, List.length_singleton]; omega
    have hol : DatIn imm (.ref ol) (.list ((lo ++ [x]).map datF)) := .list moI hoI
    (try unfold Stop); k_dflt (refine' TellS.use (lthr_c SS hol hfl (fun y hy => Nat.le_trans (hsz y hy) (by omega))) ?k1 ?k2 ?k3 ?k4 ?k5 ?XB ?TB ?D ?kK ?kd ?ku ?ks ?_; (case k1 => k_asm); (case k2 => k_asm); (case k3 => k_asm); (case k4 => k_asm); (case k5 => k_asm); (case XB => assumption); (case TB => assumption); (case D => first | assumption | exact ktsDicts_nil); (case kK => first | exact rfl | assumption); (case kd => ((show _ < 500); (try simp only [depth_under_make, depth_under_kw, depth_in1, depth_deeper, depth_caller]); (try dsimp only [ktrTop]); omega)); (case ku => ((show _ < 5000); (try simp only [units_in1, units_deeper, Around.mark_units, units_caller]); (try dsimp only [ktrTop]); omega)); (case ks => exact fun p hp => .tail _ hp))
    rintro r news' h' tk' h₀' TT FF NN BB XX PP DD ⟨frs', fs', imm', S', mi, dd, ll, hh⟩
    k_steps
    refine hret _ _ _ _ _ (by assumption) (by assumption) (by assumption) (by assumption) (by assumption) (by assumption) (by assumption) ?_
    exact ⟨frs', fs', imm', S', mi, dd, Nat.le_trans ll hfl, fun x' hx' => by
      obtain ⟨y, hy, h⟩ := hh x' hx'
      exact Nat.le_succ_of_le (Nat.le_trans h (hsz y hy))⟩
end
theorem turn_c {w : World} {mean : ExcName → Option Value} {mg mb : PySem.Str → Option Value} {f fd rl src : Addr} {ft : Tok} {frs : List FrR} {fs : List FrA} {imm news : List (Addr × Obj)} {own : Value} {K : Nat} (S : St w f fd rl src ft frs fs imm news)
    (ho : DatIn imm own (.list (fs.map datF))) (hfs : fs.length ≤ 6) (hK : K ≤ 400) (hsz : ∀ x ∈ fs, x.hs.length ≤ K) : TellS w mean mg mb 80 800 309 [.ref f, own, .ref src] news (TurnR w f fd rl src ft K imm) := by
  obtain ⟨ol, ovs, on, rfl, mo, ho'⟩ := own_open ho
  obtain ⟨a, ta, b, tb, n, nr, h0, h1, hsub, hoff⟩ := S.canon
  intro dp un gd cn cs a' ccd cl outer A₀ base h₀ L m s Q E B F X N T XB TB D hkk hd hu hret
  exact turn_raw (rest := (rl, rowsO frs nr) :: (frs.flatMap (frE w) ++ imm)) S.nd S.off S.mf S.mfd S.all (.head _) (fun p hp => .tail _ hp) hoff mo ho' (by rw [ho'.length, List.length_map]; exact hfs) hK hsz h0 h1
    _ _ _ _ _ _ _ _ _ _ _ _ _ _ _ _ _ B F X (fun p hp => N p (hsub p hp)) T XB TB D hkk hd hu hret
end

-- part Ltrn
section
open PySem.Calls
local macro_rules | `(tactic| k_lt $h) => `(tactic| (replace $h := allLt_of $h; (try simp only [AllLt, and_true] at $h:ident)))
local macro_rules | `(tactic| walk_at "call ref") => `(tactic| ((show wpAny _ _ (call (Value.ref 278) _) _ _ _); refine stop_in ?_))
local macro_rules | `(tactic| walk_at "call ref") => `(tactic| ((show wpAny _ _ (call (Value.ref 309) _) _ _ _); refine stop_in ?_))
local macro_rules | `(tactic| walk_at "call ref") => `(tactic| ((show wpAny _ _ (call (Value.ref 290) _) _ _ _); refine stop_in ?_))
local macro_rules | `(tactic| walk_at "call ref") => `(tactic| ((show wpAny _ _ (call (Value.ref 197) _) _ _ _); refine stop_in ?_))
local macro_rules | `(tactic| walk_at "call ref") => `(tactic| ((show wpAny _ _ (call (Value.ref 204) _) _ _ _); refine stop_in ?_))
local macro_rules | `(tactic| walk_at "call ref") => `(tactic| ((show wpAny _ _ (call (Value.ref 302) _) _ _ _); refine stop_in ?_))
local macro_rules | `(tactic| walk_at "pyIter ref") => `(tactic| (refine stop_in ?_))
local macro_rules | `(tactic| walk_at "compareOp NotEq ref ref") => `(tactic| (refine stop_in ?_))
local macro_rules | `(tactic| walk_at "compareOp NotEq int int") => `(tactic| (refine stop_in ?_))
local macro_rules | `(tactic| walk_at "TurnEnd2") => `(tactic| (refine stop_in ?_))
theorem subTwo {α : Type} {a b : α} {l l' : List α} (h1 : a ∈ l') (h2 : b ∈ l') (h : ∀ p ∈ l, p ∈ l') : ∀ p ∈ a :: b :: l, p ∈ l' :=
  List.forall_mem_cons.mpr ⟨h1, List.forall_mem_cons.mpr ⟨h2, h⟩⟩
theorem lit2 {K : Frag} {a : Addr} {o o' : Obj} {P : Prop} (h : K.lookup a = some o) (h' : K.lookup a = some o') (k : o = o' → P) : P := k (Option.some.inj (h.symm.trans h'))
theorem map_law2 {m₀ : PySem.Str → Option Value} {u v : Value} (h1 : m₀ (PySem.Str.ofString "frames") = some u) (h2 : m₀ (PySem.Str.ofString "source") = some v) (z : PySem.Str) :
    (if z = PySem.Str.ofString "frames" then some u else if z = PySem.Str.ofString "source" then some v else m₀ z) = m₀ z := by
  by_cases e1 : z = PySem.Str.ofString "frames"
  · rw [if_pos e1, e1, h1]
  · rw [if_neg e1]
    by_cases e2 : z = PySem.Str.ofString "source"
    · rw [if_pos e2, e2, h2]
    · rw [if_neg e2]
theorem map_law {m₀ : PySem.Str → Option Value} {u v : Value} (h1 : m₀ (PySem.Str.ofString "frames") = some u) (h2 : m₀ (PySem.Str.ofString "source") = some v) :
    m₀ = fun z => if z = PySem.Str.ofString "frames" then some u else if z = PySem.Str.ofString "source" then some v else m₀ z := funext fun z => (map_law2 h1 h2 z).symm

set_option maxHeartbeats 8000000 in
theorem law_turn {w : World} {mean : ExcName → Option Value} {mg mb : PySem.Str → Option Value} {name qual : PySem.Str} {params : Arguments} {scope : Scope} {dV kV doc pm cdv ct oc : Value} {an od : Option Addr} {osl : Array (Option Value)} {s1 s3 : Stmt} {tgt it : PySem.Expr} {body els : List Stmt} {pos : Pos}
    {f fd rl src I L fa : Addr} {cd : Value} {oI : Obj} {ft t : Tok} {k : Int} {news₁ : List (Addr × Obj)} {h₀ h : Heap} {m₀ m₁ : PySem.Str → Option Value} {i tk : Nat} {s : Shared} {Q : Flow → Shared → Prop} {E : Value → Shared → Prop}
    (e : (Mine.hd.heap_1 w.params).lookup 316 = some ⟨oc, od, .func (fnOf name qual params [s1, .For tgt it body els pos, s3] scope dV kV doc pm an cdv ct), osl⟩)
    (B : Below callerA h₀ [] h₀) (X : (Mine.hd.heap_1 w.params).In h₀) (T : Top Mine.hd.view_1 LS mean mg mb h₀) (hm1 : m₀ (PySem.Str.ofString "frames") = some (.ref f)) (hm2 : m₀ (PySem.Str.ofString "source") = some (.ref src))
    (hi : i < 60) (hcI : oI.cls = .type "range_iterator") (J : LawJ w f fd rl src ft m₀ i m₁ news₁) (hI : ∀ p ∈ news₁, p.1 ≠ I)
    (F₁ : Fr h₀ L h (fun y => if y = PySem.Str.ofString "turn" then some (.int k t) else m₁ y)) (N₁ : News h₀ L h ((I, oI) :: news₁)) :
    wpAny (model PySem.Challenge.rw_pq0693_01.row.prog w) (callerA.deeper (envOf qual scope L fa cd)) (execs body (envOf qual scope L fa cd)) (TurnEnd2 h₀ L (LawJ w f fd rl src ft m₀ (i + 1)) I oI { s with heap := h, toks := tk } Q) E { s with heap := h, toks := tk } := by
  refine' lit2 ?e e ?k
  case e => k_is
  intro q
  cases q
  clear e
  obtain ⟨frs, fs, imm, ov, S, dat, l6, hsz, mo, mz⟩ := J
  have e1 := map_one (v := Value.int k t) mo mz
  rw [e1, map_law hm1 hm2] at F₁
  clear e1
  have hi63 : i ≤ 400 := by omega
  obtain ⟨ol1, ovs1, on1, rfl, mov1, hov1⟩ := own_open dat
  k_steps
  (try unfold Stop); k_dflt (refine' TellS.use (turn_c (K := i) (S.add (oI := oI) hI) (dat.mono fun p hp => .tail _ hp) l6 hi63 hsz) ?k1 ?k2 ?k3 ?k4 ?k5 ?XB ?TB ?D ?kK ?kd ?ku ?ks ?_; (case k1 => k_asm); (case k2 => k_asm); (case k3 => k_asm); (case k4 => k_asm); (case k5 => k_asm); (case XB => assumption); (case TB => assumption); (case D => first | assumption | exact ktsDicts_nil); (case kK => first | exact rfl | assumption); (case kd => ((show _ < 500); (try simp only [depth_under_make, depth_under_kw, depth_in1, depth_deeper, depth_caller]); (try dsimp only [ktrTop]); omega)); (case ku => ((show _ < 5000); (try simp only [units_in1, units_deeper, Around.mark_units, units_caller]); (try dsimp only [ktrTop]); omega)); (case ks => exact fun p hp => hp))
  rintro r news' h' tk' h₀' TT FF NN BB XX PP DD ⟨frs', fs', imm', S', mi, dd, ll, hh⟩
  replace FF := turn_back TT FF
  replace NN := turn_backN TT NN
  clear TT BB XX PP DD
  obtain ⟨ol2, ovs2, on2, rfl, mov2, hov2⟩ := own_open dd
  have si : ∀ p ∈ imm', p ∈ news' := fun p hp => S'.sub p (List.mem_append_right _ hp)
  have mI : (I, oI) ∈ news' := si _ (mi _ (.head _))
  have f1 := si _ S'.mf
  have f2 := si _ S'.mfd
  have f3 := si _ mov2
  obtain ⟨nr, f4⟩ := S'.mrl
  k_steps
  have okF : FrsOk w news' frs' fs' := St.frs (src := src) (rl := rl) (f := f) (fd := fd) (ft := 0) S'.all S'.sub
  (try unfold Stop); k_dflt (refine' Tell.use (rows_c (f := f) (fd := fd) (rl := rl) (frs := frs') (fs := fs') (n := nr) (rest := news') okF (fun x hx => Nat.le_trans (hh x hx) (by omega)) (by omega)) ?k1 ?k2 ?k3 ?k4 ?k5 ?kK ?kd ?ku ?ks ?_; (case k1 => k_asm); (case k2 => k_asm); (case k3 => k_asm); (case k4 => k_asm); (case k5 => k_asm); (case kK => first | exact rfl | assumption); (case kd => ((show _ < 500); (try simp only [depth_under_make, depth_under_kw, depth_in1, depth_deeper, depth_caller]); (try dsimp only [ktrTop]); omega)); (case ku => ((show _ < 5000); (try simp only [units_in1, units_deeper, Around.mark_units, units_caller]); (try dsimp only [ktrTop]); omega)); (case ks => exact sub3 f1 f2 f4 fun p hp => hp))
  rintro r news2 h2 tk2 F2 N2 ⟨dr, sub2⟩
  obtain ⟨or, ors, orn, rfl, mor, -⟩ := own_open dr
  have s2 : ∀ p ∈ news', p ∈ news2 := fun p hp => sub2 p (.tail _ (.tail _ (.tail _ hp)))
  have g1 := s2 _ f1
  have g2 := s2 _ f2
  have g3 := s2 _ f3
  have g4 := s2 _ f4
  have lro : (frs'.map fun r => Value.ref r.a).length ≤ 1000 := by rw [List.length_map, okF.length]; omega
  have lov : ovs2.length ≤ 1000 := by rw [hov2.length, List.length_map]; omega
  k_steps
  unfold Stop
  k_dflt (refine' my_ne ?qqN ?qqa ?qqb ?qqoa ?qqob ?qqu ?_; (case qqN => k_asm); (case qqa => exact dr); (case qqb => exact dd.mono fun p hp => s2 p (si p hp)); (case qqoa => exact kqd_own _); (case qqob => exact kqd_own _); (case qqu => ((show _ + 64 < cLine); (simp only [units_in1, units_deeper, units_caller, Around.mark_units, cLine_is]); (try dsimp only [ktrTop]); omega)))
  simp only [decide_true, Bool.not_true]
  k_steps
  (try unfold Stop); k_dflt (refine' Tell.use (many_c (f := f) (fd := fd) (rl := rl) (xs := frs'.map fun r => Value.ref r.a) (n := nr) (rest := news2) lro) ?k1 ?k2 ?k3 ?k4 ?k5 ?kK ?kd ?ku ?ks ?_; (case k1 => k_asm); (case k2 => k_asm); (case k3 => k_asm); (case k4 => k_asm); (case k5 => k_asm); (case kK => first | exact rfl | assumption); (case kd => ((show _ < 500); (try simp only [depth_under_make, depth_under_kw, depth_in1, depth_deeper, depth_caller]); (try dsimp only [ktrTop]); omega)); (case ku => ((show _ < 5000); (try simp only [units_in1, units_deeper, Around.mark_units, units_caller]); (try dsimp only [ktrTop]); omega)); (case ks => exact sub3 g1 g2 g4 fun p hp => hp))
  rintro r news3 h3 tk3 F3 N3 ⟨t3, rfl, rfl⟩
  k_steps
  unfold Stop
  refine my_neI (by rw [List.length_map, okF.length, hov2.length, List.length_map]) ?_
  k_steps
  unfold Stop
  rcases List.eq_nil_or_concat fs' with rfl | ⟨lo, x, efs⟩
  · have ov0 : ovs2 = [] := List.length_eq_zero_iff.mp (by rw [hov2.length]; rfl)
    subst ov0
    k_dflt (refine' my_ne ?qqN ?qqa ?qqb ?qqoa ?qqob ?qqu ?_; (case qqN => k_asm); (case qqa => exact .list (vs := []) (.tail _ (.tail _ (.tail _ (.tail _ g3)))) .nil); (case qqb => exact .list (vs := []) (.head _) .nil); (case qqoa => decide); (case qqob => decide); (case qqu => ((show _ + 64 < cLine); (simp only [units_in1, units_deeper, units_caller, Around.mark_units, cLine_is]); (try dsimp only [ktrTop]); omega)))
    simp only [decide_true, Bool.not_true]
    k_steps
    unfold Stop
    refine law_turn_end S' dd ll hh (by assumption) (by assumption) (fun p hp => .tail _ (.tail _ (.tail _ (.tail _ (s2 p hp))))) (.tail _ (.tail _ (.tail _ (.tail _ (s2 _ mI))))) hcI (by rfl) (fun z z1 z2 => by simp only [z1, z2, if_false, ite_false]; exact map_law2 hm1 hm2 z)
  · rw [List.concat_eq_append] at efs
    subst efs
    obtain ⟨vlo, vx, rfl, hvx⟩ : ∃ vlo vx, ovs2 = vlo ++ [vx] ∧ DatIn imm' vx (datF x) := by
      rw [List.map_append] at hov2
      obtain ⟨v1, v2, e, a1, a2⟩ := datAll_split hov2
      cases a2 with
      | cons b1 b2 => cases b2; exact ⟨v1, _, e, b1⟩
    obtain ⟨fa, fn, ha, hv, hn, t', cv, rfl, m1, m2, i1, c1⟩ := row_open hvx
    have g5 := s2 _ (si _ m1)
    obtain ⟨rlo, rx, rfl, hrl, okx⟩ := okF.split lo
    have hrl' : (rlo.map fun r => Value.ref r.a).length ≤ 1000 := by rw [List.length_map, hrl]; rw [List.length_append] at ll; omega
    have hvl : vlo.length ≤ 1000 := by rw [List.length_append] at lov; omega
    have g4' : (rl, listOf ((rlo.map fun r => Value.ref r.a) ++ [Value.ref rx.a]).toArray nr) ∈ news2 := by simpa [rowsO] using g4
    have hvne : vlo ++ [Value.ref fa] ≠ [] := by simp
    k_dflt (refine' my_ne_nil ?nnN ?nna ?nnx ?nnb ?nnu ?_; (case nnN => k_asm); (case nna => k_mem); (case nnx => assumption); (case nnb => k_mem); (case nnu => ((simp only [units_in1, units_deeper, units_caller, Around.mark_units, cLine_is]); (try dsimp only [ktrTop]); omega)))
    k_steps
    (try unfold Stop); k_dflt (refine' Tell.use (top_c (f := f) (fd := fd) (rl := rl) (ys := rlo.map fun r => Value.ref r.a) (v := .ref rx.a) (n := nr) (rest := news2) hrl') ?k1 ?k2 ?k3 ?k4 ?k5 ?kK ?kd ?ku ?ks ?_; (case k1 => k_asm); (case k2 => k_asm); (case k3 => k_asm); (case k4 => k_asm); (case k5 => k_asm); (case kK => first | exact rfl | assumption); (case kd => ((show _ < 500); (try simp only [depth_under_make, depth_under_kw, depth_in1, depth_deeper, depth_caller]); (try dsimp only [ktrTop]); omega)); (case ku => ((show _ < 5000); (try simp only [units_in1, units_deeper, Around.mark_units, units_caller]); (try dsimp only [ktrTop]); omega)); (case ks => exact sub3 (.tail _ (.tail _ (.tail _ (.tail _ g1)))) (.tail _ (.tail _ (.tail _ (.tail _ g2)))) (.tail _ (.tail _ (.tail _ (.tail _ g4')))) fun p hp => .tail _ (.tail _ (.tail _ (.tail _ hp)))))
    rintro r news4 h4 tk4 F4 N4 ⟨rfl, rfl⟩
    k_steps
    refine my_item (xs := [Value.ref ha, .int x.at_ t', cv]) (by k_asm) (by k_mem) (by decide) (by decide) rfl ?_
    have o1 := s2 _ okx.m1
    have o2 := s2 _ okx.m2
    have o3 := okx.c
    rcases hxc : x.c with _ | kk
    · rw [hxc] at c1 o3
      obtain rfl := c_none c1
      rw [c_none o3] at o2
      k_steps
      (try unfold Stop); k_dflt (refine' Tell.use (again_none_c (a := rx.a) (d := rx.d) (hl := rx.hl) (x := rx.fx) (at_ := rx.av) (rest := news2)) ?k1 ?k2 ?k3 ?k4 ?k5 ?kK ?kd ?ku ?ks ?_; (case k1 => k_asm); (case k2 => k_asm); (case k3 => k_asm); (case k4 => k_asm); (case k5 => k_asm); (case kK => first | exact rfl | assumption); (case kd => ((show _ < 500); (try simp only [depth_under_make, depth_under_kw, depth_in1, depth_deeper, depth_caller]); (try dsimp only [ktrTop]); omega)); (case ku => ((show _ < 5000); (try simp only [units_in1, units_deeper, Around.mark_units, units_caller]); (try dsimp only [ktrTop]); omega)); (case ks => exact subTwo (.tail _ (.tail _ (.tail _ o1))) (.tail _ (.tail _ (.tail _ o2))) fun p hp => .tail _ (.tail _ (.tail _ hp))))
      rintro r news5 h5 tk5 F5 N5 ⟨rfl, rfl⟩
      k_steps
      unfold Stop
      refine law_turn_end S' dd ll hh (by assumption) (by assumption) (fun p hp => .tail _ (.tail _ (s2 p hp))) (.tail _ (.tail _ (s2 _ mI))) hcI (by rfl) (fun z z1 z2 => by simp only [z1, z2, if_false, ite_false]; exact map_law2 hm1 hm2 z)
    · rw [hxc] at c1 o3
      obtain ⟨t1, rfl⟩ := c_some c1
      obtain ⟨t2, ht2⟩ := c_some o3
      rw [ht2] at o2 o3
      k_steps
      (try unfold Stop); k_dflt (refine' Tell.use (again_some_c (a := rx.a) (d := rx.d) (hl := rx.hl) (x := rx.fx) (at_ := rx.av) (rest := news2) (t := t2) (t' := t1) (o3.mono s2) (c1.mono fun p hp => s2 p (si p hp)) (kqd_c 6 _)) ?k1 ?k2 ?k3 ?k4 ?k5 ?kK ?kd ?ku ?ks ?_; (case k1 => k_asm); (case k2 => k_asm); (case k3 => k_asm); (case k4 => k_asm); (case k5 => k_asm); (case kK => first | exact rfl | assumption); (case kd => ((show _ < 500); (try simp only [depth_under_make, depth_under_kw, depth_in1, depth_deeper, depth_caller]); (try dsimp only [ktrTop]); omega)); (case ku => ((show _ < 5000); (try simp only [units_in1, units_deeper, Around.mark_units, units_caller]); (try dsimp only [ktrTop]); omega)); (case ks => exact subTwo (.tail _ (.tail _ (.tail _ o1))) (.tail _ (.tail _ (.tail _ o2))) fun p hp => .tail _ (.tail _ (.tail _ hp))))
      rintro r news5 h5 tk5 F5 N5 ⟨rfl, rfl⟩
      k_steps
      unfold Stop
      refine law_turn_end S' dd ll hh (by assumption) (by assumption) (fun p hp => .tail _ (.tail _ (s2 p hp))) (.tail _ (.tail _ (s2 _ mI))) hcI (by rfl) (fun z z1 z2 => by simp only [z1, z2, if_false, ite_false]; exact map_law2 hm1 hm2 z)
end

-- part Top
section
open PySem.Calls
def lookK : Frag → Nat → Obj
  | [], _ => default
  | p :: r, a => match Nat.beq p.1 a with
    | true => p.2
    | false => lookK r a
noncomputable def kAt (P : Params) (a : Nat) : Obj := lookK (hd.heap_1 P) a
/-- what a def's code keeps of its def -/
def fnD (o : Obj) : Obj := match o.data with
  | .func f => { cls := .none, data := .func { name := f.name, qualname := f.qualname, params := f.params, body := f.body, scope := f.scope, globals := 0, closure := [], defaults := .none, kwdefaults := .none } }
  | _ => o
noncomputable def o11_0 : Params → Obj := fun P => { cls := Value.type "tuple", data := Data.seq #[] }
noncomputable def o12_0 : Params → Obj := fun P => { cls := Value.none, data := Data.fields #[] }
noncomputable def o13_0 : Params → Obj := fun P => { cls := Value.type "code", data := Data.fields #[Value.str (Str.ofString "<module>") 182, Value.str (Str.ofString "<module>") 183, Value.str (Str.ofString "/claim/cut.py") 184, Value.int 1 0, Value.int 0 0, Value.int 0 0, Value.int 0 0, Value.int 0 0, Value.ref 11, Value.bool false, Value.int 181 0, Value.ref 12, Value.none, Value.none, Value.none, Value.none, Value.int 185 0, Value.int 1 0, Value.str (Str.ofString "/claim/cut.py") 186] }
noncomputable def o14_0 : Params → Obj := fun P => { cls := Value.type "frame", slots := #[some (Value.ref 13), some (Value.ref 3), some (Value.ref 3), none, some (Value.str (Str.ofString "__main__") 164), none, some (Value.ref 0)] }
noncomputable def o3_0 : Params → Obj := fun P => { cls := Value.type "dict", data := Data.dict #[{ hash := PyData.keyHash P (Str.ofString "__name__"), key := Value.str (Str.ofString "__name__") 165, val := Value.str (Str.ofString "methodrows.errors") 194 }, { hash := PyData.keyHash P (Str.ofString "__doc__"), key := Value.str (Str.ofString "__doc__") 166, val := Value.none }, { hash := PyData.keyHash P (Str.ofString "__package__"), key := Value.str (Str.ofString "__package__") 167, val := Value.none }, { hash := PyData.keyHash P (Str.ofString "__loader__"), key := Value.str (Str.ofString "__loader__") 168, val := Value.builtin "__main__.__loader__#opaque" }, { hash := PyData.keyHash P (Str.ofString "__spec__"), key := Value.str (Str.ofString "__spec__") 169, val := Value.none }, { hash := PyData.keyHash P (Str.ofString "__annotations__"), key := Value.str (Str.ofString "__annotations__") 170, val := Value.ref 6 }, { hash := PyData.keyHash P (Str.ofString "__builtins__"), key := Value.str (Str.ofString "__builtins__") 171, val := Value.ref 4 }, { hash := PyData.keyHash P (Str.ofString "__file__"), key := Value.str (Str.ofString "__file__") 173, val := Value.str (Str.ofString "/claim/cut.py") 172 }, { hash := PyData.keyHash P (Str.ofString "__cached__"), key := Value.str (Str.ofString "__cached__") 174, val := Value.none }, { hash := PyData.keyHash P (Str.ofString "_wall"), key := Value.str (Str.ofString "_wall") 193, val := Value.ref 21 }, { hash := PyData.keyHash P (Str.ofString "RowsError"), key := Value.str (Str.ofString "RowsError") 226, val := Value.ref 39 }, { hash := PyData.keyHash P (Str.ofString "MachineFault"), key := Value.str (Str.ofString "MachineFault") 242, val := Value.ref 52 }] 12 }
noncomputable def o12_1 : Params → Obj := fun P => { cls := Value.none, data := Data.fields #[Value.int 1 0, Value.int 0 0, Value.ref 20, Value.int 5 0, Value.int 0 0, Value.ref 27, Value.int 11 0, Value.int 0 0, Value.ref 48] }
noncomputable def o16_0 : Params → Obj := fun P => { cls := Value.none, data := Data.fields #[] }
noncomputable def o23_0 : Params → Obj := fun P => { cls := Value.type "builtin_function_or_method", data := Data.fields #[Value.builtin "type.__prepare__", Value.type "type"] }
noncomputable def o24_0 : Params → Obj := fun P => { cls := Value.type "dict", data := Data.dict #[{ hash := PyData.keyHash P (Str.ofString "__module__"), key := Value.str (Str.ofString "__module__") 203, val := Value.str (Str.ofString "methodrows.errors") 194 }, { hash := PyData.keyHash P (Str.ofString "__qualname__"), key := Value.str (Str.ofString "__qualname__") 205, val := Value.str (Str.ofString "RowsError") 204 }, { hash := PyData.keyHash P (Str.ofString "__firstlineno__"), key := Value.str (Str.ofString "__firstlineno__") 207, val := Value.int 5 206 }, { hash := PyData.keyHash P (Str.ofString "__init__"), key := Value.str (Str.ofString "__init__") 216, val := Value.ref 36 }, { hash := PyData.keyHash P (Str.ofString "__static_attributes__"), key := Value.str (Str.ofString "__static_attributes__") 219, val := Value.ref 37 }] 5 }
noncomputable def o25_0 : Params → Obj := fun P => { cls := Value.type "tuple", data := Data.seq #[] }
noncomputable def o26_0 : Params → Obj := fun P => { cls := Value.none, data := Data.fields #[Value.int 7 0, Value.int 4 0, Value.ref 35] }
noncomputable def o27_0 : Params → Obj := fun P => { cls := Value.type "code", data := Data.fields #[Value.str (Str.ofString "RowsError") 198, Value.str (Str.ofString "RowsError") 199, Value.str (Str.ofString "/claim/cut.py") 200, Value.int 5 0, Value.int 0 0, Value.int 0 0, Value.int 0 0, Value.int 0 0, Value.ref 25, Value.bool false, Value.int 181 0, Value.ref 26, Value.none, Value.none, Value.none, Value.none, Value.int 201 0, Value.int 5 0, Value.str (Str.ofString "/claim/cut.py") 202] }
noncomputable def o28_0 : Params → Obj := fun P => { cls := Value.type "frame", slots := #[some (Value.ref 27), some (Value.ref 3), some (Value.ref 24), none, some (Value.str (Str.ofString "methodrows.errors") 194), none, some (Value.ref 0)] }
noncomputable def o31_0 : Params → Obj := fun P => { cls := Value.none, data := Data.fields #[] }
noncomputable def o39_0 : Params → Obj := fun P => { cls := Value.type "type", data := Data.cls { name := Str.ofString "RowsError", bases := [Value.type "Exception"], mro := [Value.ref 39, Value.type "Exception", Value.type "BaseException", Value.type "object"], ns := 38, qualname := Str.ofString "RowsError", subclasses := [Value.ref 52] }, slots := #[some (Value.ref 22), none, some (Value.str (Str.ofString "RowsError") 196), some (Value.str (Str.ofString "RowsError") 204), some (Value.builtin "Exception.__new__"), some (Value.bool true)] }
noncomputable def o41_0 : Params → Obj := fun P => { cls := Value.type "super", data := Data.fields #[Value.ref 39, Value.ref 39, Value.ref 39] }
noncomputable def o42_0 : Params → Obj := fun P => { cls := Value.type "builtin_function_or_method", data := Data.fields #[Value.builtin "object.__init_subclass__", Value.ref 39] }
noncomputable def o44_0 : Params → Obj := fun P => { cls := Value.type "builtin_function_or_method", data := Data.fields #[Value.builtin "type.__prepare__", Value.type "type"] }
noncomputable def o45_0 : Params → Obj := fun P => { cls := Value.type "dict", data := Data.dict #[{ hash := PyData.keyHash P (Str.ofString "__module__"), key := Value.str (Str.ofString "__module__") 234, val := Value.str (Str.ofString "methodrows.errors") 194 }, { hash := PyData.keyHash P (Str.ofString "__qualname__"), key := Value.str (Str.ofString "__qualname__") 236, val := Value.str (Str.ofString "MachineFault") 235 }, { hash := PyData.keyHash P (Str.ofString "__firstlineno__"), key := Value.str (Str.ofString "__firstlineno__") 238, val := Value.int 11 237 }, { hash := PyData.keyHash P (Str.ofString "__static_attributes__"), key := Value.str (Str.ofString "__static_attributes__") 239, val := Value.ref 50 }] 4 }
noncomputable def o46_0 : Params → Obj := fun P => { cls := Value.type "tuple", data := Data.seq #[] }
noncomputable def o47_0 : Params → Obj := fun P => { cls := Value.none, data := Data.fields #[] }
noncomputable def o48_0 : Params → Obj := fun P => { cls := Value.type "code", data := Data.fields #[Value.str (Str.ofString "MachineFault") 229, Value.str (Str.ofString "MachineFault") 230, Value.str (Str.ofString "/claim/cut.py") 231, Value.int 11 0, Value.int 0 0, Value.int 0 0, Value.int 0 0, Value.int 0 0, Value.ref 46, Value.bool false, Value.int 181 0, Value.ref 47, Value.none, Value.none, Value.none, Value.none, Value.int 232 0, Value.int 11 0, Value.str (Str.ofString "/claim/cut.py") 233] }
noncomputable def o49_0 : Params → Obj := fun P => { cls := Value.type "frame", slots := #[some (Value.ref 48), some (Value.ref 3), some (Value.ref 45), none, some (Value.str (Str.ofString "methodrows.errors") 194), none, some (Value.ref 0)] }
noncomputable def o53_0 : Params → Obj := fun P => { cls := Value.type "super", data := Data.fields #[Value.ref 52, Value.ref 52, Value.ref 52] }
noncomputable def o54_0 : Params → Obj := fun P => { cls := Value.type "builtin_function_or_method", data := Data.fields #[Value.builtin "object.__init_subclass__", Value.ref 52] }
noncomputable def o3_1 : Params → Obj := fun P => { cls := Value.type "dict", data := Data.dict #[{ hash := PyData.keyHash P (Str.ofString "__name__"), key := Value.str (Str.ofString "__name__") 165, val := Value.str (Str.ofString "methodrows.frames") 311 }, { hash := PyData.keyHash P (Str.ofString "__doc__"), key := Value.str (Str.ofString "__doc__") 166, val := Value.none }, { hash := PyData.keyHash P (Str.ofString "__package__"), key := Value.str (Str.ofString "__package__") 167, val := Value.none }, { hash := PyData.keyHash P (Str.ofString "__loader__"), key := Value.str (Str.ofString "__loader__") 168, val := Value.builtin "__main__.__loader__#opaque" }, { hash := PyData.keyHash P (Str.ofString "__spec__"), key := Value.str (Str.ofString "__spec__") 169, val := Value.none }, { hash := PyData.keyHash P (Str.ofString "__annotations__"), key := Value.str (Str.ofString "__annotations__") 170, val := Value.ref 6 }, { hash := PyData.keyHash P (Str.ofString "__builtins__"), key := Value.str (Str.ofString "__builtins__") 171, val := Value.ref 4 }, { hash := PyData.keyHash P (Str.ofString "__file__"), key := Value.str (Str.ofString "__file__") 173, val := Value.str (Str.ofString "/claim/cut.py") 172 }, { hash := PyData.keyHash P (Str.ofString "__cached__"), key := Value.str (Str.ofString "__cached__") 174, val := Value.none }, { hash := PyData.keyHash P (Str.ofString "_wall"), key := Value.str (Str.ofString "_wall") 193, val := Value.ref 21 }, { hash := PyData.keyHash P (Str.ofString "RowsError"), key := Value.str (Str.ofString "RowsError") 226, val := Value.ref 39 }, { hash := PyData.keyHash P (Str.ofString "MachineFault"), key := Value.str (Str.ofString "MachineFault") 242, val := Value.ref 52 }, { hash := PyData.keyHash P (Str.ofString "Thrown"), key := Value.str (Str.ofString "Thrown") 267, val := Value.ref 71 }, { hash := PyData.keyHash P (Str.ofString "error_kind"), key := Value.str (Str.ofString "error_kind") 276, val := Value.ref 80 }, { hash := PyData.keyHash P (Str.ofString "error_value"), key := Value.str (Str.ofString "error_value") 284, val := Value.ref 87 }, { hash := PyData.keyHash P (Str.ofString "thrown"), key := Value.str (Str.ofString "thrown") 292, val := Value.ref 94 }, { hash := PyData.keyHash P (Str.ofString "unwound"), key := Value.str (Str.ofString "unwound") 303, val := Value.ref 101 }, { hash := PyData.keyHash P (Str.ofString "rethrown"), key := Value.str (Str.ofString "rethrown") 310, val := Value.ref 108 }, { hash := PyData.keyHash P (Str.ofString "MOST_FRAMES"), key := Value.str (Str.ofString "MOST_FRAMES") 314, val := Value.int 200 313 }] 19 }
noncomputable def o12_2 : Params → Obj := fun P => { cls := Value.none, data := Data.fields #[Value.int 1 0, Value.int 0 0, Value.ref 20, Value.int 5 0, Value.int 0 0, Value.ref 27, Value.int 11 0, Value.int 0 0, Value.ref 48, Value.int 13 0, Value.int 0 0, Value.ref 60, Value.int 19 0, Value.int 0 0, Value.ref 79, Value.int 21 0, Value.int 0 0, Value.ref 86, Value.int 23 0, Value.int 0 0, Value.ref 93, Value.int 26 0, Value.int 0 0, Value.ref 100, Value.int 32 0, Value.int 0 0, Value.ref 107] }
noncomputable def o56_0 : Params → Obj := fun P => { cls := Value.type "builtin_function_or_method", data := Data.fields #[Value.builtin "type.__prepare__", Value.type "type"] }
noncomputable def o57_0 : Params → Obj := fun P => { cls := Value.type "dict", data := Data.dict #[{ hash := PyData.keyHash P (Str.ofString "__module__"), key := Value.str (Str.ofString "__module__") 250, val := Value.str (Str.ofString "methodrows.errors") 194 }, { hash := PyData.keyHash P (Str.ofString "__qualname__"), key := Value.str (Str.ofString "__qualname__") 252, val := Value.str (Str.ofString "Thrown") 251 }, { hash := PyData.keyHash P (Str.ofString "__firstlineno__"), key := Value.str (Str.ofString "__firstlineno__") 254, val := Value.int 13 253 }, { hash := PyData.keyHash P (Str.ofString "__init__"), key := Value.str (Str.ofString "__init__") 262, val := Value.ref 68 }, { hash := PyData.keyHash P (Str.ofString "__static_attributes__"), key := Value.str (Str.ofString "__static_attributes__") 264, val := Value.ref 69 }] 5 }
noncomputable def o58_0 : Params → Obj := fun P => { cls := Value.type "tuple", data := Data.seq #[] }
noncomputable def o59_0 : Params → Obj := fun P => { cls := Value.none, data := Data.fields #[Value.int 15 0, Value.int 4 0, Value.ref 67] }
noncomputable def o60_0 : Params → Obj := fun P => { cls := Value.type "code", data := Data.fields #[Value.str (Str.ofString "Thrown") 245, Value.str (Str.ofString "Thrown") 246, Value.str (Str.ofString "/claim/cut.py") 247, Value.int 13 0, Value.int 0 0, Value.int 0 0, Value.int 0 0, Value.int 0 0, Value.ref 58, Value.bool false, Value.int 181 0, Value.ref 59, Value.none, Value.none, Value.none, Value.none, Value.int 248 0, Value.int 13 0, Value.str (Str.ofString "/claim/cut.py") 249] }
noncomputable def o61_0 : Params → Obj := fun P => { cls := Value.type "frame", slots := #[some (Value.ref 60), some (Value.ref 3), some (Value.ref 57), none, some (Value.str (Str.ofString "methodrows.errors") 194), none, some (Value.ref 0)] }
noncomputable def o63_0 : Params → Obj := fun P => { cls := Value.none, data := Data.fields #[] }
noncomputable def o72_0 : Params → Obj := fun P => { cls := Value.type "super", data := Data.fields #[Value.ref 71, Value.ref 71, Value.ref 71] }
noncomputable def o73_0 : Params → Obj := fun P => { cls := Value.type "builtin_function_or_method", data := Data.fields #[Value.builtin "object.__init_subclass__", Value.ref 71] }
noncomputable def o75_0 : Params → Obj := fun P => { cls := Value.none, data := Data.fields #[] }
noncomputable def o82_0 : Params → Obj := fun P => { cls := Value.none, data := Data.fields #[] }
noncomputable def o89_0 : Params → Obj := fun P => { cls := Value.none, data := Data.fields #[] }
noncomputable def o96_0 : Params → Obj := fun P => { cls := Value.none, data := Data.fields #[] }
noncomputable def o103_0 : Params → Obj := fun P => { cls := Value.none, data := Data.fields #[] }
noncomputable def o3_2 : Params → Obj := fun P => { cls := Value.type "dict", data := Data.dict #[{ hash := PyData.keyHash P (Str.ofString "__name__"), key := Value.str (Str.ofString "__name__") 165, val := Value.str (Str.ofString "methodrows.frames") 311 }, { hash := PyData.keyHash P (Str.ofString "__doc__"), key := Value.str (Str.ofString "__doc__") 166, val := Value.none }, { hash := PyData.keyHash P (Str.ofString "__package__"), key := Value.str (Str.ofString "__package__") 167, val := Value.none }, { hash := PyData.keyHash P (Str.ofString "__loader__"), key := Value.str (Str.ofString "__loader__") 168, val := Value.builtin "__main__.__loader__#opaque" }, { hash := PyData.keyHash P (Str.ofString "__spec__"), key := Value.str (Str.ofString "__spec__") 169, val := Value.none }, { hash := PyData.keyHash P (Str.ofString "__annotations__"), key := Value.str (Str.ofString "__annotations__") 170, val := Value.ref 6 }, { hash := PyData.keyHash P (Str.ofString "__builtins__"), key := Value.str (Str.ofString "__builtins__") 171, val := Value.ref 4 }, { hash := PyData.keyHash P (Str.ofString "__file__"), key := Value.str (Str.ofString "__file__") 173, val := Value.str (Str.ofString "/claim/cut.py") 172 }, { hash := PyData.keyHash P (Str.ofString "__cached__"), key := Value.str (Str.ofString "__cached__") 174, val := Value.none }, { hash := PyData.keyHash P (Str.ofString "_wall"), key := Value.str (Str.ofString "_wall") 193, val := Value.ref 21 }, { hash := PyData.keyHash P (Str.ofString "RowsError"), key := Value.str (Str.ofString "RowsError") 226, val := Value.ref 39 }, { hash := PyData.keyHash P (Str.ofString "MachineFault"), key := Value.str (Str.ofString "MachineFault") 242, val := Value.ref 52 }, { hash := PyData.keyHash P (Str.ofString "Thrown"), key := Value.str (Str.ofString "Thrown") 267, val := Value.ref 71 }, { hash := PyData.keyHash P (Str.ofString "error_kind"), key := Value.str (Str.ofString "error_kind") 276, val := Value.ref 80 }, { hash := PyData.keyHash P (Str.ofString "error_value"), key := Value.str (Str.ofString "error_value") 284, val := Value.ref 87 }, { hash := PyData.keyHash P (Str.ofString "thrown"), key := Value.str (Str.ofString "thrown") 292, val := Value.ref 94 }, { hash := PyData.keyHash P (Str.ofString "unwound"), key := Value.str (Str.ofString "unwound") 303, val := Value.ref 101 }, { hash := PyData.keyHash P (Str.ofString "rethrown"), key := Value.str (Str.ofString "rethrown") 310, val := Value.ref 108 }, { hash := PyData.keyHash P (Str.ofString "MOST_FRAMES"), key := Value.str (Str.ofString "MOST_FRAMES") 314, val := Value.int 200 313 }, { hash := PyData.keyHash P (Str.ofString "Frame"), key := Value.str (Str.ofString "Frame") 410, val := Value.ref 172 }] 20 }
noncomputable def o12_3 : Params → Obj := fun P => { cls := Value.none, data := Data.fields #[Value.int 1 0, Value.int 0 0, Value.ref 20, Value.int 5 0, Value.int 0 0, Value.ref 27, Value.int 11 0, Value.int 0 0, Value.ref 48, Value.int 13 0, Value.int 0 0, Value.ref 60, Value.int 19 0, Value.int 0 0, Value.ref 79, Value.int 21 0, Value.int 0 0, Value.ref 86, Value.int 23 0, Value.int 0 0, Value.ref 93, Value.int 26 0, Value.int 0 0, Value.ref 100, Value.int 32 0, Value.int 0 0, Value.ref 107, Value.int 38 0, Value.int 0 0, Value.ref 114] }
noncomputable def o109_0 : Params → Obj := fun P => { cls := Value.type "tuple", data := Data.seq #[] }
noncomputable def o110_0 : Params → Obj := fun P => { cls := Value.type "builtin_function_or_method", data := Data.fields #[Value.builtin "type.__prepare__", Value.type "type"] }
noncomputable def o111_0 : Params → Obj := fun P => { cls := Value.type "dict", data := Data.dict #[{ hash := PyData.keyHash P (Str.ofString "__module__"), key := Value.str (Str.ofString "__module__") 322, val := Value.str (Str.ofString "methodrows.frames") 311 }, { hash := PyData.keyHash P (Str.ofString "__qualname__"), key := Value.str (Str.ofString "__qualname__") 324, val := Value.str (Str.ofString "Frame") 323 }, { hash := PyData.keyHash P (Str.ofString "__firstlineno__"), key := Value.str (Str.ofString "__firstlineno__") 326, val := Value.int 38 325 }, { hash := PyData.keyHash P (Str.ofString "__init__"), key := Value.str (Str.ofString "__init__") 338, val := Value.ref 122 }, { hash := PyData.keyHash P (Str.ofString "put"), key := Value.str (Str.ofString "put") 347, val := Value.ref 129 }, { hash := PyData.keyHash P (Str.ofString "get"), key := Value.str (Str.ofString "get") 356, val := Value.ref 136 }, { hash := PyData.keyHash P (Str.ofString "values"), key := Value.str (Str.ofString "values") 362, val := Value.ref 141 }, { hash := PyData.keyHash P (Str.ofString "captured"), key := Value.str (Str.ofString "captured") 370, val := Value.ref 148 }, { hash := PyData.keyHash P (Str.ofString "enter"), key := Value.str (Str.ofString "enter") 378, val := Value.ref 155 }, { hash := PyData.keyHash P (Str.ofString "leave"), key := Value.str (Str.ofString "leave") 386, val := Value.ref 162 }, { hash := PyData.keyHash P (Str.ofString "catch"), key := Value.str (Str.ofString "catch") 394, val := Value.ref 169 }, { hash := PyData.keyHash P (Str.ofString "__static_attributes__"), key := Value.str (Str.ofString "__static_attributes__") 403, val := Value.ref 170 }] 12 }
noncomputable def o112_0 : Params → Obj := fun P => { cls := Value.type "tuple", data := Data.seq #[] }
noncomputable def o113_0 : Params → Obj := fun P => { cls := Value.none, data := Data.fields #[Value.int 40 0, Value.int 4 0, Value.ref 121, Value.int 50 0, Value.int 4 0, Value.ref 128, Value.int 53 0, Value.int 4 0, Value.ref 135, Value.int 59 0, Value.int 4 0, Value.ref 140, Value.int 62 0, Value.int 4 0, Value.ref 147, Value.int 65 0, Value.int 4 0, Value.ref 154, Value.int 68 0, Value.int 4 0, Value.ref 161, Value.int 73 0, Value.int 4 0, Value.ref 168] }
noncomputable def o114_0 : Params → Obj := fun P => { cls := Value.type "code", data := Data.fields #[Value.str (Str.ofString "Frame") 317, Value.str (Str.ofString "Frame") 318, Value.str (Str.ofString "/claim/cut.py") 319, Value.int 38 0, Value.int 0 0, Value.int 0 0, Value.int 0 0, Value.int 0 0, Value.ref 112, Value.bool false, Value.int 181 0, Value.ref 113, Value.none, Value.none, Value.none, Value.none, Value.int 320 0, Value.int 38 0, Value.str (Str.ofString "/claim/cut.py") 321] }
noncomputable def o115_0 : Params → Obj := fun P => { cls := Value.type "frame", slots := #[some (Value.ref 114), some (Value.ref 3), some (Value.ref 111), none, some (Value.str (Str.ofString "methodrows.frames") 311), none, some (Value.ref 0)] }
noncomputable def o117_0 : Params → Obj := fun P => { cls := Value.none, data := Data.fields #[] }
noncomputable def o124_0 : Params → Obj := fun P => { cls := Value.none, data := Data.fields #[] }
noncomputable def o131_0 : Params → Obj := fun P => { cls := Value.none, data := Data.fields #[] }
noncomputable def o138_0 : Params → Obj := fun P => { cls := Value.none, data := Data.fields #[] }
noncomputable def o143_0 : Params → Obj := fun P => { cls := Value.none, data := Data.fields #[] }
noncomputable def o150_0 : Params → Obj := fun P => { cls := Value.none, data := Data.fields #[] }
noncomputable def o157_0 : Params → Obj := fun P => { cls := Value.none, data := Data.fields #[] }
noncomputable def o164_0 : Params → Obj := fun P => { cls := Value.none, data := Data.fields #[] }
noncomputable def o175_0 : Params → Obj := fun P => { cls := Value.type "super", data := Data.fields #[Value.ref 172, Value.ref 172, Value.ref 172] }
noncomputable def o176_0 : Params → Obj := fun P => { cls := Value.type "builtin_function_or_method", data := Data.fields #[Value.builtin "object.__init_subclass__", Value.ref 172] }
noncomputable def o3_3 : Params → Obj := fun P => { cls := Value.type "dict", data := Data.dict #[{ hash := PyData.keyHash P (Str.ofString "__name__"), key := Value.str (Str.ofString "__name__") 165, val := Value.str (Str.ofString "methodrows.ir") 484 }, { hash := PyData.keyHash P (Str.ofString "__doc__"), key := Value.str (Str.ofString "__doc__") 166, val := Value.none }, { hash := PyData.keyHash P (Str.ofString "__package__"), key := Value.str (Str.ofString "__package__") 167, val := Value.none }, { hash := PyData.keyHash P (Str.ofString "__loader__"), key := Value.str (Str.ofString "__loader__") 168, val := Value.builtin "__main__.__loader__#opaque" }, { hash := PyData.keyHash P (Str.ofString "__spec__"), key := Value.str (Str.ofString "__spec__") 169, val := Value.none }, { hash := PyData.keyHash P (Str.ofString "__annotations__"), key := Value.str (Str.ofString "__annotations__") 170, val := Value.ref 6 }, { hash := PyData.keyHash P (Str.ofString "__builtins__"), key := Value.str (Str.ofString "__builtins__") 171, val := Value.ref 4 }, { hash := PyData.keyHash P (Str.ofString "__file__"), key := Value.str (Str.ofString "__file__") 173, val := Value.str (Str.ofString "/claim/cut.py") 172 }, { hash := PyData.keyHash P (Str.ofString "__cached__"), key := Value.str (Str.ofString "__cached__") 174, val := Value.none }, { hash := PyData.keyHash P (Str.ofString "_wall"), key := Value.str (Str.ofString "_wall") 193, val := Value.ref 21 }, { hash := PyData.keyHash P (Str.ofString "RowsError"), key := Value.str (Str.ofString "RowsError") 226, val := Value.ref 39 }, { hash := PyData.keyHash P (Str.ofString "MachineFault"), key := Value.str (Str.ofString "MachineFault") 242, val := Value.ref 52 }, { hash := PyData.keyHash P (Str.ofString "Thrown"), key := Value.str (Str.ofString "Thrown") 267, val := Value.ref 71 }, { hash := PyData.keyHash P (Str.ofString "error_kind"), key := Value.str (Str.ofString "error_kind") 276, val := Value.ref 80 }, { hash := PyData.keyHash P (Str.ofString "error_value"), key := Value.str (Str.ofString "error_value") 284, val := Value.ref 87 }, { hash := PyData.keyHash P (Str.ofString "thrown"), key := Value.str (Str.ofString "thrown") 292, val := Value.ref 94 }, { hash := PyData.keyHash P (Str.ofString "unwound"), key := Value.str (Str.ofString "unwound") 303, val := Value.ref 101 }, { hash := PyData.keyHash P (Str.ofString "rethrown"), key := Value.str (Str.ofString "rethrown") 310, val := Value.ref 108 }, { hash := PyData.keyHash P (Str.ofString "MOST_FRAMES"), key := Value.str (Str.ofString "MOST_FRAMES") 314, val := Value.int 200 313 }, { hash := PyData.keyHash P (Str.ofString "Frame"), key := Value.str (Str.ofString "Frame") 410, val := Value.ref 172 }, { hash := PyData.keyHash P (Str.ofString "Frames"), key := Value.str (Str.ofString "Frames") 483, val := Value.ref 235 }] 21 }
noncomputable def o12_4 : Params → Obj := fun P => { cls := Value.none, data := Data.fields #[Value.int 1 0, Value.int 0 0, Value.ref 20, Value.int 5 0, Value.int 0 0, Value.ref 27, Value.int 11 0, Value.int 0 0, Value.ref 48, Value.int 13 0, Value.int 0 0, Value.ref 60, Value.int 19 0, Value.int 0 0, Value.ref 79, Value.int 21 0, Value.int 0 0, Value.ref 86, Value.int 23 0, Value.int 0 0, Value.ref 93, Value.int 26 0, Value.int 0 0, Value.ref 100, Value.int 32 0, Value.int 0 0, Value.ref 107, Value.int 38 0, Value.int 0 0, Value.ref 114, Value.int 79 0, Value.int 0 0, Value.ref 182] }
noncomputable def o177_0 : Params → Obj := fun P => { cls := Value.type "tuple", data := Data.seq #[] }
noncomputable def o178_0 : Params → Obj := fun P => { cls := Value.type "builtin_function_or_method", data := Data.fields #[Value.builtin "type.__prepare__", Value.type "type"] }
noncomputable def o179_0 : Params → Obj := fun P => { cls := Value.type "dict", data := Data.dict #[{ hash := PyData.keyHash P (Str.ofString "__module__"), key := Value.str (Str.ofString "__module__") 418, val := Value.str (Str.ofString "methodrows.frames") 311 }, { hash := PyData.keyHash P (Str.ofString "__qualname__"), key := Value.str (Str.ofString "__qualname__") 420, val := Value.str (Str.ofString "Frames") 419 }, { hash := PyData.keyHash P (Str.ofString "__firstlineno__"), key := Value.str (Str.ofString "__firstlineno__") 422, val := Value.int 79 421 }, { hash := PyData.keyHash P (Str.ofString "__init__"), key := Value.str (Str.ofString "__init__") 429, val := Value.ref 190 }, { hash := PyData.keyHash P (Str.ofString "many"), key := Value.str (Str.ofString "many") 436, val := Value.ref 197 }, { hash := PyData.keyHash P (Str.ofString "top"), key := Value.str (Str.ofString "top") 443, val := Value.ref 204 }, { hash := PyData.keyHash P (Str.ofString "push"), key := Value.str (Str.ofString "push") 451, val := Value.ref 211 }, { hash := PyData.keyHash P (Str.ofString "pop"), key := Value.str (Str.ofString "pop") 458, val := Value.ref 218 }, { hash := PyData.keyHash P (Str.ofString "cut"), key := Value.str (Str.ofString "cut") 466, val := Value.ref 225 }, { hash := PyData.keyHash P (Str.ofString "world"), key := Value.str (Str.ofString "world") 474, val := Value.ref 232 }, { hash := PyData.keyHash P (Str.ofString "__static_attributes__"), key := Value.str (Str.ofString "__static_attributes__") 476, val := Value.ref 233 }] 11 }
noncomputable def o180_0 : Params → Obj := fun P => { cls := Value.type "tuple", data := Data.seq #[] }
noncomputable def o181_0 : Params → Obj := fun P => { cls := Value.none, data := Data.fields #[Value.int 81 0, Value.int 4 0, Value.ref 189, Value.int 84 0, Value.int 4 0, Value.ref 196, Value.int 87 0, Value.int 4 0, Value.ref 203, Value.int 90 0, Value.int 4 0, Value.ref 210, Value.int 95 0, Value.int 4 0, Value.ref 217, Value.int 98 0, Value.int 4 0, Value.ref 224, Value.int 101 0, Value.int 4 0, Value.ref 231] }
noncomputable def o182_0 : Params → Obj := fun P => { cls := Value.type "code", data := Data.fields #[Value.str (Str.ofString "Frames") 413, Value.str (Str.ofString "Frames") 414, Value.str (Str.ofString "/claim/cut.py") 415, Value.int 79 0, Value.int 0 0, Value.int 0 0, Value.int 0 0, Value.int 0 0, Value.ref 180, Value.bool false, Value.int 181 0, Value.ref 181, Value.none, Value.none, Value.none, Value.none, Value.int 416 0, Value.int 79 0, Value.str (Str.ofString "/claim/cut.py") 417] }
noncomputable def o183_0 : Params → Obj := fun P => { cls := Value.type "frame", slots := #[some (Value.ref 182), some (Value.ref 3), some (Value.ref 179), none, some (Value.str (Str.ofString "methodrows.frames") 311), none, some (Value.ref 0)] }
noncomputable def o185_0 : Params → Obj := fun P => { cls := Value.none, data := Data.fields #[] }
noncomputable def o192_0 : Params → Obj := fun P => { cls := Value.none, data := Data.fields #[] }
noncomputable def o199_0 : Params → Obj := fun P => { cls := Value.none, data := Data.fields #[] }
noncomputable def o206_0 : Params → Obj := fun P => { cls := Value.none, data := Data.fields #[] }
noncomputable def o213_0 : Params → Obj := fun P => { cls := Value.none, data := Data.fields #[] }
noncomputable def o220_0 : Params → Obj := fun P => { cls := Value.none, data := Data.fields #[] }
noncomputable def o227_0 : Params → Obj := fun P => { cls := Value.none, data := Data.fields #[] }
noncomputable def o238_0 : Params → Obj := fun P => { cls := Value.type "super", data := Data.fields #[Value.ref 235, Value.ref 235, Value.ref 235] }
noncomputable def o239_0 : Params → Obj := fun P => { cls := Value.type "builtin_function_or_method", data := Data.fields #[Value.builtin "object.__init_subclass__", Value.ref 235] }
noncomputable def o12_5 : Params → Obj := fun P => { cls := Value.none, data := Data.fields #[Value.int 1 0, Value.int 0 0, Value.ref 20, Value.int 5 0, Value.int 0 0, Value.ref 27, Value.int 11 0, Value.int 0 0, Value.ref 48, Value.int 13 0, Value.int 0 0, Value.ref 60, Value.int 19 0, Value.int 0 0, Value.ref 79, Value.int 21 0, Value.int 0 0, Value.ref 86, Value.int 23 0, Value.int 0 0, Value.ref 93, Value.int 26 0, Value.int 0 0, Value.ref 100, Value.int 32 0, Value.int 0 0, Value.ref 107, Value.int 38 0, Value.int 0 0, Value.ref 114, Value.int 79 0, Value.int 0 0, Value.ref 182, Value.int 104 0, Value.int 0 0, Value.ref 245, Value.int 118 0, Value.int 0 0, Value.ref 277, Value.int 122 0, Value.int 0 0, Value.ref 284, Value.int 129 0, Value.int 0 0, Value.ref 289, Value.int 131 0, Value.int 0 0, Value.ref 294, Value.int 147 0, Value.int 0 0, Value.ref 301, Value.int 152 0, Value.int 0 0, Value.ref 308, Value.int 170 0, Value.int 0 0, Value.ref 315] }
noncomputable def o240_0 : Params → Obj := fun P => { cls := Value.type "tuple", data := Data.seq #[] }
noncomputable def o241_0 : Params → Obj := fun P => { cls := Value.type "builtin_function_or_method", data := Data.fields #[Value.builtin "type.__prepare__", Value.type "type"] }
noncomputable def o242_0 : Params → Obj := fun P => { cls := Value.type "dict", data := Data.dict #[{ hash := PyData.keyHash P (Str.ofString "__module__"), key := Value.str (Str.ofString "__module__") 493, val := Value.str (Str.ofString "methodrows.ir") 484 }, { hash := PyData.keyHash P (Str.ofString "__qualname__"), key := Value.str (Str.ofString "__qualname__") 495, val := Value.str (Str.ofString "Code") 494 }, { hash := PyData.keyHash P (Str.ofString "__firstlineno__"), key := Value.str (Str.ofString "__firstlineno__") 497, val := Value.int 104 496 }, { hash := PyData.keyHash P (Str.ofString "__init__"), key := Value.str (Str.ofString "__init__") 511, val := Value.ref 257 }, { hash := PyData.keyHash P (Str.ofString "with_rows"), key := Value.str (Str.ofString "with_rows") 520, val := Value.ref 264 }, { hash := PyData.keyHash P (Str.ofString "__static_attributes__"), key := Value.str (Str.ofString "__static_attributes__") 528, val := Value.ref 265 }] 6 }
noncomputable def o243_0 : Params → Obj := fun P => { cls := Value.type "tuple", data := Data.seq #[] }
noncomputable def o244_0 : Params → Obj := fun P => { cls := Value.none, data := Data.fields #[Value.int 106 0, Value.int 4 0, Value.ref 256, Value.int 115 0, Value.int 4 0, Value.ref 263] }
noncomputable def o245_0 : Params → Obj := fun P => { cls := Value.type "code", data := Data.fields #[Value.str (Str.ofString "Code") 488, Value.str (Str.ofString "Code") 489, Value.str (Str.ofString "/claim/cut.py") 490, Value.int 104 0, Value.int 0 0, Value.int 0 0, Value.int 0 0, Value.int 0 0, Value.ref 243, Value.bool false, Value.int 181 0, Value.ref 244, Value.none, Value.none, Value.none, Value.none, Value.int 491 0, Value.int 104 0, Value.str (Str.ofString "/claim/cut.py") 492] }
noncomputable def o246_0 : Params → Obj := fun P => { cls := Value.type "frame", slots := #[some (Value.ref 245), some (Value.ref 3), some (Value.ref 242), none, some (Value.str (Str.ofString "methodrows.ir") 484), none, some (Value.ref 0)] }
noncomputable def o252_0 : Params → Obj := fun P => { cls := Value.none, data := Data.fields #[] }
noncomputable def o259_0 : Params → Obj := fun P => { cls := Value.none, data := Data.fields #[] }
noncomputable def o270_0 : Params → Obj := fun P => { cls := Value.type "super", data := Data.fields #[Value.ref 267, Value.ref 267, Value.ref 267] }
noncomputable def o271_0 : Params → Obj := fun P => { cls := Value.type "builtin_function_or_method", data := Data.fields #[Value.builtin "object.__init_subclass__", Value.ref 267] }
noncomputable def o273_0 : Params → Obj := fun P => { cls := Value.none, data := Data.fields #[] }
noncomputable def o280_0 : Params → Obj := fun P => { cls := Value.none, data := Data.fields #[] }
noncomputable def o287_0 : Params → Obj := fun P => { cls := Value.none, data := Data.fields #[] }
noncomputable def o292_0 : Params → Obj := fun P => { cls := Value.none, data := Data.fields #[] }
noncomputable def o297_0 : Params → Obj := fun P => { cls := Value.none, data := Data.fields #[] }
noncomputable def o304_0 : Params → Obj := fun P => { cls := Value.none, data := Data.fields #[] }
noncomputable def o311_0 : Params → Obj := fun P => { cls := Value.none, data := Data.fields #[] }
noncomputable def heapA (P : Params) : Heap := ⟨⟨[boot_o_0 P, boot_o_1 P, boot_o_2 P, boot_o_3 P, boot_o_4 P, boot_o_5 P, boot_o_6 P, boot_o_7 P, boot_o_8 P, boot_o_9 P, boot_o_10 P, o11_0 P, o12_0 P, o13_0 P, o14_0 P]⟩, { }⟩
noncomputable def treeB (P : Params) : BT := (.node (boot_o_0 P) (.node (boot_o_1 P) (.node (boot_o_3 P) (.node (boot_o_7 P) .nil .nil) (.node (o11_0 P) .nil .nil)) (.node (boot_o_5 P) (.node (boot_o_9 P) .nil .nil) (.node (o13_0 P) .nil .nil))) (.node (boot_o_2 P) (.node (boot_o_4 P) (.node (boot_o_8 P) .nil .nil) (.node (o12_0 P) .nil .nil)) (.node (boot_o_6 P) (.node (boot_o_10 P) .nil .nil) (.node (o14_0 P) .nil .nil))))
noncomputable def tree3 (P : Params) : BT := (.node (boot_o_0 P) (.node (boot_o_1 P) (.node (o3_0 P) (.node (boot_o_7 P) (.node (kAt P 15) (.node (o31_0 P) .nil .nil) (.node (o47_0 P) .nil .nil)) (.node (o23_0 P) (.node (o39_0 P) .nil .nil) .nil)) (.node (o11_0 P) (.node (fnD (kAt P 21)) (.node (kAt P 35) .nil .nil) (.node (kAt P 51) .nil .nil)) (.node (o27_0 P) (.node (kAt P 43) .nil .nil) .nil))) (.node (boot_o_5 P) (.node (boot_o_9 P) (.node (kAt P 17) (.node (kAt P 33) .nil .nil) (.node (o49_0 P) .nil .nil)) (.node (o25_0 P) (.node (o41_0 P) .nil .nil) .nil)) (.node (o13_0 P) (.node (kAt P 21) (.node (kAt P 37) .nil .nil) (.node (o53_0 P) .nil .nil)) (.node (kAt P 29) (.node (o45_0 P) .nil .nil) .nil)))) (.node (kAt P 2) (.node (boot_o_4 P) (.node (boot_o_8 P) (.node (o16_0 P) (.node (kAt P 32) .nil .nil) (.node (o48_0 P) .nil .nil)) (.node (o24_0 P) (.node (kAt P 40) .nil .nil) .nil)) (.node (o12_1 P) (.node (kAt P 20) (.node (kAt P 36) .nil .nil) (.node (kAt P 52) .nil .nil)) (.node (o28_0 P) (.node (o44_0 P) .nil .nil) .nil))) (.node (boot_o_6 P) (.node (boot_o_10 P) (.node (kAt P 18) (.node (fnD (kAt P 36)) .nil .nil) (.node (kAt P 50) .nil .nil)) (.node (o26_0 P) (.node (o42_0 P) .nil .nil) .nil)) (.node (o14_0 P) (.node (kAt P 22) (.node (kAt P 38) .nil .nil) (.node (o54_0 P) .nil .nil)) (.node (kAt P 30) (.node (o46_0 P) .nil .nil) .nil)))))
noncomputable def tree13 (P : Params) : BT := (.node (boot_o_0 P) (.node (boot_o_1 P) (.node (o3_1 P) (.node (boot_o_7 P) (.node (kAt P 15) (.node (o31_0 P) (.node (o63_0 P) .nil .nil) (.node (kAt P 95) .nil .nil)) (.node (o47_0 P) (.node (kAt P 79) .nil .nil) .nil)) (.node (o23_0 P) (.node (kAt P 39) (.node (kAt P 71) .nil .nil) (.node (o103_0 P) .nil .nil)) (.node (kAt P 55) (.node (kAt P 87) .nil .nil) .nil))) (.node (o11_0 P) (.node (fnD (kAt P 21)) (.node (kAt P 35) (.node (kAt P 67) .nil .nil) (.node (fnD (kAt P 101)) .nil .nil)) (.node (kAt P 51) (.node (kAt P 83) .nil .nil) .nil)) (.node (o27_0 P) (.node (kAt P 43) (.node (o75_0 P) .nil .nil) (.node (kAt P 107) .nil .nil)) (.node (o59_0 P) (.node (kAt P 91) .nil .nil) .nil)))) (.node (boot_o_5 P) (.node (boot_o_9 P) (.node (kAt P 17) (.node (kAt P 33) (.node (kAt P 65) .nil .nil) (.node (kAt P 97) .nil .nil)) (.node (o49_0 P) (.node (kAt P 81) .nil .nil) .nil)) (.node (o25_0 P) (.node (o41_0 P) (.node (o73_0 P) .nil .nil) (.node (kAt P 105) .nil .nil)) (.node (o57_0 P) (.node (o89_0 P) .nil .nil) .nil))) (.node (o13_0 P) (.node (kAt P 21) (.node (kAt P 37) (.node (kAt P 69) .nil .nil) (.node (kAt P 101) .nil .nil)) (.node (o53_0 P) (.node (fnD (kAt P 87)) .nil .nil) .nil)) (.node (kAt P 29) (.node (o45_0 P) (.node (kAt P 77) .nil .nil) .nil) (.node (o61_0 P) (.node (kAt P 93) .nil .nil) .nil))))) (.node (kAt P 2) (.node (boot_o_4 P) (.node (boot_o_8 P) (.node (o16_0 P) (.node (kAt P 32) (.node (kAt P 64) .nil .nil) (.node (o96_0 P) .nil .nil)) (.node (o48_0 P) (.node (kAt P 80) .nil .nil) .nil)) (.node (o24_0 P) (.node (kAt P 40) (.node (o72_0 P) .nil .nil) (.node (kAt P 104) .nil .nil)) (.node (o56_0 P) (.node (kAt P 88) .nil .nil) .nil))) (.node (o12_2 P) (.node (kAt P 20) (.node (kAt P 36) (.node (kAt P 68) .nil .nil) (.node (kAt P 100) .nil .nil)) (.node (kAt P 52) (.node (kAt P 84) .nil .nil) .nil)) (.node (o28_0 P) (.node (o44_0 P) (.node (kAt P 76) .nil .nil) (.node (kAt P 108) .nil .nil)) (.node (o60_0 P) (.node (fnD (kAt P 94)) .nil .nil) .nil)))) (.node (boot_o_6 P) (.node (boot_o_10 P) (.node (kAt P 18) (.node (fnD (kAt P 36)) (.node (fnD (kAt P 68)) .nil .nil) (.node (kAt P 98) .nil .nil)) (.node (kAt P 50) (.node (o82_0 P) .nil .nil) .nil)) (.node (o26_0 P) (.node (o42_0 P) (.node (kAt P 74) .nil .nil) (.node (fnD (kAt P 108)) .nil .nil)) (.node (o58_0 P) (.node (kAt P 90) .nil .nil) .nil))) (.node (o14_0 P) (.node (kAt P 22) (.node (kAt P 38) (.node (kAt P 70) .nil .nil) (.node (kAt P 102) .nil .nil)) (.node (o54_0 P) (.node (kAt P 86) .nil .nil) .nil)) (.node (kAt P 30) (.node (o46_0 P) (.node (fnD (kAt P 80)) .nil .nil) .nil) (.node (kAt P 62) (.node (kAt P 94) .nil .nil) .nil))))))
noncomputable def tree14 (P : Params) : BT := (.node (boot_o_0 P) (.node (boot_o_1 P) (.node (o3_2 P) (.node (boot_o_7 P) (.node (kAt P 15) (.node (o31_0 P) (.node (o63_0 P) (.node (fnD (kAt P 129)) .nil .nil) .nil) (.node (kAt P 95) (.node (kAt P 159) .nil .nil) .nil)) (.node (o47_0 P) (.node (kAt P 79) (.node (o143_0 P) .nil .nil) .nil) (.node (o111_0 P) (.node (o175_0 P) .nil .nil) .nil))) (.node (o23_0 P) (.node (kAt P 39) (.node (kAt P 71) (.node (kAt P 135) .nil .nil) .nil) (.node (o103_0 P) (.node (fnD (kAt P 169)) .nil .nil) .nil)) (.node (kAt P 55) (.node (kAt P 87) (.node (kAt P 151) .nil .nil) .nil) (.node (kAt P 119) .nil .nil)))) (.node (o11_0 P) (.node (fnD (kAt P 21)) (.node (kAt P 35) (.node (kAt P 67) (.node (o131_0 P) .nil .nil) .nil) (.node (fnD (kAt P 101)) (.node (kAt P 163) .nil .nil) .nil)) (.node (kAt P 51) (.node (kAt P 83) (.node (kAt P 147) .nil .nil) .nil) (.node (o115_0 P) .nil .nil))) (.node (o27_0 P) (.node (kAt P 43) (.node (o75_0 P) (.node (fnD (kAt P 141)) .nil .nil) .nil) (.node (kAt P 107) (.node (kAt P 171) .nil .nil) .nil)) (.node (o59_0 P) (.node (kAt P 91) (.node (kAt P 155) .nil .nil) .nil) (.node (kAt P 123) .nil .nil))))) (.node (boot_o_5 P) (.node (boot_o_9 P) (.node (kAt P 17) (.node (kAt P 33) (.node (kAt P 65) (.node (kAt P 129) .nil .nil) .nil) (.node (kAt P 97) (.node (kAt P 161) .nil .nil) .nil)) (.node (o49_0 P) (.node (kAt P 81) (.node (kAt P 145) .nil .nil) .nil) (.node (o113_0 P) .nil .nil))) (.node (o25_0 P) (.node (o41_0 P) (.node (o73_0 P) (.node (kAt P 137) .nil .nil) .nil) (.node (kAt P 105) (.node (kAt P 169) .nil .nil) .nil)) (.node (o57_0 P) (.node (o89_0 P) (.node (fnD (kAt P 155)) .nil .nil) .nil) (.node (kAt P 121) .nil .nil)))) (.node (o13_0 P) (.node (kAt P 21) (.node (kAt P 37) (.node (kAt P 69) (.node (kAt P 133) .nil .nil) .nil) (.node (kAt P 101) (.node (kAt P 165) .nil .nil) .nil)) (.node (o53_0 P) (.node (fnD (kAt P 87)) (.node (kAt P 149) .nil .nil) .nil) (.node (o117_0 P) .nil .nil))) (.node (kAt P 29) (.node (o45_0 P) (.node (kAt P 77) (.node (kAt P 141) .nil .nil) .nil) (.node (o109_0 P) (.node (kAt P 173) .nil .nil) .nil)) (.node (o61_0 P) (.node (kAt P 93) (.node (o157_0 P) .nil .nil) .nil) (.node (kAt P 125) .nil .nil)))))) (.node (kAt P 2) (.node (boot_o_4 P) (.node (boot_o_8 P) (.node (o16_0 P) (.node (kAt P 32) (.node (kAt P 64) (.node (kAt P 128) .nil .nil) .nil) (.node (o96_0 P) (.node (fnD (kAt P 162)) .nil .nil) .nil)) (.node (o48_0 P) (.node (kAt P 80) (.node (kAt P 144) .nil .nil) .nil) (.node (o112_0 P) (.node (o176_0 P) .nil .nil) .nil))) (.node (o24_0 P) (.node (kAt P 40) (.node (o72_0 P) (.node (kAt P 136) .nil .nil) .nil) (.node (kAt P 104) (.node (kAt P 168) .nil .nil) .nil)) (.node (o56_0 P) (.node (kAt P 88) (.node (kAt P 152) .nil .nil) .nil) (.node (fnD (kAt P 122)) .nil .nil)))) (.node (o12_3 P) (.node (kAt P 20) (.node (kAt P 36) (.node (kAt P 68) (.node (kAt P 132) .nil .nil) .nil) (.node (kAt P 100) (.node (o164_0 P) .nil .nil) .nil)) (.node (kAt P 52) (.node (kAt P 84) (.node (kAt P 148) .nil .nil) .nil) (.node (kAt P 116) .nil .nil))) (.node (o28_0 P) (.node (o44_0 P) (.node (kAt P 76) (.node (kAt P 140) .nil .nil) .nil) (.node (kAt P 108) (.node (kAt P 172) .nil .nil) .nil)) (.node (o60_0 P) (.node (fnD (kAt P 94)) (.node (kAt P 156) .nil .nil) .nil) (.node (o124_0 P) .nil .nil))))) (.node (boot_o_6 P) (.node (boot_o_10 P) (.node (kAt P 18) (.node (fnD (kAt P 36)) (.node (fnD (kAt P 68)) (.node (kAt P 130) .nil .nil) .nil) (.node (kAt P 98) (.node (kAt P 162) .nil .nil) .nil)) (.node (kAt P 50) (.node (o82_0 P) (.node (fnD (kAt P 148)) .nil .nil) .nil) (.node (o114_0 P) .nil .nil))) (.node (o26_0 P) (.node (o42_0 P) (.node (kAt P 74) (.node (o138_0 P) .nil .nil) .nil) (.node (fnD (kAt P 108)) (.node (kAt P 170) .nil .nil) .nil)) (.node (o58_0 P) (.node (kAt P 90) (.node (kAt P 154) .nil .nil) .nil) (.node (kAt P 122) .nil .nil)))) (.node (o14_0 P) (.node (kAt P 22) (.node (kAt P 38) (.node (kAt P 70) (.node (fnD (kAt P 136)) .nil .nil) .nil) (.node (kAt P 102) (.node (kAt P 166) .nil .nil) .nil)) (.node (o54_0 P) (.node (kAt P 86) (.node (o150_0 P) .nil .nil) .nil) (.node (kAt P 118) .nil .nil))) (.node (kAt P 30) (.node (o46_0 P) (.node (fnD (kAt P 80)) (.node (kAt P 142) .nil .nil) .nil) (.node (o110_0 P) (.node (kAt P 174) .nil .nil) .nil)) (.node (kAt P 62) (.node (kAt P 94) (.node (kAt P 158) .nil .nil) .nil) (.node (kAt P 126) .nil .nil)))))))
noncomputable def tree16 (P : Params) : BT := (.node (boot_o_0 P) (.node (boot_o_1 P) (.node (o3_3 P) (.node (boot_o_7 P) (.node (kAt P 15) (.node (o31_0 P) (.node (o63_0 P) (.node (fnD (kAt P 129)) .nil .nil) (.node (kAt P 191) .nil .nil)) (.node (kAt P 95) (.node (kAt P 159) .nil .nil) (.node (fnD (kAt P 225)) .nil .nil))) (.node (o47_0 P) (.node (kAt P 79) (.node (o143_0 P) .nil .nil) (.node (kAt P 207) .nil .nil)) (.node (o111_0 P) (.node (o175_0 P) .nil .nil) (.node (o239_0 P) .nil .nil)))) (.node (o23_0 P) (.node (kAt P 39) (.node (kAt P 71) (.node (kAt P 135) .nil .nil) (.node (o199_0 P) .nil .nil)) (.node (o103_0 P) (.node (fnD (kAt P 169)) .nil .nil) (.node (kAt P 231) .nil .nil))) (.node (kAt P 55) (.node (kAt P 87) (.node (kAt P 151) .nil .nil) (.node (kAt P 215) .nil .nil)) (.node (kAt P 119) (.node (o183_0 P) .nil .nil) .nil)))) (.node (o11_0 P) (.node (fnD (kAt P 21)) (.node (kAt P 35) (.node (kAt P 67) (.node (o131_0 P) .nil .nil) (.node (fnD (kAt P 197)) .nil .nil)) (.node (fnD (kAt P 101)) (.node (kAt P 163) .nil .nil) (.node (o227_0 P) .nil .nil))) (.node (kAt P 51) (.node (kAt P 83) (.node (kAt P 147) .nil .nil) (.node (kAt P 211) .nil .nil)) (.node (o115_0 P) (.node (o179_0 P) .nil .nil) .nil))) (.node (o27_0 P) (.node (kAt P 43) (.node (o75_0 P) (.node (fnD (kAt P 141)) .nil .nil) (.node (kAt P 203) .nil .nil)) (.node (kAt P 107) (.node (kAt P 171) .nil .nil) (.node (kAt P 235) .nil .nil))) (.node (o59_0 P) (.node (kAt P 91) (.node (kAt P 155) .nil .nil) (.node (kAt P 219) .nil .nil)) (.node (kAt P 123) (.node (kAt P 187) .nil .nil) .nil))))) (.node (boot_o_5 P) (.node (boot_o_9 P) (.node (kAt P 17) (.node (kAt P 33) (.node (kAt P 65) (.node (kAt P 129) .nil .nil) (.node (kAt P 193) .nil .nil)) (.node (kAt P 97) (.node (kAt P 161) .nil .nil) (.node (kAt P 225) .nil .nil))) (.node (o49_0 P) (.node (kAt P 81) (.node (kAt P 145) .nil .nil) (.node (fnD (kAt P 211)) .nil .nil)) (.node (o113_0 P) (.node (o177_0 P) .nil .nil) .nil))) (.node (o25_0 P) (.node (o41_0 P) (.node (o73_0 P) (.node (kAt P 137) .nil .nil) (.node (kAt P 201) .nil .nil)) (.node (kAt P 105) (.node (kAt P 169) .nil .nil) (.node (kAt P 233) .nil .nil))) (.node (o57_0 P) (.node (o89_0 P) (.node (fnD (kAt P 155)) .nil .nil) (.node (kAt P 217) .nil .nil)) (.node (kAt P 121) (.node (o185_0 P) .nil .nil) .nil)))) (.node (o13_0 P) (.node (kAt P 21) (.node (kAt P 37) (.node (kAt P 69) (.node (kAt P 133) .nil .nil) (.node (kAt P 197) .nil .nil)) (.node (kAt P 101) (.node (kAt P 165) .nil .nil) (.node (kAt P 229) .nil .nil))) (.node (o53_0 P) (.node (fnD (kAt P 87)) (.node (kAt P 149) .nil .nil) (.node (o213_0 P) .nil .nil)) (.node (o117_0 P) (.node (o181_0 P) .nil .nil) .nil))) (.node (kAt P 29) (.node (o45_0 P) (.node (kAt P 77) (.node (kAt P 141) .nil .nil) (.node (kAt P 205) .nil .nil)) (.node (o109_0 P) (.node (kAt P 173) .nil .nil) (.node (kAt P 237) .nil .nil))) (.node (o61_0 P) (.node (kAt P 93) (.node (o157_0 P) .nil .nil) (.node (kAt P 221) .nil .nil)) (.node (kAt P 125) (.node (kAt P 189) .nil .nil) .nil)))))) (.node (kAt P 2) (.node (boot_o_4 P) (.node (boot_o_8 P) (.node (o16_0 P) (.node (kAt P 32) (.node (kAt P 64) (.node (kAt P 128) .nil .nil) (.node (o192_0 P) .nil .nil)) (.node (o96_0 P) (.node (fnD (kAt P 162)) .nil .nil) (.node (kAt P 224) .nil .nil))) (.node (o48_0 P) (.node (kAt P 80) (.node (kAt P 144) .nil .nil) (.node (kAt P 208) .nil .nil)) (.node (o112_0 P) (.node (o176_0 P) .nil .nil) .nil))) (.node (o24_0 P) (.node (kAt P 40) (.node (o72_0 P) (.node (kAt P 136) .nil .nil) (.node (kAt P 200) .nil .nil)) (.node (kAt P 104) (.node (kAt P 168) .nil .nil) (.node (kAt P 232) .nil .nil))) (.node (o56_0 P) (.node (kAt P 88) (.node (kAt P 152) .nil .nil) (.node (fnD (kAt P 218)) .nil .nil)) (.node (fnD (kAt P 122)) (.node (kAt P 184) .nil .nil) .nil)))) (.node (o12_4 P) (.node (kAt P 20) (.node (kAt P 36) (.node (kAt P 68) (.node (kAt P 132) .nil .nil) (.node (kAt P 196) .nil .nil)) (.node (kAt P 100) (.node (o164_0 P) .nil .nil) (.node (kAt P 228) .nil .nil))) (.node (kAt P 52) (.node (kAt P 84) (.node (kAt P 148) .nil .nil) (.node (kAt P 212) .nil .nil)) (.node (kAt P 116) (.node (o180_0 P) .nil .nil) .nil))) (.node (o28_0 P) (.node (o44_0 P) (.node (kAt P 76) (.node (kAt P 140) .nil .nil) (.node (kAt P 204) .nil .nil)) (.node (kAt P 108) (.node (kAt P 172) .nil .nil) (.node (kAt P 236) .nil .nil))) (.node (o60_0 P) (.node (fnD (kAt P 94)) (.node (kAt P 156) .nil .nil) (.node (o220_0 P) .nil .nil)) (.node (o124_0 P) (.node (fnD (kAt P 190)) .nil .nil) .nil))))) (.node (boot_o_6 P) (.node (boot_o_10 P) (.node (kAt P 18) (.node (fnD (kAt P 36)) (.node (fnD (kAt P 68)) (.node (kAt P 130) .nil .nil) (.node (kAt P 194) .nil .nil)) (.node (kAt P 98) (.node (kAt P 162) .nil .nil) (.node (kAt P 226) .nil .nil))) (.node (kAt P 50) (.node (o82_0 P) (.node (fnD (kAt P 148)) .nil .nil) (.node (kAt P 210) .nil .nil)) (.node (o114_0 P) (.node (o178_0 P) .nil .nil) .nil))) (.node (o26_0 P) (.node (o42_0 P) (.node (kAt P 74) (.node (o138_0 P) .nil .nil) (.node (fnD (kAt P 204)) .nil .nil)) (.node (fnD (kAt P 108)) (.node (kAt P 170) .nil .nil) (.node (kAt P 234) .nil .nil))) (.node (o58_0 P) (.node (kAt P 90) (.node (kAt P 154) .nil .nil) (.node (kAt P 218) .nil .nil)) (.node (kAt P 122) (.node (kAt P 186) .nil .nil) .nil)))) (.node (o14_0 P) (.node (kAt P 22) (.node (kAt P 38) (.node (kAt P 70) (.node (fnD (kAt P 136)) .nil .nil) (.node (kAt P 198) .nil .nil)) (.node (kAt P 102) (.node (kAt P 166) .nil .nil) (.node (fnD (kAt P 232)) .nil .nil))) (.node (o54_0 P) (.node (kAt P 86) (.node (o150_0 P) .nil .nil) (.node (kAt P 214) .nil .nil)) (.node (kAt P 118) (.node (o182_0 P) .nil .nil) .nil))) (.node (kAt P 30) (.node (o46_0 P) (.node (fnD (kAt P 80)) (.node (kAt P 142) .nil .nil) (.node (o206_0 P) .nil .nil)) (.node (o110_0 P) (.node (kAt P 174) .nil .nil) (.node (o238_0 P) .nil .nil))) (.node (kAt P 62) (.node (kAt P 94) (.node (kAt P 158) .nil .nil) (.node (kAt P 222) .nil .nil)) (.node (kAt P 126) (.node (kAt P 190) .nil .nil) .nil)))))))
noncomputable def tree25 (P : Params) : BT := (.node (boot_o_0 P) (.node (boot_o_1 P) (.node (kAt P 3) (.node (boot_o_7 P) (.node (kAt P 15) (.node (o31_0 P) (.node (o63_0 P) (.node (fnD (kAt P 129)) (.node (fnD (kAt P 257)) .nil .nil) .nil) (.node (kAt P 191) .nil .nil)) (.node (kAt P 95) (.node (kAt P 159) (.node (o287_0 P) .nil .nil) .nil) (.node (fnD (kAt P 225)) .nil .nil))) (.node (o47_0 P) (.node (kAt P 79) (.node (o143_0 P) (.node (o271_0 P) .nil .nil) .nil) (.node (kAt P 207) .nil .nil)) (.node (o111_0 P) (.node (o175_0 P) (.node (kAt P 303) .nil .nil) .nil) (.node (o239_0 P) .nil .nil)))) (.node (o23_0 P) (.node (kAt P 39) (.node (kAt P 71) (.node (kAt P 135) (.node (kAt P 263) .nil .nil) .nil) (.node (o199_0 P) .nil .nil)) (.node (o103_0 P) (.node (fnD (kAt P 169)) (.node (kAt P 295) .nil .nil) .nil) (.node (kAt P 231) .nil .nil))) (.node (kAt P 55) (.node (kAt P 87) (.node (kAt P 151) (.node (kAt P 279) .nil .nil) .nil) (.node (kAt P 215) .nil .nil)) (.node (kAt P 119) (.node (o183_0 P) (.node (o311_0 P) .nil .nil) .nil) (.node (kAt P 247) .nil .nil))))) (.node (o11_0 P) (.node (fnD (kAt P 21)) (.node (kAt P 35) (.node (kAt P 67) (.node (o131_0 P) (.node (o259_0 P) .nil .nil) .nil) (.node (fnD (kAt P 197)) .nil .nil)) (.node (fnD (kAt P 101)) (.node (kAt P 163) (.node (kAt P 291) .nil .nil) .nil) (.node (o227_0 P) .nil .nil))) (.node (kAt P 51) (.node (kAt P 83) (.node (kAt P 147) (.node (kAt P 275) .nil .nil) .nil) (.node (kAt P 211) .nil .nil)) (.node (o115_0 P) (.node (o179_0 P) (.node (fnD (kAt P 309)) .nil .nil) .nil) (.node (o243_0 P) .nil .nil)))) (.node (o27_0 P) (.node (kAt P 43) (.node (o75_0 P) (.node (fnD (kAt P 141)) (.node (kAt P 267) .nil .nil) .nil) (.node (kAt P 203) .nil .nil)) (.node (kAt P 107) (.node (kAt P 171) (.node (kAt P 299) .nil .nil) .nil) (.node (kAt P 235) .nil .nil))) (.node (o59_0 P) (.node (kAt P 91) (.node (kAt P 155) (.node (fnD (kAt P 285)) .nil .nil) .nil) (.node (kAt P 219) .nil .nil)) (.node (kAt P 123) (.node (kAt P 187) (.node (kAt P 315) .nil .nil) .nil) (.node (kAt P 251) .nil .nil)))))) (.node (boot_o_5 P) (.node (boot_o_9 P) (.node (kAt P 17) (.node (kAt P 33) (.node (kAt P 65) (.node (kAt P 129) (.node (kAt P 257) .nil .nil) .nil) (.node (kAt P 193) .nil .nil)) (.node (kAt P 97) (.node (kAt P 161) (.node (kAt P 289) .nil .nil) .nil) (.node (kAt P 225) .nil .nil))) (.node (o49_0 P) (.node (kAt P 81) (.node (kAt P 145) (.node (o273_0 P) .nil .nil) .nil) (.node (fnD (kAt P 211)) .nil .nil)) (.node (o113_0 P) (.node (o177_0 P) (.node (kAt P 305) .nil .nil) .nil) (.node (o241_0 P) .nil .nil)))) (.node (o25_0 P) (.node (o41_0 P) (.node (o73_0 P) (.node (kAt P 137) (.node (kAt P 265) .nil .nil) .nil) (.node (kAt P 201) .nil .nil)) (.node (kAt P 105) (.node (kAt P 169) (.node (o297_0 P) .nil .nil) .nil) (.node (kAt P 233) .nil .nil))) (.node (o57_0 P) (.node (o89_0 P) (.node (fnD (kAt P 155)) (.node (kAt P 281) .nil .nil) .nil) (.node (kAt P 217) .nil .nil)) (.node (kAt P 121) (.node (o185_0 P) (.node (kAt P 313) .nil .nil) .nil) (.node (kAt P 249) .nil .nil))))) (.node (o13_0 P) (.node (kAt P 21) (.node (kAt P 37) (.node (kAt P 69) (.node (kAt P 133) (.node (kAt P 261) .nil .nil) .nil) (.node (kAt P 197) .nil .nil)) (.node (kAt P 101) (.node (kAt P 165) (.node (fnD (kAt P 295)) .nil .nil) .nil) (.node (kAt P 229) .nil .nil))) (.node (o53_0 P) (.node (fnD (kAt P 87)) (.node (kAt P 149) (.node (kAt P 277) .nil .nil) .nil) (.node (o213_0 P) .nil .nil)) (.node (o117_0 P) (.node (o181_0 P) (.node (kAt P 309) .nil .nil) .nil) (.node (o245_0 P) .nil .nil)))) (.node (kAt P 29) (.node (o45_0 P) (.node (kAt P 77) (.node (kAt P 141) (.node (kAt P 269) .nil .nil) .nil) (.node (kAt P 205) .nil .nil)) (.node (o109_0 P) (.node (kAt P 173) (.node (kAt P 301) .nil .nil) .nil) (.node (kAt P 237) .nil .nil))) (.node (o61_0 P) (.node (kAt P 93) (.node (o157_0 P) (.node (kAt P 285) .nil .nil) .nil) (.node (kAt P 221) .nil .nil)) (.node (kAt P 125) (.node (kAt P 189) .nil .nil) (.node (kAt P 253) .nil .nil))))))) (.node (kAt P 2) (.node (boot_o_4 P) (.node (boot_o_8 P) (.node (o16_0 P) (.node (kAt P 32) (.node (kAt P 64) (.node (kAt P 128) (.node (kAt P 256) .nil .nil) .nil) (.node (o192_0 P) .nil .nil)) (.node (o96_0 P) (.node (fnD (kAt P 162)) (.node (fnD (kAt P 290)) .nil .nil) .nil) (.node (kAt P 224) .nil .nil))) (.node (o48_0 P) (.node (kAt P 80) (.node (kAt P 144) (.node (kAt P 272) .nil .nil) .nil) (.node (kAt P 208) .nil .nil)) (.node (o112_0 P) (.node (o176_0 P) (.node (o304_0 P) .nil .nil) .nil) (.node (o240_0 P) .nil .nil)))) (.node (o24_0 P) (.node (kAt P 40) (.node (o72_0 P) (.node (kAt P 136) (.node (kAt P 264) .nil .nil) .nil) (.node (kAt P 200) .nil .nil)) (.node (kAt P 104) (.node (kAt P 168) (.node (kAt P 296) .nil .nil) .nil) (.node (kAt P 232) .nil .nil))) (.node (o56_0 P) (.node (kAt P 88) (.node (kAt P 152) (.node (o280_0 P) .nil .nil) .nil) (.node (fnD (kAt P 218)) .nil .nil)) (.node (fnD (kAt P 122)) (.node (kAt P 184) (.node (kAt P 312) .nil .nil) .nil) (.node (kAt P 248) .nil .nil))))) (.node (o12_5 P) (.node (kAt P 20) (.node (kAt P 36) (.node (kAt P 68) (.node (kAt P 132) (.node (kAt P 260) .nil .nil) .nil) (.node (kAt P 196) .nil .nil)) (.node (kAt P 100) (.node (o164_0 P) (.node (o292_0 P) .nil .nil) .nil) (.node (kAt P 228) .nil .nil))) (.node (kAt P 52) (.node (kAt P 84) (.node (kAt P 148) (.node (fnD (kAt P 278)) .nil .nil) .nil) (.node (kAt P 212) .nil .nil)) (.node (kAt P 116) (.node (o180_0 P) (.node (kAt P 308) .nil .nil) .nil) (.node (o244_0 P) .nil .nil)))) (.node (o28_0 P) (.node (o44_0 P) (.node (kAt P 76) (.node (kAt P 140) (.node (kAt P 268) .nil .nil) .nil) (.node (kAt P 204) .nil .nil)) (.node (kAt P 108) (.node (kAt P 172) (.node (fnD (kAt P 302)) .nil .nil) .nil) (.node (kAt P 236) .nil .nil))) (.node (o60_0 P) (.node (fnD (kAt P 94)) (.node (kAt P 156) (.node (kAt P 284) .nil .nil) .nil) (.node (o220_0 P) .nil .nil)) (.node (o124_0 P) (.node (fnD (kAt P 190)) (.node (kAt P 316) .nil .nil) .nil) (.node (o252_0 P) .nil .nil)))))) (.node (boot_o_6 P) (.node (boot_o_10 P) (.node (kAt P 18) (.node (fnD (kAt P 36)) (.node (fnD (kAt P 68)) (.node (kAt P 130) (.node (kAt P 258) .nil .nil) .nil) (.node (kAt P 194) .nil .nil)) (.node (kAt P 98) (.node (kAt P 162) (.node (kAt P 290) .nil .nil) .nil) (.node (kAt P 226) .nil .nil))) (.node (kAt P 50) (.node (o82_0 P) (.node (fnD (kAt P 148)) (.node (kAt P 274) .nil .nil) .nil) (.node (kAt P 210) .nil .nil)) (.node (o114_0 P) (.node (o178_0 P) (.node (kAt P 306) .nil .nil) .nil) (.node (o242_0 P) .nil .nil)))) (.node (o26_0 P) (.node (o42_0 P) (.node (kAt P 74) (.node (o138_0 P) (.node (kAt P 266) .nil .nil) .nil) (.node (fnD (kAt P 204)) .nil .nil)) (.node (fnD (kAt P 108)) (.node (kAt P 170) (.node (kAt P 298) .nil .nil) .nil) (.node (kAt P 234) .nil .nil))) (.node (o58_0 P) (.node (kAt P 90) (.node (kAt P 154) (.node (kAt P 282) .nil .nil) .nil) (.node (kAt P 218) .nil .nil)) (.node (kAt P 122) (.node (kAt P 186) (.node (fnD (kAt P 316)) .nil .nil) .nil) (.node (kAt P 250) .nil .nil))))) (.node (o14_0 P) (.node (kAt P 22) (.node (kAt P 38) (.node (kAt P 70) (.node (fnD (kAt P 136)) (.node (fnD (kAt P 264)) .nil .nil) .nil) (.node (kAt P 198) .nil .nil)) (.node (kAt P 102) (.node (kAt P 166) (.node (kAt P 294) .nil .nil) .nil) (.node (fnD (kAt P 232)) .nil .nil))) (.node (o54_0 P) (.node (kAt P 86) (.node (o150_0 P) (.node (kAt P 278) .nil .nil) .nil) (.node (kAt P 214) .nil .nil)) (.node (kAt P 118) (.node (o182_0 P) (.node (kAt P 310) .nil .nil) .nil) (.node (o246_0 P) .nil .nil)))) (.node (kAt P 30) (.node (o46_0 P) (.node (fnD (kAt P 80)) (.node (kAt P 142) (.node (o270_0 P) .nil .nil) .nil) (.node (o206_0 P) .nil .nil)) (.node (o110_0 P) (.node (kAt P 174) (.node (kAt P 302) .nil .nil) .nil) (.node (o238_0 P) .nil .nil))) (.node (kAt P 62) (.node (kAt P 94) (.node (kAt P 158) (.node (kAt P 286) .nil .nil) .nil) (.node (kAt P 222) .nil .nil)) (.node (kAt P 126) (.node (kAt P 190) .nil .nil) (.node (kAt P 254) .nil .nil))))))))
noncomputable def heapF (P : Params) : Heap := ⟨⟨[boot_o_0 P, boot_o_1 P, kAt P 2, kAt P 3, boot_o_4 P, boot_o_5 P, boot_o_6 P, boot_o_7 P, boot_o_8 P, boot_o_9 P, boot_o_10 P, o11_0 P, o12_5 P, o13_0 P, o14_0 P, kAt P 15, o16_0 P, kAt P 17, kAt P 18, fnD (kAt P 21), kAt P 20, kAt P 21, kAt P 22, o23_0 P, o24_0 P, o25_0 P, o26_0 P, o27_0 P, o28_0 P, kAt P 29, kAt P 30, o31_0 P, kAt P 32, kAt P 33, fnD (kAt P 36), kAt P 35, kAt P 36, kAt P 37, kAt P 38, kAt P 39, kAt P 40, o41_0 P, o42_0 P, kAt P 43, o44_0 P, o45_0 P, o46_0 P, o47_0 P, o48_0 P, o49_0 P, kAt P 50, kAt P 51, kAt P 52, o53_0 P, o54_0 P, kAt P 55, o56_0 P, o57_0 P, o58_0 P, o59_0 P, o60_0 P, o61_0 P, kAt P 62, o63_0 P, kAt P 64, kAt P 65, fnD (kAt P 68), kAt P 67, kAt P 68, kAt P 69, kAt P 70, kAt P 71, o72_0 P, o73_0 P, kAt P 74, o75_0 P, kAt P 76, kAt P 77, fnD (kAt P 80), kAt P 79, kAt P 80, kAt P 81, o82_0 P, kAt P 83, kAt P 84, fnD (kAt P 87), kAt P 86, kAt P 87, kAt P 88, o89_0 P, kAt P 90, kAt P 91, fnD (kAt P 94), kAt P 93, kAt P 94, kAt P 95, o96_0 P, kAt P 97, kAt P 98, fnD (kAt P 101), kAt P 100, kAt P 101, kAt P 102, o103_0 P, kAt P 104, kAt P 105, fnD (kAt P 108), kAt P 107, kAt P 108, o109_0 P, o110_0 P, o111_0 P, o112_0 P, o113_0 P, o114_0 P, o115_0 P, kAt P 116, o117_0 P, kAt P 118, kAt P 119, fnD (kAt P 122), kAt P 121, kAt P 122, kAt P 123, o124_0 P, kAt P 125, kAt P 126, fnD (kAt P 129), kAt P 128, kAt P 129, kAt P 130, o131_0 P, kAt P 132, kAt P 133, fnD (kAt P 136), kAt P 135, kAt P 136, kAt P 137, o138_0 P, fnD (kAt P 141), kAt P 140, kAt P 141, kAt P 142, o143_0 P, kAt P 144, kAt P 145, fnD (kAt P 148), kAt P 147, kAt P 148, kAt P 149, o150_0 P, kAt P 151, kAt P 152, fnD (kAt P 155), kAt P 154, kAt P 155, kAt P 156, o157_0 P, kAt P 158, kAt P 159, fnD (kAt P 162), kAt P 161, kAt P 162, kAt P 163, o164_0 P, kAt P 165, kAt P 166, fnD (kAt P 169), kAt P 168, kAt P 169, kAt P 170, kAt P 171, kAt P 172, kAt P 173, kAt P 174, o175_0 P, o176_0 P, o177_0 P, o178_0 P, o179_0 P, o180_0 P, o181_0 P, o182_0 P, o183_0 P, kAt P 184, o185_0 P, kAt P 186, kAt P 187, fnD (kAt P 190), kAt P 189, kAt P 190, kAt P 191, o192_0 P, kAt P 193, kAt P 194, fnD (kAt P 197), kAt P 196, kAt P 197, kAt P 198, o199_0 P, kAt P 200, kAt P 201, fnD (kAt P 204), kAt P 203, kAt P 204, kAt P 205, o206_0 P, kAt P 207, kAt P 208, fnD (kAt P 211), kAt P 210, kAt P 211, kAt P 212, o213_0 P, kAt P 214, kAt P 215, fnD (kAt P 218), kAt P 217, kAt P 218, kAt P 219, o220_0 P, kAt P 221, kAt P 222, fnD (kAt P 225), kAt P 224, kAt P 225, kAt P 226, o227_0 P, kAt P 228, kAt P 229, fnD (kAt P 232), kAt P 231, kAt P 232, kAt P 233, kAt P 234, kAt P 235, kAt P 236, kAt P 237, o238_0 P, o239_0 P, o240_0 P, o241_0 P, o242_0 P, o243_0 P, o244_0 P, o245_0 P, o246_0 P, kAt P 247, kAt P 248, kAt P 249, kAt P 250, kAt P 251, o252_0 P, kAt P 253, kAt P 254, fnD (kAt P 257), kAt P 256, kAt P 257, kAt P 258, o259_0 P, kAt P 260, kAt P 261, fnD (kAt P 264), kAt P 263, kAt P 264, kAt P 265, kAt P 266, kAt P 267, kAt P 268, kAt P 269, o270_0 P, o271_0 P, kAt P 272, o273_0 P, kAt P 274, kAt P 275, fnD (kAt P 278), kAt P 277, kAt P 278, kAt P 279, o280_0 P, kAt P 281, kAt P 282, fnD (kAt P 285), kAt P 284, kAt P 285, kAt P 286, o287_0 P, fnD (kAt P 290), kAt P 289, kAt P 290, kAt P 291, o292_0 P, fnD (kAt P 295), kAt P 294, kAt P 295, kAt P 296, o297_0 P, kAt P 298, kAt P 299, fnD (kAt P 302), kAt P 301, kAt P 302, kAt P 303, o304_0 P, kAt P 305, kAt P 306, fnD (kAt P 309), kAt P 308, kAt P 309, kAt P 310, o311_0 P, kAt P 312, kAt P 313, fnD (kAt P 316), kAt P 315, kAt P 316]⟩, { }⟩
noncomputable abbrev topProg : Program := PySem.Challenge.pw_pq0693_01
noncomputable def topBody : List Stmt := behindTheImports topProg
noncomputable def topEnv : Env := { scope := topProg.main.scope, locals := mainNs, globals := mainNs, cells := [], code := Value.ref 13, frame := some 14 }
noncomputable abbrev topCode : Code := .body topBody topEnv
abbrev topPos : Pos := ⟨0, 0, 0, 0⟩
noncomputable abbrev topSt (h : Heap) (n : Nat) (os : OsState) : Shared := ⟨h, ⟨[]⟩, {}, n, os⟩
noncomputable abbrev topStT (t : BT) (k n : Nat) (os : OsState) : SharedT := ⟨t, k, {}, ⟨[]⟩, {}, n, os⟩
noncomputable def topS1 : List Stmt := topBody.take 4
noncomputable def topS2 : List Stmt := (topBody.drop 4).take 10
noncomputable def topS3 : List Stmt := (topBody.drop 14).take 1
noncomputable def topS4 : List Stmt := (topBody.drop 15).take 2
noncomputable def topS5 : List Stmt := topBody.drop 17
theorem body_cut : topBody = topS1 ++ (topS2 ++ (topS3 ++ (topS4 ++ (topS5 ++ [])))) := by kernel_rfl
theorem top_open (w : World) : (fencedOpening treeTable topProg w 4694).map (fun s => (s.heap, s.gens, s.drawn, s.toks)) = some (boot_heap w.params, Array.mk [], boot_drawn, boot_toks) :=
  boot_open (by kernel_rfl) (by decide) (fun s => by kernel_rfl) w
theorem top_size (w : World) : ((boot_heap w.params).isNs mainGlobals && (Array.mk ([] : List GenState)).size == 0, (boot_heap w.params).objs.size, (boot_heap w.params).nsMap mainGlobals "__annotations__") = (true, 11, some (Value.ref 6)) := by kernel_rfl
theorem top_pre (w : World) (os : OsState) : topGo treeTable topProg w 11 (some (Value.ref 6)) 12 ⟨boot_heap w.params, Array.mk [], boot_drawn, boot_toks, os⟩ (topStub topProg) = some (topSt (heapA w.params) 187 os, ⟨denote treeTable topCode, topCode, topPos, [topFrame topPos]⟩) := by kernel_rfl
theorem top_block (w : World) (os : OsState) : segRun treeTable topProg w 11 (some (Value.ref 6)) 1 1 (topSt (heapA w.params) 187 os) (blockOf topBody topEnv topCode topPos [topFrame topPos]) = some (.next, (topStT (treeB w.params) 15 187 os).abs, topCode, topPos) := by kernel_rfl
theorem top_p1 (w : World) (os : OsState) : segRunT treeTable topProg w 11 (some (Value.ref 6)) 1 483 (topStT (treeB w.params) 15 187 os) (piecesOf topS1 topEnv topCode topPos [topFrame topPos]) = some (.next, topStT (tree3 w.params) 55 243 os, topCode, ⟨11, 0, 12, 8⟩) := by
  unfold piecesOf
  first
    | (rw [PySem.W.Fast.te10110043849684766642, PySem.W.Fast.te14364793385576792824, PySem.W.Fast.te12563942051412417395]; kernel_rfl)
    | kernel_rfl
theorem top_p2 (w : World) (os : OsState) : segRunT treeTable topProg w 11 (some (Value.ref 6)) 1 431 (topStT (tree3 w.params) 55 243 os) (piecesOf topS2 topEnv topCode ⟨11, 0, 12, 8⟩ [topFrame topPos]) = some (.next, topStT (tree13 w.params) 109 315 os, topCode, ⟨37, 0, 37, 11⟩) := by
  unfold piecesOf
  first
    | (rw [PySem.W.Fast.te10110043849684766642, PySem.W.Fast.te14364793385576792824, PySem.W.Fast.te12563942051412417395]; kernel_rfl)
    | kernel_rfl
theorem top_p3 (w : World) (os : OsState) : segRunT treeTable topProg w 11 (some (Value.ref 6)) 1 456 (topStT (tree13 w.params) 109 315 os) (piecesOf topS3 topEnv topCode ⟨37, 0, 37, 11⟩ [topFrame topPos]) = some (.next, topStT (tree14 w.params) 177 411 os, topCode, ⟨38, 0, 78, 19⟩) := by
  unfold piecesOf
  first
    | (rw [PySem.W.Fast.te10110043849684766642, PySem.W.Fast.te14364793385576792824, PySem.W.Fast.te12563942051412417395]; kernel_rfl)
    | kernel_rfl
theorem top_p4 (w : World) (os : OsState) : segRunT treeTable topProg w 11 (some (Value.ref 6)) 1 420 (topStT (tree14 w.params) 177 411 os) (piecesOf topS4 topEnv topCode ⟨38, 0, 78, 19⟩ [topFrame topPos]) = some (.next, topStT (tree16 w.params) 240 486 os, topCode, ⟨103, 0, 103, 8⟩) := by
  unfold piecesOf
  first
    | (rw [PySem.W.Fast.te10110043849684766642, PySem.W.Fast.te14364793385576792824, PySem.W.Fast.te12563942051412417395]; kernel_rfl)
    | kernel_rfl
theorem top_p5 (w : World) (os : OsState) : segRunT treeTable topProg w 11 (some (Value.ref 6)) 1 499 (topStT (tree16 w.params) 240 486 os) (piecesOf topS5 topEnv topCode ⟨103, 0, 103, 8⟩ [topFrame topPos]) = some (.next, topStT (tree25 w.params) 317 603 os, topCode, ⟨170, 0, 178, 15⟩) := by
  unfold piecesOf
  first
    | (rw [PySem.W.Fast.te10110043849684766642, PySem.W.Fast.te14364793385576792824, PySem.W.Fast.te12563942051412417395]; kernel_rfl)
    | kernel_rfl
theorem top_fin (w : World) (os : OsState) : topRun treeTable topProg w 11 (some (Value.ref 6)) 2 (topStT (tree25 w.params) 317 603 os).abs ⟨doneF .next, topCode, ⟨170, 0, 178, 15⟩, [topFrame topPos]⟩ = some (topSt (heapF w.params) 603 os) := by kernel_rfl
theorem top_run (w : World) (os : OsState) : topRun treeTable topProg w 11 (some (Value.ref 6)) (12 + (1 + (483 + (431 + (456 + (420 + (499 + 2))))))) ⟨boot_heap w.params, Array.mk [], boot_drawn, boot_toks, os⟩ (topStub topProg) = some (topSt (heapF w.params) 603 os) := by
  refine go_top (top_pre w os) (piece_block (top_block w os) ?_)
  rw [body_cut]
  exact piece_app (segRun_of (top_p1 w os)) (piece_app (segRun_of (top_p2 w os)) (piece_app (segRun_of (top_p3 w os)) (piece_app (segRun_of (top_p4 w os)) (piece_app (segRun_of (top_p5 w os)) (piece_nil (top_fin w os))))))
/-- the addresses of the written part -/
def topAddrs : List Addr := [2, 3, 15, 17, 18, 20, 21, 22, 29, 30, 32, 33, 35, 36, 37, 38, 39, 40, 43, 50, 51, 52, 55, 62, 64, 65, 67, 68, 69, 70, 71, 74, 76, 77, 79, 80, 81, 83, 84, 86, 87, 88, 90, 91, 93, 94, 95, 97, 98, 100, 101, 102, 104, 105, 107, 108, 116, 118, 119, 121, 122, 123, 125, 126, 128, 129, 130, 132, 133, 135, 136, 137, 140, 141, 142, 144, 145, 147, 148, 149, 151, 152, 154, 155, 156, 158, 159, 161, 162, 163, 165, 166, 168, 169, 170, 171, 172, 173, 174, 184, 186, 187, 189, 190, 191, 193, 194, 196, 197, 198, 200, 201, 203, 204, 205, 207, 208, 210, 211, 212, 214, 215, 217, 218, 219, 221, 222, 224, 225, 226, 228, 229, 231, 232, 233, 234, 235, 236, 237, 247, 248, 249, 250, 251, 253, 254, 256, 257, 258, 260, 261, 263, 264, 265, 266, 267, 268, 269, 272, 274, 275, 277, 278, 279, 281, 282, 284, 285, 286, 289, 290, 291, 294, 295, 296, 298, 299, 301, 302, 303, 305, 306, 308, 309, 310, 312, 313, 315, 316]
theorem as_ok : ∀ P, topAddrs = (hd.heap_1 P).map (·.1) := fun _ => by kernel_rfl
abbrev topLoose : List PySem.Str := [PySem.Str.ofString "RowsError", PySem.Str.ofString "Code"]
noncomputable abbrev topX : Shared → Bool := fun s => xlAt hd.view_1 [] s && recOk (RowW.records (OpenRow.toRowW PySem.Challenge.rw_pq0693_01.row)) s
noncomputable abbrev topHook : Hook := kHook hd.heap_1 topAddrs as_ok
theorem look_a (w : World) (os : OsState) : (staticsOk (importedModules topProg.main.body) (boot_heap w.params) (heapF w.params) && namesBound topProg (heapF w.params) && gensDone (topSt (heapF w.params) 603 os) && laidKept (boot_heap w.params) (heapF w.params)) = true := by kernel_rfl
theorem look_b (w : World) (os : OsState) : openSeen hd.view_1 topLoose (importedModules topProg.main.body) topX true (topSt (heapF w.params) 603 os) = openGood hd.view_1 topLoose := by kernel_rfl
theorem look_c (w : World) (os : OsState) : topHook.obs (topSt (heapF w.params) 603 os) = topHook.val w := by kernel_rfl
theorem left : LeftO topProg hd.view_1 topLoose topX topHook.obs topHook.val 4694 :=
  LeftO.of_pieces (H₁ := heapF) top_open top_size top_run (by decide) fun w => funext fun os => Prod.ext (look_a w os) (Prod.ext (look_b w os) (look_c w os))
end

-- part Law
section
open PySem.Calls
local macro_rules | `(tactic| k_lt $h) => `(tactic| (replace $h := allLt_of $h; (try simp only [AllLt, and_true] at $h:ident)))
local macro_rules | `(tactic| k_qdec) => `(tactic| decide +kernel)
local macro_rules | `(tactic| walk_at "call ref") => `(tactic| ((show wpAny _ _ (call (Value.ref 278) _) _ _ _); refine stop_in ?_))
local macro_rules | `(tactic| walk_at "pyIter ref") => `(tactic| (refine stop_in ?_))
local macro_rules | `(tactic| walk_at "TurnEnd2") => `(tactic| (refine stop_in ?_))
set_option maxHeartbeats 8000000 in
theorem law_holds : PySem.Challenge.rw_pq0693_01.Holds := by
  w_on
  refine holds_law (by decide +kernel) fun said => ?_
  refine holds_open (q := hd.view_1) (loose := topLoose) (Xt := topX) (XP := XL hd.view_1 []) (Yf := Hook.obs topHook) (Ya := Hook.val topHook) (YP := Hook.says topHook) (N := 4694) left (Hook.of topHook) (Hook.keeps topHook) (fun s e => xl_of s (Bool.and_eq_true_iff.mp e).1) XL.keeps (by rfl) (by rfl) (by rfl) (fun s e => recFacts_of (Bool.and_eq_true_iff.mp e).2) (by rfl) said (by decide +kernel) ⟨rfl, rfl, rfl, rfl, rfl, by decide +kernel⟩ ?hw ?hc
  case hw => w_witness2
  clear said
  k_go0
  all_goals try k_fold
  k_steps
  unfold Stop
  k_dflt (refine' source_c ?k1 ?k2 ?k3 ?k4 ?k5 ?kK ?kd ?ku ?kl ?ki ?kn ?_; (case k1 => first | assumption | k_asm); (case k2 => k_asm); (case k3 => k_asm); (case k4 => first | k_asm | exact News.nil); (case k5 => k_asm); (case kK => exact rfl); (case kl => assumption); (case ki => assumption); (case kn => omega); (case kd => ((show _ < 500); (try simp only [depth_under_make, depth_under_kw, depth_in1, depth_deeper, depth_caller]); (try dsimp only [ktrTop]); omega)); (case ku => ((show _ < 5000); (try simp only [units_in1, units_deeper, units_caller, Around.mark_units]); (try dsimp only [ktrTop]); omega)))
  intro src a₀ ta₀ b₀ tb₀ h' tk' F' N' l0 hb0 hb1
  k_steps
  rename World => w
  rename News _ _ _ _ => NL
  obtain ⟨ol, rl, f, fd, q1, q2, q3, q4⟩ := names_law NL
  dsimp only at q1 q2 q3 q4
  subst q1 q2 q3 q4
  have hl : ∀ {t : Tok} {n : Nat}, ∀ p ∈ (ol, listOf ([] : List Value).toArray 0) :: (rl, listOf ([] : List Value).toArray 0) :: (f, instObj 235 fd) :: [(fd, framesD w t rl)], p.1 ≠ src := fun {t n} p hp => by
    simp only [List.mem_cons, List.not_mem_nil, or_false] at hp
    rcases hp with rfl | rfl | rfl | rfl <;> (refine neN ?_; dsimp only; omega)
  (try unfold Stop); k_dflt (refine' Tell.use (digit_c (by decide) (by decide) hb0 hb1 (hl (n := 0))) ?k1 ?k2 ?k3 ?k4 ?k5 ?kK ?kd ?ku ?ks ?_; (case k1 => k_asm); (case k2 => k_asm); (case k3 => k_asm); (case k4 => k_asm); (case k5 => k_asm); (case kK => first | exact rfl | assumption); (case kd => ((show _ < 500); (try simp only [depth_under_make, depth_under_kw, depth_in1, depth_deeper, depth_caller]); (try dsimp only [ktrTop]); omega)); (case ku => ((show _ < 5000); (try simp only [units_in1, units_deeper, Around.mark_units, units_caller]); (try dsimp only [ktrTop]); omega)); (case ks => exact mem_front))
  rintro r news' h' tk' F' N' ⟨turns, tt, a₁, ta₁, b₁, tb₁, n₁, rfl, hd0, hd1, hc0, hc1, rfl⟩
  k_steps
  unfold Stop
  rename News _ _ _ _ => NL
  rename Fr _ _ _ _ => FL
  obtain ⟨NS, SS⟩ := start_st (hne := by omega) hc0 hc1 NL
  clear NL
  k_dflt (refine law_range (LawJ w f fd rl src _ _) (by rfl) (by assumption) (small_one (by omega) (by omega) (by omega) (by omega)) (rangeSize_nat _ _) FL NS (lawJ_start SS (.head _) (by rfl)) ?_ ?_)
  · rintro i k t m₁ news₁ h tk I oI hi hcI J hI F₁ N₁
    k_dflt (refine' law_turn ?te ?tB ?tX ?tT ?tm1 ?tm2 ?th hcI J hI F₁ N₁; (case te => k_is); (case tB => assumption); (case tX => assumption); (case tT => assumption); (case tm1 => exact rfl); (case tm2 => exact rfl); (case th => omega))
  · rintro m₁ news₁ h tk ⟨frs, fs, imm, ov, S, dat, l6, hsz, mo, mz⟩ F₁ N₁
    k_steps
end

end
end
end
end Mine

theorem PySem.Challenge.cw_pq0693_01_holds : PySem.Challenge.rw_pq0693_01.Holds :=
  Mine.law_holds
