import PyProof.Rows.All
import Wide.All
import OpenK.AllK
import Wide.FinOn
import PySem.Challenge.RW_nn0112_01
open PySem PySem.W PyProof.Rows
set_option Elab.async false

-- part H0
open PySem PySem.W PyProof.Rows
namespace Mine
set_option maxRecDepth 100000 in
set_option maxHeartbeats 8000000 in
open_top hd for PySem.Challenge.rw_nn0112_01
end Mine

-- part D1
open PySem PySem.W PyProof.Rows
namespace Mine
theorem item_ints {prog : Program} {w : World} {A : Around} {E : Value → Shared → Prop} {s : Shared} {value slice : PySem.Expr} {l : Addr} {vs : List Value} {ns : List Int} {k : Int} {u : Tok} {Q : Value → Shared → Prop}
    (hl : s.heap.IsList l vs.toArray) (hi : IntsAre vs ns) (h0 : 0 ≤ k) (hk : k < ns.length) (hsz : ns.length < 2 ^ 30)
    (h : ∀ v t, ns[k.toNat]? = some v → Q (.int v t) s)
    (hs : subscripted slice false (.ref l) (.int k u) = operate [.ref l, .int k u] (getItem (.ref l) (.int k u))) :
    wpAny (model prog w) A (subscriptTail value slice (.ref l) (.int k u)) Q E s := by
  have hlt : k.toNat < ns.length := by omega
  obtain ⟨t, hx⟩ := hi.get k.toNat ns[k.toNat] (by simp [hlt])
  have hx' : vs.toArray[k.toNat]? = some (.int ns[k.toNat] t) := by simpa using hx
  have hq : Q (.int ns[k.toNat] t) s := h _ t (by simp [hlt])
  have hhi : k < 2 ^ 63 := by omega
  exact tail_any hl.typeIs slot_list_getitem.lookup (wpAny_getItem_list hl h0 hhi hx' hq) hs

section
variable {prog : Program} {w : World} {A : Around} {E : Value → Shared → Prop} {s : Shared} {a b : Int} {t u : Tok} {Q : Value → Shared → Prop}
theorem modg (hb : 0 < b) (h : ∀ r : Int, 0 ≤ r → r < b → Q (.int r s.toks) { s with toks := s.toks + 1 }) : wpAny (model prog w) A (binaryOp .Mod (.int a t) (.int b u)) Q E s :=
  mod_int' (by omega) (h _ (Int.fmod_nonneg_of_pos _ hb) (Int.fmod_lt_of_pos _ hb))
theorem divg (ha : 0 ≤ a) (hb : 0 < b) (hb2 : b < 1073741824) (h : ∀ r : Int, 0 ≤ r → Q (.int r s.toks) { s with toks := s.toks + 1 }) : wpAny (model prog w) A (binaryOp .FloorDiv (.int a t) (.int b u)) Q E s :=
  floordiv_int (by omega) (h _ (Int.fdiv_nonneg ha (by omega))) (.inl (PyProof.noPylong_small (by omega)))
theorem pow3g (ha : a.natAbs < 2 ^ 64) (h : ∀ r : Int, Q (.int r s.toks) { s with toks := s.toks + 1 }) : wpAny (model prog w) A (binaryOp .Pow (.int a t) (.int 3 u)) Q E s :=
  pow_int_small (by decide) (by decide) ha (h _)
theorem absg (h : ∀ u tk, Q (.int a.natAbs u) { s with toks := tk }) : wpAny (model prog w) A (call (.builtin "abs") [.int a t]) Q E s :=
  call_abs_int fun u tk => by
    have e : (if a < 0 then -a else a) = (a.natAbs : Int) := by split <;> omega
    rw [e]; exact h u tk
end
theorem bnd1 {r p : Int} (h0 : 0 ≤ r) (h1 : r < 2147483629) (h2 : 0 ≤ p) (h3 : p < 1000) : (r + 40503 * p + 977).natAbs < 2 ^ 64 := by omega
theorem bnd2 {r p : Int} (h0 : 0 ≤ r) (h1 : r < 2147483587) (h2 : 0 ≤ p) (h3 : p < 1000) : (r * (2 * p + 5003) + p * p + 11).natAbs < 2 ^ 64 := by
  have a1 : r * (2 * p + 5003) ≤ 2147483587 * 7003 := Int.mul_le_mul (by omega) (by omega) (by omega) (by omega)
  have a2 : 0 ≤ r * (2 * p + 5003) := Int.mul_nonneg h0 (by omega)
  have a3 : p * p ≤ 1000 * 1000 := Int.mul_le_mul (by omega) (by omega) (by omega) (by omega)
  have a4 : 0 ≤ p * p := Int.mul_nonneg h2 h2
  omega

local macro_rules | `(tactic| k_all) => `(tactic| with_reducible assumption)
local macro_rules | `(tactic| k_ne) => `(tactic| first | with_reducible assumption | (exact Ne.symm (by with_reducible assumption)))
local macro_rules | `(tactic| walk_at "subscriptTail") => `(tactic| (k_here; (with_reducible show wpAny _ _ (subscriptTail _ _ (Value.ref _) (Value.int _ _)) _ _ _); (refine' item_ints ?k1 ?k2 ?k3 ?k4 ?k5 ?_ ?k6; (case k1 => is_list); (case k2 => with_reducible assumption); (case k3 => assumption); (case k4 => omega); (case k5 => omega); (case k6 => with_unfolding_all rfl); k_whole); intro v9 t9 hv9))
local macro_rules | `(tactic| walk_at "binaryOp Mod int int") => `(tactic| (k_here; (with_reducible refine modg ?k1 ?_); (case k1 => first | assumption | omega | fail "modg"); intro r9 hr9a hr9b))
local macro_rules | `(tactic| walk_at "binaryOp FloorDiv int int") => `(tactic| (k_here; (with_reducible refine divg ?k1 ?k2 ?k3 ?_); (case k1 => first | assumption | omega); (case k2 => first | assumption | omega);  (case k3 => first | assumption | omega); intro r9 hr9a))
local macro_rules | `(tactic| walk_at "binaryOp Pow int int") => `(tactic| (k_here; (with_reducible refine pow3g ?k1 ?_); (case k1 => first | (exact bnd1 (by assumption) (by assumption) (by assumption) (by assumption)) | (exact bnd2 (by assumption) (by assumption) (by assumption) (by assumption))); intro r9))
local macro_rules | `(tactic| walk_at "call builtin:abs") => `(tactic| (k_here; (with_reducible refine absg ?_); intro u9 tk9))
set_option maxRecDepth 100000 in
set_option maxHeartbeats 400000 in
theorem draw_spec {w : World} {mean : ExcName → Option Value} {mg mb : Str → Option Value} {loose : List Str} {dp un : Nat} {gd : Option (List Code)} {cn : Str} {cs : Scope} {a : Addr} {ccd : Value} {cl : List (Str × Addr)} {outer : List Env} {A₀ : Around} {base h₀ : Heap} {L : Addr} {m : Str → Option Value} {s : Shared} {Q E : Value → Shared → Prop}
    {pen ca : Addr} {p q many : Int} {tp tq tm : Tok} {n1 n2 : Nat} {vs : List Value} {ns : List Int} {other : List (Addr × Obj)}
    (B : Below A₀ base outer h₀) (F : Fr h₀ L s.heap m) (X : (hd.heap_39 w.params).In h₀)
    (N : News h₀ L s.heap ((pen, PySem.W.listOf [.ref ca, .int p tp, .int q tq].toArray n1) :: (ca, PySem.W.listOf vs.toArray n2) :: other))
    (T : Top hd.view_39 loose mean mg mb h₀) (hk : cs.kind = .function)
    (hvs : IntsAre vs ns) (hlen : ns.length ≤ 40) (hp0 : 0 ≤ p) (hp1 : p < 1000) (hq0 : 0 ≤ q) (hm0 : 0 < many) (hm1 : many < 1073741824)
    (hpc : pen ≠ ca) (hpo : ∀ x ∈ other, x.1 ≠ pen)
    (hd : dp + 1 < recursionLimit) (hu : un + 8 < cLine)
    (ret : ∀ (v : Int) t p' tp' q' tq' n1' h' tk', Fr h₀ L h' m →
      News h₀ L h' ((pen, PySem.W.listOf [.ref ca, .int p' tp', .int q' tq'].toArray n1') :: (ca, PySem.W.listOf vs.toArray n2) :: other) → 0 ≤ v → v < many → 0 ≤ p' → p' ≤ p + 1 → 0 ≤ q' → Q (.int v t) { s with heap := h', toks := tk' }) :
    wpAny (model PySem.Challenge.rw_nn0112_01.row.prog w) (ktrTop dp un gd cn cs L a ccd cl outer) (call (.ref 94) [.ref pen, .int many tm]) Q E s := by
  w_top off
  revert X; k_fill; intro X
  refine wpAny_call ?_
  k_dflt cell_enter
  k_steps
  all_goals exact ret _ _ _ _ _ _ _ _ _ (by assumption) (by assumption) (by first | with_reducible assumption | omega) (by first | with_reducible assumption | omega) (by first | with_reducible assumption | omega) (by first | with_reducible assumption | omega) (by first | with_reducible assumption | omega)
end Mine

-- part R1
open PySem PySem.W PyProof.Rows
set_option maxRecDepth 100000
namespace Mine
abbrev mro59 : List Value := [.ref 46, .type "Exception", .type "BaseException", .type "object"]
abbrev cls59 : Obj := excClassObj "FontFault" "FontFault" 59 58 [.ref 46] mro59 true [] [] false none none (some (.ref 50)) none (some (.str "FontFault" 236)) (some (.str "FontFault" 244)) (some (.bool true)) "Exception.__new__"
theorem at59 {P : Params} {h : Heap} (X : (hd.heap_39 P).In h) : h.get? 59 = some cls59 := X 59 _ rfl
abbrev excO (t : Value) (d : Option Addr) : Obj := { cls := .ref 59, dict := d, data := .fields #[t, .none, .none, .none, .bool false, .none] }
abbrev tupO (vs : List Value) : Obj := { cls := .type "tuple", data := .seq vs.toArray }

section
variable {prog : Program} {w : World} {A : Around} {R : Result → Shared → Prop} {h : Heap} {g : Array GenState} {d : Drawn} {t : Nat} {os : OsState}
set_option maxHeartbeats 1000000 in
theorem new59 {rest : List Value} (hC : h.get? 59 = some cls59)
    (hq : R (.ok (.ret (.ref (h.objs.size + 1)))) ⟨(h.push (tupO rest)).push (excO (.ref h.objs.size) none), g, d, t, os⟩) (hrest : rest.length ≤ sizeLine) :
    codeAny (model prog w) A (.builtin "Exception.__new__" ⟨.ref 59 :: rest, []⟩) R ⟨h, g, d, t, os⟩ := by
  have Fn := PySem.F.excBase_Exception
  have hends := Fn.ends
  have hcB : (Value.ref 59 :: mro59).contains (.type "Exception") = true := by decide
  have hcA : (Value.ref 59 :: mro59).contains (.type "AttributeError") = false := by decide
  have hcN : (Value.ref 59 :: mro59).contains (.type "NameError") = false := by decide
  refine codeAny_builtinAt Fn.entry ?_
  unfold Builtin.«BaseException.__new__»
  refine PySem.wpAt_bind ?_
  show PySem.wpAt _ _ _ (stack >>= _) _ _ _
  refine PySem.wpAt_bind (PySem.wpAt_stack fun p below => PySem.wpAt_of_wpAny ?_)
  wp_walk
  refine PySem.wpAt_of_wpAny ?_
  rw [Fn.owner]
  repeat (first | with_reducible refine wpAny_madeHere_exc Fn.canon hC ?_ | with_reducible refine wpAny_loadPart_at hC ?_ | (with_reducible refine wpAny_isSubtype_exc hC ?_; first | rw [hcB] | rw [hcA] | rw [hcN]) | wp_step)
  show R _ _
  rw [Heap.size_push]
  exact hq
theorem checkNew59 {M : Model} {E : Value → Shared → Prop} {rest : List Value} {Q : Unit → Shared → Prop} (hC : h.get? 59 = some cls59)
    (hq : Q () ⟨h, g, d, t, os⟩) : wpAny M A (checkBuiltinCall "Exception.__new__" ⟨.ref 59 :: rest, []⟩) Q E ⟨h, g, d, t, os⟩ := by
  have Fn := PySem.F.excBase_Exception
  have hcont : (Value.ref 59 :: mro59).contains (.type "Exception") = true := by decide
  have hstar := Fn.noStar
  simp only [checkBuiltinCall, Fn.newKind, Fn.newSplit, Fn.newRow]
  repeat (first | refine wpAny_loadPart_at hC ?_ | (refine wpAny_isSubtype_exc hC ?_; rw [hcont]) | refine wpAny_staticBase_exc hC ?_ | refine wpAny_madeBy_exc hC ?_ | simp only [bne_self_eq_false, Bool.false_eq_true, if_false] | wp_step)
  exact hq
end
section
variable {w : World} {A : Around} {E : Value → Shared → Prop} {s : Shared} {h₀ : Heap} {L : Addr} {m : Str → Option Value} {news : List (Addr × Obj)} {Q : Value → Shared → Prop}
set_option maxHeartbeats 1000000 in
theorem call59 {rest : List Value} (F : Fr h₀ L s.heap m) (X₀ : (hd.heap_39 w.params).In h₀) (N : News h₀ L s.heap news) (hrest : rest.length ≤ sizeLine)
    (hq : ∀ e t h', Fr h₀ L h' m → News h₀ L h' ((e, excO (.ref t) none) :: (t, tupO rest) :: news) → (∀ p ∈ news, p.1 < t) → @LT.lt Nat _ t e →
      codeAny (model PySem.Challenge.rw_nn0112_01.row.prog w) (A.under (.builtin "type.__call__" ⟨.ref 59 :: rest, []⟩)) (.call (.ref 36) ⟨.ref e :: rest, []⟩) (InitBack e fun r s' => match r with | .ok (.ret v) => Q v s' | .ok _ => False | .error e => E e s') { s with heap := h' }) :
    wpAny (model PySem.Challenge.rw_nn0112_01.row.prog w) A (call (.ref 59) rest []) Q E s := by
  revert X₀; k_fill; intro X₀
  have X := X₀.keeps F.keep
  have hC := at59 X
  have k1 : findIn (hd.heap_39 w.params) (.ref 59) "__init__" = some (some (.ref 36)) := by k_is
  have k2 : typeIn (hd.heap_39 w.params) (.ref 36) = some (.type "function") := by k_is
  have k3 : specialIn (hd.heap_39 w.params) (.ref 59) "__call__" = some (some (.builtin "type.__call__")) := by k_is
  have k4 : instIn (hd.heap_39 w.params) (.ref 59) (.type "type") = some true := by k_is
  have k5 : mroIn (hd.heap_39 w.params) 59 (.ref 59) = some true := by k_is
  have hi := looks_findIn (M := model PySem.Challenge.rw_nn0112_01.row.prog w) X k1
  have call := looks_specialIn (M := model PySem.Challenge.rw_nn0112_01.row.prog w) X k3
  have typ := looks_instIn (M := model PySem.Challenge.rw_nn0112_01.row.prog w) X k4
  have self := looks_mroIn (M := model PySem.Challenge.rw_nn0112_01.row.prog w) X k5
  obtain ⟨h, g, d, t, os⟩ := s
  refine wpAny_call (codeAny_of_tree ?_)
  show wpAny _ _ (callAny (.ref 59) _) _ _ _
  refine nd_load hC ?_
  show wpAny _ _ (callAny.viaDunder (.ref 59) _) _ _ _
  unfold callAny.viaDunder
  refine wpAny_bind (call.at ?_)
  dsimp only
  rw [tc_bind]
  refine wpAny_bind (wpAny_pure (wpAny_bind (wpAny_pure ?_)))
  refine wpAny_pure (a := Fin.again (.call (.builtin "type.__call__") ⟨.ref 59 :: rest, []⟩)) (And.intro rfl ?_)
  refine codeAny_call_builtin_at (Code.quiet_builtin _ (by decide +kernel)) entry_typeCall (check_slot tc_kind tc_split typ (tc_args _ _ _) ?_)
  unfold Builtin.«type.__call__»
  repeat (first | with_reducible refine wpAny_loadPart_at hC ?_ | with_reducible refine wpAny_madeBy_exc hC ?_ | wp_step)
  refine codeAny_call_builtin_code (Code.quiet_builtin _ PySem.F.excBase_Exception.quiet) (checkNew59 hC ?_)
  refine new59 hC ?_ hrest
  have N' := (N.push F (tupO rest)).push (F.push _) (excO (.ref h.objs.size) none)
  rw [Heap.size_push] at N'
  have k : ∀ b o, h.get? b = some o → ((h.push (tupO rest)).push (excO (.ref h.objs.size) none)).get? b = some o := fun b o e => Heap.get?_push_of_some _ (Heap.get?_push_of_some _ e)
  have hx := (N' _ (.head _)).1
  have t1 : Looks (model PySem.Challenge.rw_nn0112_01.row.prog w) ((h.push (tupO rest)).push (excO (.ref h.objs.size) none)) (typeOf (.ref (h.objs.size + 1))) (.ref 59) := (Looks.ld hx).andThen .now
  have s1 := self.keeps k
  have i1 := hi.keeps k
  have b1 := (bind_fn (M := model PySem.Challenge.rw_nn0112_01.row.prog w) X (.ref (h.objs.size + 1)) k2).keeps k
  have z := hq _ _ _ ((F.push _).push _) N' (fun p hp => Heap.lt_size (N p hp).1) (Nat.lt_succ_self _)
  unfold isInstance callSpecial? specialOf
  show wpAny _ _ _ _ _ _
  repeat (first | with_reducible refine wpAny_call ?_ | lk)
  refine codeAny_mono z fun r s' y => ?_
  rcases r with e | (v | _ | _ | _) <;> first | exact y | exact y.elim | skip
  obtain ⟨rfl, y⟩ := y
  exact wpAny_pure (wpAny_pure y)
end
end Mine

-- part R3
open PySem PySem.W PyProof.Rows PySem.Calls
open PySem.Builtin PySem.Builtin.ObjectAttr
set_option maxRecDepth 100000
namespace Mine
section
variable {w : World} {A : Around} {R : Result → Shared → Prop} {E : Value → Shared → Prop} {s : Shared} {h₀ : Heap} {L x : Addr} {m : Str → Option Value} {news : List (Addr × Obj)} {name : Str} {v : Value} {tk : Tok}

theorem osa59 {ox : Obj} {od : Option Obj} (X : (hd.heap_39 w.params).In s.heap) (I : InstAt s.heap x ox 59 od) (ha : findIn (hd.heap_39 w.params) (.ref 59) name = some none)
    (h : ∀ b, wpAny (model PySem.Challenge.rw_nn0112_01.row.prog w) A.in1 (storeInOwnDict (.ref x) (.ref 59) (.str name tk) name v b)
      (fun fin s' => match fin with | .done f => R (.ok f) s' | .again c' => c'.quiet = true ∧ codeAny (model PySem.Challenge.rw_nn0112_01.row.prog w) A c' R s') (fun e s' => R (.error e) s') s) :
    codeAny (model PySem.Challenge.rw_nn0112_01.row.prog w) A (.call (.builtin "object.__setattr__") ⟨[.ref x, .str name tk, v], []⟩) R s := by
  w_top off
  revert X; k_fill; intro X
  have SF := PySem.F.store_object
  have k1 : mroIn (hd.heap_39 w.params) 59 (.type "object") = some true := by k_is
  have sub : Looks (model PySem.Challenge.rw_nn0112_01.row.prog w) s.heap (isInstance (.ref x) (.type "object")) true := I.type.andThen (looks_mroIn X k1)
  refine codeAny_call_builtin SF.slot.plain SF.entry (@check_slot (model PySem.Challenge.rw_nn0112_01.row.prog w) _ _ s "object.__setattr__" "object" "__setattr__" (.ref x) [.str name tk, v] [] _ SF.kind SF.split sub (SF.args (.ref x) (.str name tk) v) ?_)
  have hC := at59 X
  obtain ⟨hp, g, d, t, os⟩ := s
  rw [osa_eq, refuse_eq]
  refine wpAny_bind (wpAny_bind (I.type.here (wpAny_bind (wpAny_mroOf_exc hC ?_))))
  rw [refuseLoop_ref, refuseLoop_ref, PySem.F.store_Exception.passes (.ref x)]
  refine wpAny_pure (wpAny_bind (I.type.here (wpAny_bind ((looks_findIn X ha).here (wpAny_bind (wpAny_pure ?_))))))
  exact h _

theorem inst59_none {t : Value} {h : Heap} (hx : h.get? x = some (excO t none)) : InstAt h x (excO t none) 59 none := ⟨hx, rfl, rfl, trivial⟩
theorem inst59_some {t : Value} {dx : Addr} {o : Obj} {h : Heap} (hx : h.get? x = some (excO t (some dx))) (ho : h.get? dx = some o) : InstAt h x (excO t (some dx)) 59 (some o) := ⟨hx, rfl, rfl, ho⟩

set_option maxHeartbeats 1000000 in
theorem set59_old {Q : Unit → Shared → Prop} {t : Value} {dx : Addr} {es es' : List DictEntry} {n n' : Nat} {pre post : List (Addr × Obj)} (F : Fr h₀ L s.heap m) (X₀ : (hd.heap_39 w.params).In h₀)
    (N : News h₀ L s.heap (pre ++ (dx, dictOf es n) :: post)) (hx : s.heap.get? x = some (excO t (some dx))) (ha : findIn (hd.heap_39 w.params) (.ref 59) name = some none)
    (hl : (getL name es).isSome = true) (h1 : ∀ p ∈ pre, p.1 ≠ dx) (h2 : ∀ p ∈ post, p.1 ≠ dx)
    (e : (putL name (PyData.keyHash w.params name) (.str name (s.toks + 1)) v es, putN name es n) = (es', n')) (hz : es'.length ≤ 1000)
    (h : ∀ h', Fr h₀ L h' m → News h₀ L h' (pre ++ (dx, dictOf es' n') :: post) → Q () { s with heap := h', toks := s.toks + 2 }) :
    wpAny (model PySem.Challenge.rw_nn0112_01.row.prog w) A (setAttr (.ref x) name v) Q E s := by
  revert X₀; k_fill; intro X₀
  have X := X₀.keeps F.keep
  have k1 : findIn (hd.heap_39 w.params) (.ref 59) "__setattr__" = some (some (.builtin "object.__setattr__")) := by k_is
  have I := inst59_some hx (N (dx, dictOf es n) (by simp)).1
  refine set_plain X I k1 ?_
  obtain ⟨e1, e2⟩ := Prod.mk.inj e
  have e3 : Obj.putName name (PyData.keyHash w.params name) (.str name (s.toks + 1)) v (dictOf es n) = dictOf es' n' := by rw [putName_dict, e1, e2]
  refine osa59 (s := { s with toks := s.toks + 1 }) X I ha fun b => ?_
  obtain ⟨U1, U2⟩ := news_upd (f := Obj.putName name (PyData.keyHash w.params name) (.str name (s.toks + 1)) v) F N h1 h2 e3 rfl
  have D := (N (dx, dictOf es n) (by simp)).1
  have D' := (U2 (dx, dictOf es' n') (by simp)).1
  have hC := at59 X
  refine wpAny_bind (wpAny_pure (wpAny_bind (wpAny_bind (wpAny_loadPart hx (wpAny_bind ?_)))))
  unfold classData
  refine wpAny_bind (wpAny_load hC (wpAny_pure ?_))
  refine wpAny_pure (a := some dx) (wpAny_bind (wpAny_pure (wpAny_bind ?_)))
  unfold nsSet
  refine wpAny_bind (wpAny_bind (wpAny_askSetting (wpAny_pure (wpAny_bind (wpAny_mkText (wpAny_bind (wpAny_loadPart D ?_)))))))
  dsimp only
  have c : (!es.toArray.any (·.key.isStr name) && es.toArray.any (·.refKey)) = false := by
    rw [← Array.any_toList, ← Array.any_toList]
    unfold getL at hl
    split at hl
    · rename_i en he
      rw [List.any_eq_true.mpr ⟨en, List.mem_of_find?_eq_some he, List.find?_some he⟩]; rfl
    · split at hl
      · cases hl
      · rename_i z; rw [Bool.not_eq_true] at z; simp [z]
  rw [aRefKeyMayBeTheName_at, c]
  refine wpAny_updatePart D ?_
  refine wpAny_bind (wpAny_lookBehind D' (pastItsLine_dict (by rw [List.size_toArray, sizeLine_eq]; omega)) ?_)
  exact wpAny_pure (h _ U1 U2)

set_option maxHeartbeats 1000000 in
theorem set59_new {Q : Unit → Shared → Prop} {t : Value} (F : Fr h₀ L s.heap m) (X₀ : (hd.heap_39 w.params).In h₀)
    (N : News h₀ L s.heap ((x, excO t none) :: news)) (hxn : ∀ p ∈ news, p.1 ≠ x) (ha : findIn (hd.heap_39 w.params) (.ref 59) name = some none)
    (h : ∀ dx h', Fr h₀ L h' m → News h₀ L h' ((x, excO t (some dx)) :: (dx, dictOf [⟨PyData.keyHash w.params name, .str name (s.toks + 1), v⟩] 1) :: news) → dx ≠ x → (∀ p ∈ news, p.1 ≠ dx) → Q () { s with heap := h', toks := s.toks + 2 }) :
    wpAny (model PySem.Challenge.rw_nn0112_01.row.prog w) A (setAttr (.ref x) name v) Q E s := by
  revert X₀; k_fill; intro X₀
  have X := X₀.keeps F.keep
  have k1 : findIn (hd.heap_39 w.params) (.ref 59) "__setattr__" = some (some (.builtin "object.__setattr__")) := by k_is
  have hx := (N _ (.head _)).1
  have I := inst59_none hx
  refine set_plain X I k1 ?_
  refine osa59 (s := { s with toks := s.toks + 1 }) X I ha fun b => ?_
  have hC := at59 X
  have P := N.push F (dictOf [] 0)
  have FP := F.push (dictOf [] 0)
  have lt : ∀ p ∈ news, p.1 ≠ s.heap.objs.size := fun p hp => Nat.ne_of_lt (Heap.lt_size (N p (.tail _ hp)).1)
  have ltx : s.heap.objs.size ≠ x := Nat.ne_of_gt (Heap.lt_size hx)
  obtain ⟨F2, N2⟩ := news_upd (pre := [(s.heap.objs.size, dictOf [] 0)]) (post := news) (d := x) (o' := excO t (some s.heap.objs.size)) (f := fun o => { o with dict := some s.heap.objs.size }) FP P (fun p hp => by rw [List.mem_singleton.mp hp]; exact ltx) hxn rfl rfl
  have e3 : Obj.putName name (PyData.keyHash w.params name) (.str name (s.toks + 1)) v (dictOf [] 0) = dictOf [⟨PyData.keyHash w.params name, .str name (s.toks + 1), v⟩] 1 := by rw [putName_dict]; rfl
  obtain ⟨F3, N3⟩ := news_upd (pre := []) (post := (x, excO t (some s.heap.objs.size)) :: news) (d := s.heap.objs.size) (f := Obj.putName name (PyData.keyHash w.params name) (.str name (s.toks + 1)) v) F2 N2 (fun _ hp => nomatch hp) (fun p hp => by
    rcases List.mem_cons.mp hp with rfl | hp
    · exact ltx.symm
    · exact lt p hp) e3 rfl
  have D := (N2 (s.heap.objs.size, dictOf [] 0) (by simp)).1
  have D' := (N3 _ (.head _)).1
  refine wpAny_bind (wpAny_pure (wpAny_bind (wpAny_bind (wpAny_loadPart hx (wpAny_bind ?_)))))
  unfold classData
  refine wpAny_bind (wpAny_load hC (wpAny_pure ?_))
  refine wpAny_bind (wpAny_alloc' (wpAny_bind (wpAny_update' (Heap.get?_push_of_some _ hx) ?_)))
  refine wpAny_pure (a := some s.heap.objs.size) (wpAny_bind (wpAny_pure (wpAny_bind ?_)))
  unfold nsSet
  refine wpAny_bind (wpAny_bind (wpAny_askSetting (wpAny_pure (wpAny_bind (wpAny_mkText (wpAny_bind (wpAny_loadPart D ?_)))))))
  dsimp only
  have c : (!(List.toArray ([] : List DictEntry)).any (·.key.isStr name) && (List.toArray ([] : List DictEntry)).any (·.refKey)) = false := by simp
  rw [aRefKeyMayBeTheName_at, c]
  refine wpAny_updatePart D ?_
  refine wpAny_bind (wpAny_lookBehind D' (pastItsLine_dict (by rw [sizeLine_eq]; simp)) ?_)
  refine wpAny_pure (h _ _ F3 (fun p hp => N3 p ?_) ltx lt)
  rcases List.mem_cons.mp hp with rfl | hp
  · exact .tail _ (.head _)
  · rcases List.mem_cons.mp hp with rfl | hp
    · exact .head _
    · exact .tail _ (.tail _ hp)

theorem checkInit59 {M : Model} {E : Value → Shared → Prop} {h : Heap} {g : Array GenState} {d : Drawn} {t : Nat} {os : OsState} {e : Addr} {oe : Obj} {rest : List Value} {Q : Unit → Shared → Prop}
    (hC : h.get? 59 = some cls59) (he : h.get? e = some oe) (hcls : oe.cls = .ref 59) (hq : Q () ⟨h, g, d, t, os⟩) :
    wpAny M A (checkBuiltinCall "Exception.__init__" ⟨.ref e :: rest, []⟩) Q E ⟨h, g, d, t, os⟩ := by
  have F := PySem.F.excBase_Exception
  have hcB : (Value.ref 59 :: mro59).contains (.type "Exception") = true := by decide
  have hshort := F.noStar
  simp only [checkBuiltinCall, F.initKind, F.initSplit, F.initRow]
  repeat (first | (with_reducible refine wpAny_loadPart_at he ?_; rw [hcls]) | with_reducible refine wpAny_loadPart_at hC ?_ | (with_reducible refine wpAny_isSubtype_exc hC ?_; rw [hcB]) | wp_step)
  refine wpAny_onRaise ?_
  rw [show ∀ (a b : String) (n : Nat), Bind.check ⟨.positional, "*", "Exception", .self, [⟨"args", .varPos, false⟩]⟩ a b n (List.map (fun x => x.fst) ({ pos := Value.ref e :: rest } : Args).kw) = pure () from
    fun a b n => check_star_args _ _ _ _ _ _]
  exact wpAny_pure hq

theorem init59 {Q : Value → Shared → Prop} {t0 : Addr} {dd : Option Addr} {rest : List Value} (F : Fr h₀ L s.heap m) (X₀ : (hd.heap_39 w.params).In h₀)
    (N : News h₀ L s.heap ((x, excO (.ref t0) dd) :: news)) (hxn : ∀ p ∈ news, p.1 ≠ x) (hrest : rest.length ≤ sizeLine)
    (h : ∀ t h', Fr h₀ L h' m → News h₀ L h' ((x, excO (.ref t) dd) :: news) → Q .none { s with heap := h' }) :
    wpAny (model PySem.Challenge.rw_nn0112_01.row.prog w) A (call (.builtin "Exception.__init__") (.ref x :: rest)) Q E s := by
  have Fx := PySem.F.excBase_Exception
  have hC := at59 (X₀.keeps F.keep)
  have hx := (N _ (.head _)).1
  have P := N.push F (tupO rest)
  have FP := F.push (tupO rest)
  have ltx : s.heap.objs.size ≠ x := Nat.ne_of_gt (Heap.lt_size hx)
  obtain ⟨F2, N2⟩ := news_upd (pre := [(s.heap.objs.size, tupO rest)]) (post := news) (d := x) (o' := excO (.ref s.heap.objs.size) dd) (f := Obj.mapFields (·.setIfInBounds 0 (.ref s.heap.objs.size))) FP P (fun p hp => by rw [List.mem_singleton.mp hp]; exact ltx) hxn rfl rfl
  have z := h _ _ F2 fun p hp => N2 p (.tail _ hp)
  obtain ⟨hp, g, d, t, os⟩ := s
  refine wpAny_call (codeAny_call_builtin Fx.init.plain Fx.initEntry (checkInit59 hC hx rfl ?_))
  have hx' := Heap.get?_push_of_some (tupO rest) hx
  unfold Builtin.«BaseException.__init__»
  wp_walk
  exact z

theorem set59_two {Q : Unit → Shared → Prop} {t : Value} {dx : Addr} {y : Str} {hs : Int} {ty : Tok} {u : Value} {c : Nat} (F : Fr h₀ L s.heap m) (X₀ : (hd.heap_39 w.params).In h₀)
    (N : News h₀ L s.heap ((x, excO t (some dx)) :: (dx, dictOf [⟨hs, .str y ty, u⟩] c) :: news)) (hdx : dx ≠ x) (hn : ∀ p ∈ news, p.1 ≠ dx) (ha : findIn (hd.heap_39 w.params) (.ref 59) name = some none)
    (hy : (Value.str y ty).isStr name = false)
    (h : ∀ h', Fr h₀ L h' m → News h₀ L h' ((x, excO t (some dx)) :: news) → Q () { s with heap := h', toks := s.toks + 2 }) :
    wpAny (model PySem.Challenge.rw_nn0112_01.row.prog w) A (setAttr (.ref x) name v) Q E s := by
  refine set59_old (pre := [(x, excO t (some dx))]) (post := news) (es := [⟨hs, .str y ty, u⟩]) (n := c) (es' := [⟨hs, .str y ty, u⟩, ⟨PyData.keyHash w.params name, .str name (s.toks + 1), v⟩]) (n' := c + 1) F X₀ N (N _ (.head _)).1 ha ?_ (fun p hp => by rw [List.mem_singleton.mp hp]; exact hdx.symm) hn ?_ (by simp) fun h' F' N' => h h' F' fun p hp => N' p ?_
  · simp [getL, hy, DictEntry.refKey]
  · simp [putL, putN, hy]
  · rcases List.mem_cons.mp hp with rfl | hp
    · exact .head _
    · exact .tail _ (.tail _ hp)
end
end Mine

-- part R2
open PySem PySem.W PyProof.Rows
set_option maxRecDepth 100000
namespace Mine
local macro_rules | `(tactic| cell_enter) => `(tactic| (refine' code_def ?k1 ?k2 ?k3 ?k4 ?k5 ?kA ?kF ?kK ?k6 ?k7 ?k8 ?k9 ?kB ?_ ?c2 ?c3 ?c4 ?c5; (case kA => exact rfl); (case kF => exact rfl); (case kK => assumption); (case k1 => k_asm); (case k2 => k_asm); (case k3 => k_asm); (case k4 => k_asm); (case k5 => k_asm); (case k6 => k_is); (case k7 => k_is); (case k8 => ktr_room); (case k9 => exact binds_K (by k_in) rfl (by k_is) rfl rfl rfl); (case c5 => decide); (case kB => exact locs rfl); (case c2 => exact rfl); (case c3 => exact rfl); (case c4 => exact rfl); k_whole; intro g' L' h' FG' F' N' B' X' T'; (try dsimp only); (try k_lift B'); (try k_fold)))
theorem news_skip2 {h₀ h : Heap} {L : Addr} {a b : Addr × Obj} {news : List (Addr × Obj)} (N : News h₀ L h (a :: b :: news)) : News h₀ L h (a :: news) := fun p hp => N p (by
  rcases List.mem_cons.mp hp with rfl | hp
  · exact .head _
  · exact .tail _ (.tail _ hp))
theorem meta_exc : typeOf (.type "Exception") = pure (.type "type") := by kernel_rfl
local macro_rules | `(tactic| walk_at "getMethod type:Exception") => `(tactic| (k_here; refine' method_type ?F ?X ?m (by decide +kernel) ?e ?h ?_; (case F => k_asm); (case X => k_asm); (case m => exact meta_exc); (case e => k_dflt k_is); (case h => k_handed)))
local macro_rules | `(tactic| walk_at "call builtin:Exception.__init__") => `(tactic| (k_here; (k_dflt refine' init59 ?F ?X ?N ?n ?r ?_); (case F => k_asm); (case X => k_asm); (case N => k_asm); (case n => with_reducible assumption); (case r => simp [sizeLine_eq]); intro t9 h9 F' N'; (try k_sweep)))
local macro_rules | `(tactic| walk_at "setAttr ref") => `(tactic| (k_here; (k_dflt refine' set59_new ?F ?X ?N ?n ?r ?_); (case F => k_asm); (case X => k_asm); (case N => k_asm); (case n => with_reducible assumption); (case r => k_dflt k_is); intro d9 h9 F' N' e9 n9; (try k_sweep)))
local macro_rules | `(tactic| walk_at "setAttr ref") => `(tactic| (k_here; (k_dflt refine' set59_two ?F ?X ?N ?n1 ?n2 ?r ?y ?_); (case F => k_asm); (case X => k_asm); (case N => k_asm); (case n1 => with_reducible assumption); (case n2 => with_reducible assumption); (case r => k_dflt k_is); (case y => rfl); intro h9 F' N'; (try k_sweep)))
set_option maxHeartbeats 1000000 in
theorem make_fault {w : World} {mean : ExcName → Option Value} {mg mb : Str → Option Value} {loose : List Str} {dp un : Nat} {gd : Option (List Code)} {cn : Str} {cs : Scope} {a : Addr} {ccd : Value} {cl : List (Str × Addr)} {outer : List Env} {A₀ : Around} {base h₀ : Heap} {L : Addr} {m : Str → Option Value} {s : Shared} {Q E : Value → Shared → Prop}
    {x : Str} {tx : Tok} {news : List (Addr × Obj)}
    (B : Below A₀ base outer h₀) (F : Fr h₀ L s.heap m) (X : (hd.heap_39 w.params).In h₀)
    (N : News h₀ L s.heap news)
    (T : Top hd.view_39 loose mean mg mb h₀) (hk : cs.kind = .function)
    (hd : dp + 3 < recursionLimit) (hu : un + 20 < cLine)
    (ret : ∀ e t d h' tk', Fr h₀ L h' m → News h₀ L h' ((e, excO (.ref t) (some d)) :: news) → Q (.ref e) { s with heap := h', toks := tk' }) :
    wpAny (model PySem.Challenge.rw_nn0112_01.row.prog w) (ktrTop dp un gd cn cs L a ccd cl outer) (call (.ref 59) [.str x tx]) Q E s := by
  w_top off
  revert X; k_fill; intro X
  refine call59 F X N (by simp [sizeLine_eq]) fun e t h' F' N' l1 l2 => ?_
  replace N' := news_skip2 N'
  have hne : ∀ p ∈ news, p.1 ≠ e := fun p hp => Nat.ne_of_lt (Nat.lt_trans (l1 p hp) l2)
  clear l1 l2
  k_dflt cell_enter
  k_steps
  all_goals exact ret _ _ _ _ _ (by assumption) (by assumption)
end Mine

-- part R4
open PySem PySem.W PyProof.Rows PySem.Calls
set_option maxRecDepth 100000
namespace Mine
section
variable {prog : Program} {w : World} {A : Around} {E : Value → Shared → Prop} {s : Shared} {env : Env}
theorem raiseStmt59 {x : Sem Value} {Q : Flow → Shared → Prop} (hh : A.handled = none)
    (h : wpAny (model prog w) A x (fun v s₁ => ∃ e t dd, v = .ref e ∧ s₁.heap.get? 59 = some cls59 ∧ s₁.heap.get? e = some (excO (.ref t) dd) ∧ E (.ref e) s₁) E s) :
    wpAny (model prog w) A (raiseStmt env (some x) none) Q E s := by
  have hcB : (Value.ref 59 :: mro59).contains (.type "BaseException") = true := by decide
  unfold raiseStmt
  refine wpAny_bind (wpAny_mono h (fun v s₁ h₁ => ?_) fun _ _ x => x)
  obtain ⟨e, t, dd, rfl, hC, he, hE⟩ := h₁
  obtain ⟨hp, g, d, tk, os⟩ := s₁
  repeat (first | with_reducible refine wpAny_loadPart_at he ?_ | with_reducible refine wpAny_loadPart_at hC ?_ | (with_reducible refine wpAny_isSubtype_exc hC ?_; rw [hcB]) | wp_step)
  exact wpAny_raiseNew_none hh hE
def Thrown59 (E : Value → Shared → Prop) (v : Value) (s₁ : Shared) : Prop := ∃ e t dd, v = .ref e ∧ s₁.heap.get? 59 = some cls59 ∧ s₁.heap.get? e = some (excO (.ref t) dd) ∧ E (.ref e) s₁
theorem thrown59 {h₀ : Heap} {L e t : Addr} {dd : Option Addr} {m : Str → Option Value} {news : List (Addr × Obj)} (F : Fr h₀ L s.heap m) (X : (hd.heap_39 w.params).In h₀) (N : News h₀ L s.heap ((e, excO (.ref t) dd) :: news)) (h : E (.ref e) s) : Thrown59 E (.ref e) s :=
  ⟨e, t, dd, rfl, at59 (X.keeps F.keep), (N _ (.head _)).1, h⟩
theorem Raise59 {f : PySem.Expr} {args : List PySem.Expr} {cpos pos : Pos} {Q : Flow → Shared → Prop} (hh : A.handled = none)
    (h : wpAny (model prog w) A (eval (.Call f args [] cpos) env) (Thrown59 E) E s) :
    wpAny (model prog w) A (exec (.Raise (some (.Call f args [] cpos)) none pos) env) Q E s := by
  rw [arm_exec_Raise]
  simp only [evalOpt, Option.map]
  refine wpAny_bind (wpAny_standAt (raiseStmt59 hh ?_))
  exact wpAny_bind (wpAny_mono h (fun v s₁ h₁ => wpAny_bind (wpAny_standAt (wpAny_pure h₁))) fun _ _ x => x)
end

section
variable {M : Model} {A : Around} {E : Value → Shared → Prop} {s' : Shared} {Bs h : Heap} {l : List Env} {L a e t : Addr} {dd : Option Addr} {m : Str → Option Value} {name : Str} {scope : Scope} {cd : Value} {Q : Unit → Shared → Prop}
theorem none_of_stays {b h : Heap} (k : b.StaysIn h) {x : Addr} (e : h.get? x = none) : b.get? x = none := by
  cases q : b.get? x with
  | none => rfl
  | some o => have := k x o q; rw [e] at this; cases this
theorem leave_first {env : Env} (B : Below A Bs l h) (F : Fr h L s'.heap m) (N : News h L s'.heap [(e, excO (.ref t) dd)]) (hf : env.frame = some L) (hk : env.scope.kind = .function)
    (hQ : ∀ h', Heap.FlyingW Bs l e (.ref 59) (.ref t) h' → h.UpToSlots h' → Q () { s' with heap := h' }) :
    wpAny M (A.deeper env) (leaving env (.ref e)) Q E s' := by
  have K' := pushX B F hf hk
  have hx := N _ (.head _)
  have hen : Bs.get? e = none := none_of_stays B.stays hx.2.2
  refine wpAny_leaving_firstW (a0 := .ref t) K'.stack K'.frames hf hx.1 K'.stays hen rfl rfl rfl fun h' hL => ?_
  obtain ⟨k1, ⟨_, _, k2⟩, k3, k4⟩ := hL
  exact hQ h' ⟨k1, hen, k2, k3⟩ ((Heap.UpToSlots.of_keeps F.keep).trans k4)
theorem leave_next {env : Env} {hc : Heap} {a0 : Value} (hfr : A.frames = some l) (F : Fr h L hc m) (R : Heap.FlyingW Bs (env :: l) e (.ref 59) a0 s'.heap) (hsm : hc.UpToSlots s'.heap) (hf : env.frame = some L)
    (hQ : ∀ h', Heap.FlyingW Bs l e (.ref 59) a0 h' → h.UpToSlots h' → Q () { s' with heap := h' }) :
    wpAny M (A.deeper env) (leaving env (.ref e)) Q E s' :=
  wpAny_leaves_onW (Around.frames_deeper hfr) hf R fun h' x1 x2 => hQ h' x1 ((Heap.UpToSlots.of_keeps F.keep).trans (hsm.trans x2))
end
end Mine

-- part R5
open PySem PySem.W PyProof.Rows PySem.Calls
set_option maxRecDepth 100000
namespace Mine
section
variable {prog : Program} {w : World} {A : Around} {s : Shared} {K : Frag} {Bs : Heap} {l : List Env} {mg mb : Str → Option Value} {p : Program} {loose : List Str} {mean : ExcName → Option Value}
  {R : Result → Shared → Prop} {name qual : Str} {params : Arguments} {body : List Stmt} {scope : Scope} {dV kV doc pm cdv ct oc : Value} {an od : Option Addr} {osl : Array (Option Value)} {f : Addr} {args : Args} {binds : List (Str × Value)}
theorem enter_pure (B : Below A Bs l s.heap) (X : K.In Bs) (T : Top p loose mean mg mb Bs)
    (ho : K.lookup f = some ⟨oc, od, .func (fnOf name qual params body scope dV kV doc pm an cdv ct), osl⟩) (hcd : codeIn K cdv qual = true) (hroom : A.depth < recursionLimit)
    (hbind : BindsTo s (fnOf name qual params body scope dV kV doc pm an cdv ct) args binds) (hloc : ∀ y ∈ binds, scope.names.lookup y.1 = some .local)
    (h : ∀ h₁, Fr s.heap s.heap.objs.size h₁ (fun y => binds.reverse.lookup y) → News s.heap s.heap.objs.size h₁ [] → K.In s.heap → Top p loose mean mg mb s.heap →
      wpAny (model prog w) (A.deeper (envOf qual scope s.heap.objs.size f cdv)) (execs body (envOf qual scope s.heap.objs.size f cdv))
        (fun fl s' => R (.ok (.ret (match fl with | .ret v => v | _ => .none))) s')
        (fun e s' => wpAny (model prog w) (A.deeper (envOf qual scope s.heap.objs.size f cdv)) (leaving (envOf qual scope s.heap.objs.size f cdv) e) (fun _ s'' => R (.error e) s'') (fun e' s'' => R (.error e') s'') s')
        { s with heap := h₁, toks := s.toks + binds.length })
    (hco : scope.isCoroutine = false) (hgen : scope.isGenerator = false) (hk : scope.kind = .function)
    (hcell : ∀ x ∈ scope.names, x.2 ≠ .cell) : codeAny (model prog w) A (.call (.ref f) args) R s :=
  codeAny_call_def (fd := fnX name qual params body scope [] dV kV doc pm an cdv ct) (body := body) (binds := binds) hroom (X.keeps B.stays _ _ ho) rfl (T.nolimit.keeps B.stays) (codeRec_of (X.keeps B.stays) hcd) rfl hbind hcell hloc
    (fun h₁ hns hk₁ => h h₁ ⟨hns, hk₁, Nat.le_refl _⟩ News.nil (X.keeps B.stays) (T.keeps B.stays)) hco hgen hk

theorem enter_cells (B : Below A Bs l s.heap) (X : K.In Bs) (T : Top p loose mean mg mb Bs)
    (ho : K.lookup f = some ⟨oc, od, .func (fnOf name qual params body scope dV kV doc pm an cdv ct), osl⟩) (hcd : codeIn K cdv qual = true) (hroom : A.depth < recursionLimit)
    (hbind : BindsTo s (fnOf name qual params body scope dV kV doc pm an cdv ct) args binds) (hkind : (binds.all fun y => scope.names.lookup y.1 == some .local || scope.names.lookup y.1 == some .cell) = true)
    (hnd : ((cellsFrom 0 scope.names []).map (·.1)).Nodup)
    (h : ∀ h₁ tk cells, Fr s.heap s.heap.objs.size h₁ (bindL (envOfC qual scope s.heap.objs.size f cdv).kindOf binds fun _ => none) → News s.heap s.heap.objs.size h₁ cells →
      CellsAre (bindC (envOfC qual scope s.heap.objs.size f cdv).kindOf binds fun _ => none) (cellsFrom (s.heap.objs.size + 1) scope.names []) cells → K.In s.heap → Top p loose mean mg mb s.heap →
      wpAny (model prog w) (A.deeper (envOfC qual scope s.heap.objs.size f cdv)) (execs body (envOfC qual scope s.heap.objs.size f cdv))
        (fun fl s' => R (.ok (.ret (match fl with | .ret v => v | _ => .none))) s')
        (fun e s' => wpAny (model prog w) (A.deeper (envOfC qual scope s.heap.objs.size f cdv)) (leaving (envOfC qual scope s.heap.objs.size f cdv) e) (fun _ s'' => R (.error e) s'') (fun e' s'' => R (.error e') s'') s')
        { s with heap := h₁, toks := tk })
    (hco : scope.isCoroutine = false) (hgen : scope.isGenerator = false) (hk : scope.kind = .function) : codeAny (model prog w) A (.call (.ref f) args) R s := by
  refine codeAny_call_function hroom (X.keeps B.stays _ _ ho) rfl hco hgen rfl (codeRec_of (X.keeps B.stays) hcd) (hbind _ _ _ _ ?_)
  refine wpAny_newFunctionEnv_cells hk (kindsX hkind _) fun env' he s' x => ?_
  subst he
  refine ⟨(T.nolimit.keeps B.stays).keeps x.toInCall.keep, codeAny_func ?_⟩
  obtain ⟨h₁, tk, rfl, _⟩ := x.done
  have hk₁ := x.toInCall.keep
  obtain ⟨cells, NC, Y⟩ := Cl.news (h₀ := s.heap) (Nat.le_refl _) fun n c hm => ⟨x.cell n c (lookup_of_mem_nodup (cellsFrom_names scope.names 0 (s.heap.objs.size + 1) [] [] rfl ▸ hnd) hm), x.above n c hm⟩
  exact h h₁ tk cells ⟨x.toInCall.ns, hk₁, Nat.le_refl _⟩ NC Y (X.keeps B.stays) (T.keeps B.stays)
end
end Mine

-- part C1
open PySem PySem.W PyProof.Rows PySem.Calls
set_option maxRecDepth 100000
namespace Mine
section
variable {prog : Program} {w : World} {A : Around} {E : Value → Shared → Prop} {s : Shared} {h₀ : Heap} {L : Addr} {m : Str → Option Value} {env : Env}
/-- the turns of a comprehension by a word of what is built -/
theorem turns_of {elt : PySem.Expr} {x : Str} {scope : Scope} {cl : List (Str × Addr)} {S : List (Addr × Obj) → Prop} {P : Nat → Value → Prop} {Fin : List Value → List (Addr × Obj) → Prop} {n : Nat} (J : Nat → List Value → List (Addr × Obj) → Prop)
    (turn : ∀ i ys news, i < n → J i ys news → ∀ v I oI C oC D m₂ h tk (E' : Value → Shared → Prop), P i v → LCg.NsObj oC m₂ → m₂ x = some v → Fr h₀ L h m → News h₀ L h ((I, oI) :: (C, oC) :: (D, LCg.lst ys) :: news) → LCg.Off3 I C D news → ((@Ne Nat I C) ∧ (@Ne Nat I D) ∧ (@Ne Nat C D)) →
      wpAny (model prog w) A (eval elt (compEnvC scope cl C env)) (LCg.CompEnd h₀ L m { s with heap := h, toks := tk } I oI C oC D (LCg.lst ys) S (fun y news' => J (i + 1) (ys ++ [y]) news')) E' { s with heap := h, toks := tk })
    (fin : ∀ ys news, J n ys news → Fin ys news) : ∀ k i ys news, i + k = n → J i ys news → LCg.CompRest prog w A h₀ L m env elt x scope cl s S P Fin k i ys news := by
  intro k
  induction k with
  | zero => intro i ys news e j; obtain rfl : i = n := by omega
            exact LCg.CompRest.zero (fin ys news j)
  | succ k ih =>
    intro i ys news e j
    refine LCg.CompRest.succ fun v I oI C oC D m₂ h tk E' hP hC hx F N off ne => ?_
    refine wpAny_mono (turn i ys news (by omega) j v I oI C oC D m₂ h tk E' hP hC hx F N off ne) (fun y s₂ q => ?_) fun _ _ e => e
    obtain ⟨h', tk', news', e1, F', N', off', hS, j'⟩ := q
    exact ⟨h', tk', news', e1, F', N', off', hS, ih (i + 1) _ _ (by omega) j'⟩

/-- a comprehension's source: a range by any step -/
def SrcS (prog : Program) (w : World) (A : Around) (h₀ : Heap) (L : Addr) (m : Str → Option Value) (env : Env) (elt : PySem.Expr) (x : Str) (scope : Scope) (cl : List (Str × Addr)) (Fin : Shared → List Value → List (Addr × Obj) → Prop) (xv : Value) (s₁ : Shared) : Prop :=
  ∃ r a b c t u v n news, xv = .ref r ∧ A.handled = none ∧ Fr h₀ L s₁.heap m ∧ News h₀ L s₁.heap news ∧ IsRange s₁.heap r a b c t u v ∧ Builtin.Range.small a b c = true ∧ Builtin.Range.rangeSize a b c = ((n : Nat) : Int) ∧ n ≤ sizeLine ∧
    ∀ h, LCg.CompRest prog w A h₀ L m env elt x scope cl { s₁ with heap := h } (fun _ => True) (fun i v => i < n ∧ ∃ t, v = .int (a + (i : Int) * c) t) (Fin { s₁ with heap := h }) n 0 [] news

theorem step_st {I : Addr} {a c : Int} {n : Nat} : ∀ i (h h' : Heap) (o : Obj) (nw : List (Addr × Obj)), IsRangeIter h I (a + (i : Nat) * c) ((n : Int) - (i : Nat)) c → h.get? I = some o → h'.get? I = some o → (∀ b o, h₀.get? b = some o → h'.get? b = some o) → News h₀ L h' nw → True → IsRangeIter h' I (a + (i : Nat) * c) ((n : Int) - (i : Nat)) c :=
  fun i h h' o nw st e e' _ _ _ => by
    have st' : h.get? I = some _ := st
    show h'.get? I = some _
    rw [e', ← e]; exact st'

theorem ListComp_S {elt iter : PySem.Expr} {x : Str} {px : Pos} {scope : Scope} {cl : List (Str × Addr)} {pos : Pos} {Q : Value → Shared → Prop} (_F₀ : Fr h₀ L s.heap m)
    (hclos : closureFor scope env = pure cl) (hcell : ∀ y ∈ scope.names, y.2 ≠ .cell) (hkind : scope.kind = .function)
    (hnames : ∀ y ∈ scope.names, y.2 = .local → scope.names.lookup y.1 = some .local) (hx : scope.names.lookup x = some .local)
    (h : wpAny (model prog w) A (eval iter env) (SrcS prog w A h₀ L m env elt x scope cl (fun s₂ => LCg.FinE h₀ L m s₂ Q)) E s)
    (hs : ∀ x, foldedSetIterable iter env x = pure x) :
    wpAny (model prog w) A (eval (.ListComp elt [⟨.Name x px, iter, [], 0⟩] scope pos) env) Q E s := by
  rw [eval_ListComp]
  refine wpAny_comprehension_free (use := none) rfl hs hclos hkind hnames (wpAny_mono h (fun xv s₁ h₁ => ?_) fun _ _ e => e)
  obtain ⟨r, a, b, c, t, u, v, n, news, rfl, hh, F, N, hr, hsm, hn, hsz, R⟩ := h₁
  refine wpAny_pyIter_range hr hsm ?_
  refine LCg.block_U (Walks.range hh s₁.heap.objs.size a c n).bound hsz (fun i h st => ⟨_, st⟩) step_st hcell hkind hx (by show IsRangeIter _ _ _ _ _; rw [hn]; simpa using Heap.get?_push_size _ rfl) (fun b hb => ?_)
    (F.keeps fun _ _ e => Heap.get?_push_of_some _ e) (N.grown fun _ _ e => Heap.get?_push_of_some _ e) (Nat.ne_of_lt F.ns.lt) (next_is_new F) (fun p hp => Nat.ne_of_lt (Heap.lt_size (N p hp).1)) trivial (R _) ?_
  · rw [List.mem_singleton.mp hb]
    show s₁.heap.objs.size < (s₁.heap.push _).objs.size
    rw [Heap.size_push]; exact Nat.lt_succ_self _
  · intro D C h tk m' ys news' F' N' o1 hn hC₀ hD₀ hCL hDL hCD offC fin
    refine ⟨m', hn, fun h'' hs'' => fin D h'' tk (F'.change hs'' hCL hC₀) (fun p hp => ?_) o1⟩
    refine ⟨hs''.extBut _ _ ?_ (N' p hp).1, (N' p hp).2⟩
    rcases List.mem_cons.mp hp with rfl | hp
    · exact Ne.symm hCD
    · exact offC p hp
end
end Mine

-- part U1
open PySem PySem.W PyProof.Rows PySem.Calls
set_option maxRecDepth 100000
namespace Mine
/-- the numbers of two octets each -/
def unitsOf : List UInt8 → List Int
  | a :: b :: r => (256 * (a.toNat : Int) + (b.toNat : Int)) :: unitsOf r
  | _ => []
theorem unitsOf_length : ∀ n (l : List UInt8), l.length = 2 * n → (unitsOf l).length = n
  | 0, [], _ => rfl
  | 0, _ :: _, h => by simp at h
  | n + 1, [], h => by simp at h
  | n + 1, [_], h => by simp at h; omega
  | n + 1, a :: b :: r, h => by
    simp only [unitsOf, List.length_cons] at h ⊢
    rw [unitsOf_length n r (by omega)]
theorem unitsOf_get : ∀ (i : Nat) (l : List UInt8), 2 * i + 1 < l.length → (unitsOf l)[i]? = some (256 * ((l.getD (2 * i) 0).toNat : Int) + ((l.getD (2 * i + 1) 0).toNat : Int))
  | _, [], h => by simp at h
  | _, [_], h => by simp at h
  | 0, a :: b :: r, _ => by simp [unitsOf]
  | i + 1, a :: b :: r, h => by
    have e := unitsOf_get i r (by simp at h; omega)
    simp only [unitsOf, List.getElem?_cons_succ, e]
    have e1 : 2 * (i + 1) = 2 * i + 1 + 1 := by omega
    rw [e1]
    simp
theorem unitsOf_range : ∀ (l : List UInt8), ∀ v ∈ unitsOf l, 0 ≤ v ∧ v ≤ 65535
  | [], _, h => nomatch h
  | [_], _, h => nomatch h
  | a :: b :: r, v, h => by
    rcases List.mem_cons.mp h with rfl | h
    · have h1 := a.toNat_lt
      have h2 := b.toNat_lt
      omega
    · exact unitsOf_range r v h
theorem fmod2 (n : Nat) : ((n : Int).fmod 2) = ((n % 2 : Nat) : Int) := by
  rw [Int.fmod_eq_emod_of_nonneg _ (by decide)]; simp
section
variable {prog : Program} {w : World} {A : Around} {E : Value → Shared → Prop} {s : Shared}
theorem item_bytes {value slice : PySem.Expr} {l : List UInt8} {k : Int} {t u : Tok} {Q : Value → Shared → Prop} (hsz : l.length ≤ 1000) (h0 : 0 ≤ k) (h1 : k < l.length)
    (h : Q (.int (l.getD k.toNat 0).toNat s.toks) { s with toks := s.toks + 1 })
    (hs : subscripted slice false (.bytes l.toArray t) (.int k u) = operate [.bytes l.toArray t, .int k u] (getItem (.bytes l.toArray t) (.int k u))) :
    wpAny (model prog w) A (subscriptTail value slice (.bytes l.toArray t) (.int k u)) Q E s :=
  tail_any (typeIs_bytes s _ t) FB.slot_bytes_getitem.lookup (getItem_bytes (by omega) h0 h1 h) hs
end
theorem small2 {n : Nat} (h : n ≤ 1000) : Builtin.Range.small 0 n 2 = true := by
  unfold Builtin.Range.small Builtin.Range.rangeSize
  rw [if_pos (show (2 : Int) > 0 by decide)]
  unfold Builtin.Range.rangeFitsLong
  split <;> simp <;> omega
theorem size2 {n : Nat} : Builtin.Range.rangeSize 0 (2 * n : Nat) 2 = (n : Int) := by
  unfold Builtin.Range.rangeSize
  rw [if_pos (show (2 : Int) > 0 by decide)]
  split <;> omega
theorem ints_snoc {vs : List Value} {ns : List Int} {n : Int} {t : Tok} (h : IntsAre vs ns) : IntsAre (vs ++ [.int n t]) (ns ++ [n]) := IntsAre.append h (.cons n t .nil)

local macro_rules | `(tactic| walk_at "exec Raise some none") => `(tactic| (k_here; k_dflt (refine' Raise59 ?hh ?_; (case hh => rfl))))
local macro_rules | `(tactic| walk_at "call ref") => `(tactic| (k_here; (with_reducible show wpAny _ _ (call (Value.ref 59) [Value.str _ _]) _ _ _); (k_dflt refine' make_fault ?B ?F ?X ?N ?T ?hk ?hd ?hu ?_); (case B => k_asm); (case F => k_asm); (case X => k_asm); (case N => k_asm); (case T => k_asm); (case hk => first | rfl | assumption); (case hd => ktr_room); (case hu => ktr_units); intro e9 t9 d9 h9 tk9 F9 N9; (try k_sweep)))
local macro_rules | `(tactic| walk_at "Thrown59") => `(tactic| (refine' thrown59 ?F ?X ?N ?_; (case F => k_asm); (case X => k_asm); (case N => k_asm)))
local macro_rules | `(tactic| walk_at "eval ListComp") => `(tactic| (k_here; k_dflt (refine ListComp_S (by k_asm) (by rfl) (by decide) (by rfl) (by decide) (by rfl) ?_ (by intro _; rfl))))
local macro_rules | `(tactic| walk_at "call builtin:len") => `(tactic| (k_here; (with_reducible show wpAny _ _ (call (Value.builtin "len") [Value.bytes _ _]) _ _ _); (refine len_bytes (by simp only [List.size_toArray]; omega) ?_); (try simp only [List.size_toArray])))
local macro_rules | `(tactic| walk_at "subscriptTail") => `(tactic| (k_here; (with_reducible show wpAny _ _ (subscriptTail _ _ (Value.bytes _ _) (Value.int _ _)) _ _ _); (refine item_bytes (by omega) (by omega) (by omega) ?_ (by with_unfolding_all rfl))))
set_option maxHeartbeats 400000 in
theorem units_spec {w : World} {mean : ExcName → Option Value} {mg mb : Str → Option Value} {loose : List Str} {dp un : Nat} {gd : Option (List Code)} {cn : Str} {cs : Scope} {a : Addr} {ccd : Value} {cl : List (Str × Addr)} {outer : List Env} {Bs : Heap} {L : Addr} {s : Shared} {Q E : Value → Shared → Prop}
    {bs : List UInt8} {tb : Tok}
    (B : Below (ktrTop dp un gd cn cs L a ccd cl outer) Bs (envX cn cs L a ccd cl :: outer) s.heap) (X : (hd.heap_39 w.params).In Bs)
    (T : Top hd.view_39 loose mean mg mb Bs) (hk : cs.kind = .function)
    (hd : dp + 5 < recursionLimit) (hu : un + 50 < cLine) (hsz : bs.length ≤ 100)
    (odd : bs.length % 2 = 1 → ∀ e a0 h' tk', Heap.FlyingW Bs (envX cn cs L a ccd cl :: outer) e (.ref 59) a0 h' → s.heap.UpToSlots h' → E (.ref e) { s with heap := h', toks := tk' })
    (even : bs.length % 2 = 0 → ∀ l vs n h' tk', s.heap.StaysIn h' → h'.get? l = some (PySem.W.listOf vs.toArray n) → s.heap.get? l = none → IntsAre vs (unitsOf bs) → Q (.ref l) { s with heap := h', toks := tk' }) :
    wpAny (model PySem.Challenge.rw_nn0112_01.row.prog w) (ktrTop dp un gd cn cs L a ccd cl outer) (call (.ref 66) [.bytes bs.toArray tb]) Q E s := by
  w_top off
  revert X; k_fill; intro X
  refine wpAny_call ?_
  k_dflt (refine' enter_cells B X T ?k6 ?k7 ?k8 ?k9 ?kB ?kD ?_ ?c2 ?c3 ?c4; (case k6 => k_is); (case k7 => k_is); (case k8 => ktr_room); (case k9 => exact BindsTo.of_eq rfl); (case kB => exact rfl); (case kD => decide +kernel); (case c2 => exact rfl); (case c3 => exact rfl); (case c4 => exact rfl))
  intro h₁ tk cells F' N' Y' X' T'
  k_cells Y'
  (try simp only [List.cons_append, List.nil_append] at N')
  (try dsimp only)
  (try k_fold)
  k_steps
  · (rename Int.fmod _ _ = _ => hm)
    (rename Fr _ _ _ _ => F)
    (rename News _ _ _ _ => N)
    refine leave_first B F (fun p hp => N p (by rw [List.mem_singleton.mp hp]; exact .head _)) rfl rfl fun h' R U => ?_
    exact odd (by rw [fmod2] at hm; omega) _ _ _ _ R U
  · (rename Int.fmod _ _ ≠ _ => hm)
    (rename IsRange _ _ _ _ _ _ _ _ => r)
    (rename Fr _ _ _ _ => F)
    (rename News _ _ _ _ => N)
    rw [fmod2] at hm
    have he : bs.length = 2 * (bs.length / 2) := by omega
    refine ⟨_, _, _, _, _, _, _, bs.length / 2, _, rfl, rfl, F, N, r, small2 (by omega), ?_, ?_, fun g => ?_⟩
    · rw [he, size2]; simp
    · rw [sizeLine_eq]; omega
    · refine turns_of (n := bs.length / 2) (fun i ys nx => nx = _ ∧ IntsAre ys ((unitsOf bs).take i)) ?_ ?_ _ 0 [] _ (by omega) ⟨rfl, .nil⟩
      · rintro i ys nx hi ⟨rfl, hys⟩ v I oI C oC D m₂ h tk E' ⟨_, t, rfl⟩ hC hx F N off ne
        simp only [LCg.Off3, and_true] at off
        k_fold
        k_steps
        rw [List.take_add_one, unitsOf_get i bs (by omega), show (0 + (i : Int) * 2).toNat = 2 * i by omega, show (0 + (i : Int) * 2 + 1).toNat = 2 * i + 1 by omega]
        exact ints_snoc hys
      · rintro ys nx ⟨rfl, hys⟩ D h tk F N off
        rw [List.take_of_length_le (by rw [unitsOf_length _ _ he]; exact Nat.le_refl _)] at hys
        exact even (by omega) _ _ _ _ _ F.keep (N _ (.head _)).1 (N _ (.head _)).2.2 hys
end Mine

-- part P1
open PySem PySem.W PyProof.Rows PySem.Calls
namespace Mine
def txt (l : List Int) : PySem.Str := ⟨(l.map Int.toNat).toArray⟩
def sign (c : Int) : PySem.Str := ⟨#[c.toNat]⟩
theorem txt_cons (c : Int) (l : List Int) : txt (c :: l) = sign c ++ txt l := by
  refine PySem.Str.ext' (Array.toList_inj.mp ?_)
  rw [PySem.Str.cps_append, Array.toList_append]
  rfl
theorem txt_append (a b : List Int) : txt (a ++ b) = txt a ++ txt b := by
  refine PySem.Str.ext' (Array.toList_inj.mp ?_)
  rw [PySem.Str.cps_append, Array.toList_append]
  simp [txt]
theorem join_signs (e : PySem.Str) (he : e = ⟨#[]⟩) (l : List Int) : Txt.join e (l.map sign) = txt l := by
  subst he
  rw [show Txt.join ⟨#[]⟩ (l.map sign) = Str.join ⟨#[]⟩ (l.map sign) from beq_iff_eq.mp (join_plain_closes _ _)]
  induction l with
  | nil => rfl
  | cons c r ih => rw [List.map_cons, join_nil_cons, ih, txt_cons]
theorem txt_length (l : List Int) : (txt l).length = l.length := by
  show (l.map Int.toNat).toArray.size = l.length
  simp
theorem txt_inj {a b : List Int} (ha : ∀ c ∈ a, 0 ≤ c) (hb : ∀ c ∈ b, 0 ≤ c) (h : txt a = txt b) : a = b := by
  have e : a.map Int.toNat = b.map Int.toNat := by
    have := congrArg (fun x : PySem.Str => x.cps.toList) h
    simpa [txt] using this
  have key : ∀ l : List Int, (∀ c ∈ l, 0 ≤ c) → (l.map Int.toNat).map (fun n : Nat => (n : Int)) = l := by
    intro l hl
    rw [List.map_map]
    conv => rhs; rw [← List.map_id l]
    exact List.map_congr_left fun c hc => Int.toNat_of_nonneg (hl c hc)
  rw [← key a ha, ← key b hb, e]

/-- a unit that is half of a pair -/
def half (u : Int) : Prop := 55296 ≤ u ∧ u ≤ 57343
instance (u : Int) : Decidable (half u) := inferInstanceAs (Decidable (_ ∧ _))
def low (u : Int) : Prop := 56320 ≤ u ∧ u ≤ 57343
instance (u : Int) : Decidable (low u) := inferInstanceAs (Decidable (_ ∧ _))
/-- the codes of a list of units; none where some half stands alone -/
def pairs : List Int → Option (List Int)
  | [] => some []
  | u :: r => if half u then (if 56320 ≤ u then none else match r with
      | [] => none
      | v :: r' => if low v then (pairs r').map (fun l => (65536 + (u - 55296) * 1024 + v - 56320) :: l) else none)
    else (pairs r).map (fun l => u :: l)
theorem pairs_nil : pairs [] = some [] := by unfold pairs; rfl
theorem pairs_plain {u : Int} {r : List Int} (h : ¬ half u) : pairs (u :: r) = (pairs r).map (fun l => u :: l) := by
  rw [pairs.eq_def]; simp only [if_neg h]
theorem pairs_low {u : Int} {r : List Int} (h : half u) (h2 : 56320 ≤ u) : pairs (u :: r) = none := by
  rw [pairs.eq_def]; simp only [if_pos h, if_pos h2]
theorem pairs_end {u : Int} (h : half u) : pairs [u] = none := by
  rw [pairs, if_pos h]; split <;> rfl
theorem pairs_bad {u v : Int} {r : List Int} (h : half u) (h2 : ¬ low v) : pairs (u :: v :: r) = none := by
  rw [pairs, if_pos h]; split
  · rfl
  · simp only [if_neg h2]
theorem pairs_two {u v : Int} {r : List Int} (h : half u) (h1 : ¬ 56320 ≤ u) (h2 : low v) : pairs (u :: v :: r) = (pairs r).map (fun l => (65536 + (u - 55296) * 1024 + v - 56320) :: l) := by
  rw [pairs, if_pos h, if_neg h1]; simp only [if_pos h2]
theorem drop_get {ns : List Int} {k : Nat} {v : Int} (h : ns[k]? = some v) : ns.drop k = v :: ns.drop (k + 1) := by
  obtain ⟨hk, e⟩ := List.getElem?_eq_some_iff.mp h
  rw [List.drop_eq_getElem_cons hk, e]
theorem getD_range {ns : List Int} (hr : ∀ v ∈ ns, 0 ≤ v ∧ v ≤ 65535) (i : Nat) : 0 ≤ ns.getD i 0 ∧ ns.getD i 0 ≤ 65535 := by
  by_cases h : i < ns.length
  · have e : ns.getD i 0 = ns[i] := by simp [h]
    rw [e]; exact hr _ (List.getElem_mem h)
  · have e : ns.getD i 0 = 0 := by simp [Nat.le_of_not_lt h]
    rw [e]; decide
theorem dropD {ns : List Int} {k : Nat} (h : k < ns.length) : ns.drop k = ns.getD (k : Int).toNat 0 :: ns.drop (k + 1) := by
  have e : ns.getD (k : Int).toNat 0 = ns[k] := by simp [h]
  rw [e, List.drop_eq_getElem_cons h]
theorem dropD1 {ns : List Int} {k : Nat} (h : k + 1 < ns.length) : ns.drop (k + 1) = ns.getD ((k : Int) + 1).toNat 0 :: ns.drop (k + 2) := by
  have e : ((k : Int) + 1).toNat = k + 1 := by omega
  rw [e]
  have e : ns.getD (k + 1) 0 = ns[k + 1] := by simp [h]
  rw [e, List.drop_eq_getElem_cons h]
theorem sum_sign (l : List Int) : ((l.map sign).map (·.length)).sum = l.length := by
  induction l with
  | nil => rfl
  | cons c r ih => rw [List.map_cons, List.map_cons, List.sum_cons, ih, List.length_cons]; show 1 + _ = _; omega
theorem strs_snoc {us : List Value} {ws : List PySem.Str} {x : PySem.Str} {t : Tok} (h : StrsAre us ws) : StrsAre (us ++ [.str x t]) (ws ++ [x]) := h.append' (.cons _ _ .nil)
section
variable {prog : Program} {w : World} {A : Around} {E : Value → Shared → Prop} {s : Shared}
theorem join_call {D : Addr} {us : List Value} {l : List Int} {t : Tok} {Q : Value → Shared → Prop} (hl : s.heap.IsList D us.toArray) (hi : StrsAre us (l.map sign)) (hn : l.length ≤ 1000)
    (h : ∀ t' k, Q (.str (txt l) t') { s with toks := k }) : wpAny (model prog w) A (call (.builtin "str.join") [.str (PySem.Str.ofString "") t, .ref D]) Q E s := by
  refine join_listC hl (by simpa using hi) (by decide) (by rw [sum_sign, List.length_map]; omega) fun t' k => ?_
  rw [join_signs _ (by decide)]
  exact h t' k
theorem shl10 {a : Int} {t u : Tok} {Q : Value → Shared → Prop} (ha : a.natAbs < 2 ^ 64) (h : Q (.int (a * 1024) s.toks) { s with toks := s.toks + 1 }) : wpAny (model prog w) A (binaryOp .LShift (.int a t) (.int 10 u)) Q E s :=
  lshift_int_small (by decide) (by decide) ha h
theorem item_units {value slice : PySem.Expr} {l : Addr} {vs : List Value} {ns : List Int} {k : Int} {u : Tok} {Q : Value → Shared → Prop}
    (hl : s.heap.IsList l vs.toArray) (hi : IntsAre vs ns) (hr : ∀ v ∈ ns, 0 ≤ v ∧ v ≤ 65535) (h0 : 0 ≤ k) (hk : k < ns.length) (hsz : ns.length < 2 ^ 30)
    (h : ∀ v t, 0 ≤ v → v ≤ 65535 → ns[k.toNat]? = some v → Q (.int v t) s)
    (hs : subscripted slice false (.ref l) (.int k u) = operate [.ref l, .int k u] (getItem (.ref l) (.int k u))) :
    wpAny (model prog w) A (subscriptTail value slice (.ref l) (.int k u)) Q E s := by
  have hlt : k.toNat < ns.length := by omega
  obtain ⟨t, hx⟩ := hi.get k.toNat ns[k.toNat] (by simp [hlt])
  have hx' : vs.toArray[k.toNat]? = some (.int ns[k.toNat] t) := by simpa using hx
  have hm := hr ns[k.toNat] (List.getElem_mem hlt)
  have hq : Q (.int ns[k.toNat] t) s := h _ t hm.1 hm.2 (by simp [hlt])
  have hhi : k < 2 ^ 63 := by omega
  exact tail_any hl.typeIs slot_list_getitem.lookup (wpAny_getItem_list hl h0 hhi hx' hq) hs
end
end Mine

-- part V1
open PySem PySem.W PyProof.Rows PySem.Calls
set_option maxRecDepth 100000
namespace Mine
def Hold (P : Prop) : Prop := P
theorem hold {P : Prop} (h : Hold P) : P := h
def dec (bs : List UInt8) : Option (List Int) := if bs.length % 2 = 1 then none else pairs (unitsOf bs)

set_option maxHeartbeats 400000 in
theorem units_call {w : World} {mean : ExcName → Option Value} {mg mb : Str → Option Value} {loose : List Str} {dp un : Nat} {gd : Option (List Code)} {cn : Str} {cs : Scope} {a : Addr} {ccd : Value} {cl : List (Str × Addr)} {outer : List Env} {A₀ : Around} {Bs h₀ : Heap} {L : Addr} {m : Str → Option Value} {s : Shared} {Q E : Value → Shared → Prop} {news : List (Addr × Obj)}
    {bs : List UInt8} {tb : Tok}
    (B : Below A₀ Bs outer h₀) (X : (hd.heap_39 w.params).In Bs) (T : Top hd.view_39 loose mean mg mb Bs) (hk : cs.kind = .function) (hA : A₀.deeper (envX cn cs L a ccd cl) = ktrTop dp un gd cn cs L a ccd cl outer)
    (F : Fr h₀ L s.heap m) (N : News h₀ L s.heap news)
    (hd : dp + 5 < recursionLimit) (hu : un + 50 < cLine) (hsz : bs.length ≤ 100)
    (odd : bs.length % 2 = 1 → ∀ e a0 h' tk', Heap.FlyingW Bs (envX cn cs L a ccd cl :: outer) e (.ref 59) a0 h' → s.heap.UpToSlots h' → E (.ref e) { s with heap := h', toks := tk' })
    (even : bs.length % 2 = 0 → ∀ l vs n h' tk', Fr h₀ L h' m → News h₀ L h' ((l, PySem.W.listOf vs.toArray n) :: news) → (∀ p ∈ news, p.1 ≠ l) → IntsAre vs (unitsOf bs) → Q (.ref l) { s with heap := h', toks := tk' }) :
    wpAny (model PySem.Challenge.rw_nn0112_01.row.prog w) (ktrTop dp un gd cn cs L a ccd cl outer) (call (.ref 66) [.bytes bs.toArray tb]) Q E s := by
  refine units_spec (hA ▸ pushX B F rfl hk) X T hk hd hu hsz odd fun he l vs n h' tk' k1 k2 k3 hi => ?_
  have ne : ∀ p ∈ news, p.1 ≠ l := fun p hp e => by have := (N p hp).1; rw [e, k3] at this; cases this
  refine even he l vs n h' tk' (F.keeps k1) (fun p hp => ?_) ne hi
  rcases List.mem_cons.mp hp with rfl | hp
  · refine ⟨k2, fun e => ?_, none_of_stays F.keep k3⟩
    obtain ⟨o, _, _, ho, _⟩ := F.ns
    rw [← e, k3] at ho; cases ho
  · exact ⟨k1 _ _ (N p hp).1, (N p hp).2⟩

local macro_rules | `(tactic| walk_at "exec Raise some none") => `(tactic| (k_here; k_dflt (refine' Raise59 ?hh ?_; (case hh => rfl))))
local macro_rules | `(tactic| walk_at "call ref") => `(tactic| (k_here; (with_reducible show wpAny _ _ (call (Value.ref 59) [Value.str _ _]) _ _ _); (k_dflt refine' make_fault ?B ?F ?X ?N ?T ?hk ?hd ?hu ?_); (case B => k_asm); (case F => k_asm); (case X => k_asm); (case N => k_asm); (case T => k_asm); (case hk => first | rfl | assumption); (case hd => ktr_room); (case hu => ktr_units); intro e9 t9 d9 h9 tk9 F9 N9; (try k_sweep)))
local macro_rules | `(tactic| walk_at "call ref") => `(tactic| (k_here; (with_reducible show wpAny _ _ (call (Value.ref 66) [Value.bytes _ _]) _ _ _); (k_dflt refine' units_call ?B ?X ?T ?hk ?hA ?F ?N ?hd ?hu ?hsz ?_ ?_); (case B => k_asm); (case X => k_asm); (case T => k_asm); (case hk => first | rfl | assumption); (case hA => exact rfl); (case F => k_asm); (case N => k_asm); (case hd => ktr_room); (case hu => ktr_units); (case hsz => assumption)))
local macro_rules | `(tactic| walk_at "Thrown59") => `(tactic| (refine' thrown59 ?F ?X ?N ?_; (case F => k_asm); (case X => k_asm); (case N => k_asm)))
local macro_rules | `(tactic| walk_at "subscriptTail") => `(tactic| (k_here; (with_reducible show wpAny _ _ (subscriptTail _ _ (Value.ref _) (Value.int _ _)) _ _ _); (refine' item_units ?k1 ?k2 ?kr ?k3 ?k4 ?k5 ?_ ?k6; (case k1 => is_list); (case k2 => with_reducible assumption); (case kr => with_reducible assumption); (case k3 => omega); (case k4 => omega); (case k5 => omega); (case k6 => with_unfolding_all rfl); k_whole); intro v9 t9 hv9a hv9b hv9))
local macro_rules | `(tactic| walk_at "call builtin:chr") => `(tactic| (k_here; (refine chr_of_range (by omega) (by omega) ?_)))
local macro_rules | `(tactic| walk_at "binaryOp LShift int int") => `(tactic| (k_here; (refine shl10 (by omega) ?_)))
local macro_rules | `(tactic| walk_at "call builtin:str.join") => `(tactic| (k_here; (refine join_call (by is_list) (by with_reducible assumption) (by omega) ?_); intro t9 k9))
local macro_rules | `(tactic| walk_at "exec While Compare cons nil") => `(tactic| (k_here; refine hold ?_))
set_option maxHeartbeats 400000 in
theorem utf16_spec {w : World} {mean : ExcName → Option Value} {mg mb : Str → Option Value} {loose : List Str} {dp un : Nat} {gd : Option (List Code)} {cn : Str} {cs : Scope} {a : Addr} {ccd : Value} {cl : List (Str × Addr)} {outer : List Env} {Bs : Heap} {L : Addr} {s : Shared} {Q E : Value → Shared → Prop}
    {bs : List UInt8} {tb : Tok}
    (B : Below (ktrTop dp un gd cn cs L a ccd cl outer) Bs (envX cn cs L a ccd cl :: outer) s.heap) (X : (hd.heap_39 w.params).In Bs)
    (T : Top hd.view_39 loose mean mg mb Bs) (hk : cs.kind = .function)
    (hd : dp + 9 < recursionLimit) (hu : un + 100 < cLine) (hsz : bs.length ≤ 100)
    (bad : dec bs = none → ∀ e a0 h' tk', Heap.FlyingW Bs (envX cn cs L a ccd cl :: outer) e (.ref 59) a0 h' → s.heap.UpToSlots h' → E (.ref e) { s with heap := h', toks := tk' })
    (good : ∀ cds, dec bs = some cds → ∀ t h' tk', s.heap.StaysIn h' → Q (.str (txt cds) t) { s with heap := h', toks := tk' }) :
    wpAny (model PySem.Challenge.rw_nn0112_01.row.prog w) (ktrTop dp un gd cn cs L a ccd cl outer) (call (.ref 73) [.bytes bs.toArray tb]) Q E s := by
  w_top off
  revert X; k_fill; intro X
  refine wpAny_call ?_
  k_dflt (refine' enter_pure B X T ?k6 ?k7 ?k8 ?k9 ?kB ?_ ?c2 ?c3 ?c4 ?c5; (case k6 => k_is); (case k7 => k_is); (case k8 => ktr_room); (case k9 => exact BindsTo.of_eq rfl); (case c5 => decide); (case kB => exact locs rfl); (case c2 => exact rfl); (case c3 => exact rfl); (case c4 => exact rfl))
  intro h₁ F' N' X' T'
  (try dsimp only)
  (try k_fold)
  k_steps
  · (rename Fr _ _ _ _ => F)
    (rename Heap.FlyingW _ _ _ _ _ _ => R)
    (rename Heap.UpToSlots _ _ => U)
    (rename List.length _ % 2 = 1 => ho)
    refine leave_next rfl F R U rfl fun h' R U => ?_
    exact bad (by unfold dec; rw [if_pos ho]) _ _ _ _ R U
  · unfold Hold
    (rename IntsAre _ _ => hi)
    (rename Fr _ _ _ _ => F)
    (rename News _ _ _ _ => N)
    (rename List.length _ % 2 = 0 => ho)
    (rename List Value => vs)
    have hlen := unitsOf_length _ bs (show bs.length = 2 * (bs.length / 2) by omega)
    have hdec : dec bs = pairs (unitsOf bs) := by unfold dec; rw [if_neg (by omega)]
    have hr := unitsOf_range bs
    generalize unitsOf bs = ns at hi hlen hdec hr
    have hl50 : ns.length ≤ 50 := by omega
    refine ksw_while (σ := List Value × Nat × List Int × Nat × Tok) (fun c => [(_, PySem.W.listOf c.1.toArray c.2.1), (_, PySem.W.listOf vs.toArray _)]) (fun c => [("place", .int (c.2.2.2.1 : Int) c.2.2.2.2)])
      (fun c => StrsAre c.1 (c.2.2.1.map sign)) ["unit"] (fun c => c.2.2.2.1 ≤ ns.length ∧ c.2.2.1.length ≤ c.2.2.2.1 ∧ pairs ns = (pairs (ns.drop c.2.2.2.1)).map (fun r => c.2.2.1 ++ r))
      (fun c => ns.length - c.2.2.2.1) ([], 0, [], 0, _) F N .nil (by kst_all) ⟨Nat.zero_le _, Nat.zero_le _, by simp⟩ ?_ ?_
    · rintro ⟨us, nn, cds, k, tk⟩ u h tk2 hs ⟨p1, p2, p3⟩ F N
      dsimp only [kstB] at hs p1 p2 p3 F N ⊢
      k_sweep
      k_fold
      have g1 := getD_range hr (k : Int).toNat
      have g2 := getD_range hr ((k : Int) + 1).toNat
      k_steps
      rotate_right 1
      · exact good cds (by rw [hdec, p3, List.drop_of_length_le (by omega), pairs_nil]; simp) _ _ _ F.keep
      all_goals first
        | ((rename Fr _ _ _ _ => F)
           (rename News _ _ _ _ => N)
           refine leave_first B F (fun p hp => N p (by rw [List.mem_singleton.mp hp]; exact .head _)) rfl rfl fun h' R U => bad ?_ _ _ _ _ R U
           rw [hdec, p3, dropD (by omega)]
           first
           | (rw [pairs_low ⟨by omega, by omega⟩ (by omega)]; rfl)
           | (rw [List.drop_of_length_le (by omega), pairs_end ⟨by omega, by omega⟩]; rfl)
           | (rw [dropD1 (by omega), pairs_bad ⟨by omega, by omega⟩ (by unfold low; omega)]; rfl))
        | ((rename Fr _ _ _ _ => F)
           (rename News _ _ _ _ => N)
           simp only [List.push_toArray] at N
           first
           | (refine ksw_end ⟨us ++ [_], nn + 1, cds ++ [65536 + (ns.getD (k : Int).toNat 0 - 55296) * 1024 + ns.getD ((k : Int) + 1).toNat 0 - 56320], k + 2, _⟩ F N (by kst_in) ?_ (by kst_all) (by ksw_same) ⟨by dsimp only; omega, by simp; omega, ?_⟩ (by dsimp only; omega)
              · dsimp only; rw [List.map_append]; exact strs_snoc hs
              · dsimp only
                rw [p3, dropD (by omega), dropD1 (by omega), pairs_two ⟨by omega, by omega⟩ (by omega) ⟨by omega, by omega⟩]
                cases pairs (ns.drop (k + 2)) <;> simp)
           | (refine ksw_end ⟨us ++ [_], nn + 1, cds ++ [ns.getD (k : Int).toNat 0], k + 1, _⟩ F N (by kst_in) ?_ (by kst_all) (by ksw_same) ⟨by dsimp only; omega, by simp; omega, ?_⟩ (by dsimp only; omega)
              · dsimp only; rw [List.map_append]; exact strs_snoc hs
              · dsimp only
                rw [p3, dropD (by omega), pairs_plain (by unfold half; omega)]
                cases pairs (ns.drop (k + 1)) <;> simp))
    · passes_own
end Mine

-- part W1
open PySem PySem.W PyProof.Rows PySem.Calls
set_option maxRecDepth 100000
namespace Mine
/-- the octets of one sign's number -/
def enc1 (c : Int) : List Int := if 65536 ≤ c then [(55296 + (c - 65536) / 1024) / 256, (55296 + (c - 65536) / 1024) % 256, (56320 + (c - 65536) % 1024) / 256, (56320 + (c - 65536) % 1024) % 256] else [c / 256, c % 256]
def encs : List Int → List Int
  | [] => []
  | c :: r => enc1 c ++ encs r
theorem encs_snoc (l : List Int) (c : Int) : encs (l ++ [c]) = encs l ++ enc1 c := by
  induction l with
  | nil => simp [encs]
  | cons d r ih => simp only [List.cons_append, encs, ih, List.append_assoc]
theorem enc1_length (c : Int) : (enc1 c).length ≤ 4 := by unfold enc1; split <;> simp
theorem encs_length (l : List Int) : (encs l).length ≤ 4 * l.length := by
  induction l with
  | nil => simp [encs]
  | cons d r ih => have := enc1_length d; simp only [encs, List.length_append, List.length_cons]; omega
theorem enc1_in {c : Int} (h0 : 0 ≤ c) (h1 : c ≤ 1114111) : ∀ n ∈ enc1 c, 0 ≤ n ∧ n < 256 := by
  intro n hn
  unfold enc1 at hn
  split at hn
  · simp only [List.mem_cons, List.not_mem_nil, or_false] at hn
    rcases hn with rfl | rfl | rfl | rfl <;> omega
  · simp only [List.mem_cons, List.not_mem_nil, or_false] at hn
    rcases hn with rfl | rfl <;> omega
theorem encs_in : ∀ {l : List Int}, (∀ c ∈ l, 0 ≤ c ∧ c ≤ 1114111) → ∀ n ∈ encs l, 0 ≤ n ∧ n < 256
  | [], _, _, h => nomatch h
  | c :: r, hl, n, h => by
    rcases List.mem_append.mp h with h | h
    · exact enc1_in (hl c (.head _)).1 (hl c (.head _)).2 n h
    · exact encs_in (fun c hc => hl c (.tail _ hc)) n h
def toBytes (ks : List Int) : List UInt8 := ks.map fun n => n.toNat.toUInt8
theorem toBytes_length (ks : List Int) : (toBytes ks).length = ks.length := by simp [toBytes]
theorem bitAnd_1023 {x : Int} (h : 0 ≤ x) : Builtin.bitAnd x 1023 = x % 1024 := by
  obtain ⟨n, rfl⟩ := Int.eq_ofNat_of_zero_le h
  unfold Builtin.bitAnd
  rw [decide_eq_true h, decide_eq_true (show (0 : Int) ≤ 1023 by decide)]
  show ((((n : Int).toNat &&& (1023 : Int).toNat : Nat)) : Int) = (n : Int) % 1024
  have e : n &&& 1023 = n % 1024 := Nat.and_two_pow_sub_one_eq_mod n 10
  rw [show (n : Int).toNat = n from rfl, show (1023 : Int).toNat = 1023 from rfl, e]
  rfl
section
variable {prog : Program} {w : World} {A : Around} {E : Value → Shared → Prop} {s : Shared} {a : Int} {t u : Tok} {Q : Value → Shared → Prop}
theorem shr8 (h : Q (.int (a / 256) s.toks) { s with toks := s.toks + 1 }) : wpAny (model prog w) A (binaryOp .RShift (.int a t) (.int 8 u)) Q E s :=
  rshift_int (by decide) (by rw [show ((2 : Int) ^ (8 : Int).toNat) = 256 by decide, Int.fdiv_eq_ediv_of_nonneg _ (by decide)]; exact h)
theorem shr10 (h : Q (.int (a / 1024) s.toks) { s with toks := s.toks + 1 }) : wpAny (model prog w) A (binaryOp .RShift (.int a t) (.int 10 u)) Q E s :=
  rshift_int (by decide) (by rw [show ((2 : Int) ^ (10 : Int).toNat) = 1024 by decide, Int.fdiv_eq_ediv_of_nonneg _ (by decide)]; exact h)
theorem and255 (h : Q (.int (a % 256) s.toks) { s with toks := s.toks + 1 }) : wpAny (model prog w) A (binaryOp .BitAnd (.int a t) (.int 255 u)) Q E s :=
  and_int (by rw [bitAnd_m8]; exact h)
theorem and1023 (ha : 0 ≤ a) (h : Q (.int (a % 1024) s.toks) { s with toks := s.toks + 1 }) : wpAny (model prog w) A (binaryOp .BitAnd (.int a t) (.int 1023 u)) Q E s :=
  and_int (by rw [bitAnd_1023 ha]; exact h)
end
section
variable {prog : Program} {w : World} {A : Around} {E : Value → Shared → Prop} {s : Shared} {h₀ : Heap} {L D b : Addr} {m : Str → Option Value} {news news' : List (Addr × Obj)} {us ws : List Value} {n n2 : Nat}
theorem extend_call {Q : Value → Shared → Prop} (F : Fr h₀ L s.heap m) (N : News h₀ L s.heap news) (hb : (b, PySem.W.listOf ws.toArray n2) ∈ news) (hne : ws.length ≠ 0)
    (U : Upd D (PySem.W.listOf us.toArray n) (PySem.W.listOf (us ++ ws).toArray (n + 1)) news news') (hz : us.length ≤ 1000) (hz2 : ws.length ≤ 1000)
    (h : ∀ h', Fr h₀ L h' m → News h₀ L h' news' → Q .none { s with heap := h' }) : wpAny (model prog w) A (call (.builtin "list.extend") [.ref D, .ref b]) Q E s := by
  refine kl_extend F N hb rfl hne U ?_ (by rw [sizeLine_eq]; show us.length ≤ _; omega) (by rw [sizeLine_eq]; simp only [List.size_toArray]; omega) h
  unfold Builtin.List.listTooLong
  rw [sizeLine_eq]
  simp
  omega
end
theorem bytes_call {prog : Program} {w : World} {A : Around} {E : Value → Shared → Prop} {s : Shared} {h₀ : Heap} {L D : Addr} {m : Str → Option Value} {news : List (Addr × Obj)} {us : List Value} {ks : List Int} {Q : Value → Shared → Prop}
    (F : Fr h₀ L s.heap m) (N : News h₀ L s.heap news) (hh : A.handled = none) (hl : s.heap.IsList D us.toArray) (hi : IntsAre us ks) (hr : ∀ n ∈ ks, 0 ≤ n ∧ n < 256) (hn : ks.length ≤ 10000)
    (h : ∀ h' t' k, Fr h₀ L h' m → News h₀ L h' news → Q (.bytes (toBytes ks).toArray t') { s with heap := h', toks := k }) : wpAny (model prog w) A (call (.type "bytes") [.ref D]) Q E s :=
  KBa.make_K F N hh hl hi hr (by omega) fun h' t' k F' N' _ => h h' t' k F' N'
theorem ints4 {us : List Value} {ks : List Int} {a b c d : Int} {t1 t2 t3 t4 : Tok} (h : IntsAre us ks) : IntsAre ((us ++ [.int a t1, .int b t2]) ++ [.int c t3, .int d t4]) (ks ++ [a, b, c, d]) := by
  have q := IntsAre.append (IntsAre.append h (.cons a t1 (.cons b t2 .nil))) (.cons c t3 (.cons d t4 .nil))
  simpa using q
theorem codes_txt {l : List Int} (h : ∀ c ∈ l, 0 ≤ c) : KStt.codes (txt l) = l := by
  show ((l.map Int.toNat).toArray.toList.map fun (n : Nat) => (n : Int)) = l
  rw [List.map_map]
  conv => rhs; rw [← List.map_id l]
  exact List.map_congr_left fun c hc => Int.toNat_of_nonneg (h c hc)
local macro_rules | `(tactic| walk_at "exec Raise some none") => `(tactic| (k_here; k_dflt (refine' Raise59 ?hh ?_; (case hh => rfl))))
local macro_rules | `(tactic| walk_at "call ref") => `(tactic| (k_here; (with_reducible show wpAny _ _ (call (Value.ref 59) [Value.str _ _]) _ _ _); (k_dflt refine' make_fault ?B ?F ?X ?N ?T ?hk ?hd ?hu ?_); (case B => k_asm); (case F => k_asm); (case X => k_asm); (case N => k_asm); (case T => k_asm); (case hk => first | rfl | assumption); (case hd => ktr_room); (case hu => ktr_units); intro e9 t9 d9 h9 tk9 F9 N9; (try k_sweep)))
local macro_rules | `(tactic| walk_at "Thrown59") => `(tactic| (refine' thrown59 ?F ?X ?N ?_; (case F => k_asm); (case X => k_asm); (case N => k_asm)))
local macro_rules | `(tactic| walk_at "binaryOp RShift int int") => `(tactic| (k_here; first | (refine shr8 ?_) | (refine shr10 ?_)))
local macro_rules | `(tactic| walk_at "binaryOp BitAnd int int") => `(tactic| (k_here; first | (refine and255 ?_) | (refine and1023 (by omega) ?_)))
local macro_rules | `(tactic| walk_at "call builtin:ord") => `(tactic| (k_here; (refine P.ord_of_char ?_)))
local macro_rules | `(tactic| walk_at "call builtin:list.extend") => `(tactic| (k_here; (with_reducible show wpAny _ _ (call (Value.builtin _) [Value.ref _, Value.ref _]) _ _ _); k_dflt (refine' extend_call ?F ?N ?b ?ne ?U ?z ?y ?_; (case F => k_asm); (case N => k_asm); (case b => k_mem); (case U => k_upd); (case ne => exact Nat.succ_ne_zero _); (case z => ((try simp only [List.length_append, List.length_cons, List.length_nil]); omega)); (case y => ((try simp only [List.length_append, List.length_cons, List.length_nil]); omega))); intro h' F' N'; (try k_sweep)))
local macro_rules | `(tactic| walk_at "call type:bytes") => `(tactic| (k_here; k_dflt (refine' bytes_call ?F ?N ?h ?l ?i ?r ?n ?_; (case F => k_asm); (case N => k_asm); (case h => exact rfl); (case l => is_list); (case i => with_reducible assumption); (case r => with_reducible assumption); (case n => omega)); intro h' t' k' F' N'; (try k_sweep)))
local macro_rules | `(tactic| k_all) => `(tactic| with_reducible assumption)
local macro_rules | `(tactic| walk_at "exec For Name Name cons nil") => `(tactic| (k_here; (rename Fr _ _ _ _ => lF'); (with_unfolding_all refine' For_invVF lF' ?k1 ?k2 ?_; (case k1 => exact rfl); (case k2 => exact rfl); k_whole)))
local macro_rules | `(tactic| walk_at "pyIter str") => `(tactic| (k_here; refine hold ?_))
set_option maxHeartbeats 400000 in
theorem octets_spec {w : World} {mean : ExcName → Option Value} {mg mb : Str → Option Value} {loose : List Str} {dp un : Nat} {gd : Option (List Code)} {cn : Str} {cs : Scope} {a : Addr} {ccd : Value} {cl : List (Str × Addr)} {outer : List Env} {Bs : Heap} {L : Addr} {s : Shared} {Q E : Value → Shared → Prop}
    {cds : List Int} {tb : Tok}
    (B : Below (ktrTop dp un gd cn cs L a ccd cl outer) Bs (envX cn cs L a ccd cl :: outer) s.heap) (X : (hd.heap_39 w.params).In Bs)
    (T : Top hd.view_39 loose mean mg mb Bs) (hk : cs.kind = .function)
    (hd : dp + 9 < recursionLimit) (hu : un + 100 < cLine) (hsz : cds.length ≤ 30) (hr : ∀ c ∈ cds, 0 ≤ c ∧ c ≤ 1114111)
    (bad : (∃ c ∈ cds, half c) → ∀ e a0 h' tk', Heap.FlyingW Bs (envX cn cs L a ccd cl :: outer) e (.ref 59) a0 h' → s.heap.UpToSlots h' → E (.ref e) { s with heap := h', toks := tk' })
    (good : (∀ c ∈ cds, ¬ half c) → ∀ t h' tk', s.heap.StaysIn h' → Q (.bytes (toBytes (encs cds)).toArray t) { s with heap := h', toks := tk' }) :
    wpAny (model PySem.Challenge.rw_nn0112_01.row.prog w) (ktrTop dp un gd cn cs L a ccd cl outer) (call (.ref 80) [.str (txt cds) tb]) Q E s := by
  w_top off
  revert X; k_fill; intro X
  refine wpAny_call ?_
  k_dflt (refine' enter_pure B X T ?k6 ?k7 ?k8 ?k9 ?kB ?_ ?c2 ?c3 ?c4 ?c5; (case k6 => k_is); (case k7 => k_is); (case k8 => ktr_room); (case k9 => exact BindsTo.of_eq rfl); (case c5 => decide); (case kB => exact locs rfl); (case c2 => exact rfl); (case c3 => exact rfl); (case c4 => exact rfl))
  intro h₁ F' N' X' T'
  (try dsimp only)
  (try k_fold)
  k_steps
  unfold Hold
  (rename Fr _ _ _ _ => F)
  (rename News _ _ _ _ => N)
  have hcd : KStt.codes (txt cds) = cds := codes_txt fun c hc => (hr c hc).1
  refine KStt.kst_text (σ := List Value × Nat × List Int) (fun c => [(_, PySem.W.listOf c.1.toArray c.2.1)]) (fun _ => []) (fun c => IntsAre c.1 c.2.2) ["unit", "high"]
    (fun pre c => c.2.2 = encs pre ∧ ∀ c ∈ pre, ¬ half c) ([], 0, []) rfl F N .nil (fun _ h => nomatch h) ⟨rfl, fun _ h => nomatch h⟩ ?_ ?_
  · rintro ⟨us, nn, ks⟩ pre post n t u h tk own e off hi ⟨p1, p2⟩ F N
    rw [hcd] at e
    dsimp only [kstB] at hi p1 p2 F N ⊢
    k_sweep
    k_fold
    replace off := off.ne (.head _)
    dsimp only at off
    simp only [List.cons_append, List.nil_append] at N
    have hn : (n : Int) ∈ cds := by rw [e]; simp
    have hl : pre.length < cds.length := by rw [e]; simp
    have hn2 := hr _ hn
    have hks : ks.length ≤ 4 * pre.length := by rw [p1]; exact encs_length pre
    have hus : us.length = ks.length := hi.length
    k_steps
    all_goals (rename Fr _ _ _ _ => F)
    all_goals (rename News _ _ _ _ => N)
    · refine leave_first B F (fun p hp => N p (by rw [List.mem_singleton.mp hp]; exact .head _)) rfl rfl fun h' R U => ?_
      exact bad ⟨n, hn, by omega, by omega⟩ _ _ _ _ R U
    all_goals (
      refine kst_end ⟨_, _, ks ++ enc1 n⟩ F N (by kst_in) (by intro p hp; kst_mem) rfl ?_ (fun _ h => nomatch h) (by kst_same) ⟨?_, ?_⟩
      · unfold enc1
        first
        | (rw [if_pos (by omega)]
           exact ints4 hi)
        | (rw [if_neg (by omega)]
           exact IntsAre.append hi (.cons _ _ (.cons _ _ .nil)))
      · dsimp only
        rw [encs_snoc, p1]
      · intro c hc
        rcases List.mem_append.mp hc with hc | hc
        · exact p2 c hc
        · rw [List.mem_singleton.mp hc]
          unfold half
          omega)
  · rintro ⟨us, nn, ks⟩ u h tk hi ⟨p1, p2⟩ F N
    rw [hcd] at p1 p2
    dsimp only [kstB] at hi p1 p2 F N ⊢
    k_sweep
    have hks : ks.length ≤ 4 * cds.length := by rw [p1]; exact encs_length cds
    have hin : ∀ n ∈ ks, 0 ≤ n ∧ n < 256 := by rw [p1]; exact encs_in hr
    k_steps
    rw [p1]
    exact good p2 _ _ _ (Fr.keep (by assumption))
end Mine

-- part Q1
open PySem PySem.W PyProof.Rows PySem.Calls
set_option maxRecDepth 100000
namespace Mine
section
variable {prog : Program} {w : World} {A : Around} {E : Value → Shared → Prop} {s : Shared} {a : Int} {t u : Tok} {Q : Value → Shared → Prop}
theorem div1024 (h : Q (.int (a / 1024) s.toks) { s with toks := s.toks + 1 }) : wpAny (model prog w) A (binaryOp .FloorDiv (.int a t) (.int 1024 u)) Q E s :=
  floordiv_int (by decide) (by rw [Int.fdiv_eq_ediv_of_nonneg _ (by decide)]; exact h) (.inl (PyProof.noPylong_small (by decide)))
theorem mod1024 (h : Q (.int (a % 1024) s.toks) { s with toks := s.toks + 1 }) : wpAny (model prog w) A (binaryOp .Mod (.int a t) (.int 1024 u)) Q E s :=
  mod_int' (by decide) (by rw [Int.fmod_eq_emod_of_nonneg _ (by decide)]; exact h)
end
theorem ofString_nil : PySem.Str.ofString "" = txt [] := by decide
theorem txt_snoc (l : List Int) (c : Int) : txt (l ++ [c]) = txt l ++ ⟨#[c.toNat]⟩ := by rw [txt_append]; rfl
section
variable {prog : Program} {w : World} {A : Around} {E : Value → Shared → Prop} {s : Shared} {h₀ : Heap} {L D : Addr} {m : Str → Option Value} {news news' : List (Addr × Obj)} {us : List Value} {v : Value} {n : Nat}
theorem add_txt {l : List Int} {c : Int} {t u : Tok} {Q : Value → Shared → Prop} (hn : l.length ≤ 1000) (h : ∀ t' tk, Q (.str (txt (l ++ [c])) t') { s with toks := tk }) : wpAny (model prog w) A (binaryOp .Add (.str (txt l) t) (.str ⟨#[c.toNat]⟩ u)) Q E s :=
  PyProof.Rows.add_str (fun t' tk => by rw [← txt_snoc]; exact h t' tk) (by rw [txt_length, sizeLine_eq]; show l.length + 1 ≤ _; omega)
theorem truthy_cons {Q : Bool → Shared → Prop} (hl : s.heap.IsList D (v :: us).toArray) (hn : us.length ≤ 1000) (h : Q true { s with toks := s.toks + 1 + 1 }) : wpAny (model prog w) A (truthy (.ref D)) Q E s :=
  wpAny_truthy_list hl (by simp; omega) h
theorem item0 {value slice : PySem.Expr} {u : Tok} {Q : Value → Shared → Prop} (hl : s.heap.IsList D (v :: us).toArray) (h : Q v s)
    (hs : subscripted slice false (.ref D) (.int 0 u) = operate [.ref D, .int 0 u] (getItem (.ref D) (.int 0 u))) : wpAny (model prog w) A (subscriptTail value slice (.ref D) (.int 0 u)) Q E s :=
  tail_any hl.typeIs slot_list_getitem.lookup (wpAny_getItem_list hl (by decide) (by decide) rfl h) hs
theorem pop0 {u : Tok} {Q : Value → Shared → Prop} (F : Fr h₀ L s.heap m) (N : News h₀ L s.heap news) (U : Upd D (PySem.W.listOf (v :: us).toArray n) (PySem.W.listOf us.toArray (n + 1)) news news') (hn : us.length ≤ 1000)
    (h : ∀ h', Fr h₀ L h' m → News h₀ L h' news' → Q v { s with heap := h' }) : wpAny (model prog w) A (call (.builtin "list.pop") [.ref D, .int 0 u]) Q E s :=
  kl_popAt (p := []) (q := us) (k := 0) F N (by decide) (by unfold seqIndex?; simp <;> omega) rfl U (by rw [sizeLine_eq]; simp; omega) h
end
local macro_rules | `(tactic| walk_at "binaryOp Add str str") => `(tactic| (k_here; (refine add_txt (by omega) ?_); intro t9 k9))
local macro_rules | `(tactic| walk_at "truthy ref") => `(tactic| (k_here; k_dflt (refine' truthy_cons ?l ?n ?_; (case l => is_list); (case n => omega))))
local macro_rules | `(tactic| walk_at "subscriptTail") => `(tactic| (k_here; (with_reducible show wpAny _ _ (subscriptTail _ _ (Value.ref _) (Value.int 0 _)) _ _ _); k_dflt (refine' item0 ?l ?_ ?s; (case l => is_list); (case s => with_unfolding_all rfl))))
local macro_rules | `(tactic| walk_at "call builtin:list.pop") => `(tactic| (k_here; (with_reducible show wpAny _ _ (call (Value.builtin _) [Value.ref _, Value.int 0 _]) _ _ _); k_dflt (refine' pop0 ?F ?N ?U ?n ?_; (case F => k_asm); (case N => k_asm); (case U => k_upd); (case n => ((try simp only [List.length_cons, List.length_nil]); omega))); intro h' F' N'; (try k_sweep)))
local macro_rules | `(tactic| walk_at "KswEnd") => `(tactic| (refine hold ?_))
local macro_rules | `(tactic| walk_at "binaryOp FloorDiv int int") => `(tactic| (k_here; (refine div1024 ?_)))
local macro_rules | `(tactic| walk_at "binaryOp Mod int int") => `(tactic| (k_here; (refine mod1024 ?_)))
local macro_rules | `(tactic| walk_at "call builtin:chr") => `(tactic| (k_here; (refine chr_of_range (by omega) (by omega) ?_)))
local macro_rules | `(tactic| walk_at "exec While") => `(tactic| (k_here; refine hold ?_))
local macro_rules | `(tactic| walk_at "exec While Name") => `(tactic| (k_here; refine hold ?_))
local macro_rules | `(tactic| walk_at "exec While Name cons nil") => `(tactic| (k_here; refine hold ?_))
set_option maxHeartbeats 400000 in
theorem read_spec {w : World} {mean : ExcName → Option Value} {mg mb : Str → Option Value} {loose : List Str} {dp un : Nat} {gd : Option (List Code)} {cn : Str} {cs : Scope} {a : Addr} {ccd : Value} {cl : List (Str × Addr)} {outer : List Env} {Bs : Heap} {L l : Addr} {s : Shared} {Q E : Value → Shared → Prop}
    {vs : List Value} {ns : List Int}
    (B : Below (ktrTop dp un gd cn cs L a ccd cl outer) Bs (envX cn cs L a ccd cl :: outer) s.heap) (X : (hd.heap_39 w.params).In Bs)
    (T : Top hd.view_39 loose mean mg mb Bs) (hk : cs.kind = .function)
    (hd : dp + 9 < recursionLimit) (hu : un + 100 < cLine) (hl : s.heap.IsList l vs.toArray) (hi : IntsAre vs ns) (hsz : ns.length ≤ 30) (hr : ∀ v ∈ ns, 0 ≤ v ∧ v ≤ 65535)
    (bad : pairs ns = none → ∀ h' tk', s.heap.StaysIn h' → Q .none { s with heap := h', toks := tk' })
    (good : ∀ cds, pairs ns = some cds → ∀ t h' tk', s.heap.StaysIn h' → Q (.str (txt cds) t) { s with heap := h', toks := tk' }) :
    wpAny (model PySem.Challenge.rw_nn0112_01.row.prog w) (ktrTop dp un gd cn cs L a ccd cl outer) (call (.ref 101) [.ref l]) Q E s := by
  w_top off
  revert X; k_fill; intro X
  refine wpAny_call ?_
  k_dflt (refine' enter_pure B X T ?k6 ?k7 ?k8 ?k9 ?kB ?_ ?c2 ?c3 ?c4 ?c5; (case k6 => k_is); (case k7 => k_is); (case k8 => ktr_room); (case k9 => exact BindsTo.of_eq rfl); (case c5 => decide); (case kB => exact locs rfl); (case c2 => exact rfl); (case c3 => exact rfl); (case c4 => exact rfl))
  intro h₁ F' N' X' T'
  (try dsimp only)
  (try k_fold)
  k_steps
  unfold Hold
  (rename Fr _ _ _ _ => F)
  (rename News _ _ _ _ => N)
  refine ksw_while (σ := List Value × Nat × List Int × List Int × Tok) (fun c => [(_, PySem.W.listOf c.1.toArray c.2.1)]) (fun c => [("line", .str (txt c.2.2.2.1) c.2.2.2.2)])
    (fun c => IntsAre c.1 c.2.2.1) ["high"] (fun c => c.2.2.2.1.length + c.2.2.1.length ≤ ns.length ∧ (∀ v ∈ c.2.2.1, 0 ≤ v ∧ v ≤ 65535) ∧ pairs ns = (pairs c.2.2.1).map (fun r => c.2.2.2.1 ++ r))
    (fun c => c.2.2.1.length) (vs, _, ns, [], _) F N hi (by rw [← ofString_nil]; kst_all) ⟨by simp, hr, by simp⟩ ?_ ?_
  · rintro ⟨us, nn, rem, cds, tk⟩ u h tk2 hs ⟨p1, p2, p3⟩ F N
    dsimp only [kstB] at hs p1 p2 p3 F N ⊢
    k_sweep
    k_fold
    cases hs with
    | nil =>
      k_steps
      (rename Fr _ _ _ _ => F)
      exact good cds (by rw [p3, pairs_nil]; simp) _ _ _ F.keep
    | cons v t hs =>
      have g1 := p2 v (.head _)
      have p1' := p1
      simp only [List.length_cons] at p1'
      cases hs with
      | nil =>
        k_steps
        all_goals (rename Fr _ _ _ _ => F)
        · exact bad (by rw [p3, pairs_end ⟨by omega, by omega⟩]; rfl) _ _ F.keep
        · exact bad (by rw [p3, pairs_low ⟨by omega, by omega⟩ (by omega)]; rfl) _ _ F.keep
        · unfold Hold
          (rename News _ _ _ _ => N)
          refine ksw_end ⟨_, _, [], cds ++ [v], _⟩ F N (by kst_in) .nil (by kst_all) (by ksw_same) ⟨?_, ?_, ?_⟩ (by dsimp only; simp)
          · dsimp only; simp at p1' ⊢; omega
          · exact fun _ h => nomatch h
          · dsimp only
            rw [p3, pairs_plain (by unfold half; omega), pairs_nil]
            simp
      | @cons v2 t2 us' ns' hs =>
        have g2 := p2 v2 (.tail _ (.head _))
        have hus := hs.length
        simp only [List.length_cons] at p1
        have ge : (v2 :: ns').getD (Int.toNat 0) 0 = v2 := rfl
        k_steps
        all_goals (try rw [ge] at *)
        all_goals (rename Fr _ _ _ _ => F)
        · exact bad (by rw [p3, pairs_bad ⟨by omega, by omega⟩ (by unfold low; omega)]; rfl) _ _ F.keep
        · unfold Hold
          (rename News _ _ _ _ => N)
          refine ksw_end ⟨_, _, ns', cds ++ [65536 + v % 1024 * 1024 + v2 % 1024], _⟩ F N (by kst_in) hs (by kst_all) (by ksw_same) ⟨?_, ?_, ?_⟩ (by dsimp only; simp; omega)
          · dsimp only; rw [List.length_append, List.length_singleton]; omega
          · exact fun x h => p2 x (.tail _ (.tail _ h))
          · dsimp only
            rw [p3, pairs_two ⟨by omega, by omega⟩ (by omega) ⟨by omega, by omega⟩, show 65536 + v % 1024 * 1024 + v2 % 1024 = 65536 + (v - 55296) * 1024 + v2 - 56320 by omega]
            cases pairs ns' <;> simp
        · exact bad (by rw [p3, pairs_low ⟨by omega, by omega⟩ (by omega)]; rfl) _ _ F.keep
        · unfold Hold
          (rename News _ _ _ _ => N)
          refine ksw_end ⟨_, _, v2 :: ns', cds ++ [v], _⟩ F N (by kst_in) (.cons _ _ hs) (by kst_all) (by ksw_same) ⟨?_, ?_, ?_⟩ (by dsimp only; simp)
          · dsimp only; rw [List.length_append, List.length_singleton, List.length_cons]; omega
          · exact fun x h => p2 x (.tail _ h)
          · dsimp only
            rw [p3, pairs_plain (by unfold half; omega)]
            cases pairs (v2 :: ns') <;> simp
  · passes_own
end Mine

-- part T1
open PySem PySem.W PyProof.Rows PySem.Calls
set_option maxRecDepth 100000
namespace Mine
section
variable {w : World} {A₀ : Around} {E : Value → Shared → Prop} {s' : Shared} {Bs h hc : Heap} {l : List Env} {L a e : Addr} {m : Str → Option Value} {name : Str} {scope : Scope} {cd a0 : Value}
  {b₀ : Stmt} {suite : List Stmt} {pos np : Pos} {rest : List ExceptHandler} {Q : Flow → Shared → Prop} {loose : List Str} {mean : ExcName → Option Value} {mg mb : Str → Option Value}
theorem caught59 (hA : A₀.frames = some l) (F : Fr h L hc m) (hsm : hc.UpToSlots s'.heap) (R : Heap.FlyingW Bs (envOf name scope L a cd :: l) e (.ref 59) a0 s'.heap) (X : (hd.heap_39 w.params).In Bs) (T : Top hd.view_39 loose mean mg mb Bs) (hBs : Bs.objs.size ≤ L)
    (k : ∀ h', Heap.FlyingW Bs (envOf name scope L a cd :: l) e (.ref 59) a0 h' → hc.UpToSlots h' →
      wpAny (model PySem.Challenge.rw_nn0112_01.row.prog w) ((A₀.deeper (envOf name scope L a cd)).mark (some (.ref e))) (execs (b₀ :: suite) (envOf name scope L a cd)) Q E { s' with heap := h' })
    (hk : scope.kind = .function) (hx : (envOf name scope L a cd).kindOf "FontFault" = some .globalImplicit)
    (hE : PassesOwnAt (model PySem.Challenge.rw_nn0112_01.row.prog w) ((A₀.deeper (envOf name scope L a cd)).mark (some (.ref e))) (A₀.deeper (envOf name scope L a cd)) (envOf name scope L a cd) E) :
    wpAny (model PySem.Challenge.rw_nn0112_01.row.prog w) (A₀.deeper (envOf name scope L a cd)) (noteFrame (.ref e) (envOf name scope L a cd))
      (fun _ s₂ => wpAny (model PySem.Challenge.rw_nn0112_01.row.prog w) (A₀.deeper (envOf name scope L a cd)) (setFlight (.ref e) none) (fun _ s₃ =>
        wpAny (model PySem.Challenge.rw_nn0112_01.row.prog w) (A₀.deeper (envOf name scope L a cd)) (handleBy (.ref e) (envOf name scope L a cd) (.ExceptHandler (some (.Name "FontFault" np)) none (b₀ :: suite) pos :: rest)) Q E s₃) E s₂) E s' := by
  w_top off
  revert X; k_fill; intro X
  refine wpAny_looks_onW (Around.frames_deeper hA) rfl R fun h₄ hheld₄ hsm₄ => ?_
  refine wpAny_landsW hheld₄ fun h₅ hheld hsm₅' => ?_
  have hsm₅ := hsm₄.trans hsm₅'
  have F₅ : Fr Bs L h₅ m := ⟨(hsm.trans hsm₅).ns F.ns, hheld.1, hBs⟩
  obtain ⟨ob, hob, hobc⟩ := hheld.there
  have hC := at59 (X.keeps hheld.1)
  have ex : nsIn (hd.heap_39 w.params) mainGlobals "FontFault" = some (some (.ref 59)) := by k_is
  refine wpAny_handleBy_cons (codeAny_handlers_test (name_K F₅ X (topRead_of T) ex ?_ hk hx (by decide))) (by intro q; cases q)
  refine wpAny_excMatches_sub_self hC hob hobc (by decide) (codeAny_handlers_suite ?_)
  refine lands_againW hheld fun h₆ hfl₆ hsm₆ => ?_
  exact wpAny_passesOwnAt hE (k h₆ hfl₆ ((hsm.trans hsm₅).trans hsm₆))
end

local macro_rules | `(tactic| walk_at "call ref") => `(tactic| (k_here; (with_reducible show wpAny _ _ (call (Value.ref 73) [Value.bytes _ _]) _ _ _); refine hold ?_))
local macro_rules | `(tactic| walk_at "call ref") => `(tactic| (k_here; (with_reducible show wpAny _ _ (call (Value.ref 80) [Value.str _ _]) _ _ _); refine hold ?_))
set_option maxHeartbeats 400000 in
theorem heard_spec {w : World} {mean : ExcName → Option Value} {mg mb : Str → Option Value} {loose : List Str} {dp un : Nat} {gd : Option (List Code)} {cn : Str} {cs : Scope} {a : Addr} {ccd : Value} {cl : List (Str × Addr)} {outer : List Env} {Bs : Heap} {L : Addr} {s : Shared} {Q E : Value → Shared → Prop}
    {bs : List UInt8} {tb : Tok}
    (B : Below (ktrTop dp un gd cn cs L a ccd cl outer) Bs (envX cn cs L a ccd cl :: outer) s.heap) (X : (hd.heap_39 w.params).In Bs)
    (T : Top hd.view_39 loose mean mg mb Bs) (hk : cs.kind = .function) (hBs : Bs.objs.size ≤ s.heap.objs.size)
    (hd : dp + 15 < recursionLimit) (hu : un + 150 < cLine) (hsz : bs.length ≤ 100)
    (bad : dec bs = none → ∀ h' tk', Bs.StaysIn h' → s.heap.UpToSlots h' → Q .none { s with heap := h', toks := tk' })
    (good : ∀ cds, dec bs = some cds → ∀ t h' tk', Bs.StaysIn h' → s.heap.UpToSlots h' → Q (.str (txt cds) t) { s with heap := h', toks := tk' }) :
    wpAny (model PySem.Challenge.rw_nn0112_01.row.prog w) (ktrTop dp un gd cn cs L a ccd cl outer) (call (.ref 108) [.bytes bs.toArray tb]) Q E s := by
  w_top off
  revert X; k_fill; intro X
  refine wpAny_call ?_
  k_dflt (refine' enter_pure B X T ?k6 ?k7 ?k8 ?k9 ?kB ?_ ?c2 ?c3 ?c4 ?c5; (case k6 => k_is); (case k7 => k_is); (case k8 => ktr_room); (case k9 => exact BindsTo.of_eq rfl); (case c5 => decide); (case kB => exact locs rfl); (case c2 => exact rfl); (case c3 => exact rfl); (case c4 => exact rfl))
  intro h₁ F' N' X' T'
  (try dsimp only)
  (try k_fold)
  k_steps
  unfold Hold
  (rename Fr _ _ _ _ => F)
  refine utf16_spec (pushX B F rfl rfl) X T rfl (by ktr_room) (by ktr_units) hsz ?_ ?_
  · intro hb e a0 h' tk' R U
    refine caught59 rfl F U R X T hBs (fun h2 R2 U2 => ?_) rfl rfl (by passes_own)
    k_steps
    exact bad hb _ _ R2.1 ((Heap.UpToSlots.of_keeps F.keep).trans U2)
  · intro cds hc t h' tk' st
    k_steps
    exact good cds hc _ _ _ (fun b o e => st _ _ (F.keep _ _ (B.stays _ _ e))) (Heap.UpToSlots.of_keeps fun b o e => st _ _ (F.keep _ _ e))
set_option maxHeartbeats 400000 in
theorem told_spec {w : World} {mean : ExcName → Option Value} {mg mb : Str → Option Value} {loose : List Str} {dp un : Nat} {gd : Option (List Code)} {cn : Str} {cs : Scope} {a : Addr} {ccd : Value} {cl : List (Str × Addr)} {outer : List Env} {Bs : Heap} {L : Addr} {s : Shared} {Q E : Value → Shared → Prop}
    {cds : List Int} {tb : Tok}
    (B : Below (ktrTop dp un gd cn cs L a ccd cl outer) Bs (envX cn cs L a ccd cl :: outer) s.heap) (X : (hd.heap_39 w.params).In Bs)
    (T : Top hd.view_39 loose mean mg mb Bs) (hk : cs.kind = .function) (hBs : Bs.objs.size ≤ s.heap.objs.size)
    (hd : dp + 15 < recursionLimit) (hu : un + 150 < cLine) (hsz : cds.length ≤ 30) (hr : ∀ c ∈ cds, 0 ≤ c ∧ c ≤ 1114111)
    (bad : (∃ c ∈ cds, half c) → ∀ h' tk', Bs.StaysIn h' → s.heap.UpToSlots h' → Q .none { s with heap := h', toks := tk' })
    (good : (∀ c ∈ cds, ¬ half c) → ∀ t h' tk', Bs.StaysIn h' → s.heap.UpToSlots h' → Q (.bytes (toBytes (encs cds)).toArray t) { s with heap := h', toks := tk' }) :
    wpAny (model PySem.Challenge.rw_nn0112_01.row.prog w) (ktrTop dp un gd cn cs L a ccd cl outer) (call (.ref 115) [.str (txt cds) tb]) Q E s := by
  w_top off
  revert X; k_fill; intro X
  refine wpAny_call ?_
  k_dflt (refine' enter_pure B X T ?k6 ?k7 ?k8 ?k9 ?kB ?_ ?c2 ?c3 ?c4 ?c5; (case k6 => k_is); (case k7 => k_is); (case k8 => ktr_room); (case k9 => exact BindsTo.of_eq rfl); (case c5 => decide); (case kB => exact locs rfl); (case c2 => exact rfl); (case c3 => exact rfl); (case c4 => exact rfl))
  intro h₁ F' N' X' T'
  (try dsimp only)
  (try k_fold)
  k_steps
  unfold Hold
  (rename Fr _ _ _ _ => F)
  refine octets_spec (pushX B F rfl rfl) X T rfl (by ktr_room) (by ktr_units) hsz hr ?_ ?_
  · intro hb e a0 h' tk' R U
    refine caught59 rfl F U R X T hBs (fun h2 R2 U2 => ?_) rfl rfl (by passes_own)
    k_steps
    exact bad hb _ _ R2.1 ((Heap.UpToSlots.of_keeps F.keep).trans U2)
  · intro hc t h' tk' st
    k_steps
    exact good hc _ _ _ (fun b o e => st _ _ (F.keep _ _ (B.stays _ _ e))) (Heap.UpToSlots.of_keeps fun b o e => st _ _ (F.keep _ _ e))
end Mine

-- part J1
open PySem PySem.W PyProof.Rows PySem.Calls
set_option maxRecDepth 100000
namespace Mine
open Builtin
theorem slot_bytes_join : Slot "bytes" "join" "bytes.join" :=
  .of (owner := "bytes") (n := "join") (by rw [typeLookup_type, builtinLookup_eq_fast]; kernel_rfl) (by decide +kernel) (by decide +kernel) (by decide +kernel)
    (by first | exact .inl (by decide +kernel) | exact .inr (by decide +kernel)) (by rw [isSubtype_type]; kernel_rfl)
theorem type_bytes_join : typeOf (.builtin "bytes.join") = pure (.type "method_descriptor") := by show builtinType _ = _; rw [builtinType_eq_fast]; kernel_rfl
theorem entry_bytes_join : entryFor table "bytes.join" = some Builtin.«bytes.join» := entryFor_of_tree (by kernel_rfl)
theorem args_bytes_join_2 (a b : Value) : argsOk "bytes.join" ⟨[a, b], []⟩ := by
  unfold argsOk; rw [signature?_of (id := "bytes.join") (n := ['n', 'i', 'o', 'j']) (o := ['s', 'e', 't', 'y', 'b']) (by kernel_rfl) FB.owner_bytes]; kernel_rfl
section
variable {prog : Program} {w : World} {A : Around} {E : Value → Shared → Prop} {s : Shared} {x : Str} {t : Tok} {Q : Value → Shared → Prop}
theorem take_eq {id : String} {b : Array UInt8} {n : Int} (hn : (n == Bytes.fullReadOnly) = false) : Bytes.takeBufferQuiet? id (.bytes b t) n = pure (some (b, none)) := by
  unfold Bytes.takeBufferQuiet? Bytes.takeBuffer?
  rw [KBy.special_eq KBy.look_buffer, KBy.own_buffer, hn, KBy.buffer_eq]
  kernel_rfl
inductive BytesAre : List Value → List (List UInt8) → Prop
  | nil : BytesAre [] []
  | cons (b : List UInt8) (t : Tok) {vs : List Value} {bs : List (List UInt8)} : BytesAre vs bs → BytesAre (.bytes b.toArray t :: vs) (b :: bs)
theorem BytesAre.length {vs : List Value} {bs : List (List UInt8)} (h : BytesAre vs bs) : vs.length = bs.length := by
  induction h with
  | nil => rfl
  | cons b t _ ih => simp [ih]
theorem BytesAre.append {vs us : List Value} {bs cs : List (List UInt8)} (h : BytesAre vs bs) (h2 : BytesAre us cs) : BytesAre (vs ++ us) (bs ++ cs) := by
  induction h with
  | nil => exact h2
  | cons b t _ ih => exact .cons b t ih
theorem BytesAre.get {vs : List Value} {bs : List (List UInt8)} (h : BytesAre vs bs) : ∀ i, i < bs.length → ∃ t, vs[i]? = some (.bytes (bs.getD i []).toArray t) := by
  induction h with
  | nil => intro i hi; simp at hi
  | cons b t _ ih =>
    intro i hi
    cases i with
    | zero => exact ⟨t, rfl⟩
    | succ i => simpa using ih i (by simpa using hi)
theorem letGo_all : ∀ (taken : List (Value × Option Value)) (keep : List Value) {M : Model} {Q : Unit → Shared → Prop} (_ : ∀ p ∈ taken, p.2 = none) (_ : Q () s), wpAny M A (Bytes.joinLetGo taken keep) Q E s
  | [], _, _, _, _, h => wpAny_pure h
  | (x, o) :: rest, keep, M, Q, hn, h => by
    obtain rfl : o = none := hn _ (.head _)
    unfold Bytes.joinLetGo
    refine wpAny_bind (wpAny_letGo ?_)
    exact letGo_all rest keep (fun p hp => hn p (.tail _ hp)) h
theorem foldl_step (l : List (Array UInt8)) : ∀ (k : Nat) (acc : Array UInt8), ((l.zipIdx k).foldl (fun out (p : Array UInt8 × Nat) => (if p.2 > 0 then out ++ #[] else out) ++ p.1) acc) = acc ++ (l.map Array.toList).flatten.toArray := by
  induction l with
  | nil => intro k acc; simp
  | cons a r ih =>
    intro k acc
    rw [List.zipIdx_cons, List.foldl_cons, ih]
    simp only [Array.append_empty, ite_self, List.map_cons, List.flatten_cons]
    apply Array.toList_inj.mp
    simp
theorem joined_eq (l : List (Array UInt8)) : Bytes.joined #[] l = (l.map Array.toList).flatten.toArray := by
  have := foldl_step l 0 #[]
  unfold Bytes.joined
  simpa using this
theorem foldl_size (l : List (Array UInt8)) : ∀ acc : Nat, l.foldl (fun x y => x + y.size) acc = acc + (l.map Array.toList).flatten.length := by
  induction l with
  | nil => intro acc; simp
  | cons a r ih =>
    intro acc
    rw [List.foldl_cons, ih]
    simp; omega
theorem wpAny_of_eq' {α : Type} {M : Model} {a b : Sem α} {Q : α → Shared → Prop} (e : a = b) (h : wpAny M A b Q E s) : wpAny M A a Q E s := e ▸ h
theorem jm {items : Array Value} {a : Value → Sem PySem.Fin} {b : Array Value → Sem PySem.Fin} (hne : ¬ items.size = 1) : @Bytes.joinM.match_1 (fun _ => Sem PySem.Fin) items a b = b items := by
  rcases items with ⟨_ | ⟨x, _ | ⟨y, r⟩⟩⟩
  · rfl
  · exact absurd rfl hne
  · rfl
theorem join_meets {D : Addr} {o : Obj} {items : Array Value} (ho : s.heap.get? D = some o) (hc : o.cls = .type "list") (n : Nat) (hd : o.data = .seq items n) {bs : List (List UInt8)} (hi : BytesAre items.toList bs)
    (hsz : bs.flatten.length ≤ 1000) {R : Result → Shared → Prop} (h : ∀ t' k, R (.ok (.ret (.bytes bs.flatten.toArray t'))) { s with toks := k }) :
    wpAny (model prog w) A.in1 («bytes.join» ⟨[.bytes #[] t, .ref D], []⟩) (fun fin s' => match fin with | .done f => R (.ok f) s' | .again c' => c'.quiet = true ∧ codeAny (model prog w) A c' R s') (fun e s' => R (.error e) s') s := by
  have hT : s.TypeIs (.ref D) "list" := ⟨o, ho, hc⟩
  have hlen := hi.length
  unfold «bytes.join» Bytes.joinM
  refine wpAny_bind (wpAny_of_eq (a := (Value.bytes #[] t, Value.ref D)) rfl ?_)
  dsimp only
  rw [if_pos (by first | rfl | decide +kernel)]
  refine wpAny_bind ?_
  unfold Bytes.joinItems
  refine wpAny_bind (wpAny_typeOf hT ?_)
  rw [if_pos (by first | rfl | decide +kernel)]
  refine wpAny_pure ?_
  refine wpAny_bind (wpAny_seqItems ho hd ?_)
  dsimp only
  rw [if_pos (by first | rfl | decide +kernel)]
  have two : (∃ x, items = #[x]) ∨ ¬ ∃ x, items = #[x] := Classical.em _
  rcases two with ⟨x, rfl⟩ | hne
  · cases hi with
    | @cons b t _ _ hi =>
    cases hi
    refine wpAny_bind (wpAny_typeOf (typeIs_bytes _ _ _) ?_)
    rw [if_pos (by first | rfl | decide +kernel)]
    refine wpAny_bind (wpAny_rule ?_)
    refine wpAny_pure ?_
    have e := h t s.toks
    rw [show [b].flatten = b by simp] at e
    exact e
  · have hne' : ¬ items.size = 1 := by
      intro h1
      refine hne ?_
      rcases items with ⟨_ | ⟨x, _ | ⟨y, r⟩⟩⟩
      · simp at h1
      · exact ⟨x, rfl⟩
      · simp at h1
    rw [jm hne']
    refine wpAny_bind ?_
    rw [Std.Legacy.Range.forIn_eq_forIn_range']
    simp only [Std.Legacy.Range.size, Nat.sub_zero, Nat.add_sub_cancel, Nat.div_one]
    refine wpAny_forIn_list _
      (fun rest c s' => ∃ i, s' = s ∧ rest = List.range' i (items.size - i) ∧ i ≤ items.size ∧ c.1.toList.map Array.toList = bs.take i ∧ (∀ p ∈ c.2, p.2 = none ∧ p.1.onHeap = false))
      _ ?_ ?_ _ _ ⟨0, rfl, by simp, Nat.zero_le _, by simp, fun _ h => nomatch h⟩
    · rintro x rest ⟨parts, taken⟩ s' ⟨i, rfl, hr, hi2, hp, ht⟩
      have hlt : i < items.size := by
        rcases Nat.lt_or_ge i items.size with h | h
        · exact h
        · rw [Nat.sub_eq_zero_of_le h] at hr; simp at hr
      obtain ⟨rfl, hrest⟩ : x = i ∧ rest = List.range' (i + 1) (items.size - (i + 1)) := by
        have e : items.size - i = (items.size - (i + 1)) + 1 := by omega
        rw [e, List.range'_succ] at hr
        injection hr with h1 h2
        exact ⟨h1, h2⟩
      dsimp only
      refine wpAny_bind (wpAny_seqItems ho hd ?_)
      dsimp only
      have hx2 : x < bs.length := by rw [← hlen]; simpa using hlt
      obtain ⟨tx, hx⟩ := hi.get x hx2
      have hx' : items.getD x .none = .bytes (bs.getD x []).toArray tx := by
        have : items[x]? = some (.bytes (bs.getD x []).toArray tx) := by simpa using hx
        simp [Array.getD_eq_getD_getElem?, this]
      rw [hx', if_neg (by
        rw [Bool.or_eq_true, not_or]
        refine ⟨by decide, ?_⟩
        rw [List.any_eq_true]
        rintro ⟨p, hp, hq⟩
        rw [(ht p hp).2] at hq
        exact Bool.false_ne_true hq)]
      refine wpAny_bind (wpAny_holding (wpAny_of_eq (take_eq (by decide)) ?_))
      dsimp only
      refine wpAny_bind (wpAny_seqItems ho hd ?_)
      dsimp only
      rw [if_neg (by simp)]
      refine wpAny_pure ?_
      refine ⟨x + 1, rfl, hrest, hlt, ?_, ?_⟩
      · rw [List.take_add_one]
        simp [hp, List.getElem?_eq_getElem hx2]
      · intro p hp
        rcases List.mem_append.mp hp with hp | hp
        · exact ht p hp
        · rw [List.mem_singleton.mp hp]
          exact ⟨rfl, rfl⟩
    · rintro ⟨parts, taken⟩ s' ⟨i, rfl, hr, hi2, hp, ht⟩
      have hin : i = items.size := by
        rcases Nat.lt_or_ge i items.size with h | h
        · have e : items.size - i = (items.size - (i + 1)) + 1 := by omega
          rw [e, List.range'_succ] at hr; exact nomatch hr
        · exact Nat.le_antisymm hi2 h
      dsimp only at hp ht ⊢
      rw [List.take_of_length_le (by rw [hin, ← hlen]; simp)] at hp
      refine wpAny_bind (wpAny_of_eq (a := (#[] : Array UInt8)) rfl ?_)
      rw [if_neg (by
        rw [KBy.tooLong_not (by
          rw [← Array.foldl_toList, foldl_size, hp]
          simp only [Array.size_empty, Nat.zero_mul]
          omega)]
        exact Bool.false_ne_true)]
      rw [joined_eq, hp]
      refine wpAny_bind (wpAny_mkBytes ?_ (by rw [sizeLine_eq]; simp at hsz ⊢; omega))
      refine wpAny_bind (wpAny_holding (wpAny_point ?_))
      refine wpAny_bind (letGo_all _ _ (fun p hp => (ht p hp).1) ?_)
      refine wpAny_pure ?_
      exact h _ _
theorem join_bytes {D : Addr} {us : List Value} {bs : List (List UInt8)} (hl : s.heap.IsList D us.toArray) (hi : BytesAre us bs) (hsz : bs.flatten.length ≤ 1000)
    (h : ∀ t' k, Q (.bytes bs.flatten.toArray t') { s with toks := k }) : wpAny (model prog w) A (call (.builtin "bytes.join") [.bytes #[] t, .ref D]) Q E s := by
  obtain ⟨o, ho, hc, n, hd⟩ := hl
  exact wpAny_call (codeAny_call_builtin slot_bytes_join.plain entry_bytes_join (slot_bytes_join.check _ _ _ _ _ _ _ _ (typeIs_bytes _ _ _) (args_bytes_join_2 _ _) (join_meets (R := wants Q E) ho hc n hd hi hsz h)))
theorem getM_join {x : Array UInt8} {pl : Sem Bool} {Q : Value × List Value → Shared → Prop} {M : Model} (h : Q (.builtin "bytes.join", [.bytes x t]) s) : wpAny M A (getMethod (.bytes x t) "join" pl) Q E s :=
  getMethod_builtin (typeIs_bytes _ _ _) FB.plainAttrs_bytes slot_bytes_join type_bytes_join (fun _ e => nomatch e) h
end
end Mine

-- part P2
open PySem PySem.W PyProof.Rows PySem.Calls
set_option maxRecDepth 100000
namespace Mine
def in16 (ns : List Int) : Prop := ∀ v ∈ ns, 0 ≤ v ∧ v ≤ 65535
/-- the octets of units, the high one first -/
def be : List Int → List Int
  | [] => []
  | u :: r => u / 256 :: u % 256 :: be r
theorem be_length (ns : List Int) : (be ns).length = 2 * ns.length := by
  induction ns with
  | nil => rfl
  | cons u r ih => simp only [be, List.length_cons, ih]; omega
theorem be_append (a b : List Int) : be (a ++ b) = be a ++ be b := by
  induction a with
  | nil => rfl
  | cons u r ih => simp only [List.cons_append, be, ih]
theorem unitsOf_be : ∀ {ns : List Int}, in16 ns → unitsOf (toBytes (be ns)) = ns
  | [], _ => rfl
  | u :: r, h => by
    have hu := h u (.head _)
    have ih := unitsOf_be (ns := r) fun v hv => h v (.tail _ hv)
    show (256 * (((u / 256).toNat.toUInt8.toNat : Nat) : Int) + ((u % 256).toNat.toUInt8.toNat : Nat)) :: unitsOf (toBytes (be r)) = u :: r
    rw [ih]
    have e1 : ((u / 256).toNat.toUInt8.toNat : Nat) = (u / 256).toNat := by
      show (u / 256).toNat % 256 = _
      omega
    have e2 : ((u % 256).toNat.toUInt8.toNat : Nat) = (u % 256).toNat := by
      show (u % 256).toNat % 256 = _
      omega
    rw [e1, e2]
    congr 1
    omega
theorem dec_be {ns : List Int} (h : in16 ns) : dec (toBytes (be ns)) = pairs ns := by
  unfold dec
  rw [if_neg (by rw [toBytes_length, be_length]; omega), unitsOf_be h]
theorem dec_odd {bs : List UInt8} (h : bs.length % 2 = 1) : dec bs = none := by
  unfold dec
  rw [if_pos h]
theorem pairs_codes : ∀ (n : Nat) {ns cds : List Int}, ns.length ≤ n → in16 ns → pairs ns = some cds → (∀ c ∈ cds, ¬ half c ∧ 0 ≤ c ∧ c ≤ 1114111) ∧ encs cds = be ns ∧ cds.length ≤ ns.length
  | _, [], cds, _, _, e => by
    rw [pairs_nil] at e
    obtain rfl := Option.some.inj e
    exact ⟨fun _ h => (nomatch h), rfl, Nat.le_refl _⟩
  | 0, _ :: _, _, hn, _, _ => by simp at hn
  | n + 1, u :: r, cds, hn, h, e => by
    have hu := h u (.head _)
    have hr : in16 r := fun v hv => h v (.tail _ hv)
    by_cases hh : half u
    · by_cases h2 : 56320 ≤ u
      · rw [pairs_low hh h2] at e; cases e
      · cases r with
        | nil => rw [pairs_end hh] at e; cases e
        | cons v r =>
          by_cases hv : low v
          · rw [pairs_two hh h2 hv] at e
            cases hp : pairs r with
            | none => rw [hp] at e; cases e
            | some l =>
              rw [hp] at e
              obtain rfl := Option.some.inj e
              obtain ⟨a1, a2, a3⟩ := pairs_codes n (ns := r) (by simp at hn; omega) (fun v hv => hr v (.tail _ hv)) hp
              unfold half at hh
              unfold low at hv
              refine ⟨fun c hc => ?_, ?_, ?_⟩
              · rcases List.mem_cons.mp hc with rfl | hc
                · unfold half; omega
                · exact a1 c hc
              · simp only [encs, enc1, be]
                rw [if_pos (by omega), a2]
                have e1 : (55296 + (65536 + (u - 55296) * 1024 + v - 56320 - 65536) / 1024) = u := by omega
                have e2 : (56320 + (65536 + (u - 55296) * 1024 + v - 56320 - 65536) % 1024) = v := by omega
                rw [e1, e2]
                rfl
              · simp only [List.length_cons]; omega
          · rw [pairs_bad hh hv] at e; cases e
    · rw [pairs_plain hh] at e
      cases hp : pairs r with
      | none => rw [hp] at e; cases e
      | some l =>
        rw [hp] at e
        obtain rfl := Option.some.inj e
        obtain ⟨a1, a2, a3⟩ := pairs_codes n (ns := r) (by simp at hn; omega) hr hp
        refine ⟨fun c hc => ?_, ?_, ?_⟩
        · rcases List.mem_cons.mp hc with rfl | hc
          · exact ⟨hh, by omega, by omega⟩
          · exact a1 c hc
        · simp only [encs, enc1, be]
          rw [if_neg (by omega), a2]
          rfl
        · simp only [List.length_cons]; omega
/-- the units of codes -/
def eus : List Int → List Int
  | [] => []
  | c :: r => (if 65536 ≤ c then [55296 + (c - 65536) / 1024, 56320 + (c - 65536) % 1024] else [c]) ++ eus r
theorem encs_eus (cds : List Int) : encs cds = be (eus cds) := by
  induction cds with
  | nil => rfl
  | cons c r ih =>
    simp only [encs, eus, be_append, ih, enc1]
    split <;> rfl
theorem eus_in16 : ∀ {cds : List Int}, (∀ c ∈ cds, 0 ≤ c ∧ c ≤ 1114111) → in16 (eus cds)
  | [], _, _, h => nomatch h
  | c :: r, hl, v, h => by
    have hc := hl c (.head _)
    rcases List.mem_append.mp h with h | h
    · split at h
      · simp only [List.mem_cons, List.not_mem_nil, or_false] at h
        rcases h with rfl | rfl <;> omega
      · rw [List.mem_singleton.mp h]; omega
    · exact eus_in16 (fun c hc => hl c (.tail _ hc)) v h
theorem pairs_eus : ∀ {cds : List Int}, (∀ c ∈ cds, ¬ half c) → (∀ c ∈ cds, 0 ≤ c ∧ c ≤ 1114111) → pairs (eus cds) = some cds
  | [], _, _ => pairs_nil
  | c :: r, hh, hl => by
    have hc := hl c (.head _)
    have hc2 := hh c (.head _)
    have ih := pairs_eus (fun c hc => hh c (.tail _ hc)) fun c hc => hl c (.tail _ hc)
    unfold eus
    split
    · show pairs (_ :: _ :: eus r) = _
      rw [pairs_two (by unfold half; omega) (by omega) (by unfold low; omega), ih]
      show some (_ :: r) = _
      congr 2
      omega
    · show pairs (c :: eus r) = _
      rw [pairs_plain hc2, ih]
      rfl
theorem dec_encs {cds : List Int} (hh : ∀ c ∈ cds, ¬ half c) (hl : ∀ c ∈ cds, 0 ≤ c ∧ c ≤ 1114111) : dec (toBytes (encs cds)) = some cds := by
  rw [encs_eus, dec_be (eus_in16 hl), pairs_eus hh hl]
theorem encs_append (a b : List Int) : encs (a ++ b) = encs a ++ encs b := by
  induction a with
  | nil => rfl
  | cons c r ih => simp only [List.cons_append, encs, ih, List.append_assoc]
theorem encs_len_plain : ∀ {ns : List Int}, in16 ns → (encs ns).length = 2 * ns.length
  | [], _ => rfl
  | u :: r, h => by
    have hu := h u (.head _)
    have ih := encs_len_plain (ns := r) fun v hv => h v (.tail _ hv)
    simp only [encs, enc1]
    rw [if_neg (by omega)]
    simp only [List.length_append, List.length_cons, ih, List.length_nil]
    omega
theorem encs_len_swap {l : List Int} (k : Nat) : (encs (l.drop k ++ l.take k)).length = (encs l).length := by
  rw [encs_append, List.length_append, Nat.add_comm, ← List.length_append, ← encs_append, List.take_append_drop]
theorem encs_len_line {ns : List Int} (h : in16 ns) {c : Int} (hc : 65536 ≤ c) (k : Nat) : (encs ((ns ++ [c]).drop k ++ (ns ++ [c]).take k)).length = 2 * (ns.length + 1) + 2 := by
  rw [encs_len_swap, encs_append, List.length_append, encs_len_plain h]
  simp only [encs, enc1]
  rw [if_pos hc]
  simp only [List.length_append, List.length_cons, List.length_nil]
  omega
theorem mem_swap {l : List Int} {k : Nat} {c : Int} : c ∈ l.drop k ++ l.take k ↔ c ∈ l := by
  rw [List.mem_append, or_comm, ← List.mem_append, List.take_append_drop]
theorem half_iff {u : Int} : u / 2048 = 27 ↔ half u := by unfold half; omega
theorem toBytes_append (a b : List Int) : toBytes (a ++ b) = toBytes a ++ toBytes b := by simp [toBytes]
theorem flat_be (ns : List Int) : (ns.map fun u => toBytes [u / 256, u % 256]).flatten = toBytes (be ns) := by
  induction ns with
  | nil => rfl
  | cons u r ih =>
    rw [List.map_cons, List.flatten_cons, ih]
    rfl
end Mine

-- part L1
open PySem PySem.W PyProof.Rows PySem.Calls
set_option maxRecDepth 100000
namespace Mine
def menu : List Int := [65, 55296, 56320, 56319, 57343, 55295, 57344, 65535, 0, 12354]
section
variable {w : World} {mean : ExcName → Option Value} {mg mb : Str → Option Value} {loose : List Str} {dp un : Nat} {gd : Option (List Code)} {cn : Str} {cs : Scope} {a : Addr} {ccd : Value} {cl : List (Str × Addr)} {A₀ : Around} {base h₀ : Heap} {L : Addr} {m : Str → Option Value} {s : Shared} {Q E : Value → Shared → Prop} {news : List (Addr × Obj)}
theorem law_below (B : Below A₀ base [] h₀) (F : Fr h₀ L s.heap m) (hA : A₀.deeper (envX cn cs L a ccd cl) = ktrTop dp un gd cn cs L a ccd cl []) (hk : cs.kind = .function) :
    Below (ktrTop dp un gd cn cs L a ccd cl []) (hideAll s.heap [L]) [envX cn cs L a ccd cl] s.heap :=
  ⟨hA ▸ Around.frames_deeper B.stack, fun b o e => of_hideAll _ e, .cons (by show cs.kind ≠ _; rw [hk]; decide) rfl F.ns (hideAll_none _ (.head _)) trivial⟩
theorem law_stays (F : Fr h₀ L s.heap m) : h₀.StaysIn (hideAll s.heap [L]) := fun b o e => hideAll_get _ (F.keep b o e) fun q => by
  have : b = L := by simpa using q
  exact absurd (Nat.lt_of_lt_of_le (Heap.lt_size e) (this ▸ F.above)) (Nat.lt_irrefl _)
theorem law_back (F : Fr h₀ L s.heap m) (N : News h₀ L s.heap news) {h' : Heap} (st : (hideAll s.heap [L]).StaysIn h') (U : s.heap.UpToSlots h') : Fr h₀ L h' m ∧ News h₀ L h' news :=
  ⟨⟨U.ns F.ns, fun b o e => st b o (law_stays F b o e), F.above⟩, fun p hp => ⟨st _ _ (hideAll_get _ (N p hp).1 fun q => (N p hp).2.1 (by simpa using q)), (N p hp).2⟩⟩
theorem news_stays (N : News h₀ L s.heap news) {h' : Heap} (st : s.heap.StaysIn h') : News h₀ L h' news := fun p hp => ⟨st _ _ (N p hp).1, (N p hp).2⟩
theorem heard_call {bs : List UInt8} {tb : Tok} (B : Below A₀ base [] h₀) (F : Fr h₀ L s.heap m) (X : (hd.heap_39 w.params).In h₀) (N : News h₀ L s.heap news) (T : Top hd.view_39 loose mean mg mb h₀) (hk : cs.kind = .function)
    (hA : A₀.deeper (envX cn cs L a ccd cl) = ktrTop dp un gd cn cs L a ccd cl []) (hd : dp + 15 < recursionLimit) (hu : un + 150 < cLine) (hsz : bs.length ≤ 100)
    (bad : dec bs = none → ∀ h' tk', Fr h₀ L h' m → News h₀ L h' news → Q .none { s with heap := h', toks := tk' })
    (good : ∀ cds, dec bs = some cds → ∀ t h' tk', Fr h₀ L h' m → News h₀ L h' news → Q (.str (txt cds) t) { s with heap := h', toks := tk' }) :
    wpAny (model PySem.Challenge.rw_nn0112_01.row.prog w) (ktrTop dp un gd cn cs L a ccd cl []) (call (.ref 108) [.bytes bs.toArray tb]) Q E s :=
  heard_spec (law_below B F hA hk) (X.keeps (law_stays F)) (T.keeps (law_stays F)) hk (Nat.le_of_eq (hideAll_size _ _)) hd hu hsz
    (fun e h' tk' st U => bad e h' tk' (law_back F N st U).1 (law_back F N st U).2)
    (fun cds e t h' tk' st U => good cds e t h' tk' (law_back F N st U).1 (law_back F N st U).2)
theorem told_call {cds : List Int} {tb : Tok} (B : Below A₀ base [] h₀) (F : Fr h₀ L s.heap m) (X : (hd.heap_39 w.params).In h₀) (N : News h₀ L s.heap news) (T : Top hd.view_39 loose mean mg mb h₀) (hk : cs.kind = .function)
    (hA : A₀.deeper (envX cn cs L a ccd cl) = ktrTop dp un gd cn cs L a ccd cl []) (hd : dp + 15 < recursionLimit) (hu : un + 150 < cLine) (hsz : cds.length ≤ 30) (hr : ∀ c ∈ cds, 0 ≤ c ∧ c ≤ 1114111)
    (bad : (∃ c ∈ cds, half c) → ∀ h' tk', Fr h₀ L h' m → News h₀ L h' news → Q .none { s with heap := h', toks := tk' })
    (good : (∀ c ∈ cds, ¬ half c) → ∀ t h' tk', Fr h₀ L h' m → News h₀ L h' news → Q (.bytes (toBytes (encs cds)).toArray t) { s with heap := h', toks := tk' }) :
    wpAny (model PySem.Challenge.rw_nn0112_01.row.prog w) (ktrTop dp un gd cn cs L a ccd cl []) (call (.ref 115) [.str (txt cds) tb]) Q E s :=
  told_spec (law_below B F hA hk) (X.keeps (law_stays F)) (T.keeps (law_stays F)) hk (Nat.le_of_eq (hideAll_size _ _)) hd hu hsz hr
    (fun e h' tk' st U => bad e h' tk' (law_back F N st U).1 (law_back F N st U).2)
    (fun e t h' tk' st U => good e t h' tk' (law_back F N st U).1 (law_back F N st U).2)
theorem read_call {l : Addr} {vs : List Value} {ns : List Int} (B : Below A₀ base [] h₀) (F : Fr h₀ L s.heap m) (X : (hd.heap_39 w.params).In h₀) (N : News h₀ L s.heap news) (T : Top hd.view_39 loose mean mg mb h₀) (hk : cs.kind = .function)
    (hA : A₀.deeper (envX cn cs L a ccd cl) = ktrTop dp un gd cn cs L a ccd cl []) (hd : dp + 9 < recursionLimit) (hu : un + 100 < cLine) (hl : s.heap.IsList l vs.toArray) (hi : IntsAre vs ns) (hsz : ns.length ≤ 30) (hr : in16 ns)
    (bad : pairs ns = none → ∀ h' tk', Fr h₀ L h' m → News h₀ L h' news → Q .none { s with heap := h', toks := tk' })
    (good : ∀ cds, pairs ns = some cds → ∀ t h' tk', Fr h₀ L h' m → News h₀ L h' news → Q (.str (txt cds) t) { s with heap := h', toks := tk' }) :
    wpAny (model PySem.Challenge.rw_nn0112_01.row.prog w) (ktrTop dp un gd cn cs L a ccd cl []) (call (.ref 101) [.ref l]) Q E s :=
  read_spec (law_below B F hA hk) (X.keeps (law_stays F)) (T.keeps (law_stays F)) hk hd hu hl hi hsz hr
    (fun e h' tk' st => bad e h' tk' (F.keeps st) (news_stays N st))
    (fun cds e t h' tk' st => good cds e t h' tk' (F.keeps st) (news_stays N st))
theorem utf16_call {bs : List UInt8} {tb : Tok} {cds : List Int} (B : Below A₀ base [] h₀) (F : Fr h₀ L s.heap m) (X : (hd.heap_39 w.params).In h₀) (N : News h₀ L s.heap news) (T : Top hd.view_39 loose mean mg mb h₀) (hk : cs.kind = .function)
    (hA : A₀.deeper (envX cn cs L a ccd cl) = ktrTop dp un gd cn cs L a ccd cl []) (hd : dp + 9 < recursionLimit) (hu : un + 100 < cLine) (hsz : bs.length ≤ 100) (e : dec bs = some cds)
    (good : ∀ t h' tk', Fr h₀ L h' m → News h₀ L h' news → Q (.str (txt cds) t) { s with heap := h', toks := tk' }) :
    wpAny (model PySem.Challenge.rw_nn0112_01.row.prog w) (ktrTop dp un gd cn cs L a ccd cl []) (call (.ref 73) [.bytes bs.toArray tb]) Q E s :=
  utf16_spec (law_below B F hA hk) (X.keeps (law_stays F)) (T.keeps (law_stays F)) hk hd hu hsz
    (fun e2 => by rw [e] at e2; cases e2)
    (fun cds2 e2 t h' tk' st => by rw [e] at e2; cases e2; exact good t h' tk' (F.keeps st) (news_stays N st))
theorem draw_call {pen ca : Addr} {p q many : Int} {tp tq tm : Tok} {n1 n2 : Nat} {vs : List Value} {ns : List Int} {g : Obj → List (Addr × Obj)}
    (B : Below A₀ base [] h₀) (F : Fr h₀ L s.heap m) (X : (hd.heap_39 w.params).In h₀) (N : News h₀ L s.heap news) (U : UpdF pen (PySem.W.listOf [.ref ca, .int p tp, .int q tq].toArray n1) news g)
    (hca : (ca, PySem.W.listOf vs.toArray n2) ∈ news) (T : Top hd.view_39 loose mean mg mb h₀) (hk : cs.kind = .function) (hA : A₀.deeper (envX cn cs L a ccd cl) = ktrTop dp un gd cn cs L a ccd cl [])
    (hvs : IntsAre vs ns) (hpc : pen ≠ ca) (hp0 : 0 ≤ p) (hq0 : 0 ≤ q) (hlen : ns.length ≤ 40) (hp1 : p < 1000) (hm0 : 0 < many) (hm1 : many < 1073741824)
    (hd : dp + 1 < recursionLimit) (hu : un + 8 < cLine)
    (ret : ∀ (v : Int) t p' tp' q' tq' n1' h' tk', Fr h₀ L h' m → News h₀ L h' (g (PySem.W.listOf [.ref ca, .int p' tp', .int q' tq'].toArray n1')) → 0 ≤ v → v < many → 0 ≤ p' → p' ≤ p + 1 → 0 ≤ q' → Q (.int v t) { s with heap := h', toks := tk' }) :
    wpAny (model PySem.Challenge.rw_nn0112_01.row.prog w) (ktrTop dp un gd cn cs L a ccd cl []) (call (.ref 94) [.ref pen, .int many tm]) Q E s := by
  obtain ⟨pre, post, rfl, hg, h1, h2⟩ := U.split
  have hca' : (ca, PySem.W.listOf vs.toArray n2) ∈ pre ++ post := by
    rcases List.mem_append.mp hca with h | h
    · exact List.mem_append.mpr (.inl h)
    · rcases List.mem_cons.mp h with h | h
      · exact absurd (Prod.mk.inj h).1.symm hpc
      · exact List.mem_append.mpr (.inr h)
  refine draw_spec (n1 := n1) (n2 := n2) (tp := tp) (tq := tq) (other := pre ++ post) B F X (fun x hx => ?_) T hk hvs hlen hp0 hp1 hq0 hm0 hm1 hpc (fun x hx => ?_) hd hu fun v t p' tp' q' tq' n1' h' tk' F' N' a1 a2 a3 a4 a5 => ret v t p' tp' q' tq' n1' h' tk' F' (fun x hx => ?_) a1 a2 a3 a4 a5
  · rcases List.mem_cons.mp hx with rfl | hx
    · exact N _ (List.mem_append.mpr (.inr (.head _)))
    · rcases List.mem_cons.mp hx with rfl | hx
      · exact N _ hca
      · rcases List.mem_append.mp hx with hx | hx
        · exact N _ (List.mem_append.mpr (.inl hx))
        · exact N _ (List.mem_append.mpr (.inr (.tail _ hx)))
  · rcases List.mem_append.mp hx with hx | hx
    · exact h1 x hx
    · exact h2 x hx
  · rw [hg] at hx
    rcases List.mem_append.mp hx with hx | hx
    · exact N' _ (.tail _ (.tail _ (List.mem_append.mpr (.inl hx))))
    · rcases List.mem_cons.mp hx with rfl | hx
      · exact N' _ (.head _)
      · exact N' _ (.tail _ (.tail _ (List.mem_append.mpr (.inr hx))))
end
set_option maxHeartbeats 400000 in
theorem menu_spec {w : World} {mean : ExcName → Option Value} {mg mb : Str → Option Value} {loose : List Str} {dp un : Nat} {gd : Option (List Code)} {cn : Str} {cs : Scope} {a : Addr} {ccd : Value} {cl : List (Str × Addr)} {outer : List Env} {Bs : Heap} {L : Addr} {s : Shared} {Q E : Value → Shared → Prop}
    (B : Below (ktrTop dp un gd cn cs L a ccd cl outer) Bs (envX cn cs L a ccd cl :: outer) s.heap) (X : (hd.heap_39 w.params).In Bs)
    (T : Top hd.view_39 loose mean mg mb Bs) (hk : cs.kind = .function)
    (hd : dp + 5 < recursionLimit) (hu : un + 50 < cLine)
    (good : ∀ l vs n h' tk', s.heap.StaysIn h' → h'.get? l = some (PySem.W.listOf vs.toArray n) → s.heap.get? l = none → IntsAre vs menu → Q (.ref l) { s with heap := h', toks := tk' }) :
    wpAny (model PySem.Challenge.rw_nn0112_01.row.prog w) (ktrTop dp un gd cn cs L a ccd cl outer) (call (.ref 87) []) Q E s := by
  w_top off
  revert X; k_fill; intro X
  refine wpAny_call ?_
  k_dflt (refine' enter_pure B X T ?k6 ?k7 ?k8 ?k9 ?kB ?_ ?c2 ?c3 ?c4 ?c5; (case k6 => k_is); (case k7 => k_is); (case k8 => ktr_room); (case k9 => exact BindsTo.of_eq rfl); (case c5 => decide); (case kB => exact locs rfl); (case c2 => exact rfl); (case c3 => exact rfl); (case c4 => exact rfl))
  intro h₁ F' N' X' T'
  (try dsimp only)
  (try k_fold)
  k_steps
  (rename Fr _ _ _ _ => F)
  (rename News _ _ _ _ => N)
  refine good _ _ _ _ _ F.keep (N _ (.head _)).1 (N _ (.head _)).2.2 ?_
  unfold menu
  repeat' constructor
theorem menu_call {w : World} {mean : ExcName → Option Value} {mg mb : Str → Option Value} {loose : List Str} {dp un : Nat} {gd : Option (List Code)} {cn : Str} {cs : Scope} {a : Addr} {ccd : Value} {cl : List (Str × Addr)} {A₀ : Around} {base h₀ : Heap} {L : Addr} {m : Str → Option Value} {s : Shared} {Q E : Value → Shared → Prop} {news : List (Addr × Obj)}
    (B : Below A₀ base [] h₀) (F : Fr h₀ L s.heap m) (X : (hd.heap_39 w.params).In h₀) (N : News h₀ L s.heap news) (T : Top hd.view_39 loose mean mg mb h₀) (hk : cs.kind = .function)
    (hA : A₀.deeper (envX cn cs L a ccd cl) = ktrTop dp un gd cn cs L a ccd cl []) (hd : dp + 5 < recursionLimit) (hu : un + 50 < cLine)
    (good : ∀ l vs n h' tk', Fr h₀ L h' m → News h₀ L h' ((l, PySem.W.listOf vs.toArray n) :: news) → (∀ p ∈ news, p.1 ≠ l) → IntsAre vs menu → Q (.ref l) { s with heap := h', toks := tk' }) :
    wpAny (model PySem.Challenge.rw_nn0112_01.row.prog w) (ktrTop dp un gd cn cs L a ccd cl []) (call (.ref 87) []) Q E s := by
  refine menu_spec (law_below B F hA hk) (X.keeps (law_stays F)) (T.keeps (law_stays F)) hk hd hu fun l vs n h' tk' k1 k2 k3 hi => ?_
  have ne : ∀ p ∈ news, p.1 ≠ l := fun p hp e => by have := (N p hp).1; rw [e, k3] at this; cases this
  refine good l vs n h' tk' (F.keeps k1) (fun p hp => ?_) ne hi
  rcases List.mem_cons.mp hp with rfl | hp
  · refine ⟨k2, fun e => ?_, none_of_stays F.keep k3⟩
    obtain ⟨o, _, _, ho, _⟩ := F.ns
    rw [← e, k3] at ho; cases ho
  · exact ⟨k1 _ _ (N p hp).1, (N p hp).2⟩
end Mine

-- part C2
open PySem PySem.W PyProof.Rows PySem.Calls
set_option maxRecDepth 100000
namespace Mine
section
variable {prog : Program} {w : World} {A : Around} {E : Value → Shared → Prop} {s : Shared} {h₀ : Heap} {L : Addr} {m : Str → Option Value} {env : Env}
/-- the end of a turn over a ledger that stays -/
def CE (h₀ : Heap) (L : Addr) (m : Str → Option Value) (s₁ : Shared) (all : List (Addr × Obj)) (J : Value → Prop) (y : Value) (s₂ : Shared) : Prop :=
  ∃ h' tk, s₂ = { s₁ with heap := h', toks := tk } ∧ Fr h₀ L h' m ∧ News h₀ L h' all ∧ J y
def CT (h₀ : Heap) (L : Addr) (m : Str → Option Value) (s₁ : Shared) (all : List (Addr × Obj)) (J : Bool → Prop) (y : Bool) (s₂ : Shared) : Prop :=
  ∃ h' tk, s₂ = { s₁ with heap := h', toks := tk } ∧ Fr h₀ L h' m ∧ News h₀ L h' all ∧ J y
theorem ints_at {us : List Value} {ns : List Int} (hi : IntsAre us ns) {i : Nat} {v : Value} (h : us.toArray[i]? = some v) : ∃ n t, v = .int n t ∧ ns[i]? = some n := by
  have hl := hi.length
  have h' : us[i]? = some v := by simpa using h
  have hlt : i < ns.length := by
    have := (List.getElem?_eq_some_iff.mp h').1
    omega
  obtain ⟨t, e⟩ := hi.get i ns[i] (by simp [hlt])
  rw [h'] at e
  exact ⟨ns[i], t, Option.some.inj e, by simp [hlt]⟩
theorem comp_ints {elt : PySem.Expr} {x : Str} {scope : Scope} {cl : List (Str × Addr)} {Fin : Shared → List Value → List (Addr × Obj) → Prop} {ax : Addr} {us : List Value} {ns : List Int} {k : Nat} {news : List (Addr × Obj)} {s₁ : Shared}
    (J : Nat → List Value → Prop) (hh : A.handled = none) (F : Fr h₀ L s₁.heap m) (N : News h₀ L s₁.heap news) (hm : (ax, PySem.W.listOf us.toArray k) ∈ news) (hi : IntsAre us ns) (hsz : ns.length ≤ 1000) (J0 : J 0 [])
    (turn : ∀ i n ys t I oI C oC D m₂ h tk (E' : Value → Shared → Prop), ns[i]? = some n → J i ys → LCg.NsObj oC m₂ → m₂ x = some (.int n t) → Fr h₀ L h m → News h₀ L h ((I, oI) :: (C, oC) :: (D, LCg.lst ys) :: news) → LCg.Off3 I C D news → ((@Ne Nat I C) ∧ (@Ne Nat I D) ∧ (@Ne Nat C D)) →
      wpAny (model prog w) A (eval elt (compEnvC scope cl C env)) (CE h₀ L m { s₁ with heap := h, toks := tk } ((I, oI) :: (C, oC) :: (D, LCg.lst ys) :: news) (fun y => J (i + 1) (ys ++ [y]))) E' { s₁ with heap := h, toks := tk })
    (fin : ∀ ys g, J ns.length ys → Fin { s₁ with heap := g } ys news) : LCg.CompSrc prog w A h₀ L m env elt x scope cl Fin (.ref ax) s₁ := by
  have hl := hi.length
  refine LCg.CompSrc.ledger hh F N hm (by rw [sizeLine_eq]; simp; omega) fun g => turns_of (fun i ys nx => nx = news ∧ J i ys) ?_ ?_ _ 0 [] _ (by simp; rfl) ⟨rfl, J0⟩
  · rintro i ys nx _ ⟨rfl, hJ⟩ v I oI C oC D m₂ h tk E' hP hC hx F N off ne
    obtain ⟨n, t, rfl, hn⟩ := ints_at hi hP
    refine wpAny_mono (turn i n ys t I oI C oC D m₂ h tk E' hn hJ hC hx F N off ne) (fun y s₂ q => ?_) fun _ _ e => e
    obtain ⟨h', tk', e, F', N', J'⟩ := q
    exact ⟨h', tk', nx, e, F', N', off, .inr ⟨_, hm, rfl, _, rfl⟩, rfl, J'⟩
  · rintro ys nx ⟨rfl, hJ⟩
    rw [hl] at hJ
    exact fin ys _ hJ

theorem turns_ofT {ct elt : PySem.Expr} {x : Str} {scope : Scope} {cl : List (Str × Addr)} {S : List (Addr × Obj) → Prop} {P : Nat → Value → Prop} {Fin : List Value → List (Addr × Obj) → Prop} {n : Nat} (J : Nat → List Value → List (Addr × Obj) → Prop)
    (turn : ∀ i ys news, i < n → J i ys news → ∀ v I oI C oC D m₂ h tk (E' : Value → Shared → Prop), P i v → LCg.NsObj oC m₂ → m₂ x = some v → Fr h₀ L h m → News h₀ L h ((I, oI) :: (C, oC) :: (D, LCg.lst ys) :: news) → LCg.Off3 I C D news → ((@Ne Nat I C) ∧ (@Ne Nat I D) ∧ (@Ne Nat C D)) →
      wpAny (model prog w) A (isTrue ct (compEnvC scope cl C env) (eval ct (compEnvC scope cl C env))) (fun ok s' => if ok = true then
        wpAny (model prog w) A (eval elt (compEnvC scope cl C env)) (LCg.CompEnd h₀ L m { s with heap := h, toks := tk } I oI C oC D (LCg.lst ys) S (fun y news' => J (i + 1) (ys ++ [y]) news')) E' s'
        else LCg.CompEnd h₀ L m { s with heap := h, toks := tk } I oI C oC D (LCg.lst ys) S (fun _ news' => J (i + 1) ys news') Value.none s') E' { s with heap := h, toks := tk })
    (fin : ∀ ys news, J n ys news → Fin ys news) : ∀ k i ys news, i + k = n → J i ys news → LCt.CompRestT prog w A h₀ L m env ct elt x scope cl s S P Fin k i ys news := by
  intro k
  induction k with
  | zero => intro i ys news e j; obtain rfl : i = n := by omega
            exact LCt.CompRestT.zero (fin ys news j)
  | succ k ih =>
    intro i ys news e j
    refine LCt.CompRestT.succ fun v I oI C oC D m₂ h tk E' hP hC hx F N off ne => ?_
    refine wpAny_mono (turn i ys news (by omega) j v I oI C oC D m₂ h tk E' hP hC hx F N off ne) (fun ok s₂ q => ?_) fun _ _ e => e
    cases ok with
    | true =>
      simp only [if_true] at q ⊢
      refine wpAny_mono q (fun y s₃ q => ?_) fun _ _ e => e
      obtain ⟨h', tk', news', e1, F', N', off', hS, j'⟩ := q
      exact ⟨h', tk', news', e1, F', N', off', hS, ih (i + 1) _ _ (by omega) j'⟩
    | false =>
      simp only [Bool.false_eq_true, if_false] at q ⊢
      obtain ⟨h', tk', news', e1, F', N', off', hS, j'⟩ := q
      exact ⟨h', tk', news', e1, F', N', off', hS, ih (i + 1) _ _ (by omega) j'⟩

theorem filter_step {ns : List Int} {i : Nat} {n : Int} (h : ns[i]? = some n) (p : Int → Bool) : (ns.take (i + 1)).filter p = (ns.take i).filter p ++ (if p n = true then [n] else []) := by
  rw [List.take_add_one, h, List.filter_append]
  by_cases hp : p n = true <;> simp [hp]
theorem comp_filter {p : Int → Bool} {px : Pos} {ct : PySem.Expr} {x : Str} {scope : Scope} {cl : List (Str × Addr)} {Fin : Shared → List Value → List (Addr × Obj) → Prop} {ax : Addr} {us : List Value} {ns : List Int} {k : Nat} {news : List (Addr × Obj)} {s₁ : Shared}
    (hh : A.handled = none) (F : Fr h₀ L s₁.heap m) (N : News h₀ L s₁.heap news) (hm : (ax, PySem.W.listOf us.toArray k) ∈ news) (hi : IntsAre us ns) (hsz : ns.length ≤ 1000)
    (turn : ∀ n t I oI C oC D m₂ h tk ys (E' : Value → Shared → Prop), n ∈ ns → LCg.NsObj oC m₂ → m₂ x = some (.int n t) → Fr h₀ L h m → News h₀ L h ((I, oI) :: (C, oC) :: (D, LCg.lst ys) :: news) → LCg.Off3 I C D news → ((@Ne Nat I C) ∧ (@Ne Nat I D) ∧ (@Ne Nat C D)) →
      wpAny (model prog w) A (isTrue ct (compEnvC scope cl C env) (eval ct (compEnvC scope cl C env))) (CT h₀ L m { s₁ with heap := h, toks := tk } ((I, oI) :: (C, oC) :: (D, LCg.lst ys) :: news) (fun b => b = p n)) E' { s₁ with heap := h, toks := tk })
    (elem : ∀ C oC I oI D ys m₂ n t s₂ (E' Q : Value → Shared → Prop), LCg.NsObj oC m₂ → m₂ x = some (.int n t) → Fr h₀ L s₂.heap m → News h₀ L s₂.heap ((I, oI) :: (C, oC) :: (D, LCg.lst ys) :: news) → Q (.int n t) s₂ → wpAny (model prog w) A (eval (.Name x px) (compEnvC scope cl C env)) Q E' s₂)
    (fin : ∀ ys g, IntsAre ys (ns.filter p) → Fin { s₁ with heap := g } ys news) : LCt.CompSrcT prog w A h₀ L m env ct (.Name x px) x scope cl Fin (.ref ax) s₁ := by
  have hl := hi.length
  refine LCt.CompSrcT.ledger hh F N hm (by rw [sizeLine_eq]; simp; omega) fun g => turns_ofT (fun i ys nx => nx = news ∧ IntsAre ys ((ns.take i).filter p)) ?_ ?_ _ 0 [] _ (by simp; rfl) ⟨rfl, .nil⟩
  · rintro i ys nx _ ⟨rfl, hJ⟩ v I oI C oC D m₂ h tk E' hP hC hx F N off ne
    obtain ⟨n, t, rfl, hn⟩ := ints_at hi hP
    refine wpAny_mono (turn n t I oI C oC D m₂ h tk ys E' (List.mem_of_getElem? hn) hC hx F N off ne) (fun ok s₂ q => ?_) fun _ _ e => e
    obtain ⟨h', tk', e, F', N', hb⟩ := q
    have hst := filter_step hn p
    subst hb e
    by_cases hp : p n = true
    · rw [if_pos hp]
      refine elem C oC I oI D ys m₂ n t _ _ _ hC hx F' N' ?_
      refine ⟨h', tk', nx, rfl, F', N', off, .inr ⟨_, hm, rfl, _, rfl⟩, rfl, ?_⟩
      rw [hst, if_pos hp]
      exact IntsAre.append hJ (.cons _ _ .nil)
    · rw [if_neg hp]
      refine ⟨h', tk', nx, rfl, F', N', off, .inr ⟨_, hm, rfl, _, rfl⟩, rfl, ?_⟩
      rw [hst, if_neg hp, List.append_nil]
      exact hJ
  · rintro ys nx ⟨rfl, hJ⟩
    rw [List.take_of_length_le (by omega)] at hJ
    exact fin ys _ hJ
end
end Mine

-- part G1
open PySem PySem.W PyProof.Rows PySem.Calls
set_option maxRecDepth 100000
namespace Mine
theorem good_true {cl : PySem.Str → Option Addr} {mean : ExcName → Option Value} {script : List Int} {s₁ s' : Shared} {b : Bool} (hb : b = true) (k : ∀ a o, s₁.heap.get? a = some o → s'.heap.get? a = some o) (ho : s'.os = s₁.os) (hg : s'.gens = #[]) :
    GoodW PySem.Challenge.rw_nn0112_01.row.claim cl mean [ofPy (PyData.list (List.map PyData.int script))] s₁ (.ok (.ret (.bool b))) s' := by
  subst hb
  exact ⟨.inl ⟨_, .bool true, [], rfl, fun cls => rfl, ReadsW.bool _, by wrow_post, fun _ => ⟨List.nodup_nil, fun _ h => nomatch h⟩⟩, k, ho, hg⟩
end Mine

-- part M1
open PySem PySem.W PyProof.Rows PySem.Calls
set_option maxRecDepth 100000
namespace Mine
local macro_rules | `(tactic| walk_at "call ref") => `(tactic| (k_here; refine hold ?_))
local macro_rules | `(tactic| walk_at "call ref") => `(tactic| (k_here; (with_reducible show wpAny _ _ (call (Value.ref 94) [Value.ref _, Value.int _ _]) _ _ _); (k_dflt refine' draw_call ?B ?F ?X ?N ?U ?jm ?T ?hk ?hA ?hvs ?pc ?p0 ?q0 ?len ?p1 ?m0 ?m1 ?hd ?hu ?_); (case F => (k_dflt k_asm)); (case B => (k_dflt k_asm)); (case X => (k_dflt k_asm)); (case N => (k_dflt k_asm)); (case U => (k_dflt k_updF)); (case jm => (k_dflt k_mem)); (case T => (k_dflt k_asm)); (case hk => (k_dflt exact rfl)); (case hA => (k_dflt exact rfl)); (case hvs => with_reducible assumption); (case pc => k_ne); (case p0 => omega); (case q0 => omega); (case len => omega); (case p1 => omega); (case m0 => omega); (case m1 => omega); (case hd => ktr_room); (case hu => ktr_units); intro v9 t9 p9 tp9 q9 tq9 n9 h9 tk9 F9 N9 hv9a hv9b hp9a hp9b hq9; (try dsimp only at N9); (try k_sweep)))
local macro_rules | `(tactic| walk_at "exec For Name Call cons nil") => `(tactic| (k_here; (rename Fr _ _ _ _ => lF'); (with_unfolding_all refine' For_invVF lF' ?k1 ?k2 ?_; (case k1 => exact rfl); (case k2 => exact rfl); k_whole)))
local macro_rules | `(tactic| walk_at "pyIter ref") => `(tactic| (k_here; refine hold ?_))
local macro_rules | `(tactic| walk_at "call type:range") => `(tactic| (k_here; (rename Fr _ _ _ _ => F'); (rename News _ _ _ _ => N'); (with_unfolding_all refine range1_rows F' N' ?_); intro _ _ _ _ _ _ _ _ _))
local macro_rules | `(tactic| walk_at "call ref") => `(tactic| (k_here; (with_reducible show wpAny _ _ (call (Value.ref 87) _) _ _ _); (k_dflt refine' menu_call ?B ?F ?X ?N ?T ?hk ?hA ?hd ?hu ?_); (case F => (k_dflt k_asm)); (case B => (k_dflt k_asm)); (case X => (k_dflt k_asm)); (case N => (k_dflt k_asm)); (case T => (k_dflt k_asm)); (case hk => (k_dflt exact rfl)); (case hA => (k_dflt exact rfl)); (case hd => ktr_room); (case hu => ktr_units); intro l8 vs8 n8 h8 tk8 F8 N8 ne8 hi8; (have hz8 := hi8.length); (have e1 : @Ne Nat _ _ := ne8 _ (List.Mem.head _)); (have e2 : @Ne Nat _ _ := ne8 _ (List.Mem.tail _ (List.Mem.head _))); (have e3 : @Ne Nat _ _ := ne8 _ (List.Mem.tail _ (List.Mem.tail _ (List.Mem.head _)))); (try (have e4 : @Ne Nat _ _ := ne8 _ (List.Mem.tail _ (List.Mem.tail _ (List.Mem.tail _ (List.Mem.head _)))))); (try dsimp only at e1 e2 e3); (try dsimp only at e4); clear ne8; (try k_sweep)))
local macro_rules | `(tactic| walk_at "subscriptTail") => `(tactic| (k_here; (with_reducible show wpAny _ _ (subscriptTail _ _ (Value.ref _) (Value.int _ _)) _ _ _); (k_dflt refine' item_units ?k1 ?k2 ?kr ?k3 ?k4 ?k5 ?_ ?k6; (case k1 => is_list); (case k2 => with_reducible assumption); (case kr => with_reducible assumption); (case k3 => omega); (case k4 => omega); (case k5 => omega); (case k6 => with_unfolding_all rfl); k_whole); intro v9 t9 hv9a hv9b hv9))
local macro_rules | `(tactic| walk_at "call builtin:list.extend") => `(tactic| (k_here; (with_reducible show wpAny _ _ (call (Value.builtin _) [Value.ref _, Value.ref _]) _ _ _); k_dflt (refine' extend_call ?F ?N ?b ?ne ?U ?z ?y ?_; (case F => k_asm); (case N => k_asm); (case b => k_mem); (case U => k_upd); (case ne => exact Nat.succ_ne_zero _); (case z => ((try simp only [List.length_append, List.length_cons, List.length_nil]); omega)); (case y => ((try simp only [List.length_append, List.length_cons, List.length_nil]); omega))); intro h' F' N'; (try k_sweep)))
local macro_rules | `(tactic| walk_at "InvEndN") => `(tactic| (refine hold ?_))
theorem small0 {v : Int} (h0 : 0 ≤ v) (h1 : v < 100) : Builtin.Range.small 0 v 1 = true := by
  unfold Builtin.Range.small Builtin.Range.rangeSize
  rw [if_pos (show (1 : Int) > 0 by decide)]
  unfold Builtin.Range.rangeFitsLong
  split <;> simp <;> omega
theorem size0 {v : Int} (h0 : 0 ≤ v) : Builtin.Range.rangeSize 0 v 1 = ((v.toNat : Nat) : Int) := by
  unfold Builtin.Range.rangeSize
  rw [if_pos (show (1 : Int) > 0 by decide)]
  split <;> omega
section
variable {prog : Program} {w : World} {A : Around} {E : Value → Shared → Prop} {s : Shared} {a b : Int} {t u : Tok} {Q : Value → Shared → Prop}
theorem divE (hb : 0 < b) (hb2 : b < 1073741824) (h : Q (.int (a / b) s.toks) { s with toks := s.toks + 1 }) : wpAny (model prog w) A (binaryOp .FloorDiv (.int a t) (.int b u)) Q E s :=
  floordiv_int (by omega) (by rw [Int.fdiv_eq_ediv_of_nonneg _ (by omega)]; exact h) (.inl (PyProof.noPylong_small (by omega)))
theorem modE (hb : 0 < b) (h : Q (.int (a % b) s.toks) { s with toks := s.toks + 1 }) : wpAny (model prog w) A (binaryOp .Mod (.int a t) (.int b u)) Q E s :=
  mod_int' (by omega) (by rw [Int.fmod_eq_emod_of_nonneg _ (by omega)]; exact h)
end
local macro_rules | `(tactic| walk_at "binaryOp FloorDiv int int") => `(tactic| (k_here; (refine divE (by decide) (by decide) ?_)))
local macro_rules | `(tactic| walk_at "binaryOp Mod int int") => `(tactic| (k_here; (refine modE (by decide) ?_)))
local macro_rules | `(tactic| walk_at "eval ListComp") => `(tactic| (k_here; (with_reducible show wpAny _ _ (eval (Expr.ListComp _ [⟨_, Expr.Name _ _, [], 0⟩] _ _) _) _ _ _); k_dflt (refine LCg.ListComp_U (F₀ := by k_asm) (by with_unfolding_all rfl) (by decide) (by with_unfolding_all rfl) (by decide) (by with_unfolding_all rfl) ?_)))
local macro_rules | `(tactic| walk_at "CompSrc") => `(tactic| (k_here; (with_reducible show LCg.CompSrc _ _ _ _ _ _ _ (Expr.Call (Expr.Name _ _) [_] _ _) (PySem.Str.ofString "unit") _ _ _ _ _); refine hold ?_))
local macro_rules | `(tactic| walk_at "getMethod bytes") => `(tactic| (k_here; refine getM_join ?_))
local macro_rules | `(tactic| walk_at "call builtin:bytes.join") => `(tactic| (k_here; refine hold ?_))
local macro_rules | `(tactic| walk_at "call type:bytes") => `(tactic| (k_here; k_dflt (refine' bytes_call ?F ?N ?h ?l ?i ?r ?n ?_; (case F => k_asm); (case N => k_asm); (case h => exact rfl); (case l => is_list); (case i => first | exact IntsAre.cons _ _ (IntsAre.cons _ _ IntsAre.nil) | exact IntsAre.cons _ _ IntsAre.nil); (case r => intro x hx; simp only [List.mem_cons, List.not_mem_nil, or_false] at hx; omega); (case n => (simp only [List.length_cons, List.length_nil]; omega))); intro h' t' k' F' N'; (try k_sweep)))
theorem add_bs {prog : Program} {w : World} {A : Around} {E : Value → Shared → Prop} {s : Shared} {t u : Tok} {Q : Value → Shared → Prop} {bs cs : List UInt8} (hn : bs.length + cs.length ≤ 1000) (h : ∀ t' k, Q (.bytes (bs ++ cs).toArray t') { s with toks := k }) :
    wpAny (model prog w) A (binaryOp .Add (.bytes bs.toArray t) (.bytes cs.toArray u)) Q E s := by
  refine KBy.add_bytes (by simp only [List.size_toArray]; omega) fun t' k => ?_
  rw [List.append_toArray]
  exact h t' k
local macro_rules | `(tactic| walk_at "binaryOp Add bytes bytes") => `(tactic| (k_here; (refine add_bs (by simp only [toBytes_length, be_length, List.length_cons, List.length_nil]; omega) ?_); intro t9 k9))
theorem slice1 {prog : Program} {w : World} {A : Around} {E : Value → Shared → Prop} {s : Shared} {value slice : PySem.Expr} {t tl : Tok} {h₀ : Heap} {L : Addr} {m : PySem.Str → Option Value} {news : List (Addr × Obj)} {Q : Value → Shared → Prop} {bs : List UInt8} (hF : Fr h₀ L s.heap m) (hN : News h₀ L s.heap news) (hz : bs.length ≤ 1000)
    (h : ∀ (cs : List UInt8) h' t' k, cs.length = bs.length - 1 → Fr h₀ L h' m → News h₀ L h' news → Q (.bytes cs.toArray t') { s with heap := h', toks := k })
    (hs : subscripted slice false (.bytes bs.toArray t) (.ref s.heap.objs.size) = operate [.ref s.heap.objs.size, .bytes bs.toArray t] (getItem (.bytes bs.toArray t) (.ref s.heap.objs.size)))
    (ht : ∀ r, letTemporaryGo value (.bytes bs.toArray t) r = pure ()) :
    wpAny (model prog w) A (subscriptTail value slice (.bytes bs.toArray t) (.ref s.heap.objs.size)) Q E { s with heap := s.heap.push { cls := .type "slice", data := .fields #[.int 1 tl, .none, .none] } } := by
  refine KBc.slice_K (lo := some 1) (hi := none) hF hN rfl (by constructor) (by constructor) (by rw [KBw.ints_length]; simp; omega) (fun h' t' k F N e => ?_) hs ht
  have e2 := congrArg List.length e
  rw [KBw.ints_length] at e2
  have c1 : clipAt bs.length 1 = min 1 bs.length := KBc.clip_lit _ 1
  simp only [Option.elim, c1, List.length_take, List.length_drop, KBw.ints_length, List.size_toArray] at e2
  have g := h (KBy.picked bs.toArray (some 1) none).toList h' t' k (by rw [Array.length_toList]; omega) F N
  rw [Array.toArray_toList] at g
  exact g
local macro_rules | `(tactic| walk_at "truthy bytes") => `(tactic| (k_here; refine hold ?_))
local macro_rules | `(tactic| walk_at "subscriptTail") => `(tactic| (k_here; (with_reducible show wpAny _ _ (subscriptTail _ (Expr.Slice _ _ none _) (Value.bytes _ _) (Value.ref _)) _ _ _); (with_reducible rename Fr _ _ _ _ => F'); (with_reducible rename News _ _ _ _ => N'); (refine slice1 (s := ⟨_, _, _, _, _⟩) F' N' (by rw [toBytes_length, be_length]; omega) ?_ (by with_unfolding_all rfl) (by intro _; with_unfolding_all rfl)); intro cs9 h9 t9 k9 hcs F9 N9; (try k_sweep)))
local macro_rules | `(tactic| walk_at "call builtin:chr") => `(tactic| (k_here; (refine chr_of_range (by omega) (by omega) ?_)))
section
variable {prog : Program} {w : World} {A : Around} {E : Value → Shared → Prop} {s : Shared} {h₀ : Heap} {L a b : Addr} {m : PySem.Str → Option Value} {news : List (Addr × Obj)} {vs ws : List Value} {Q : Value → Shared → Prop} {value slice : PySem.Expr} {x : Int} {t : Tok}
theorem add_ll (F : Fr h₀ L s.heap m) (N : News h₀ L s.heap news) (ha : s.heap.IsList a vs.toArray) (hb : s.heap.IsList b ws.toArray) (hz : vs.length + ws.length ≤ 1000)
    (h : ∀ D h', Fr h₀ L h' m → News h₀ L h' ((D, PySem.W.listOf (vs ++ ws).toArray 0) :: news) → (∀ p ∈ news, p.1 < D) → Q (.ref D) { s with heap := h' }) : wpAny (model prog w) A (binaryOp .Add (.ref a) (.ref b)) Q E s :=
  kmk_add_lit F N ha hb rfl h (by rw [sizeLine_eq]; simp; omega)
theorem slice_from_l (F : Fr h₀ L s.heap m) (N : News h₀ L s.heap news) (ha : s.heap.IsList a vs.toArray) (h0 : 0 ≤ x) (h1 : x ≤ vs.length) (hz : vs.length ≤ 1000)
    (h : ∀ D h', Fr h₀ L h' m → News h₀ L h' ((D, PySem.W.listOf (vs.drop x.toNat).toArray 0) :: news) → (∀ p ∈ news, p.1 < D) → Q (.ref D) { s with heap := h' })
    (hs : subscripted slice false (.ref a) (.ref s.heap.objs.size) = operate [.ref s.heap.objs.size, .ref a] (getItem (.ref a) (.ref s.heap.objs.size))) (ht : ∀ r, letTemporaryGo value (.ref a) r = pure ()) :
    wpAny (model prog w) A (subscriptTail value slice (.ref a) (.ref s.heap.objs.size)) Q E { s with heap := s.heap.push { cls := .type "slice", data := .fields #[.int x t, .none, .none] } } :=
  kmk_slice_lit F N ha (IsPart.int _ _) IsPart.none (by
    have e := slicePick_from vs.toArray x.toNat (by simp; omega)
    rw [Int.toNat_of_nonneg h0] at e
    rw [e]) h hs ht (by rw [sizeLine_eq]; simp; omega)
theorem slice_to_l (F : Fr h₀ L s.heap m) (N : News h₀ L s.heap news) (ha : s.heap.IsList a vs.toArray) (h0 : 0 ≤ x) (h1 : x ≤ vs.length) (hz : vs.length ≤ 1000)
    (h : ∀ D h', Fr h₀ L h' m → News h₀ L h' ((D, PySem.W.listOf (vs.take x.toNat).toArray 0) :: news) → (∀ p ∈ news, p.1 < D) → Q (.ref D) { s with heap := h' })
    (hs : subscripted slice false (.ref a) (.ref s.heap.objs.size) = operate [.ref s.heap.objs.size, .ref a] (getItem (.ref a) (.ref s.heap.objs.size))) (ht : ∀ r, letTemporaryGo value (.ref a) r = pure ()) :
    wpAny (model prog w) A (subscriptTail value slice (.ref a) (.ref s.heap.objs.size)) Q E { s with heap := s.heap.push { cls := .type "slice", data := .fields #[.none, .int x t, .none] } } :=
  kmk_slice_lit F N ha IsPart.none (IsPart.int _ _) (by
    have e := slicePick_upto vs.toArray x.toNat (by simp; omega)
    rw [Int.toNat_of_nonneg h0] at e
    rw [e]) h hs ht (by rw [sizeLine_eq]; simp; omega)
end
theorem len_l {prog : Program} {w : World} {A : Around} {E : Value → Shared → Prop} {s : Shared} {Q : Value → Shared → Prop} {a : Addr} {vs : List Value} {k : Nat} (hl : s.heap.IsList a vs.toArray) (e : vs.length = k) (hk : k ≤ 1000) (h : ∀ t tk, Q (.int (k : Int) t) { s with toks := tk }) : wpAny (model prog w) A (call (.builtin "len") [.ref a]) Q E s := by
  subst e
  exact call_len_list hl (by simp; omega) (by have := h; simp only [List.size_toArray]; exact this _ _)
theorem swap_strs {us : List Value} {l : List Int} (h : StrsAre us (l.map sign)) (k : Nat) : StrsAre (us.drop k ++ us.take k) ((l.drop k ++ l.take k).map sign) := by
  rw [List.map_append, List.map_drop, List.map_take]
  exact (h.drop' k).append' (h.take' k)
theorem strs_snoc2 {us : List Value} {l : List Int} {c : Int} {t : Tok} (h : StrsAre us (l.map sign)) : StrsAre (us ++ [.str ⟨#[c.toNat]⟩ t]) ((l ++ [c]).map sign) := by
  rw [List.map_append]
  exact strs_snoc h
local macro_rules | `(tactic| walk_at "call builtin:len") => `(tactic| (k_here; (with_reducible show wpAny _ _ (call (Value.builtin "len") [Value.ref _]) _ _ _); k_dflt (refine' len_l ?l ?e ?k ?_; (case l => is_list); (case e => (simp only [List.length_append, List.length_cons, List.length_nil]; rfl)); (case k => omega)); intro t9 k9))
local macro_rules | `(tactic| walk_at "binaryOp Add ref ref") => `(tactic| (k_here; (with_reducible show wpAny _ _ (binaryOp _ (Value.ref _) (Value.ref _)) _ _ _); k_dflt (refine' add_ll ?F ?N ?a ?b ?z ?_; (case F => k_asm); (case N => k_asm); (case a => is_list); (case b => is_list); (case z => ((try simp only [List.length_append, List.length_cons, List.length_nil, List.length_drop, List.length_take]); omega))); intro D' h' F' N' l1; (try k_lt l1); (try k_sweep)))
local macro_rules | `(tactic| walk_at "subscriptTail Name Slice ref ref") => `(tactic| (k_here; (with_reducible show wpAny _ _ (subscriptTail _ (PySem.Expr.Slice (some _) none none _) (Value.ref _) (Value.ref _)) _ _ _); (with_reducible rename Fr _ _ _ _ => F'); (with_reducible rename News _ _ _ _ => N'); k_dflt (refine' slice_from_l (s := ⟨_, _, _, _, _⟩) F' N' ?a ?x ?y ?z ?_ ?s ?t; (case a => is_list); (case x => omega); (case y => (simp only [List.length_append, List.length_cons, List.length_nil]; omega)); (case z => (simp only [List.length_append, List.length_cons, List.length_nil]; omega)); (case s => with_unfolding_all rfl); (case t => kmk_pure)); intro D' h' F' N' l1; (try k_lt l1); (try k_sweep)))
local macro_rules | `(tactic| walk_at "subscriptTail Name Slice ref ref") => `(tactic| (k_here; (with_reducible show wpAny _ _ (subscriptTail _ (PySem.Expr.Slice none (some _) none _) (Value.ref _) (Value.ref _)) _ _ _); (with_reducible rename Fr _ _ _ _ => F'); (with_reducible rename News _ _ _ _ => N'); k_dflt (refine' slice_to_l (s := ⟨_, _, _, _, _⟩) F' N' ?a ?x ?y ?z ?_ ?s ?t; (case a => is_list); (case x => omega); (case y => (simp only [List.length_append, List.length_cons, List.length_nil]; omega)); (case z => (simp only [List.length_append, List.length_cons, List.length_nil]; omega)); (case s => with_unfolding_all rfl); (case t => kmk_pure)); intro D' h' F' N' l1; (try k_lt l1); (try k_sweep)))
local macro_rules | `(tactic| walk_at "call builtin:str.join") => `(tactic| (k_here; refine hold ?_))
local macro_rules | `(tactic| walk_at "eval ListComp") => `(tactic| (k_here; (with_reducible show wpAny _ _ (eval (Expr.ListComp _ [⟨_, Expr.Name _ _, [_], 0⟩] _ _) _) _ _ _); k_dflt (refine LCt.ListComp_T (F₀ := by k_asm) (by with_unfolding_all rfl) (by decide) (by with_unfolding_all rfl) (by decide) (by with_unfolding_all rfl) ?_)))
local macro_rules | `(tactic| walk_at "CompSrcT") => `(tactic| (k_here; refine hold ?_))
theorem sized {ns : List Int} {c : Int} {k : Nat} (_hh : ∀ x ∈ (ns ++ [c]).drop k ++ (ns ++ [c]).take k, ¬ half x) (hc : 65536 ≤ c) (hin : in16 ns) : (encs ((ns ++ [c]).drop k ++ (ns ++ [c]).take k)).length = 2 * (ns.length + 1) + 2 ∧ ((ns ++ [c]).drop k ++ (ns ++ [c]).take k).length = ns.length + 1 :=
  ⟨encs_len_line hin hc k, by rw [List.length_append, Nat.add_comm, ← List.length_append, List.take_append_drop]; simp⟩
section
variable {prog : Program} {w : World} {A : Around} {E : Value → Shared → Prop} {s : Shared} {Q : Value → Shared → Prop} {t : Tok} {k : Nat}
theorem len_bs {bs : List UInt8} (e : bs.length = k) (hk : k ≤ 1000) (h : ∀ t tk, Q (.int (k : Int) t) { s with toks := tk }) : wpAny (model prog w) A (call (.builtin "len") [.bytes bs.toArray t]) Q E s := by
  subst e
  exact len_bytes (by simp only [List.size_toArray]; omega) (by have := h; simp only [List.size_toArray]; exact this _ _)
theorem len_tx {l : List Int} (e : l.length = k) (hk : k ≤ 1000) (h : ∀ t tk, Q (.int (k : Int) t) { s with toks := tk }) : wpAny (model prog w) A (call (.builtin "len") [.str (txt l) t]) Q E s := by
  subst e
  have h2 := h
  rw [← txt_length] at h2
  exact PySem.P.len_str (by rw [txt_length]; omega) (h2 _ _)
end
local macro_rules | `(tactic| walk_at "call builtin:len") => `(tactic| (k_here; (with_reducible show wpAny _ _ (call (Value.builtin "len") [Value.bytes _ _]) _ _ _); refine hold ?_))
local macro_rules | `(tactic| walk_at "call builtin:len") => `(tactic| (k_here; (with_reducible show wpAny _ _ (call (Value.builtin "len") [Value.bytes _ _]) _ _ _); k_dflt (refine' len_bs ?e ?k ?_; (case e => exact (toBytes_length _).trans (by with_reducible assumption)); (case k => omega)); intro t9 k9))
local macro_rules | `(tactic| walk_at "call builtin:len") => `(tactic| (k_here; (with_reducible show wpAny _ _ (call (Value.builtin "len") [Value.str _ _]) _ _ _); k_dflt (refine' len_tx ?e ?k ?_; (case e => with_reducible assumption); (case k => omega)); intro t9 k9))
set_option maxHeartbeats 8000000 in
theorem holds : PySem.Challenge.rw_nn0112_01.Holds := by
  w_top off
  refine Mine.hd ?_
  k_go0
  (try k_fold)
  (rename List Int => script)
  have hlen : (List.map (fun k' => k') (List.take 40 script)).length ≤ 40 := by simp; omega
  k_steps
  unfold Hold
  k_sweep
  (rename Fr _ _ _ _ => F)
  (rename News _ _ _ _ => N)
  (rename IsRange _ _ _ _ _ _ _ _ => rgX)
  (rename IntsAre _ (List.map _ _) => hys)
  rename_i lD hD0 tkD oD lP hP0 l1P hP1 tkP lU hU0 l1U hU1 v9 t9 p9 tp9 q9 tq9 n9 h9 tk9 hv9a hv9b hp9a hp9b hq9 h8 tk8 t81 u81 v81 a8
  refine kst_range (σ := List Value × Nat × List Int × Int × Tok × Int × Tok × Nat) (fun c => [(lU, PySem.W.listOf c.1.toArray c.2.1), (lP, PySem.W.listOf [Value.ref lD, Value.int c.2.2.2.1 c.2.2.2.2.1, Value.int c.2.2.2.2.2.1 c.2.2.2.2.2.2.1].toArray c.2.2.2.2.2.2.2), (lD, LCg.lst ys)])
    (fun _ => []) (fun c => IntsAre c.1 c.2.2.1) ["way"] (fun pre c => (∀ v ∈ c.2.2.1, 0 ≤ v ∧ v ≤ 65535) ∧ c.2.2.1.length ≤ 2 * pre.length ∧ 0 ≤ c.2.2.2.1 ∧ c.2.2.2.1 ≤ 1 + 3 * pre.length ∧ 0 ≤ c.2.2.2.2.2.1) ([], 0, [], p9, tp9, q9, tq9, n9) rfl rgX (small0 hv9a (by omega)) (size0 hv9a) F (fun x hx => N x (List.mem_append_left [_] hx)) .nil (fun _ h => nomatch h)
    ⟨fun _ h => (nomatch h), Nat.zero_le _, hp9a, hp9b, hq9⟩ ?_ ?_
  · rintro ⟨us, nu, ns, p, tp, q, tq, np⟩ pre k t u h tk own e hpre off hi ⟨p1, p2, p3, p4, p5⟩ F N
    dsimp only [kstB] at hi p1 p2 p3 p4 p5 F N ⊢
    k_sweep
    k_fold
    simp only [List.cons_append, List.nil_append] at N
    have hus : us.length = ns.length := hi.length
    have hmenu : ∀ v ∈ menu, 0 ≤ v ∧ v ≤ 65535 := by decide
    have hml : menu.length = 10 := rfl
    have hpn : pre.length < 6 := by omega
    k_steps
    all_goals (unfold Hold)
    all_goals (rename Fr _ _ _ _ => F)
    all_goals (rename News _ _ _ _ => N)
    all_goals (try simp only [List.push_toArray] at N)
    · refine kst_end ⟨_, _, ns ++ [_, _], _, _, _, _, _⟩ F N (by kst_in) (by intro p hp; kst_mem) rfl (IntsAre.append hi (.cons _ _ (.cons _ _ .nil))) (fun _ h => nomatch h) (by kst_same) ⟨?_, ?_, ?_, ?_, ?_⟩
      · intro v hv
        rcases List.mem_append.mp hv with hv | hv
        · exact p1 v hv
        · simp only [List.mem_cons, List.not_mem_nil, or_false] at hv
          rcases hv with rfl | rfl <;> omega
      · dsimp only; simp only [List.length_append, List.length_cons, List.length_nil]; omega
      · dsimp only; omega
      · dsimp only; simp only [List.length_append, List.length_cons, List.length_nil]; omega
      · dsimp only; omega
    · refine kst_end ⟨_, _, ns ++ [_], _, _, _, _, _⟩ F N (by kst_in) (fun p hp => .tail _ (.tail _ (.tail _ hp))) rfl (IntsAre.append hi (.cons _ _ .nil)) (fun _ h => nomatch h) (by kst_same) ⟨?_, ?_, ?_, ?_, ?_⟩
      · intro v hv
        rcases List.mem_append.mp hv with hv | hv
        · exact p1 v hv
        · rw [List.mem_singleton.mp hv]; omega
      · dsimp only; simp only [List.length_append, List.length_cons, List.length_nil]; omega
      · dsimp only; omega
      · dsimp only; simp only [List.length_append, List.length_cons, List.length_nil]; omega
      · dsimp only; omega
    · refine kst_end ⟨_, _, ns ++ [_], _, _, _, _, _⟩ F N (by kst_in) (fun p hp => .tail _ (.tail _ (.tail _ (.tail _ (.tail _ hp))))) rfl (IntsAre.append hi (.cons _ _ .nil)) (fun _ h => nomatch h) (by kst_same) ⟨?_, ?_, ?_, ?_, ?_⟩
      · intro v hv
        rcases List.mem_append.mp hv with hv | hv
        · exact p1 v hv
        · rw [List.mem_singleton.mp hv]; exact getD_range hmenu _
      · dsimp only; simp only [List.length_append, List.length_cons, List.length_nil]; omega
      · dsimp only; omega
      · dsimp only; simp only [List.length_append, List.length_cons, List.length_nil]; omega
      · dsimp only; omega
  · rintro ⟨us, nu, ns, p, tp, q, tq, np⟩ u h tk hi ⟨p1, p2, p3, p4, p5⟩ F N
    rw [rangeKs_length] at p2 p4
    dsimp only [kstB] at hi p1 p2 p3 p4 p5 F N ⊢
    k_sweep
    k_fold
    have hns : ns.length ≤ 12 := by omega
    have hp20 : p ≤ 20 := by omega
    have hin : in16 ns := p1
    k_steps
    unfold Hold
    (rename Fr _ _ _ _ => F)
    (rename News _ _ _ _ => N)
    refine comp_ints (fun i ys => BytesAre ys ((ns.take i).map fun u => toBytes [u / 256, u % 256])) rfl F N (by k_mem) hi (by omega) .nil ?_ ?_
    · intro i n ys t I oI C oC D m₂ h tk E' hn hJ hC hx F N off ne
      simp only [LCg.Off3, and_true] at off
      have hr := hin n (List.mem_of_getElem? hn)
      k_steps
      (rename Fr _ _ _ _ => F)
      (rename News _ _ _ _ => N)
      refine ⟨_, _, rfl, F, fun q hq => N q (.tail _ hq), ?_⟩
      dsimp only
      rw [List.take_add_one, hn, List.map_append]
      exact hJ.append (.cons _ _ .nil)
    · intro ys g hJ
      rw [List.take_length] at hJ
      k_steps
      unfold Hold
      refine join_bytes (by is_list) hJ (by rw [flat_be, toBytes_length, be_length]; omega) fun t9 k9 => ?_
      rw [flat_be]
      k_steps
      unfold Hold
      k_dflt (refine' read_call ?B ?F ?X ?N ?T ?hk ?hA ?hd ?hu ?hl hi ?hz hin ?bad ?good; (case F => k_asm); (case B => k_asm); (case X => k_asm); (case N => k_asm); (case T => k_asm); (case hk => exact rfl); (case hA => exact rfl); (case hd => ktr_room); (case hu => ktr_units); (case hl => is_list); (case hz => omega))
      case' good =>
        intro cds hp t9 h9 tk9 F N
        k_sweep
        obtain ⟨hc1, hc2, hc3⟩ := pairs_codes ns.length (Nat.le_refl _) hin hp
        k_steps
        unfold Hold
        k_dflt (refine' heard_call ?B ?F ?X ?N ?T ?hk ?hA ?hd ?hu ?hz ?bad2 ?good2; (case F => k_asm); (case B => k_asm); (case X => k_asm); (case N => k_asm); (case T => k_asm); (case hk => exact rfl); (case hA => exact rfl); (case hd => ktr_room); (case hu => ktr_units); (case hz => rw [toBytes_length, be_length]; omega))
        case bad2 => intro e; rw [dec_be hin, hp] at e; cases e
        case' good2 =>
          intro cds2 e t9 h9 tk9 F N
          k_sweep
          rw [dec_be hin, hp] at e
          obtain rfl := Option.some.inj e
          k_steps
          unfold Hold
          k_dflt (refine' told_call ?B ?F ?X ?N ?T ?hk ?hA ?hd ?hu ?hz ?hr ?bad4 ?good4; (case F => k_asm); (case B => k_asm); (case X => k_asm); (case N => k_asm); (case T => k_asm); (case hk => exact rfl); (case hA => exact rfl); (case hd => ktr_room); (case hu => ktr_units); (case hz => omega); (case hr => exact fun c hc => (hc1 c hc).2))
          case bad4 => rintro ⟨c, hc, hh⟩; exact absurd hh (hc1 c hc).1
          case' good4 =>
            intro _ t9 h9 tk9 F N
            k_sweep
            rw [hc2]
            k_steps
      case' bad =>
        intro hp h9 tk9 F N
        k_sweep
        k_steps
        unfold Hold
        k_dflt (refine' heard_call ?B ?F ?X ?N ?T ?hk ?hA ?hd ?hu ?hz ?bad3 ?good3; (case F => k_asm); (case B => k_asm); (case X => k_asm); (case N => k_asm); (case T => k_asm); (case hk => exact rfl); (case hA => exact rfl); (case hd => ktr_room); (case hu => ktr_units); (case hz => rw [toBytes_length, be_length]; omega))
        case good3 => intro cds e; rw [dec_be hin, hp] at e; cases e
        case' bad3 =>
          intro _ h9 tk9 F N
          k_sweep
          k_steps
      all_goals (unfold Hold)
      all_goals (k_dflt (refine' heard_call ?B ?F ?X ?N ?T ?hk ?hA ?hd ?hu ?hz ?_ ?_; (case F => k_asm); (case B => k_asm); (case X => k_asm); (case N => k_asm); (case T => k_asm); (case hk => exact rfl); (case hA => exact rfl); (case hd => ktr_room); (case hu => ktr_units); (case hz => simp only [List.length_append, toBytes_length, be_length, List.length_cons, List.length_nil]; omega)))
      all_goals first
        | (intro cds e; rw [dec_odd (by simp only [List.length_append, toBytes_length, be_length, List.length_cons, List.length_nil]; omega)] at e; cases e; done)
        | (intro _ h9 tk9 F N; k_sweep; k_steps)
      all_goals (unfold Hold; refine truthy_bytes (by simp only [List.size_toArray, toBytes_length, be_length]; omega) ?_)
      all_goals (rcases Nat.eq_zero_or_pos ns.length with hz0 | hz0)
      all_goals first
        | (exfalso; rw [List.eq_nil_of_length_eq_zero hz0, pairs_nil] at hp; cases hp; done)
        | (rw [show (((toBytes (be ns)).toArray.size : Int) != 0) = false by simp only [List.size_toArray, toBytes_length, be_length, hz0]; rfl]; k_steps)
        | (rw [show (((toBytes (be ns)).toArray.size : Int) != 0) = true by simp only [List.size_toArray, toBytes_length, be_length]; exact bne_iff_ne.mpr (by omega)]; k_steps)
      all_goals (unfold Hold)
      all_goals first
        | (with_reducible show LCg.CompSrc _ _ _ _ _ _ _ _ _ _ _ _ _ _)
        | ((rename List.length _ = List.length (toBytes _) - 1 => hcs); rw [toBytes_length, be_length] at hcs; k_dflt (refine' heard_call ?B ?F ?X ?N ?T ?hk ?hA ?hd ?hu ?hz ?_ ?_; (case F => k_asm); (case B => k_asm); (case X => k_asm); (case N => k_asm); (case T => k_asm); (case hk => exact rfl); (case hA => exact rfl); (case hd => ktr_room); (case hu => ktr_units); (case hz => omega)))
      all_goals first
        | (with_reducible show LCg.CompSrc _ _ _ _ _ _ _ _ _ _ _ _ _ _)
        | (intro cds e; rw [dec_odd (by omega)] at e; cases e; done)
        | (intro _ h9 tk9 F N; k_sweep; k_steps; unfold Hold)
      all_goals (rename Fr _ _ _ _ => F)
      all_goals (rename News _ _ _ _ => N)
      all_goals (refine comp_ints (fun i ys => StrsAre ys ((ns.take i).map sign)) rfl F N (by k_mem) hi (by omega) .nil (by
           intro i n ys t I oI C oC D m₂ h tk E' hn hJ hC hx F N off ne
           simp only [LCg.Off3, and_true] at off
           have hr := hin n (List.mem_of_getElem? hn)
           k_steps
           (rename Fr _ _ _ _ => F)
           (rename News _ _ _ _ => N)
           refine ⟨_, _, rfl, F, N, ?_⟩
           dsimp only
           rw [List.take_add_one, hn, List.map_append]
           exact strs_snoc hJ) ?_)
      all_goals (
           intro ys g hJ
           rw [List.take_length] at hJ
           have hyl : ys.length = ns.length := by have := hJ.length; simpa using this
           k_steps)
      all_goals (unfold Hold)
      all_goals (
        refine join_call (by is_list) (swap_strs (strs_snoc2 hJ) _) (by simp only [List.length_append, List.length_cons, List.length_nil, List.length_drop, List.length_take]; omega) fun t9 k9 => ?_
        k_steps)
      all_goals (unfold Hold)
      all_goals (k_dflt (refine' told_call ?B ?F ?X ?N ?T ?hk ?hA ?hd ?hu ?hz ?hr ?_ ?_; (case F => k_asm); (case B => k_asm); (case X => k_asm); (case N => k_asm); (case T => k_asm); (case hk => exact rfl); (case hA => exact rfl); (case hd => ktr_room); (case hu => ktr_units); (case hz => simp only [List.length_append, List.length_cons, List.length_nil, List.length_drop, List.length_take]; omega); (case hr => (intro c hc; rw [mem_swap, List.mem_append, List.mem_singleton] at hc; rcases hc with hc | rfl <;> first | (have := hin c hc; omega) | omega))))
      all_goals first
        | (rintro ⟨c, hc, hh⟩ h9 tk9 F N
           have hf : ns.filter (fun u => decide (u / 2048 = 27)) ≠ [] := by
             rw [mem_swap, List.mem_append, List.mem_singleton] at hc
             rcases hc with hc | rfl
             · exact List.ne_nil_of_mem (List.mem_filter.mpr ⟨hc, decide_eq_true (half_iff.mpr hh)⟩)
             · unfold half at hh; omega
           clear hc hh
           k_sweep
           k_steps)
        | (intro hh t9 h9 tk9 F N
           have hno : ∀ u ∈ ns, ¬ half u := fun u hu => hh u (by rw [mem_swap, List.mem_append]; exact .inl hu)
           have hf : ns.filter (fun u => decide (u / 2048 = 27)) = [] := List.filter_eq_nil_iff.mpr fun u hu q => hno u hu (half_iff.mp (of_decide_eq_true q))
           k_sweep
           k_steps)
      all_goals (unfold Hold)
      all_goals (rename Fr _ _ _ _ => F)
      all_goals (rename News _ _ _ _ => N)
      all_goals (refine comp_filter (p := fun u => decide (u / 2048 = 27)) rfl F N (by k_mem) hi (by omega) (by
           intro n t I oI C oC D m₂ h tk ys E' hn hC hx F N off ne
           simp only [LCg.Off3, and_true] at off
           k_steps
           (rename Fr _ _ _ _ => F)
           (rename News _ _ _ _ => N)
           exact ⟨_, _, rfl, F, N, rfl⟩) (by
           intro C oC I oI D ys m₂ n t s₂ E' Q hC hx F N hq
           k_steps
           exact hq) ?_)
      all_goals (
           intro zs g hz
           repeat' (first | (k_unfold; (try dsimp only)) | walk1 | (dsimp only; walk1) | (leave1; (try dsimp only)) | fail "no step"))
      all_goals (rename Fr _ _ _ _ => F)
      all_goals first
        | exact good_true rfl F.keep rfl (by assumption)
        | (unfold Hold
           k_dflt (refine' utf16_call ?B ?F ?X ?N ?T ?hk ?hA ?hd ?hu ?hz (dec_encs hh ?hr) ?_; (case F => k_asm); (case B => k_asm); (case X => k_asm); (case N => k_asm); (case T => k_asm); (case hk => exact rfl); (case hA => exact rfl); (case hd => ktr_room); (case hu => ktr_units); (case hz => rw [toBytes_length, encs_len_line hin (by omega)]; omega); (case hr => (intro c hc; rw [mem_swap, List.mem_append, List.mem_singleton] at hc; rcases hc with hc | rfl <;> first | (have := hin c hc; omega) | omega)))
           intro t9 h9 tk9 F N
           k_sweep
           obtain ⟨hls1, hls2⟩ := sized hh (by omega) hin
           repeat' (first | (k_unfold; (try dsimp only)) | walk1 | (dsimp only; walk1) | (leave1; (try dsimp only)) | fail "no step"))
      all_goals (rename Fr _ _ _ _ => F)
      all_goals first
        | exact good_true (beq_self_eq_true _) F.keep rfl (by assumption)
        | exact good_true (decide_eq_true (by omega)) F.keep rfl (by assumption)
        | exact good_true (beq_iff_eq.mpr (by omega)) F.keep rfl (by assumption)
end Mine

theorem PySem.Challenge.cw_nn0112_01_holds : PySem.Challenge.rw_nn0112_01.Holds := by
  exact Mine.holds
