import PyProof.Rows.All
import Wide.All
import OpenK.AllK
import Wide.FinOn
import PySem.Challenge.RW_xw0326_01
open PySem PySem.W PyProof.Rows PySem.Spec PySem.Calls
set_option Elab.async false
set_option maxRecDepth 100000
set_option maxHeartbeats 8000000
namespace Mine
open_top hd for PySem.Challenge.rw_xw0326_01
end Mine
namespace Mine

local macro_rules | `(tactic| walk_at "M enter") => `(tactic| (refine' code_defG ?k1 ?k2 ?k3 ?k4 ?k5 ?kA ?kF ?kK ?k6 ?k7 ?k8 ?k9 ?kB ?_ ?c2 ?c3 ?c4 ?c5; (case kA => exact rfl); (case kF => exact rfl); (case kK => assumption); (case k1 => k_asm); (case k2 => k_asm); (case k3 => k_asm); (case k4 => k_asm); (case k5 => k_asm); (case k6 => k_is); (case k7 => k_is); (case k8 => ktr_room); (case k9 => exact BindsTo.of_eq rfl); (case c5 => decide); (case kB => exact locs rfl); (case c2 => exact rfl); (case c3 => exact rfl); (case c4 => exact rfl); k_whole; intro g' L' h' FG' F' N' B' X' T' GS'; (try dsimp only); (try k_lift B'); (try k_fold)))

theorem small_log {y : Int} (h0 : 0 < y) (h1 : y ≤ 4294967296) : y.natAbs.log2 < 9000 := by
  have h2 : y.natAbs.log2 < 33 := (Nat.log2_lt (by omega)).mpr (by omega)
  omega
theorem small_bits {y : Int} (h0 : 0 ≤ y) (h1 : y < 18446744073709551616) : Builtin.Int.intBits y ≤ 64 := intBits_le_64 (by omega) (by omega)
theorem small_log' {y : Int} (h0 : 0 < y) (h1 : y ≤ 4294967296) : y.natAbs.log2 < 9000 := small_log h0 h1
theorem fmod_in (x : Int) {n : Int} (h : 0 < n) : 0 ≤ x.fmod n ∧ x.fmod n < n := ⟨Int.fmod_nonneg_of_pos x h, Int.fmod_lt_of_pos x h⟩

theorem small_fmod {x : Int} : Builtin.Int.intBits (x.fmod 2147483647) ≤ 64 := small_bits (fmod_in x (by decide)).1 (Int.lt_trans (fmod_in x (by decide)).2 (by decide))
local macro_rules | `(tactic| walk_at "binaryOp FloorDiv int int") => `(tactic| (k_here; refine floordiv_int ?kb ?_ (Or.inl (PyProof.noPylong_of_log2 ?kc)); (case kb => omega); (case kc => exact small_log (by omega) (by omega))))
local macro_rules | `(tactic| walk_at "binaryOp Mult int int") => `(tactic| (k_here; refine mul_int ?_ (IntMulOk.of_left ?kc); (case kc => exact small_fmod)))

theorem GSub.keep1 {H g h' : Heap} {l L' : Addr} {o' : Obj} {m' : Str → Option Value} (G : GSub H g ([(l, o')].map (·.1))) (F : Fr g L' h' m') : ∀ b o, b ≠ l → H.get? b = some o → h'.get? b = some o :=
  fun b o hb e => F.keep b o (G b o e (by simpa using hb))
theorem take_ok {prog : Program} {w : World} {p : Program} {loose : List Str} {mean : ExcName → Option Value} {mg mb : Str → Option Value}
    {dp un : Nat} {gd : Option (List Code)} {cn : Str} {cs : Scope} {a : Addr} {ccd : Value} {cl : List (Str × Addr)} {outer : List Env} {A₀ : Around} {base h₀ : Heap} {L : Addr} {m : Str → Option Value} {s : Shared} {Q E : Value → Shared → Prop}
    {l n : Nat} {x y top : Int} {tx ty tt : Tok}
    (B : Below A₀ base outer h₀) (F : Fr h₀ L s.heap m) (X : (hd.heap_39 w.params).In h₀) (N : News h₀ L s.heap [(l, listOf [.int x tx, .int y ty].toArray n)]) (T : Top p loose mean mg mb h₀)
    (hk : cs.kind = .function) (hd : dp + 1 < recursionLimit) (hu : un + 8 < cLine) (hx : 0 ≤ x) (hy : 0 ≤ y) (hy2 : y < 2147483647) (ht : 0 < top) (ht2 : top ≤ 4294967296)
    (hret : ∀ (r x' y' : Int) (t tx' ty' : Tok) (n' : Nat) (h' : Heap) (tk' : Nat), 0 ≤ r → r < top → 0 ≤ x' → 0 ≤ y' → y' < 2147483647 → Fr h₀ L h' m → News h₀ L h' [(l, listOf [.int x' tx', .int y' ty'].toArray n')] →
      (∀ b o, b ≠ l → s.heap.get? b = some o → h'.get? b = some o) → Q (.int r t) { s with heap := h', toks := tk' }) :
    wpAny (model prog w) (ktrTop dp un gd cn cs L a ccd cl outer) (call (.ref 138) [.ref l, .int top tt]) Q E s := by
  have hfill : PySem.Challenge.rw_xw0326_01 = PySem.Challenge.rw_xw0326_01 ∧ Mine.hd.heap_39 = Mine.hd.heap_39 := by
    k_fill
    exact ⟨rfl, rfl⟩
  clear hfill
  refine wpAny_call ?_
  k_dflt (walk_at "M enter")
  k_steps
  · (with_reducible rename GSub _ _ _ => gs)
    refine' hret _ _ _ _ _ _ _ _ _ ?r0 ?r1 ?x0 ?y0 ?y1 ?F ?N ?K
    case F => assumption
    case N => assumption
    case K => exact GSub.keep1 gs (by assumption)
    case r0 => exact (fmod_in _ ht).1
    case r1 => exact (fmod_in _ ht).2
    case x0 => exact Int.fdiv_nonneg hx (by omega)
    case y0 => exact hy
    case y1 => exact hy2
  · (with_reducible rename GSub _ _ _ => gs)
    refine' hret _ _ _ _ _ _ _ _ _ ?r0 ?r1 ?x0 ?y0 ?y1 ?F ?N ?K
    case F => assumption
    case N => assumption
    case K => exact GSub.keep1 gs (by assumption)
    case r0 => exact (fmod_in _ ht).1
    case r1 => exact (fmod_in _ ht).2
    case x0 => exact hx
    case y0 => exact (fmod_in _ (by decide)).1
    case y1 => exact (fmod_in _ (by decide)).2
end Mine
namespace Mine
open PySem.Builtin
theorem bm_no_bytes_int : typeLookup (.type "int") "__bytes__" = pure none := by rw [typeLookup_type, builtinLookup_eq_fast]; kernel_rfl
theorem bm_plainid : plainId "bytes.__new__" = true := F.bm_plain
theorem ite_goes {α : Type} {M : Model} {A : Around} {E : Value → Shared → Prop} {s : Shared} {Q : α → Shared → Prop} {c : Prop} [Decidable c] {a b : Sem α} (hc : ¬ c) (h : wpAny M A b Q E s) : wpAny M A (if c then a else b) Q E s := by
  rw [if_neg hc]; exact h
theorem bm_count {prog : Program} {w : World} {A : Around} {E : Value → Shared → Prop} {s : Shared} {Q : Value → Shared → Prop} {u : Tok}
    (hQ : ∀ t k, Q (.bytes (byteArr [0, 0]) t) { s with toks := k }) :
    codeAny (model prog w) A (.call (.builtin "bytes.__new__") ⟨[.type "bytes", .int 2 u], []⟩) (wants Q E) s := by
  refine codeAny_of_tree ?_
  show wpAny _ A.in1 (do checkBuiltinCall "bytes.__new__" ⟨[.type "bytes", .int 2 u], []⟩; again (.builtin "bytes.__new__" ⟨[.type "bytes", .int 2 u], []⟩)) _ _ s
  refine wpAny_bind (wpAny_of_eq (F.bm_newCall _) (wpAny_pure ⟨plainId_quiet F.bm_plain _, codeAny_builtin F.bm_entry ?_⟩))
  rw [Around.under_plainId F.bm_plain _]
  unfold Builtin.«bytes.__new__»
  refine wpAny_bind (wpAny_of_eq (a := true) rfl ?_)
  refine bm_if_false rfl ?_
  refine wpAny_bind (wpAny_of_eq F.bm_sub ?_)
  refine bm_if_false rfl ?_
  refine wpAny_bind (wpAny_of_eq (F.bm_bind _) ?_)
  refine wpAny_bind (wpAny_of_eq (a := ()) rfl ?_)
  refine wpAny_bind (wpAny_of_eq (a := ()) rfl ?_)
  refine bm_if_false rfl ?_
  refine wpAny_bind (wpAny_specialOf (typeIs_int _ _ _) bm_no_bytes_int ?_)
  refine wpAny_bind (wpAny_of_eq (a := false) rfl ?_)
  refine bm_if_false rfl ?_
  refine wpAny_bind (wpAny_specialOf (T := "int") (typeIs_int _ _ _) F.slot_int_index.lookup ?_)
  refine bm_if_false rfl ?_
  refine wpAny_bind (wpAny_of_eq (a := .ok 2) rfl ?_)
  refine bm_if_false (by decide +kernel) ?_
  refine ite_goes (by decide) ?_
  refine ite_goes (by decide) ?_
  refine bm_if_false (by decide +kernel) ?_
  refine wpAny_bind (wpAny_rule ?_)
  refine wpAny_bind (wpAny_mkBytes ?_ (by decide +kernel))
  show wpAny _ _ (if (Value.type "bytes" == Value.type "bytes") = true then _ else _) _ _ _
  refine bm_if_true (by decide) ?_
  first
    | exact wpAny_pure (hQ _ _)
    | exact wpAny_bind (wpAny_pure (wpAny_pure (hQ _ _)))
theorem call_bytes_two {prog : Program} {w : World} {A : Around} {E : Value → Shared → Prop} {s : Shared} {Q : Value → Shared → Prop} {u : Tok}
    (hQ : ∀ t k, Q (.bytes (byteArr [0, 0]) t) { s with toks := k }) : wpAny (model prog w) A (call (.type "bytes") [.int 2 u]) Q E s := by
  refine callType_codes (Q₁ := fun obj s₁ => s₁.TypeIs obj "bytes" ∧ Q obj s₁) F.bm_called (F.bm_typeCall _) F.entry_object_init
    (bm_count fun t k => ⟨PySem.W.typeIs_bytes _ _ _, hQ t k⟩) fun obj s₁ h₁ => ?_
  exact ⟨h₁.1, F.args_object_init_2 obj _, object_init_meets F.bm_called.init.lookup F.bm_called.made (by decide) prog w A.in1 _ s₁ ⟨h₁.1, rfl, h₁.2⟩⟩
theorem bytes_B {prog : Program} {w : World} {A : Around} {E : Value → Shared → Prop} {s : Shared} {h₀ : Heap} {L : Addr} {m : Str → Option Value} {news : List (Addr × Obj)} {l : Addr} {vs : List Value} {ns : List Int} {Q : Value → Shared → Prop} (F : Fr h₀ L s.heap m) (N : News h₀ L s.heap news) (hl : s.heap.IsList l vs.toArray) (hi : IntsAre vs ns) (hr : ∀ n ∈ ns, 0 ≤ n ∧ n < 256) (hz : vs.length ≤ sizeLine) (hh : A.handled = none)
    (h : ∀ h' t k, Fr h₀ L h' m → News h₀ L h' news → Q (.bytes (byteArr ns) t) { s with heap := h', toks := k }) : wpAny (model prog w) A (call (.type "bytes") [.ref l]) Q E s :=
  call_bytes_ints hl hi hr hz hh fun h' t k hk => h h' t k (F.keeps hk) (fun q hq => ⟨hk _ _ (N q hq).1, (N q hq).2⟩)
end Mine
namespace Mine
open PySem.Builtin PySem.Builtin.ObjectAttr

/-- an exception object of a class of the text's own -/
abbrev excO (C t : Addr) (dx : Option Addr) : Obj := { cls := .ref C, dict := dx, data := .fields #[.ref t, .none, .none, .none, .bool false, .none] }

section
variable {prog : Program} {w : World} {A : Around} {R : Result → Shared → Prop} {h : Heap} {g : Array GenState} {d : Drawn} {t : Nat} {os : OsState}
variable {nm q : Str} {C N : Addr} {bs bm : List Value} {hdct : Bool} {sn : List Str} {sub : List Value} {ab : Bool} {col : Option Bool} {dd : Option Addr} {k0 k1 k2 k3 k5 : Option Value} {Bn newId inN : String} {bmN : List Value}

theorem exc_new (Fn : ExcBaseFacts Bn newId inN bmN) (cB : bm.contains (.type Bn) = true) (cA : bm.contains (.type "AttributeError") = false) (cN : bm.contains (.type "NameError") = false)
    {rest : List Value} (hC : h.get? C = some (excClassObj nm q C N bs bm hdct sn sub ab col dd k0 k1 k2 k3 k5 newId))
    (hq : R (.ok (.ret (.ref (h.objs.size + 1)))) ⟨(h.push { cls := .type "tuple", data := .seq rest.toArray }).push (excO C h.objs.size none), g, d, t, os⟩) (hrest : rest.length ≤ sizeLine) :
    codeAny (model prog w) A (.builtin newId ⟨.ref C :: rest, []⟩) R ⟨h, g, d, t, os⟩ := by
  have eB : (Value.ref C :: bm).contains (.type Bn) = true := by rw [List.contains_cons, cB, Bool.or_true]
  have eA : (Value.ref C :: bm).contains (.type "AttributeError") = false := by rw [List.contains_cons, cA]; rfl
  have eN : (Value.ref C :: bm).contains (.type "NameError") = false := by rw [List.contains_cons, cN]; rfl
  have hends := Fn.ends
  refine codeAny_builtinAt Fn.entry ?_
  unfold Builtin.«BaseException.__new__»
  refine PySem.wpAt_bind ?_
  show PySem.wpAt _ _ _ (stack >>= _) _ _ _
  refine PySem.wpAt_bind (PySem.wpAt_stack fun p below => PySem.wpAt_of_wpAny ?_)
  wp_walk
  refine PySem.wpAt_of_wpAny ?_
  rw [Fn.owner]
  repeat (first | with_reducible refine wpAny_madeHere_exc Fn.canon hC ?_ | with_reducible refine wpAny_loadPart_at hC ?_ | (with_reducible refine wpAny_isSubtype_exc hC ?_; first | rw [eB] | rw [eA] | rw [eN]) | wp_step)
  show R _ _
  rw [Heap.size_push]
  exact hq

variable {E : Value → Shared → Prop} {B nid initId : String} {K : Frag}
theorem exc_check (Fn : ExcBaseFacts Bn newId inN bmN) (cB : bm.contains (.type Bn) = true) {M : Model} {rest : List Value} {Q : Unit → Shared → Prop} (hC : h.get? C = some (excClassObj nm q C N bs bm hdct sn sub ab col dd k0 k1 k2 k3 k5 newId))
    (hq : Q () ⟨h, g, d, t, os⟩) : wpAny M A (checkBuiltinCall newId ⟨.ref C :: rest, []⟩) Q E ⟨h, g, d, t, os⟩ :=
  wpAny_check_new_subU Fn cB .base hC hq

/-- a call of an own exception class whose __init__ is the text's own, found along the class's line -/
theorem exc_call (Fn : ExcBaseFacts Bn newId inN bmN) (cB : bm.contains (.type Bn) = true) (cA : bm.contains (.type "AttributeError") = false) (cN : bm.contains (.type "NameError") = false)
    {rest : List Value} {fI : Addr} (X : K.In h) (hC : h.get? C = some (excClassObj nm q C N bs bm hdct sn sub ab col dd k0 k1 k2 k3 k5 newId))
    (hi : findIn K (.ref C) "__init__" = some (some (.ref fI))) (hf : typeIn K (.ref fI) = some (.type "function"))
    (hrest : rest.length ≤ sizeLine)
    (hq : codeAny (model prog w) (A.under (.builtin "type.__call__" ⟨.ref C :: rest, []⟩)) (.call (.ref fI) ⟨.ref (h.objs.size + 1) :: rest, []⟩) (InitBack (h.objs.size + 1) R)
      ⟨(h.push { cls := .type "tuple", data := .seq rest.toArray }).push (excO C h.objs.size none), g, d, t, os⟩) :
    codeAny (model prog w) A (.call (.ref C) ⟨rest, []⟩) R ⟨h, g, d, t, os⟩ := by
  have f1 := tc_lookup
  have f2 := tc_bind (.ref C)
  have hT : (⟨h, g, d, t, os⟩ : Shared).TypeIs (.ref C) "type" := ⟨_, hC, rfl⟩
  refine codeAny_of_tree ?_
  show wpAny _ _ (callAny (.ref C) _) _ _ _
  repeat (any_goals (first | assumption | with_reducible refine wpAny_loadPart_at hC ?_ | wp_step))
  refine ⟨rfl, ?_⟩
  refine codeAny_call_builtin_at (Code.quiet_builtin _ (by decide +kernel)) entry_typeCall (wpAny_check_type_call_sub hC ?_)
  repeat (first | with_reducible refine wpAny_loadPart_at hC ?_ | with_reducible refine wpAny_madeBy_exc hC ?_ | wp_step)
  refine codeAny_call_builtin_code (Code.quiet_builtin _ Fn.quiet) (exc_check Fn cB hC ?_)
  show codeAny _ _ (.builtin newId ⟨.ref C :: rest, []⟩) _ _
  refine exc_new Fn cB cA cN hC ?_ hrest
  show wpAny _ _ _ _ _ _
  have k : ∀ b o, h.get? b = some o → ((h.push { cls := .type "tuple", data := .seq rest.toArray }).push (excO C h.objs.size none)).get? b = some o := fun b o e => Heap.get?_push_of_some _ (Heap.get?_push_of_some _ e)
  have hC₁ := k _ _ hC
  have X₁ : K.In ((h.push { cls := .type "tuple", data := .seq rest.toArray }).push (excO C h.objs.size none)) := X.keeps k
  have hx : ((h.push { cls := .type "tuple", data := .seq rest.toArray }).push (excO C h.objs.size none)).get? (h.objs.size + 1) = some (excO C h.objs.size none) := by heap_get
  have hcC : (Value.ref C :: bm).contains (.ref C) = true := by simp
  have i1 := looks_findIn (M := model prog w) X₁ hi
  have b1 := bind_fn (M := model prog w) X₁ (.ref (h.objs.size + 1)) hf
  have t1 : Looks (model prog w) ((h.push { cls := .type "tuple", data := .seq rest.toArray }).push (excO C h.objs.size none)) (typeOf (.ref (h.objs.size + 1))) (.ref C) := (Looks.ld hx).andThen .now
  have s1 : Looks (model prog w) ((h.push { cls := .type "tuple", data := .seq rest.toArray }).push (excO C h.objs.size none)) (isSubtype (.ref C) (.ref C)) true := fun A Q E s kk qq => by
    obtain ⟨hh, g, d, t, os⟩ := s
    refine wpAny_isSubtype_exc (kk _ _ hC₁) ?_
    rw [hcC]; exact qq
  unfold isInstance callSpecial? specialOf
  repeat (first | with_reducible refine wpAny_call ?_ | simp only [hcC, Bool.not_true, Bool.false_eq_true, if_false] | lk)
  refine codeAny_mono hq fun r s' z => ?_
  rcases r with e | (v | _ | _ | _) <;> first | exact z | exact z.elim | skip
  obtain ⟨rfl, z⟩ := z
  exact wpAny_pure (wpAny_pure z)
end

section
variable {prog : Program} {w : World} {A : Around} {E : Value → Shared → Prop} {s : Shared} {K : Frag} {x C P L t : Addr} {h₀ : Heap} {m : Str → Option Value} {news : List (Addr × Obj)} {name : Str} {v : Value} {cd : ClassData}
/-- the first store into an exception object: its dict is made there -/
theorem exc_set {Q : Unit → Shared → Prop} (F : Fr h₀ L s.heap m) (X₀ : K.In h₀) (N : News h₀ L s.heap ((x, excO C t none) :: news)) (hx : ∀ p ∈ news, p.1 ≠ x)
    (hs : findIn K (.ref C) "__setattr__" = some (some (.builtin "object.__setattr__"))) (hc : clsIn K C = some cd) (hm : cd.mro = [.ref C, .ref P, .type "Exception", .type "BaseException", .type "object"]) (hdc : cd.hasDict = true)
    (hna : findIn K (.ref C) name = some none)
    (h : ∀ h' dx tk, Fr h₀ L h' m → News h₀ L h' ((x, excO C t (some dx)) :: news) → Q () { s with heap := h', toks := tk }) :
    wpAny (model prog w) A (setAttr (.ref x) name v) Q E s := by
  have X := X₀.keeps F.keep
  have I : InstAt s.heap x (excO C t none) C none := ⟨(N _ (.head _)).1, rfl, rfl, trivial⟩
  have SF := PySem.F.store_object
  refine set_plain X I hs ?_
  have sub : Looks (model prog w) s.heap (isInstance (.ref x) (.type "object")) true := I.type.andThen (looks_mroIn X (by unfold mroIn; rw [hc, Option.bind_some, hm]; simp))
  refine codeAny_call_builtin SF.slot.plain SF.entry (@check_slot (model prog w) _ _ { s with toks := s.toks + 1 } "object.__setattr__" "object" "__setattr__" (.ref x) [.str name s.toks, v] [] _ SF.kind SF.split sub (SF.args (.ref x) (.str name s.toks) v) ?_)
  have hmro : Looks (model prog w) s.heap (mroOf (.ref C)) cd.mro := (looks_clsIn X hc).andThen .now
  rw [osa_eq, refuse_eq]
  refine wpAny_bind (wpAny_bind (I.type.at (wpAny_bind (hmro.at ?_))))
  rw [hm, refuseLoop_ref, refuseLoop_ref, PySem.F.store_Exception.passes]
  refine wpAny_pure (wpAny_bind (I.type.at (wpAny_bind ((looks_findIn X hna).at ?_))))
  refine wpAny_bind (wpAny_pure ?_)
  have hxo := (N _ (.head _)).1
  dsimp only at hxo
  obtain ⟨hp, g, d, tk, os⟩ := s
  dsimp only at hxo F X N h ⊢
  refine wpAny_bind (wpAny_pure (wpAny_bind (wpAny_bind (wpAny_loadPart hxo (wpAny_bind ((looks_clsIn X hc).at ?_))))))
  rw [hdc]
  have hx₁ : (hp.push { cls := .type "dict", data := .dict #[] }).get? x = some (excO C t none) := Heap.get?_push_of_some _ hxo
  have hxs : x ≠ hp.objs.size := Nat.ne_of_lt (Heap.lt_size hxo)
  refine wpAny_bind (wpAny_alloc' ?_)
  refine wpAny_bind (wpAny_update' hx₁ ?_)
  refine wpAny_pure ?_
  have hgd : ((hp.push { cls := .type "dict", data := .dict #[] }).update x fun o => { cls := o.cls, dict := some hp.objs.size, data := o.data, slots := o.slots }).get? hp.objs.size
      = some { cls := .type "dict", data := .dict #[] } := (Heap.get?_update_ne _ _ _ _ hxs.symm).trans (Heap.get?_push_at rfl rfl)
  have hnd : ((hp.push { cls := .type "dict", data := .dict #[] }).update x fun o => { cls := o.cls, dict := some hp.objs.size, data := o.data, slots := o.slots }).Ns hp.objs.size (fun _ => none) :=
    ⟨_, #[], _, hgd, rfl, fun e he => absurd he (by simp), fun _ => rfl⟩
  show wpAny _ _ (storeInDict hp.objs.size (.str name tk) name v) _ _ _
  unfold storeInDict newKeyGuard
  refine wpAny_bind (wpAny_pure (wpAny_bind (wpAny_nsSet1 (Heap.Ns1.of_empty hnd) fun h' hn' hs' => ?_)))
  obtain ⟨oD, esD, epD, hoD, hdD, hcD⟩ := hn'.count (Within.cons name v Within.nil)
  refine wpAny_bind (wpAny_lookBehind hoD (by rw [hdD]; exact pastItsLine_dict (Nat.le_trans hcD (by rw [List.length_cons, List.length_nil, sizeLine_eq]; omega))) ?_)
  wp_walk
  have keep : ∀ b o, b ≠ x → hp.get? b = some o → h'.get? b = some o := fun b o hb e =>
    (hs'.2 b (Nat.ne_of_lt (Heap.lt_size e))).trans ((Heap.get?_update_ne _ _ _ _ hb).trans (Heap.get?_push_of_some _ e))
  have hx' : h'.get? x = some (excO C t (some hp.objs.size)) := (hs'.2 x hxs).trans (Heap.get?_update_self _ hx₁ rfl)
  have hLx : L ≠ x := fun e => (N _ (.head _)).2.1 e.symm
  refine h h' hp.objs.size _ ⟨?_, fun b o e => keep b o (fun q => ?_) (F.keep b o e), F.above⟩ fun p hp' => ?_
  · obtain ⟨oL, es, ep, hL, r⟩ := F.ns
    exact ⟨oL, es, ep, keep L oL hLx hL, r⟩
  · have := (N _ (.head _)).2.2
    rw [← q, e] at this; cases this
  · rcases List.mem_cons.mp hp' with rfl | hp'
    · exact ⟨hx', (N _ (.head _)).2⟩
    · have P := N p (.tail _ hp')
      exact ⟨keep _ _ (hx p hp') P.1, P.2⟩
end
end Mine
namespace Mine

/-- what a raise needs of an exception object of an own class C -/
def RaisO (K : Frag) (C : Addr) (E : Value → Shared → Prop) (v : Value) (s₁ : Shared) : Prop :=
  ∃ a ob vs, v = .ref a ∧ s₁.heap.get? a = some ob ∧ ob.cls = .ref C ∧ ob.data = .fields vs ∧ vs[1]? = some .none ∧ K.In s₁.heap ∧ E (.ref a) s₁

section
variable {M : Model} {A : Around} {E : Value → Shared → Prop} {s : Shared} {env : Env} {K : Frag} {C : Addr}
theorem raise_own {h₀ : Heap} {e : Expr} {pos : Pos} {Q : Flow → Shared → Prop} (_X : K.In h₀) (hh : A.handled = none) (hty : typeIn K (.ref C) = some (.type "type")) (hsub : subIn K (.ref C) (.type "BaseException") = some true)
    (h : wpAny M A (eval e env) (RaisO K C E) E s) : wpAny M A (exec (.Raise (some e) none pos) env) Q E s := by
  show wpAny M A (do standAt pos; raiseStmt env (some (do let v ← eval e env; standAt pos; pure v)) none) Q E s
  refine wpAny_bind (wpAny_standAt ?_)
  unfold raiseStmt
  dsimp only
  refine wpAny_bind (wpAny_bind (wpAny_mono h (fun v s₁ h₁ => wpAny_bind (wpAny_standAt (wpAny_pure ?_))) fun _ _ x => x))
  obtain ⟨a, ob, vs, rfl, ha, hcls, hd, h1, X, hE⟩ := h₁
  have hT : Looks M s₁.heap (typeOf (.ref a)) (.ref C) := hcls ▸ (Looks.ld ha).andThen .now
  have hnt : ∀ {Q' : Bool → Shared → Prop}, Q' false s₁ → wpAny M A (isType (.ref a)) Q' E s₁ := by
    intro Q' hq
    simp only [isType, loadHead]
    refine wpAny_bind (wpAny_loadPart ha ?_)
    rw [hd]; exact wpAny_pure hq
  refine wpAny_bind (wpAny_pure ?_)
  dsimp only
  refine wpAny_bind (wpAny_holding ?_)
  unfold excFromValue isExcClass
  refine wpAny_bind (wpAny_bind (hnt ?_))
  simp only [Bool.false_eq_true, if_false]
  refine wpAny_pure ?_
  simp only [Bool.false_eq_true, if_false]
  have hI : Looks M s₁.heap (isInstance (.ref a) (.type "BaseException")) true := hT.andThen (looks_subIn X hsub)
  refine wpAny_bind (hI.here ?_)
  simp only [if_true]
  refine wpAny_pure ?_
  refine wpAny_bind (hnt ?_)
  simp only [Bool.false_eq_true, if_false]
  unfold raisedInstance
  refine wpAny_bind (wpAny_bind (hT.here (wpAny_bind ((looks_typeIn X hty).here ?_))))
  rw [if_pos (by decide)]
  refine wpAny_pure ?_
  unfold setFlight raiseNew
  refine wpAny_bind (wpAny_bind (wpAny_field ha hd h1 ?_))
  rw [if_neg (by decide)]
  refine wpAny_pure (wpAny_bind (wpAny_handled ?_))
  rw [hh]
  first
    | exact wpAny_throw hE
    | exact wpAny_bind (wpAny_pure (wpAny_throw hE))
end

section
variable {M : Model} {A : Around} {E : Value → Shared → Prop} {s' : Shared} {base g : Heap} {outer : List Env} {L a e C t : Addr} {m : Str → Option Value} {name : Str} {scope : Scope} {cd : Value} {Q : Unit → Shared → Prop} {news : List (Addr × Obj)} {dx : Option Addr}
/-- an exception of an own class, made in this frame, leaves it -/
theorem leave_newO (K : Below A base outer g) (F : Fr g L s'.heap m) (N : News g L s'.heap ((e, excO C t dx) :: news)) (hx : ∀ p ∈ news, p.1 ≠ e)
    (hQ : ∀ h', RaisedSN base g outer e (.ref C) news h' → g.UpToSlots h' → Q () { s' with heap := h' }) (hk : scope.kind = .function := by rfl) :
    wpAny M (A.deeper (envOf name scope L a cd)) (leaving (envOf name scope L a cd) (.ref e)) Q E s' := by
  have K' := K.push (name := name) (a := a) (cd := cd) F hk
  have hE := N _ (.head _)
  have hne : base.get? e = none := fresh_of_stays K.stays hE.2.2
  -- the heap without the frames and without e
  let fs := (envOf name scope L a cd :: outer).filterMap (·.frame)
  let B := hideAll s'.heap (e :: fs)
  have hin : ∀ env ∈ (envOf name scope L a cd :: outer), ∀ b, env.frame = some b → b ∈ e :: fs := fun env he b hb => .tail _ (List.mem_filterMap.mpr ⟨env, he, hb⟩)
  have notf : ∀ b o, base.get? b = some o → b ∉ e :: fs := fun b o q hm => by
    rcases List.mem_cons.mp hm with rfl | hm
    · rw [hne] at q; cases q
    · rw [(K'.frames.mem hm).1] at q; cases q
  have st : base.StaysIn B := fun b o q => hideAll_get _ (K'.stays b o q) (notf b o q)
  have sg : ∀ b o, g.get? b = some o → b ∉ outer.filterMap (·.frame) → B.get? b = some o := fun b o q nm => hideAll_get _ (F.keep b o q) fun hm => by
    rcases List.mem_cons.mp hm with rfl | hm
    · rw [hE.2.2] at q; cases q
    · rcases kts_mem hm with z | z
      · rw [z, kts_self F] at q; cases q
      · exact nm z
  have hl : ∀ q ∈ news, B.get? q.1 = some q.2 ∧ g.get? q.1 = none ∧ base.get? q.1 = none := fun q hq => by
    have P := N q (.tail _ hq)
    refine ⟨hideAll_get _ P.1 fun hm => ?_, P.2.2, fresh_of_stays K.stays P.2.2⟩
    rcases List.mem_cons.mp hm with z | hm
    · exact hx q hq z
    · obtain ⟨env, he, hf⟩ := List.mem_filterMap.mp hm
      rcases List.mem_cons.mp he with rfl | he
      · exact P.2.1 (Option.some.inj hf).symm
      · obtain ⟨o, ho, _⟩ := (K.frames.mem (List.mem_filterMap.mpr ⟨env, he, hf⟩)).2
        rw [P.2.2] at ho; cases ho
  have hen : B.get? e = none := hideAll_none _ (.head _)
  have hfr : s'.heap.FunFrames B (envOf name scope L a cd :: outer) := funFrames_hide K'.frames hin
  refine wpAny_leaving_firstW (a0 := .ref t) K'.stack hfr rfl hE.1 (fun b o hb => of_hideAll _ hb) hen rfl rfl rfl fun h' hL => ?_
  obtain ⟨k1, ⟨_, _, k2⟩, k3, k4⟩ := hL
  exact hQ h' ⟨B, _, st, sg, hl, k1, hen, k2, k3⟩ ((Heap.UpToSlots.of_keeps F.keep).trans k4)
end
end Mine
namespace Mine

section
variable {prog : Program} {w : World} {A : Around} {E : Value → Shared → Prop} {s : Shared} {K : Frag} {C P L : Addr} {h₀ : Heap} {m : Str → Option Value} {news : List (Addr × Obj)} {Q : Value → Shared → Prop}
variable {nm q : Str} {Nn : Addr} {bs : List Value} {sn : List Str} {sub : List Value} {ab : Bool} {col : Option Bool} {dd : Option Addr} {k0 k1 k2 k3 k5 : Option Value}
theorem tail_has {P : Addr} {l : List Value} {x : String} : (Value.ref P :: l).contains (.type x) = l.contains (.type x) := by rw [List.contains_cons]; rfl
theorem call_own_exc {rest : List Value} {fI : Addr} (F : Fr h₀ L s.heap m) (X₀ : K.In h₀) (N : News h₀ L s.heap news)
    (ho : K.lookup C = some (excClassObj nm q C Nn bs [.ref P, .type "Exception", .type "BaseException", .type "object"] true sn sub ab col dd k0 k1 k2 k3 k5 "Exception.__new__"))
    (hi : findIn K (.ref C) "__init__" = some (some (.ref fI))) (hf : isFn K (.ref fI) = true) (hrest : rest.length ≤ sizeLine)
    (h : ∀ e t h', Fr h₀ L h' m → News h₀ L h' ((e, excO C t none) :: (t, ({ cls := .type "tuple", data := .seq rest.toArray } : Obj)) :: news) → (∀ p ∈ news, p.1 < t) → t < e →
      codeAny (model prog w) (A.under (.builtin "type.__call__" ⟨.ref C :: rest, []⟩)) (.call (.ref fI) ⟨.ref e :: rest, []⟩) (InitBack e fun r s' => match r with | .ok (.ret v) => Q v s' | .ok _ => False | .error x => E x s') { s with heap := h' }) :
    wpAny (model prog w) A (call (.ref C) rest) Q E s := by
  obtain ⟨hp, g, d, t, os⟩ := s
  dsimp only at F N h
  refine wpAny_call (exc_call PySem.F.excBase_Exception (by rw [tail_has]; decide +kernel) (by rw [tail_has]; decide +kernel) (by rw [tail_has]; decide +kernel) (X₀.keeps F.keep) ((X₀.keeps F.keep) _ _ ho) hi (beq_iff_eq.mp hf) hrest ?_)
  have N1 : News h₀ L (hp.push { cls := .type "tuple", data := .seq rest.toArray }) ((hp.objs.size, { cls := .type "tuple", data := .seq rest.toArray }) :: news) := N.push F _
  have F1 : Fr h₀ L (hp.push { cls := .type "tuple", data := .seq rest.toArray }) m := F.push _
  have N2 := N1.push F1 (excO C hp.objs.size none)
  rw [Heap.size_push] at N2
  exact h (hp.objs.size + 1) hp.objs.size _ (F1.push _) N2 (fun p hp' => Heap.lt_size (N p hp').1) (Nat.lt_succ_self _)
end

theorem apart2 {d x : Addr} {o : Obj} {news : List (Addr × Obj)} (l1 : ∀ p ∈ news, p.1 < d) (l2 : d < x) : ∀ p ∈ (d, o) :: news, p.1 ≠ x := fun p hp => by
  rcases List.mem_cons.mp hp with rfl | hp
  · exact Nat.ne_of_lt l2
  · exact Nat.ne_of_lt (Nat.lt_trans (l1 p hp) l2)
local macro_rules | `(tactic| walk_at "setAttr ref") => `(tactic| (k_here; k_dflt (refine' exc_set ?F ?X ?N ?x ?s ?c ?m ?d ?a ?_; (case F => k_asm); (case X => k_asm); (case N => k_asm); (case x => exact apart2 (by assumption) (by assumption)); (case s => k_is); (case c => k_is); (case m => exact rfl); (case d => exact rfl); (case a => k_is); k_whole); intro h' dx' tk' F' N'; (try k_sweep)))
local macro_rules | `(tactic| walk_at "RaisO") => `(tactic| (k_here; k_dflt (refine' ⟨_, _, _, rfl, News.get ?N (.head _), rfl, rfl, rfl, ?X, ?_⟩; (case N => k_asm); (case X => k_in))))
local macro_rules | `(tactic| walk_at "leaving ref") => `(tactic| (k_here; k_dflt (refine' leave_newO ?K ?F ?N ?x ?_; (case K => k_asm); (case F => k_asm); (case N => k_asm); (case x => exact apart2 (by assumption) (by assumption)); k_whole); intro h' R' U'))
local macro_rules | `(tactic| walk_at "M enter") => `(tactic| (refine' code_defG ?k1 ?k2 ?k3 ?k4 ?k5 ?kA ?kF ?kK ?k6 ?k7 ?k8 ?k9 ?kB ?_ ?c2 ?c3 ?c4 ?c5; (case kA => exact rfl); (case kF => exact rfl); (case kK => first | exact rfl | assumption); (case k1 => k_asm); (case k2 => k_asm); (case k3 => k_asm); (case k4 => k_asm); (case k5 => k_asm); (case k6 => k_is); (case k7 => k_is); (case k8 => ktr_room); (case k9 => exact BindsTo.of_eq rfl); (case c5 => decide); (case kB => exact locs rfl); (case c2 => exact rfl); (case c3 => exact rfl); (case c4 => exact rfl); k_whole; intro g' L' h' FG' F' N' B' X' T' GS'; (try dsimp only); (try k_lift B'); (try k_fold)))
local macro_rules | `(tactic| walk_at "exec Raise some none") => `(tactic| (k_here; k_dflt (refine' raise_own (C := 51) ?hX ?hh ?hy ?hs ?_; (case hX => k_asm); (case hh => exact rfl); (case hy => k_is); (case hs => k_is))))
local macro_rules | `(tactic| walk_at "call ref") => `(tactic| (k_here; (with_reducible show wpAny _ _ (call (Value.ref 51) _) _ _ _); k_dflt (refine' call_own_exc ?k1 ?k2 ?k3 ?k4 ?k5 ?k6 ?k7 ?_; (case k1 => k_asm); (case k2 => k_asm); (case k3 => k_asm); (case k4 => k_is); (case k5 => k_is); (case k6 => k_is); (case k7 => size_fits); k_whole; intro x' d' h' F' N' l1 l2; (try k_lt l1); (try k_lt2 l2); (try k_sweep); walk_at "M enter")))

theorem raised_drop {base G : Heap} {l : List Env} {e : Addr} {cls : Value} {q : Addr × Obj} {news : List (Addr × Obj)} {h : Heap} (R : RaisedSN base G l e cls (q :: news) h) : RaisedSN base G l e cls news h := by
  obtain ⟨B, a0, hB, hG, hl, hf⟩ := R
  exact ⟨B, a0, hB, hG, fun q hq => hl q (.tail _ hq), hf⟩
theorem fdiv_pow_ne {n : Int} {k : Nat} {c : Int} (hc : (2 : Int) ^ k = c) (hc0 : 0 < c) (h0 : ¬ n < 0) (h : n.fdiv (2 ^ k) ≠ 0) : c ≤ n := by
  rw [hc] at h
  rcases Int.lt_or_le n c with h1 | h1
  · exact absurd (Int.fdiv_eq_zero_of_lt (by omega) h1) h
  · exact h1
theorem fdiv_pow_eq {n : Int} {k : Nat} {c : Int} (hc : (2 : Int) ^ k = c) (hc0 : 0 < c) (h : n.fdiv (2 ^ k) = 0) : n < c := by
  rw [hc] at h
  rcases Int.lt_or_le n c with h1 | h1
  · exact h1
  · exfalso
    rw [Int.fdiv_eq_ediv_of_nonneg _ (by omega)] at h
    have := Int.le_ediv_of_mul_le hc0 (show 1 * c ≤ n by omega)
    omega

theorem chk {prog : Program} {w : World} {p : Program} {loose : List Str} {mean : ExcName → Option Value} {mg mb : Str → Option Value}
    {dp un : Nat} {gd : Option (List Code)} {cn : Str} {cs : Scope} {a : Addr} {ccd : Value} {cl : List (Str × Addr)} {outer : List Env} {A₀ : Around} {base h₀ : Heap} {L : Addr} {m : Str → Option Value} {s : Shared} {Q E : Value → Shared → Prop}
    {news : List (Addr × Obj)} {n b c : Int} {tn tb : Tok}
    (B : Below A₀ base outer h₀) (F : Fr h₀ L s.heap m) (X : (hd.heap_39 w.params).In h₀) (N : News h₀ L s.heap news) (T : Top p loose mean mg mb h₀)
    (hk : cs.kind = .function) (hd : dp + 5 < recursionLimit) (hu : un + 40 < cLine) (hbc : (b = 16 ∧ c = 65536) ∨ (b = 32 ∧ c = 4294967296) ∨ (b = 6 ∧ c = 64))
    (hret : ∀ h' tk', 0 ≤ n → n < c → Fr h₀ L h' m → News h₀ L h' news → Q .none { s with heap := h', toks := tk' })
    (hbad : ∀ e g h' tk', (n < 0 ∨ c ≤ n) → Fr h₀ L g m → RaisedSN base g (envX cn cs L a ccd cl :: outer) e (.ref 51) news h' → g.UpToSlots h' → E (.ref e) { s with heap := h', toks := tk' }) :
    wpAny (model prog w) (ktrTop dp un gd cn cs L a ccd cl outer) (call (.ref 117) [.int n tn, .int b tb]) Q E s := by
  have hfill : PySem.Challenge.rw_xw0326_01 = PySem.Challenge.rw_xw0326_01 ∧ Mine.hd.heap_39 = Mine.hd.heap_39 := by
    k_fill
    exact ⟨rfl, rfl⟩
  clear hfill
  rcases hbc with ⟨rfl, rfl⟩ | ⟨rfl, rfl⟩ | ⟨rfl, rfl⟩
  all_goals (
    refine wpAny_call ?_
    k_dflt (walk_at "M enter")
    k_steps)
  all_goals first
    | ((rename News _ _ _ _ => nn)
       refine ⟨_, _, _, rfl, (nn _ (.head _)).1, rfl, rfl, rfl, (by k_in), ?_⟩
       k_unfold
       try dsimp only
       refine' leave_newO ?K ?F nn ?x ?_
       case K => k_asm
       case F => k_asm
       case x => exact apart2 (by assumption) (by assumption)
       intro h' R' U'
       refine hbad _ _ _ _ ?_ (by assumption) (raised_drop R') U'
       first
         | exact .inl (by assumption)
         | exact .inr (fdiv_pow_ne (k := Int.toNat 16) (by decide) (by decide) (by assumption) (by assumption))
         | exact .inr (fdiv_pow_ne (k := Int.toNat 32) (by decide) (by decide) (by assumption) (by assumption))
         | exact .inr (fdiv_pow_ne (k := Int.toNat 6) (by decide) (by decide) (by assumption) (by assumption)))
    | exact hret _ _ (by omega) (fdiv_pow_eq (k := Int.toNat 16) (by decide) (by decide) (by assumption)) (by k_asm) (by k_asm)
    | exact hret _ _ (by omega) (fdiv_pow_eq (k := Int.toNat 32) (by decide) (by decide) (by assumption)) (by k_asm) (by k_asm)
    | exact hret _ _ (by omega) (fdiv_pow_eq (k := Int.toNat 6) (by decide) (by decide) (by assumption)) (by k_asm) (by k_asm)
end Mine
namespace Mine
local macro_rules | `(tactic| walk_at "M enter") => `(tactic| (refine' code_defG ?k1 ?k2 ?k3 ?k4 ?k5 ?kA ?kF ?kK ?k6 ?k7 ?k8 ?k9 ?kB ?_ ?c2 ?c3 ?c4 ?c5; (case kA => exact rfl); (case kF => exact rfl); (case kK => first | exact rfl | assumption); (case k1 => k_asm); (case k2 => k_asm); (case k3 => k_asm); (case k4 => k_asm); (case k5 => k_asm); (case k6 => k_is); (case k7 => k_is); (case k8 => ktr_room); (case k9 => first | exact BindsTo.of_eq rfl | exact binds_K (by k_in) rfl (by k_is) rfl rfl rfl); (case c5 => decide); (case kB => exact locs rfl); (case c2 => exact rfl); (case c3 => exact rfl); (case c4 => exact rfl); k_whole; intro g' L' h' FG' F' N' B' X' T' GS'; (try dsimp only); (try k_lift B'); (try k_fold)))
def dig2 (n : Int) : List Int := [n / 256 % 256, n % 256]
def dig4 (n : Int) : List Int := [n / 16777216 % 256, n / 65536 % 256, n / 256 % 256, n % 256]
theorem put16_ok {prog : Program} {w : World} {p : Program} {loose : List Str} {mean : ExcName → Option Value} {mg mb : Str → Option Value}
    {dp un : Nat} {gd : Option (List Code)} {cn : Str} {cs : Scope} {a : Addr} {ccd : Value} {cl : List (Str × Addr)} {outer : List Env} {A₀ : Around} {base h₀ : Heap} {L : Addr} {m : Str → Option Value} {s : Shared} {Q E : Value → Shared → Prop}
    {n : Int} {tn : Tok} {news : List (Addr × Obj)}
    (B : Below A₀ base outer h₀) (F : Fr h₀ L s.heap m) (X : (hd.heap_39 w.params).In h₀) (N : News h₀ L s.heap news) (T : Top p loose mean mg mb h₀)
    (hk : cs.kind = .function) (hd : dp + 3 < recursionLimit) 
    (hret : ∀ t h' tk', Fr h₀ L h' m → News h₀ L h' news → Q (.bytes (byteArr (dig2 n)) t) { s with heap := h', toks := tk' }) :
    wpAny (model prog w) (ktrTop dp un gd cn cs L a ccd cl outer) (call (.ref 60) [.int n tn]) Q E s := by
  have hfill : PySem.Challenge.rw_xw0326_01 = PySem.Challenge.rw_xw0326_01 ∧ Mine.hd.heap_39 = Mine.hd.heap_39 := by
    k_fill
    exact ⟨rfl, rfl⟩
  clear hfill
  refine wpAny_call ?_
  k_dflt (walk_at "M enter")
  k_steps
  (rename News _ _ _ _ => nn)
  refine' bytes_K ?F nn (nn.isList (.head _)) ?i ?r ?z ?h ?_
  case F => k_asm
  case i => repeat constructor
  case r =>
    intro x hx
    simp only [List.mem_cons, List.not_mem_nil, or_false, bitAnd_m8] at hx
    rcases hx with rfl | rfl
    · exact ⟨Int.emod_nonneg _ (by decide), Int.emod_lt_of_pos _ (by decide)⟩
    · exact ⟨Int.emod_nonneg _ (by decide), Int.emod_lt_of_pos _ (by decide)⟩
  case z => size_fits
  case h => rfl
  intro h' t k F' N' _
  k_steps
  rw [show (List.map (fun n : Int => n.toNat.toUInt8) [Builtin.bitAnd (n.fdiv (2 ^ Int.toNat 8)) 255, Builtin.bitAnd n 255]).toArray = byteArr [n / 256 % 256, n % 256] from by
    rw [bitAnd_m8, bitAnd_m8, Int.fdiv_eq_ediv_of_nonneg _ (by decide)]; rfl]
  exact hret _ _ _ (by k_asm) (cb_drop (by assumption) fun _ h => .tail _ h)
end Mine
namespace Mine
local macro_rules | `(tactic| walk_at "M enter") => `(tactic| (refine' code_defG ?k1 ?k2 ?k3 ?k4 ?k5 ?kA ?kF ?kK ?k6 ?k7 ?k8 ?k9 ?kB ?_ ?c2 ?c3 ?c4 ?c5; (case kA => exact rfl); (case kF => exact rfl); (case kK => first | exact rfl | assumption); (case k1 => k_asm); (case k2 => k_asm); (case k3 => k_asm); (case k4 => k_asm); (case k5 => k_asm); (case k6 => k_is); (case k7 => k_is); (case k8 => ktr_room); (case k9 => first | exact BindsTo.of_eq rfl | exact binds_K (by k_in) rfl (by k_is) rfl rfl rfl); (case c5 => decide); (case kB => exact locs rfl); (case c2 => exact rfl); (case c3 => exact rfl); (case c4 => exact rfl); k_whole; intro g' L' h' FG' F' N' B' X' T' GS'; (try dsimp only); (try k_lift B'); (try k_fold)))
local macro_rules | `(tactic| walk_at "call ref") => `(tactic| (k_here; (with_reducible show wpAny _ _ (call (Value.ref 60) _) _ _ _); k_dflt (refine' put16_ok ?k1 ?k2 ?k3 ?k4 ?k5 ?k6 ?k7 ?_; (case k1 => k_asm); (case k2 => k_asm); (case k3 => k_asm); (case k4 => k_asm); (case k5 => k_asm); (case k6 => first | exact rfl | assumption); (case k7 => ktr_room)); intro t' h' tk' F' N'; (try dsimp only); (try k_fold)))
theorem ba_app (a b : List Int) : ((byteArr a).toList ++ (byteArr b).toList).toArray = byteArr (a ++ b) := by
  unfold byteArr
  rw [List.map_append]
theorem p32_list (n : Int) : dig2 (n.fdiv (2 ^ Int.toNat 16)) ++ dig2 n = dig4 n := by
  unfold dig2 dig4
  rw [show (2 : Int) ^ Int.toNat 16 = 65536 from by decide, Int.fdiv_eq_ediv_of_nonneg _ (by decide)]
  simp only [List.cons_append, List.nil_append, List.cons.injEq, and_true]
  omega
theorem put32_ok {prog : Program} {w : World} {p : Program} {loose : List Str} {mean : ExcName → Option Value} {mg mb : Str → Option Value}
    {dp un : Nat} {gd : Option (List Code)} {cn : Str} {cs : Scope} {a : Addr} {ccd : Value} {cl : List (Str × Addr)} {outer : List Env} {A₀ : Around} {base h₀ : Heap} {L : Addr} {m : Str → Option Value} {s : Shared} {Q E : Value → Shared → Prop}
    {n : Int} {tn : Tok} {news : List (Addr × Obj)}
    (B : Below A₀ base outer h₀) (F : Fr h₀ L s.heap m) (X : (hd.heap_39 w.params).In h₀) (N : News h₀ L s.heap news) (T : Top p loose mean mg mb h₀)
    (hk : cs.kind = .function) (hd : dp + 5 < recursionLimit) 
    (hret : ∀ t h' tk', Fr h₀ L h' m → News h₀ L h' news → Q (.bytes (byteArr (dig4 n)) t) { s with heap := h', toks := tk' }) :
    wpAny (model prog w) (ktrTop dp un gd cn cs L a ccd cl outer) (call (.ref 67) [.int n tn]) Q E s := by
  have hfill : PySem.Challenge.rw_xw0326_01 = PySem.Challenge.rw_xw0326_01 ∧ Mine.hd.heap_39 = Mine.hd.heap_39 := by
    k_fill
    exact ⟨rfl, rfl⟩
  clear hfill
  refine wpAny_call ?_
  k_dflt (walk_at "M enter")
  k_steps
  rw [ba_app, p32_list]
  exact hret _ _ _ (by k_asm) (by k_asm)
end Mine
namespace Mine
local macro_rules | `(tactic| walk_at "M nothing") => `(tactic| skip)
local macro_rules | `(tactic| walk_at "M enterC") => `(tactic| (refine' code_defC ?k1 ?k2 ?k3 ?k4 ?k5 ?kA ?kF ?kK ?k6 ?k7 ?k8 ?k9 ?kB ?kD ?_ ?c2 ?c3 ?c4; (case kA => exact rfl); (case kF => exact rfl); (case kK => first | exact rfl | assumption); (case k1 => k_asm); (case k2 => k_asm); (case k3 => k_asm); (case k4 => k_asm); (case k5 => k_asm); (case k6 => k_is); (case k7 => k_is); (case k8 => ktr_room); (case k9 => first | exact BindsTo.of_eq rfl | exact binds_K (by k_in) rfl (by k_is) rfl rfl rfl); (case kB => exact rfl); (case kD => decide +kernel); (case c2 => exact rfl); (case c3 => exact rfl); (case c4 => exact rfl); k_whole; intro g' L' h' tk' cells' FG' F' N' Y' B' X' T' l1; (try k_lt l1); k_cells Y'; (try simp only [List.cons_append, List.nil_append] at N'); (try dsimp only); (try k_lift B'); (try k_fold)))
theorem pow_log {j : Nat} (h : j ≤ 3) : ((256 : Int) ^ j).natAbs.log2 < 9000 := by
  rcases (show j = 0 ∨ j = 1 ∨ j = 2 ∨ j = 3 from by omega) with rfl | rfl | rfl | rfl <;> decide +kernel
theorem pow_ne {j : Nat} : (256 : Int) ^ j ≠ 0 := Int.ne_of_gt (Int.pow_pos (by decide))
local macro_rules | `(tactic| walk_at "binaryOp FloorDiv int int") => `(tactic| (k_here; (with_reducible show wpAny _ _ (binaryOp _ (Value.int _ _) (Value.int (256 ^ _) _)) _ _ _); refine floordiv_int pow_ne ?_ (Or.inl (PyProof.noPylong_of_log2 (pow_log ?kc))); (case kc => omega)))
theorem told_at (n : Int) (j : Nat) : (n.fdiv (256 ^ j)).fmod 256 = n / 256 ^ j % 256 := by
  rw [Int.fdiv_eq_ediv_of_nonneg _ (Int.le_of_lt (Int.pow_pos (by decide))), Int.fmod_eq_emod_of_nonneg _ (by decide)]
theorem told2_list (n : Int) : List.map (fun k : Int => (n.fdiv (256 ^ (2 - 1 - k).toNat)).fmod 256) (rangeKs 0 (2 - 0 : Int).toNat) = dig2 n := by
  unfold dig2
  simp only [told_at]
  show [n / 256 ^ 1 % 256, n / 256 ^ 0 % 256] = _
  simp only [Int.pow_one, Int.pow_zero, Int.ediv_one]
theorem told4_list (n : Int) : List.map (fun k : Int => (n.fdiv (256 ^ (4 - 1 - k).toNat)).fmod 256) (rangeKs 0 (4 - 0 : Int).toNat) = dig4 n := by
  unfold dig4
  simp only [told_at]
  show [n / 256 ^ 3 % 256, n / 256 ^ 2 % 256, n / 256 ^ 1 % 256, n / 256 ^ 0 % 256] = _
  simp only [Int.pow_one, Int.pow_zero, Int.ediv_one, show (256 : Int) ^ 3 = 16777216 from by decide, show (256 : Int) ^ 2 = 65536 from by decide]
theorem told2_ok {prog : Program} {w : World} {p : Program} {loose : List Str} {mean : ExcName → Option Value} {mg mb : Str → Option Value}
    {dp un : Nat} {gd : Option (List Code)} {cn : Str} {cs : Scope} {a : Addr} {ccd : Value} {cl : List (Str × Addr)} {outer : List Env} {A₀ : Around} {base h₀ : Heap} {L : Addr} {m : Str → Option Value} {s : Shared} {Q E : Value → Shared → Prop}
    {n : Int} {tn tm : Tok} {news : List (Addr × Obj)}
    (B : Below A₀ base outer h₀) (F : Fr h₀ L s.heap m) (X : (hd.heap_39 w.params).In h₀) (N : News h₀ L s.heap news) (T : Top p loose mean mg mb h₀)
    (hk : cs.kind = .function) (hd : dp + 5 < recursionLimit)
    (hret : ∀ t h' tk', Fr h₀ L h' m → News h₀ L h' news → Q (.bytes (byteArr (dig2 n)) t) { s with heap := h', toks := tk' }) :
    wpAny (model prog w) (ktrTop dp un gd cn cs L a ccd cl outer) (call (.ref 143) [.int n tn, .int 2 tm]) Q E s := by
  have hfill : PySem.Challenge.rw_xw0326_01 = PySem.Challenge.rw_xw0326_01 ∧ Mine.hd.heap_39 = Mine.hd.heap_39 := by
    k_fill
    exact ⟨rfl, rfl⟩
  clear hfill
  refine wpAny_call ?_
  k_dflt (walk_at "M enterC")
  k_steps
  rw [told2_list]
  exact hret _ _ _ (by k_asm) (cb_drop (by assumption) fun _ h => .tail _ (.tail _ (.tail _ h)))
theorem told4_ok {prog : Program} {w : World} {p : Program} {loose : List Str} {mean : ExcName → Option Value} {mg mb : Str → Option Value}
    {dp un : Nat} {gd : Option (List Code)} {cn : Str} {cs : Scope} {a : Addr} {ccd : Value} {cl : List (Str × Addr)} {outer : List Env} {A₀ : Around} {base h₀ : Heap} {L : Addr} {m : Str → Option Value} {s : Shared} {Q E : Value → Shared → Prop}
    {n : Int} {tn tm : Tok} {news : List (Addr × Obj)}
    (B : Below A₀ base outer h₀) (F : Fr h₀ L s.heap m) (X : (hd.heap_39 w.params).In h₀) (N : News h₀ L s.heap news) (T : Top p loose mean mg mb h₀)
    (hk : cs.kind = .function) (hd : dp + 5 < recursionLimit)
    (hret : ∀ t h' tk', Fr h₀ L h' m → News h₀ L h' news → Q (.bytes (byteArr (dig4 n)) t) { s with heap := h', toks := tk' }) :
    wpAny (model prog w) (ktrTop dp un gd cn cs L a ccd cl outer) (call (.ref 143) [.int n tn, .int 4 tm]) Q E s := by
  have hfill : PySem.Challenge.rw_xw0326_01 = PySem.Challenge.rw_xw0326_01 ∧ Mine.hd.heap_39 = Mine.hd.heap_39 := by
    k_fill
    exact ⟨rfl, rfl⟩
  clear hfill
  refine wpAny_call ?_
  k_dflt (walk_at "M enterC")
  k_steps
  rw [told4_list]
  exact hret _ _ _ (by k_asm) (cb_drop (by assumption) fun _ h => .tail _ (.tail _ (.tail _ h)))
end Mine
namespace Mine
local macro_rules | `(tactic| walk_at "M enter") => `(tactic| (refine' code_defG ?k1 ?k2 ?k3 ?k4 ?k5 ?kA ?kF ?kK ?k6 ?k7 ?k8 ?k9 ?kB ?_ ?c2 ?c3 ?c4 ?c5; (case kA => exact rfl); (case kF => exact rfl); (case kK => first | exact rfl | assumption); (case k1 => k_asm); (case k2 => k_asm); (case k3 => k_asm); (case k4 => k_asm); (case k5 => k_asm); (case k6 => k_is); (case k7 => k_is); (case k8 => ktr_room); (case k9 => first | exact BindsTo.of_eq rfl | exact binds_K (by k_in) rfl (by k_is) rfl rfl rfl); (case c5 => decide); (case kB => exact locs rfl); (case c2 => exact rfl); (case c3 => exact rfl); (case c4 => exact rfl); k_whole; intro g' L' h' FG' F' N' B' X' T' GS'; (try dsimp only); (try k_lift B'); (try k_fold)))
local macro_rules | `(tactic| walk_at "call ref") => `(tactic| (k_here; (with_reducible show wpAny _ _ (call (Value.ref 143) [_, Value.int 2 _]) _ _ _); k_dflt (refine' told2_ok ?k1 ?k2 ?k3 ?k4 ?k5 ?k6 ?k7 ?_; (case k1 => k_asm); (case k2 => k_asm); (case k3 => k_asm); (case k4 => k_asm); (case k5 => k_asm); (case k6 => first | exact rfl | assumption); (case k7 => ktr_room)); intro t' h' tk' F' N'; (try dsimp only); (try k_sweep); (try k_fold)))
local macro_rules | `(tactic| walk_at "call ref") => `(tactic| (k_here; (with_reducible show wpAny _ _ (call (Value.ref 143) [_, Value.int 4 _]) _ _ _); k_dflt (refine' told4_ok ?k1 ?k2 ?k3 ?k4 ?k5 ?k6 ?k7 ?_; (case k1 => k_asm); (case k2 => k_asm); (case k3 => k_asm); (case k4 => k_asm); (case k5 => k_asm); (case k6 => first | exact rfl | assumption); (case k7 => ktr_room)); intro t' h' tk' F' N'; (try dsimp only); (try k_sweep); (try k_fold)))
local macro_rules | `(tactic| walk_at "call builtin:len") => `(tactic| (k_here; (with_reducible show wpAny _ _ (call (Value.builtin "len") [Value.bytes (byteArr _) _]) _ _ _); (refine len_bytes ?hs ?_); (case hs => (rw [byteArr_size]; omega))))
theorem fdiv4 (n : Int) : n.fdiv 4 = n / 4 := Int.fdiv_eq_ediv_of_nonneg _ (by decide)
theorem two_in {a b : Int} (ha : 0 ≤ a ∧ a < 256) (hb : 0 ≤ b ∧ b < 256) : ∀ x ∈ [a, b], 0 ≤ x ∧ x < 256 := fun x hx => by
  rcases List.mem_cons.mp hx with rfl | hx
  · exact ha
  · rw [List.mem_singleton.mp hx]; exact hb
theorem add_ba {prog : Program} {w : World} {A : Around} {E : Value → Shared → Prop} {s : Shared} {Q : Value → Shared → Prop} {a b : List Int} {t u : Tok} (hsz : a.length + b.length ≤ 16777216) (h : ∀ t' k, Q (.bytes (byteArr (a ++ b)) t') { s with toks := k }) :
    wpAny (model prog w) A (binaryOp .Add (.bytes (byteArr a) t) (.bytes (byteArr b) u)) Q E s := by
  refine KBy.add_bytes (by rw [byteArr_size, byteArr_size]; exact hsz) fun t' k => ?_
  have e : byteArr a ++ byteArr b = byteArr (a ++ b) := by
    unfold byteArr
    rw [List.map_append, List.append_toArray]
  rw [e]
  exact h t' k
local macro_rules | `(tactic| walk_at "binaryOp Add bytes bytes") => `(tactic| (k_here; (with_reducible show wpAny _ _ (binaryOp _ (Value.bytes (byteArr _) _) (Value.bytes (byteArr _) _)) _ _ _); (refine add_ba ?hs ?_); (case hs => (simp only [List.length_append, List.length_cons, List.length_nil, dig2, dig4]; omega)); intro t' tk'))
local macro_rules | `(tactic| walk_at "call type:bytes") => `(tactic| (k_here; (with_reducible show wpAny _ _ (call (Value.type "bytes") [Value.ref _]) _ _ _); (with_reducible rename News _ _ _ _ => nn); k_dflt (refine' bytes_B ?F nn (nn.isList (.head _)) ?i ?r ?z ?h ?_; (case F => k_asm); (case i => repeat constructor); (case r => (refine two_in ?ra ?rb; (case ra => first | assumption | (rw [byteArr_size, fdiv4]; constructor <;> omega)); (case rb => first | assumption | omega))); (case z => size_fits); (case h => rfl); k_whole); intro h' t k F' N'; (try dsimp only); (try k_sweep)))
local macro_rules | `(tactic| walk_at "call type:bytes") => `(tactic| (k_here; (with_reducible show wpAny _ _ (call (Value.type "bytes") [Value.int 2 _]) _ _ _); (refine call_bytes_two ?_); intro t' tk'))
theorem news_front {h₀ h : Heap} {L r : Addr} {o : Obj} {news : List (Addr × Obj)} (N : News h₀ L h news) (hr : (r, o) ∈ news) : News h₀ L h ((r, o) :: news) := fun p hp => by
  rcases List.mem_cons.mp hp with rfl | hp
  · exact N _ hr
  · exact N _ hp
def want (v0 v1 v2 v3 v4 v5 v6 : Int) (ob : List Int) : List Int := dig2 v0 ++ dig2 v1 ++ dig4 v2 ++ dig4 v3 ++ [16 * (5 + (ob.length : Int) / 4), v4] ++ dig2 v5 ++ [0, 0] ++ dig2 v6 ++ ob
theorem due_ok {prog : Program} {w : World} {p : Program} {loose : List Str} {mean : ExcName → Option Value} {mg mb : Str → Option Value}
    {dp un : Nat} {gd : Option (List Code)} {cn : Str} {cs : Scope} {a : Addr} {ccd : Value} {cl : List (Str × Addr)} {outer : List Env} {A₀ : Around} {base h₀ : Heap} {L : Addr} {m : Str → Option Value} {s : Shared} {Q E : Value → Shared → Prop}
    {v0 v1 v2 v3 v4 v5 v6 : Int} {t0 t1 t2 t3 t4 t5 t6 to : Tok} {r : Addr} {k : Nat} {ob : List Int} {news : List (Addr × Obj)}
    (B : Below A₀ base outer h₀) (F : Fr h₀ L s.heap m) (X : (hd.heap_39 w.params).In h₀) (N : News h₀ L s.heap news) (T : Top p loose mean mg mb h₀)
    (hr : (r, listOf [.int v0 t0, .int v1 t1, .int v2 t2, .int v3 t3, .int v4 t4, .int v5 t5, .int v6 t6].toArray k) ∈ news)
    (hk : cs.kind = .function) (hd : dp + 9 < recursionLimit) (h4 : 0 ≤ v4 ∧ v4 < 256) (hz : ob.length ≤ 40)
    (hret : ∀ t h' tk', Fr h₀ L h' m → News h₀ L h' news → Q (.bytes (byteArr (want v0 v1 v2 v3 v4 v5 v6 ob)) t) { s with heap := h', toks := tk' }) :
    wpAny (model prog w) (ktrTop dp un gd cn cs L a ccd cl outer) (call (.ref 157) [.ref r, .bytes (byteArr ob) to]) Q E s := by
  have hfill : PySem.Challenge.rw_xw0326_01 = PySem.Challenge.rw_xw0326_01 ∧ Mine.hd.heap_39 = Mine.hd.heap_39 := by
    k_fill
    exact ⟨rfl, rfl⟩
  clear hfill
  have N2 := news_front N hr
  refine wpAny_call ?_
  k_dflt (walk_at "M enter")
  k_steps
  rw [byteArr_size, fdiv4]
  exact hret _ _ _ (by k_asm) (cb_drop (by assumption) fun _ h => .tail _ (.tail _ h))
end Mine
namespace Mine
local macro_rules | `(tactic| walk_at "M enter") => `(tactic| (refine' code_defG ?k1 ?k2 ?k3 ?k4 ?k5 ?kA ?kF ?kK ?k6 ?k7 ?k8 ?k9 ?kB ?_ ?c2 ?c3 ?c4 ?c5; (case kA => exact rfl); (case kF => exact rfl); (case kK => first | exact rfl | assumption); (case k1 => k_asm); (case k2 => k_asm); (case k3 => k_asm); (case k4 => k_asm); (case k5 => k_asm); (case k6 => k_is); (case k7 => k_is); (case k8 => ktr_room); (case k9 => first | exact BindsTo.of_eq rfl | exact binds_K (by k_in) rfl (by k_is) rfl rfl rfl); (case c5 => decide); (case kB => exact locs rfl); (case c2 => exact rfl); (case c3 => exact rfl); (case c4 => exact rfl); k_whole; intro g' L' h' FG' F' N' B' X' T' GS'; (try dsimp only); (try k_lift B'); (try k_fold)))
abbrev segObj (z0 z1 z2 z3 z4 z5 z6 z7 z8 : Int) (k0 k1 k2 k3 k4 k5 k6 k7 k8 : Tok) (v0 v1 v2 v3 v4 v5 v6 : Int) (t0 t1 t2 t3 t4 t5 t6 : Tok) (b1 b2 : Value) : Obj :=
  dictOf [⟨z0, .str "source_port" k0, .int v0 t0⟩, ⟨z1, .str "target_port" k1, .int v1 t1⟩, ⟨z2, .str "seq" k2, .int v2 t2⟩, ⟨z3, .str "ack" k3, .int v3 t3⟩, ⟨z4, .str "flags" k4, .int v4 t4⟩,
    ⟨z5, .str "window" k5, .int v5 t5⟩, ⟨z6, .str "urgent" k6, .int v6 t6⟩, ⟨z7, .str "options" k7, b1⟩, ⟨z8, .str "payload" k8, b2⟩] 9
local macro_rules | `(tactic| walk_at "call ref") => `(tactic| (k_here; (with_reducible show wpAny _ _ (call (Value.ref 60) _) _ _ _); k_dflt (refine' put16_ok ?k1 ?k2 ?k3 ?k4 ?k5 ?k6 ?k7 ?_; (case k1 => k_asm); (case k2 => k_asm); (case k3 => k_asm); (case k4 => k_asm); (case k5 => k_asm); (case k6 => first | exact rfl | assumption); (case k7 => ktr_room)); intro t' h' tk' F' N'; (try dsimp only); (try k_sweep); (try k_fold)))
local macro_rules | `(tactic| walk_at "call ref") => `(tactic| (k_here; (with_reducible show wpAny _ _ (call (Value.ref 67) _) _ _ _); k_dflt (refine' put32_ok ?k1 ?k2 ?k3 ?k4 ?k5 ?k6 ?k7 ?_; (case k1 => k_asm); (case k2 => k_asm); (case k3 => k_asm); (case k4 => k_asm); (case k5 => k_asm); (case k6 => first | exact rfl | assumption); (case k7 => ktr_room)); intro t' h' tk' F' N'; (try dsimp only); (try k_sweep); (try k_fold)))
local macro_rules | `(tactic| walk_at "call ref") => `(tactic| (k_here; (with_reducible show wpAny _ _ (call (Value.ref 117) _) _ _ _); k_dflt (refine' chk ?k1 ?k2 ?k3 ?k4 ?k5 ?k6 ?k7 ?k8 ?k9 ?_ ?_; (case k1 => k_asm); (case k2 => k_asm); (case k3 => k_asm); (case k4 => k_asm); (case k5 => k_asm); (case k6 => first | exact rfl | assumption); (case k7 => ktr_room); (case k8 => ktr_units); (case k9 => first | exact .inl ⟨rfl, rfl⟩ | exact .inr (.inl ⟨rfl, rfl⟩) | exact .inr (.inr ⟨rfl, rfl⟩))); (intro h' tk' i0 i1 F' N'; (try dsimp only); (try k_sweep); (try k_fold)); rotate_left; (intro e' g' h' tk' i0 F' R' U'; (try dsimp only)); rotate_right))
local macro_rules | `(tactic| walk_at "binaryOp Add bytes bytes") => `(tactic| (k_here; (with_reducible show wpAny _ _ (binaryOp _ (Value.bytes (byteArr _) _) (Value.bytes (byteArr _) _)) _ _ _); (refine add_ba ?hs ?_); (case hs => (simp only [List.length_append, List.length_cons, List.length_nil, dig2, dig4]; omega)); intro t' tk'))
local macro_rules | `(tactic| walk_at "call builtin:len") => `(tactic| (k_here; (with_reducible show wpAny _ _ (call (Value.builtin "len") [Value.bytes (byteArr _) _]) _ _ _); (refine len_bytes ?hs ?_); (case hs => (rw [byteArr_size]; omega))))
local macro_rules | `(tactic| walk_at "leaving ref") => `(tactic| (k_here; k_dflt (refine' leave_onSN ?K ?F ?R ?U ?_; (case K => k_asm); (case R => assumption); (case U => assumption); (case F => k_asm); k_whole); intro h' R' R2' U'; clear R2'))

local macro_rules | `(tactic| walk_at "binaryOp LShift int int") => `(tactic| (k_here; refine lshift_int_small ?h1 ?h2 ?h3 ?_; (case h1 => decide); (case h2 => decide); (case h3 => (rw [byteArr_size, fdiv4]; omega))))
def Fits (v0 v1 v2 v3 v4 v5 v6 : Int) : Prop :=
  (0 ≤ v0 ∧ v0 < 65536) ∧ (0 ≤ v1 ∧ v1 < 65536) ∧ (0 ≤ v2 ∧ v2 < 4294967296) ∧ (0 ≤ v3 ∧ v3 < 4294967296) ∧ (0 ≤ v4 ∧ v4 < 64) ∧ (0 ≤ v5 ∧ v5 < 65536) ∧ (0 ≤ v6 ∧ v6 < 65536)
theorem or_words {a f : Int} (ha : 0 ≤ a) (h0 : 0 ≤ f) (h1 : f < 4096) : Builtin.bitOr (a * 2 ^ Int.toNat 12) f = a * 4096 + f := by
  rw [show (2 : Int) ^ Int.toNat 12 = 4096 from by decide, bitOr_and, bitAnd_pp (by omega) h0]
  have e := nat_or_add_and (a * 4096).toNat f.toNat
  have q : (a * 4096).toNat = 2 ^ 12 * a.toNat := by omega
  have e2 := Nat.two_pow_add_eq_or_of_lt (show f.toNat < 2 ^ 12 from by omega) a.toNat
  rw [q] at e ⊢
  rw [← e2] at e
  omega
theorem words_dig {a f : Int} {n : Nat} (ha : a = 5 + (n : Int) / 4) (hn : n ≤ 40) (h0 : 0 ≤ f) (h1 : f < 64) : dig2 (Builtin.bitOr (a * 2 ^ Int.toNat 12) f) = [16 * (5 + (n : Int) / 4), f] := by
  rw [or_words (by omega) h0 (by omega)]
  unfold dig2
  simp only [List.cons.injEq, and_true]
  omega
theorem keep_all {H g h' h₀ : Heap} {L L' : Addr} {m' : Str → Option Value} {news news' : List (Addr × Obj)} (G : GSub H g (news.map (·.1))) (N : News h₀ L H news) (F' : Fr g L' h' m') (N' : News g L' h' news') (hs : ∀ p ∈ news, p ∈ news') :
    ∀ b o, H.get? b = some o → h'.get? b = some o := fun b o e => by
  by_cases hb : b ∈ news.map (·.1)
  · obtain ⟨p, hp, rfl⟩ := List.mem_map.mp hb
    have h1 := (N p hp).1
    rw [e] at h1
    cases h1
    exact (N' p (hs p hp)).1
  · exact F'.keep b o (G b o e hb)
theorem raised_sub {base G : Heap} {l : List Env} {e : Addr} {cls : Value} {news news' : List (Addr × Obj)} {h : Heap} (R : RaisedSN base G l e cls news' h) (hs : ∀ p ∈ news, p ∈ news') : RaisedSN base G l e cls news h := by
  obtain ⟨B, a0, hB, hG, hl, hf⟩ := R
  exact ⟨B, a0, hB, hG, fun q hq => hl q (hs q hq), hf⟩
theorem ho_part {prog : Program} {w : World} {p : Program} {loose : List Str} {mean : ExcName → Option Value} {mg mb : Str → Option Value}
    {dp un : Nat} {gd : Option (List Code)} {cn : Str} {cs : Scope} {a : Addr} {ccd : Value} {cl : List (Str × Addr)} {outer : List Env} {A₀ : Around} {base h₀ : Heap} {L : Addr} {m : Str → Option Value} {s : Shared} {Q E : Value → Shared → Prop}
    {z0 z1 z2 z3 z4 z5 z6 z7 z8 : Int} {k0 k1 k2 k3 k4 k5 k6 k7 k8 : Tok} {v0 v1 v2 v3 v4 v5 v6 : Int} {t0 t1 t2 t3 t4 t5 t6 to : Tok} {b1 b2 : Value} {x dx : Addr} {ob : List Int}
    (B : Below A₀ base outer h₀) (F : Fr h₀ L s.heap m) (X : (hd.heap_39 w.params).In h₀) (N : News h₀ L s.heap ([(x, instObj 106 dx), (dx, segObj z0 z1 z2 z3 z4 z5 z6 z7 z8 k0 k1 k2 k3 k4 k5 k6 k7 k8 v0 v1 v2 v3 v4 v5 v6 t0 t1 t2 t3 t4 t5 t6 b1 b2)])) (T : Top p loose mean mg mb h₀)
    (hk : cs.kind = .function) (hd : dp + 9 < recursionLimit) (hu : un + 60 < cLine)
    (hz : ob.length ≤ 40)
    (hret : ∀ t h' tk', Fits v0 v1 v2 v3 v4 v5 v6 → Fr h₀ L h' m → (∀ b o, s.heap.get? b = some o → h'.get? b = some o) → Q (.bytes (byteArr (want v0 v1 v2 v3 v4 v5 v6 ob)) t) { s with heap := h', toks := tk' })
    (hbad : ∀ e g h' tk', ¬ Fits v0 v1 v2 v3 v4 v5 v6 → Fr h₀ L g m → GSub s.heap g ([(x, instObj 106 dx), (dx, segObj z0 z1 z2 z3 z4 z5 z6 z7 z8 k0 k1 k2 k3 k4 k5 k6 k7 k8 v0 v1 v2 v3 v4 v5 v6 t0 t1 t2 t3 t4 t5 t6 b1 b2)].map (·.1)) →
      RaisedSN base g (envX cn cs L a ccd cl :: outer) e (.ref 51) [(x, instObj 106 dx), (dx, segObj z0 z1 z2 z3 z4 z5 z6 z7 z8 k0 k1 k2 k3 k4 k5 k6 k7 k8 v0 v1 v2 v3 v4 v5 v6 t0 t1 t2 t3 t4 t5 t6 b1 b2)] h' → g.UpToSlots h' → E (.ref e) { s with heap := h', toks := tk' }) :
    wpAny (model prog w) (ktrTop dp un gd cn cs L a ccd cl outer) (call (.ref 124) [.ref x, .bytes (byteArr ob) to]) Q E s := by
  have hfill : PySem.Challenge.rw_xw0326_01 = PySem.Challenge.rw_xw0326_01 ∧ Mine.hd.heap_39 = Mine.hd.heap_39 := by
    k_fill
    exact ⟨rfl, rfl⟩
  clear hfill
  refine wpAny_call ?_
  k_dflt (walk_at "M enter")
  k_steps
  all_goals (with_reducible rename GSub _ _ _ => gs)
  all_goals (with_reducible rename News _ _ _ _ => nn)
  · rw [byteArr_size, fdiv4]
    rw [words_dig (n := ob.length) (by omega) hz (by omega) (by omega)]
    refine hret _ _ _ ?_ (by k_asm) ?_
    · unfold Fits; omega
    · refine' keep_all gs N ?F ?N ?_
      case F => assumption
      case N => assumption
      kcj_all
  all_goals (
    refine' hbad _ _ _ _ ?_ ?F gs (raised_sub ?R ?_) ?U
    case F => assumption
    case R => assumption
    case U => assumption
    · unfold Fits; omega
    · kcj_all)
end Mine
namespace Mine
section
variable {prog : Program} {w : World} {A₀ A : Around} {s : Shared} {base h₀ : Heap} {L : Addr} {m : Str → Option Value} {env : Env} {news : List (Addr × Obj)} {K : Frag} {p : Program} {loose : List Str} {mean : ExcName → Option Value} {mg mb : Str → Option Value}
    {R : Result → Shared → Prop} {name qual : Str} {params : Arguments} {body : List Stmt} {scope : Scope} {dV kV doc pm cdv ct oc : Value} {an od : Option Addr} {osl : Array (Option Value)} {f : Addr} {args : Args} {binds : List (Str × Value)}
theorem mem_one {b : Addr} (hf : env.frame = some L) (hm : b ∈ [env].filterMap (·.frame)) : b = L := by
  obtain ⟨e, he, h⟩ := List.mem_filterMap.mp hm
  rw [List.mem_singleton.mp he, hf] at h
  exact (Option.some.inj h).symm
/-- a def that catches, called from a frame that may hold cells -/
theorem code_defX0 (B : Below A₀ base [] h₀) (F : Fr h₀ L s.heap m) (X₀ : K.In h₀) (N : News h₀ L s.heap news) (T : Top p loose mean mg mb h₀) (hA : A.frames = some [env]) (hf : env.frame = some L) (hke : env.scope.kind = .function)
    (ho : K.lookup f = some ⟨oc, od, .func (fnOf name qual params body scope dV kV doc pm an cdv ct), osl⟩) (hcd : codeIn K cdv qual = true) (hroom : A.depth < recursionLimit)
    (hbind : BindsTo s (fnOf name qual params body scope dV kV doc pm an cdv ct) args binds) (hloc : ∀ y ∈ binds, scope.names.lookup y.1 = some .local)
    (h : ∀ g L' h₁, Fr h₀ L g m → Fr g L' h₁ (fun y => binds.reverse.lookup y) → News g L' h₁ news → Below A base [env] g → K.In g → Top p loose mean mg mb g → KtsDicts ([env].filterMap (·.frame)) g →
      wpAny (model prog w) (A.deeper (envOf qual scope L' f cdv)) (execs body (envOf qual scope L' f cdv))
        (fun fl s' => LeaveS0 ([env].filterMap (·.frame)) h₀ L m g R (match fl with | .ret v => v | _ => .none) s')
        (fun e s' => wpAny (model prog w) (A.deeper (envOf qual scope L' f cdv)) (leaving (envOf qual scope L' f cdv) e) (fun _ s'' => R (.error e) s'') (fun e' s'' => R (.error e') s'') s')
        { s with heap := h₁, toks := s.toks + binds.length })
    (hco : scope.isCoroutine = false) (hgen : scope.isGenerator = false) (hk : scope.kind = .function)
    (hcell : ∀ x ∈ scope.names, x.2 ≠ .cell) : codeAny (model prog w) A (.call (.ref f) args) R s := by
  obtain ⟨FG, BG, st, _⟩ := groundX (R := R) B F N hA hf hke
  have X := X₀.keeps F.keep
  refine codeAny_call_def (fd := fnX name qual params body scope [] dV kV doc pm an cdv ct) (body := body) (binds := binds) hroom (X _ _ ho) rfl (T.nolimit.keeps F.keep) (codeRec_of X hcd) rfl hbind hcell hloc (fun h₁ hns hk₁ => ?_) hco hgen hk
  obtain ⟨oL, es, ep, hLg, hLd, hLk, hLf⟩ := id FG.ns
  refine wpAny_mono (h _ s.heap.objs.size h₁ FG ⟨hns, fun b o e => hk₁ b o (of_hideAll _ e), Nat.le_of_eq (hideAll_size _ _)⟩
    (fun q hq => ⟨hk₁ _ _ (N q hq).1, Nat.ne_of_lt (Heap.lt_size (N q hq).1), hideAll_none _ (List.mem_map_of_mem hq)⟩) BG (X₀.keeps st) (T.keeps st) (fun b hb => by
      rw [mem_one hf hb]
      exact ⟨oL, es, ep, hLg, hLd⟩)) (fun fl s' hl => ?_) fun _ _ y => y
  obtain ⟨g', L', m', news', T', F', N', k⟩ := hl
  have nL : h₀.get? L = none := kts_self F
  obtain ⟨sl, hs⟩ := T'.up hLg
  refine k ⟨⟨_, es, ep, F'.keep _ _ hs, hLd, hLk, hLf⟩, fun b o e => F'.keep b o (T'.other b o (st b o e) fun hm => by rw [mem_one hf hm, nL] at e; cases e), F.above⟩ fun q hq => ⟨(N' q hq).1, fun e => ?_, ?_⟩
  · have := (N' q hq).2.2
    rw [e, hs] at this
    cases this
  · cases e : h₀.get? q.1 with
    | none => rfl
    | some o =>
      obtain ⟨sl', hs'⟩ := T'.up (st _ _ e)
      have := (N' q hq).2.2
      rw [hs'] at this
      cases this
end
/-- an exception in flight, told with more of the ledger -/
theorem raised_widen {A₀ : Around} {base G H h h₀ : Heap} {L : Addr} {m : Str → Option Value} {outer : List Env} {env : Env} {e : Addr} {cls : Value} {ns news : List (Addr × Obj)} (K : Below A₀ base outer h₀) (hf : env.frame = some L)
    (R : RaisedSN base G (env :: outer) e cls ns h) (GS : GSub H G (ns.map (·.1))) (N : News h₀ L H news) (F : Fr h₀ L G m) (hs : ∀ q ∈ ns, q ∈ news) (U : G.UpToSlots h) :
    ∃ G', Fr h₀ L G' m ∧ RaisedSN base G' (env :: outer) e cls news h ∧ G'.UpToSlots h := by
  have notL : L ∉ news.map (·.1) := fun q => by
    obtain ⟨p, hp, e⟩ := List.mem_map.mp q
    exact (N p hp).2.1 e
  have notf : ∀ q ∈ news, q.1 ∉ (env :: outer).filterMap (·.frame) := fun q hq hm => by
    obtain ⟨en, he, hf'⟩ := List.mem_filterMap.mp hm
    rcases List.mem_cons.mp he with rfl | he
    · rw [hf] at hf'
      exact (N q hq).2.1 (Option.some.inj hf').symm
    · obtain ⟨o, ho, _⟩ := (K.frames.mem (List.mem_filterMap.mpr ⟨en, he, hf'⟩)).2
      rw [(N q hq).2.2] at ho; cases ho
  obtain ⟨B, a0, hB, hBG, hl, hfl⟩ := R
  refine ⟨hideAll G (news.map (·.1)), ⟨?_, fun b o q => hideAll_get _ (F.keep b o q) fun hm => ?_, F.above⟩, ⟨B, a0, hB, fun b o q nm => hBG b o (of_hideAll _ q) nm, fun q hq => ⟨?_, hideAll_none _ (List.mem_map_of_mem hq), fresh_of_stays K.stays (N q hq).2.2⟩, hfl⟩, fun b o q hn => U b o (of_hideAll _ q) hn⟩
  · obtain ⟨oL, es, ep, hL, hLr⟩ := F.ns
    exact ⟨oL, es, ep, hideAll_get _ hL notL, hLr⟩
  · obtain ⟨p, hp, rfl⟩ := List.mem_map.mp hm
    rw [(N p hp).2.2] at q; cases q
  · by_cases hb : q.1 ∈ ns.map (·.1)
    · obtain ⟨p, hp, hpe⟩ := List.mem_map.mp hb
      have h1 := (N q hq).1
      have h2 := (N p (hs p hp)).1
      rw [hpe, h1] at h2
      rw [Option.some.inj h2, ← hpe]
      exact (hl p hp).1
    · exact hBG _ _ (GS _ _ (N q hq).1 hb) (notf q hq)
section
variable {prog : Program} {w : World} {A₀ : Around} {E : Value → Shared → Prop} {s' : Shared} {base g g₀ G : Heap} {outer : List Env} {L a e C : Addr} {m : Str → Option Value} {name : Str} {scope : Scope} {cd : Value}
  {b₀ : Stmt} {suite : List Stmt} {pos np : Pos} {rest : List ExceptHandler} {Q : Flow → Shared → Prop} {news : List (Addr × Obj)} {KF : Frag}
  {p : Program} {loose : List Str} {mean : ExcName → Option Value} {mg mb : Str → Option Value} {x : Str}
/-- an exception of an own class with an __init__ of its own, caught by its name -/
theorem caught_own (R : RaisedSN base G (envOf name scope L a cd :: outer) e (.ref C) news s'.heap) (F : Fr g L G m) (K : Below A₀ base outer g) (hsm : G.UpToSlots s'.heap) (XB : KF.In base) (TB : Top p loose mean mg mb base)
    (T0 : KtsTurn (outer.filterMap (·.frame)) g₀ g)
    (ex : nsIn KF mainGlobals x = some (some (.ref C))) (q : ktsIn KF C "BaseException" = true)
    (k : ∀ h' g', KtsTurn (outer.filterMap (·.frame)) g₀ g' → Fr g' L h' m → News g' L h' news → Below A₀ base outer g' → KF.In g' → Top p loose mean mg mb g' →
      wpAny (model prog w) ((A₀.deeper (envOf name scope L a cd)).mark (some (.ref e))) (execs (b₀ :: suite) (envOf name scope L a cd)) Q E { s' with heap := h' })
    (hk : scope.kind = .function := by rfl) (hx : (envOf name scope L a cd).kindOf x = some .globalImplicit := by rfl) (hd : (x == ("__debug__" : Str)) = false := by decide)
    (hE : PassesOwnAt (model prog w) ((A₀.deeper (envOf name scope L a cd)).mark (some (.ref e))) (A₀.deeper (envOf name scope L a cd)) (envOf name scope L a cd) E := by passes_own) :
    wpAny (model prog w) (A₀.deeper (envOf name scope L a cd)) (noteFrame (.ref e) (envOf name scope L a cd))
      (fun _ s₂ => wpAny (model prog w) (A₀.deeper (envOf name scope L a cd)) (setFlight (.ref e) none) (fun _ s₃ =>
        wpAny (model prog w) (A₀.deeper (envOf name scope L a cd)) (handleBy (.ref e) (envOf name scope L a cd) (.ExceptHandler (some (.Name x np)) none (b₀ :: suite) pos :: rest)) Q E s₃) E s₂) E s' := by
  obtain ⟨B, a0, hB, hBG, hl, hfl⟩ := R
  have hL : B.get? L = none := by
    obtain ⟨_, ⟨L', _, hf, hn', _⟩, _⟩ := hfl.2.2.1
    obtain rfl : L = L' := Option.some.inj hf
    exact hn'
  refine wpAny_looks_onW (Around.frames_deeper K.stack) rfl hfl fun h₄ hheld₄ hsm₄ => ?_
  refine wpAny_landsW hheld₄ fun h₅ hheld hsm₅' => ?_
  have hsm₅ := hsm₄.trans hsm₅'
  obtain ⟨g₅, T₅, F₅, K₅⟩ := kts_ground K F hBG hheld.1 (hsm.trans hsm₅)
  have X₅ : KF.In g₅ := XB.keeps K₅.stays
  have P₅ : TopRead p loose mg mb g₅ := topRead_of (TB.keeps K₅.stays)
  obtain ⟨ob, hob, hobc⟩ := hheld.there
  obtain ⟨nm, q', Nn, bs, bm, hdct, sn, sub, ab, col, dd, k0, k1, k2, k3, k5, newId, hC, hbase, _⟩ := kts_cls X₅ q
  refine wpAny_handleBy_cons (codeAny_handlers_test (name_K F₅ X₅ P₅ ex ?_ hk hx hd)) (by intro z; cases z)
  refine wpAny_excMatches_sub_self (F₅.keep _ _ hC) hob hobc hbase (codeAny_handlers_suite ?_)
  refine lands_againW hheld fun h₆ hfl₆ hsm₆ => ?_
  obtain ⟨g₆, T₆, F₆, K₆⟩ := kts_ground K F hBG hfl₆.1 ((hsm.trans hsm₅).trans hsm₆)
  exact wpAny_passesOwnAt hE (k h₆ g₆ (T0.trans T₆) F₆ (fun z hz => ⟨hfl₆.1 _ _ (hl z hz).1, (fun y => by have := (hl z hz).1; rw [y, hL] at this; cases this), T₆.none_ _ (kts_none F.keep (hl z hz).2.1)⟩) K₆ (XB.keeps K₆.stays) (TB.keeps K₆.stays))
end
end Mine
namespace Mine
theorem ho_ok {prog : Program} {w : World} {p : Program} {loose : List Str} {mean : ExcName → Option Value} {mg mb : Str → Option Value}
    {dp un : Nat} {gd : Option (List Code)} {cn : Str} {cs : Scope} {a : Addr} {ccd : Value} {cl : List (Str × Addr)} {outer : List Env} {A₀ : Around} {base h₀ : Heap} {L : Addr} {m : Str → Option Value} {s : Shared} {Q E : Value → Shared → Prop}
    {z0 z1 z2 z3 z4 z5 z6 z7 z8 : Int} {k0 k1 k2 k3 k4 k5 k6 k7 k8 : Tok} {v0 v1 v2 v3 v4 v5 v6 : Int} {t0 t1 t2 t3 t4 t5 t6 to : Tok} {b1 b2 : Value} {x dx : Addr} {ob : List Int} {news : List (Addr × Obj)}
    (B : Below A₀ base outer h₀) (F : Fr h₀ L s.heap m) (X : (hd.heap_39 w.params).In h₀) (N : News h₀ L s.heap ((x, instObj 106 dx) :: (dx, segObj z0 z1 z2 z3 z4 z5 z6 z7 z8 k0 k1 k2 k3 k4 k5 k6 k7 k8 v0 v1 v2 v3 v4 v5 v6 t0 t1 t2 t3 t4 t5 t6 b1 b2) :: news)) (T : Top p loose mean mg mb h₀)
    (hk : cs.kind = .function) (hd : dp + 9 < recursionLimit) (hu : un + 60 < cLine)
    (hz : ob.length ≤ 40)
    (hret : ∀ t h' tk', Fits v0 v1 v2 v3 v4 v5 v6 → Fr h₀ L h' m → News h₀ L h' news → Q (.bytes (byteArr (want v0 v1 v2 v3 v4 v5 v6 ob)) t) { s with heap := h', toks := tk' })
    (hbad : ∀ e g h' tk', ¬ Fits v0 v1 v2 v3 v4 v5 v6 → Fr h₀ L g m → RaisedSN base g (envX cn cs L a ccd cl :: outer) e (.ref 51) news h' → g.UpToSlots h' → E (.ref e) { s with heap := h', toks := tk' }) :
    wpAny (model prog w) (ktrTop dp un gd cn cs L a ccd cl outer) (call (.ref 124) [.ref x, .bytes (byteArr ob) to]) Q E s := by
  have N1 : News h₀ L s.heap [(x, instObj 106 dx), (dx, segObj z0 z1 z2 z3 z4 z5 z6 z7 z8 k0 k1 k2 k3 k4 k5 k6 k7 k8 v0 v1 v2 v3 v4 v5 v6 t0 t1 t2 t3 t4 t5 t6 b1 b2)] := cb_drop N fun q hq => by
    rcases List.mem_cons.mp hq with rfl | hq
    · exact .head _
    · rw [List.mem_singleton.mp hq]; exact .tail _ (.head _)
  refine ho_part B F X N1 T hk hd hu hz (fun t h' tk' i F' k => hret t h' tk' i F' fun q hq => ?_) fun e g h' tk' i F' GS R U => ?_
  · have P := N q (.tail _ (.tail _ hq))
    exact ⟨k _ _ P.1, P.2⟩
  · obtain ⟨G', F₂, R₂, U₂⟩ := raised_widen (env := envX cn cs L a ccd cl) B rfl R GS N F' (fun q hq => by
      rcases List.mem_cons.mp hq with rfl | hq
      · exact .head _
      · rw [List.mem_singleton.mp hq]; exact .tail _ (.head _)) U
    exact hbad e G' h' tk' i F₂ (raised_sub R₂ fun q hq => .tail _ (.tail _ hq)) U₂
local macro_rules | `(tactic| walk_at "M enter") => `(tactic| (refine' code_defG ?k1 ?k2 ?k3 ?k4 ?k5 ?kA ?kF ?kK ?k6 ?k7 ?k8 ?k9 ?kB ?_ ?c2 ?c3 ?c4 ?c5; (case kA => exact rfl); (case kF => exact rfl); (case kK => first | exact rfl | assumption); (case k1 => k_asm); (case k2 => k_asm); (case k3 => k_asm); (case k4 => k_asm); (case k5 => k_asm); (case k6 => k_is); (case k7 => k_is); (case k8 => ktr_room); (case k9 => first | exact BindsTo.of_eq rfl | exact binds_K (by k_in) rfl (by k_is) rfl rfl rfl); (case c5 => decide); (case kB => exact locs rfl); (case c2 => exact rfl); (case c3 => exact rfl); (case c4 => exact rfl); k_whole; intro g' L' h' FG' F' N' B' X' T' GS'; (try dsimp only); (try k_lift B'); (try k_fold)))
local macro_rules | `(tactic| walk_at "subscriptTail Name Constant ref int") => `(tactic| (k_here; (with_reducible show wpAny _ _ (subscriptTail _ _ (Value.ref _) (Value.int _ _)) _ _ _); (with_unfolding_all refine' item_litK ?k1 ?k2 ?k3 ?k4 ?_ ?k6; (case k1 => is_list); (case k2 => decide); (case k3 => decide); (case k4 => rfl); (case k6 => with_unfolding_all rfl); k_whole)))
local macro_rules | `(tactic| walk_at "call ref") => `(tactic| (k_here; (with_reducible show wpAny _ _ (call (Value.ref 106) _) _ _ _); k_dflt (refine' call_cls ?k1 ?k2 ?k3 ?k4 ?k5 ?k6 ?_; (case k1 => k_asm); (case k2 => k_asm); (case k3 => k_asm); (case k4 => k_is); (case k5 => k_is); (case k6 => k_is); k_whole; intro x' d' h' F' N' l1 l2; (try k_lt l1); (try k_lt2 l2); (try k_sweep); walk_at "M enter")))
local macro_rules | `(tactic| walk_at "M enter0") => `(tactic| (refine' code_defX0 ?k1 ?k2 ?k3 ?k4 ?k5 ?kA ?kF ?kK ?k6 ?k7 ?k8 ?k9 ?kB ?_ ?c2 ?c3 ?c4 ?c5; (case kA => exact rfl); (case kF => exact rfl); (case kK => first | exact rfl | assumption); (case k1 => k_asm); (case k2 => k_asm); (case k3 => k_asm); (case k4 => k_asm); (case k5 => k_asm); (case k6 => k_is); (case k7 => k_is); (case k8 => ktr_room); (case k9 => first | exact BindsTo.of_eq rfl | exact binds_K (by k_in) rfl (by k_is) rfl rfl rfl); (case c5 => decide); (case kB => exact locs rfl); (case c2 => exact rfl); (case c3 => exact rfl); (case c4 => exact rfl); k_whole; intro g' L' h' FG' F' N' B' X' T' D'; (try dsimp only); (try k_lift B'); (try k_fold)))
local macro_rules | `(tactic| walk_at "call ref") => `(tactic| (k_here; (with_reducible show wpAny _ _ (call (Value.ref 124) _) _ _ _); k_dflt (refine' ho_ok ?k1 ?k2 ?k3 ?k4 ?k5 ?k6 ?k7 ?k8 ?k9 ?_ ?_; (case k1 => k_asm); (case k2 => k_asm); (case k3 => k_asm); (case k4 => k_asm); (case k5 => k_asm); (case k6 => first | exact rfl | assumption); (case k7 => ktr_room); (case k8 => ktr_units); (case k9 => assumption); (intro t' h' tk' i0 F' N'; (try dsimp only); (try k_sweep); (try k_fold)); rotate_left; (intro e' g' h' tk' i0 F' R' U'; (try dsimp only)); rotate_right)))
local macro_rules | `(tactic| walk_at "noteFrame ref") => `(tactic| (k_here; k_dflt (refine' caught_own (C := 51) ?R ?F ?K ?U ?XB ?TB ?T0 ?ex ?q ?_; (case R => assumption); (case F => assumption); (case K => assumption); (case U => assumption); (case XB => assumption); (case TB => assumption); (case T0 => first | assumption | exact KtsTurn.refl); (case ex => k_is); (case q => kts_isx); k_whole); intro h' g' T' F' N' K' X' P'; (try k_sweep)))
theorem head_ok {prog : Program} {w : World} {p : Program} {loose : List Str} {mean : ExcName → Option Value} {mg mb : Str → Option Value}
    {dp un : Nat} {gd : Option (List Code)} {cn : Str} {cs : Scope} {a : Addr} {ccd : Value} {cl : List (Str × Addr)} {A₀ : Around} {base h₀ : Heap} {L : Addr} {m : Str → Option Value} {s : Shared} {Q E : Value → Shared → Prop}
    {v0 v1 v2 v3 v4 v5 v6 : Int} {t0 t1 t2 t3 t4 t5 t6 to : Tok} {r : Addr} {k : Nat} {ob : List Int} {news : List (Addr × Obj)}
    (B : Below A₀ base [] h₀) (F : Fr h₀ L s.heap m) (X : (hd.heap_39 w.params).In h₀) (N : News h₀ L s.heap news) (T : Top p loose mean mg mb h₀) (XB : (hd.heap_39 w.params).In base) (TB : Top p loose mean mg mb base)
    (hr : (r, listOf [.int v0 t0, .int v1 t1, .int v2 t2, .int v3 t3, .int v4 t4, .int v5 t5, .int v6 t6].toArray k) ∈ news)
    (hk : cs.kind = .function) (hd : dp + 20 < recursionLimit) (hu : un + 80 < cLine)
    (hz : ob.length ≤ 40)
    (hret : ∀ t h' tk', Fits v0 v1 v2 v3 v4 v5 v6 → Fr h₀ L h' m → News h₀ L h' news → Q (.bytes (byteArr (want v0 v1 v2 v3 v4 v5 v6 ob)) t) { s with heap := h', toks := tk' })
    (hbad : ∀ h' tk', ¬ Fits v0 v1 v2 v3 v4 v5 v6 → Fr h₀ L h' m → News h₀ L h' news → Q .none { s with heap := h', toks := tk' }) :
    wpAny (model prog w) (ktrTop dp un gd cn cs L a ccd cl []) (call (.ref 150) [.ref r, .bytes (byteArr ob) to]) Q E s := by
  have hfill : PySem.Challenge.rw_xw0326_01 = PySem.Challenge.rw_xw0326_01 ∧ Mine.hd.heap_39 = Mine.hd.heap_39 := by
    k_fill
    exact ⟨rfl, rfl⟩
  clear hfill
  have N2 := news_front N hr
  refine wpAny_call ?_
  k_dflt (walk_at "M enter0")
  k_steps
  · exact hret _ _ _ (by assumption) (by k_asm) (cb_drop (by assumption) fun _ h => .tail _ h)
  · exact hbad _ _ (by assumption) (by k_asm) (cb_drop (by assumption) fun _ h => .tail _ h)
end Mine
namespace Mine
local macro_rules | `(tactic| walk_at "M enter") => `(tactic| (refine' code_defG ?k1 ?k2 ?k3 ?k4 ?k5 ?kA ?kF ?kK ?k6 ?k7 ?k8 ?k9 ?kB ?_ ?c2 ?c3 ?c4 ?c5; (case kA => exact rfl); (case kF => exact rfl); (case kK => first | exact rfl | assumption); (case k1 => k_asm); (case k2 => k_asm); (case k3 => k_asm); (case k4 => k_asm); (case k5 => k_asm); (case k6 => k_is); (case k7 => k_is); (case k8 => ktr_room); (case k9 => first | exact BindsTo.of_eq rfl | exact binds_K (by k_in) rfl (by k_is) rfl rfl rfl); (case c5 => decide); (case kB => exact locs rfl); (case c2 => exact rfl); (case c3 => exact rfl); (case c4 => exact rfl); k_whole; intro g' L' h' FG' F' N' B' X' T' GS'; (try dsimp only); (try k_lift B'); (try k_fold)))
theorem pool_pos (c : Int) (b : Bool) : 0 ≤ (if -1 - c > c then -1 - c else c) * (if b = true then 1 else 0) := by
  refine Int.mul_nonneg ?_ ?_
  · split <;> omega
  · split <;> decide
theorem pool_ok {prog : Program} {w : World} {p : Program} {loose : List Str} {mean : ExcName → Option Value} {mg mb : Str → Option Value}
    {dp un : Nat} {gd : Option (List Code)} {cn : Str} {cs : Scope} {a : Addr} {ccd : Value} {cl : List (Str × Addr)} {outer : List Env} {A₀ : Around} {base h₀ : Heap} {L : Addr} {m : Str → Option Value} {s : Shared} {Q E : Value → Shared → Prop}
    {l : Addr} {vs : List Value} {ns : List Int} {tk : Tok} {news : List (Addr × Obj)}
    (B : Below A₀ base outer h₀) (F : Fr h₀ L s.heap m) (X : (hd.heap_39 w.params).In h₀) (N : News h₀ L s.heap news) (T : Top p loose mean mg mb h₀) (hl : base.IsList l vs.toArray) (hI : IntsAre vs ns) (hz : ns.length ≤ 63)
    (hk : cs.kind = .function) (hd : dp + 5 < recursionLimit) (hu : un + 60 < cLine)
    (hret : ∀ (x y : Int) (r : Addr) (tx ty : Tok) (h' : Heap) (tk' : Nat), 0 ≤ x → 0 ≤ y → y < 2147483647 → Fr h₀ L h' m → News h₀ L h' ((r, listOf [.int x tx, .int y ty].toArray 0) :: news) → (∀ p ∈ news, p.1 < r) → Q (.ref r) { s with heap := h', toks := tk' }) :
    wpAny (model prog w) (ktrTop dp un gd cn cs L a ccd cl outer) (call (.ref 131) [.ref l, .int 0 tk]) Q E s := by
  have hfill : PySem.Challenge.rw_xw0326_01 = PySem.Challenge.rw_xw0326_01 ∧ Mine.hd.heap_39 = Mine.hd.heap_39 := by
    k_fill
    exact ⟨rfl, rfl⟩
  clear hfill
  refine wpAny_call ?_
  k_dflt (walk_at "M enter")
  k_steps
  all_goals (
    refine' hret _ _ _ _ _ _ _ ?x0 ?y0 ?y1 ?F ?N ?l
    case F => k_asm
    case N => k_asm
    case x0 => exact pool_pos _ _
    case l => assumption
    case y0 => exact (fmod_in _ (by decide)).1
    case y1 => exact (fmod_in _ (by decide)).2)
end Mine
namespace Mine
theorem take_led {prog : Program} {w : World} {p : Program} {loose : List Str} {mean : ExcName → Option Value} {mg mb : Str → Option Value}
    {dp un : Nat} {gd : Option (List Code)} {cn : Str} {cs : Scope} {a : Addr} {ccd : Value} {cl : List (Str × Addr)} {outer : List Env} {A₀ : Around} {base h₀ : Heap} {L : Addr} {m : Str → Option Value} {s : Shared} {Q E : Value → Shared → Prop}
    {l n : Nat} {x y top : Int} {tx ty tt : Tok} {news : List (Addr × Obj)} {g : Obj → List (Addr × Obj)} (c : Int)
    (B : Below A₀ base outer h₀) (F : Fr h₀ L s.heap m) (X : (hd.heap_39 w.params).In h₀) (N : News h₀ L s.heap news) (U : UpdF l (listOf [.int x tx, .int y ty].toArray n) news g) (T : Top p loose mean mg mb h₀)
    (hk : cs.kind = .function) (hd : dp + 1 < recursionLimit) (hu : un + 8 < cLine) (hx : 0 ≤ x) (hy : 0 ≤ y) (hy2 : y < 2147483647) (hc : top = c) (ht : 0 < c) (ht2 : c ≤ 4294967296)
    (hret : ∀ (r x' y' : Int) (t tx' ty' : Tok) (n' : Nat) (h' : Heap) (tk' : Nat), 0 ≤ r → r < c → 0 ≤ x' → 0 ≤ y' → y' < 2147483647 → Fr h₀ L h' m → News h₀ L h' (g (listOf [.int x' tx', .int y' ty'].toArray n')) →
      Q (.int r t) { s with heap := h', toks := tk' }) :
    wpAny (model prog w) (ktrTop dp un gd cn cs L a ccd cl outer) (call (.ref 138) [.ref l, .int top tt]) Q E s := by
  subst hc
  obtain ⟨pre, post, hn, hg, h1, h2⟩ := U.split
  have N1 : News h₀ L s.heap [(l, listOf [.int x tx, .int y ty].toArray n)] := fun q hq => by
    rw [List.mem_singleton.mp hq]
    exact N _ (by rw [hn]; exact List.mem_append_right _ (.head _))
  refine take_ok B F X N1 T hk hd hu hx hy hy2 ht ht2 fun r x' y' t tx' ty' n' h' tk' r0 r1 x0 y0 y1 F' N' k => hret r x' y' t tx' ty' n' h' tk' r0 r1 x0 y0 y1 F' ?_
  rw [hg]
  intro q hq
  rcases List.mem_append.mp hq with hq | hq
  · have P := N q (by rw [hn]; exact List.mem_append_left _ hq)
    exact ⟨k _ _ (h1 q hq) P.1, P.2⟩
  · rcases List.mem_cons.mp hq with rfl | hq
    · exact N' _ (.head _)
    · have P := N q (by rw [hn]; exact List.mem_append_right _ (.tail _ hq))
      exact ⟨k _ _ (h2 q hq) P.1, P.2⟩
end Mine
namespace Mine
/-- between the turns: the names that stay, and the ledger, of which the source alone turns -/
def J3 (ra lb ls q : Addr) (oR ob oc : Obj) (opts : Value) (m : Str → Option Value) (news : List (Addr × Obj)) : Prop :=
  (m "row" = some (.ref ra) ∧ m "bits" = some (.ref lb) ∧ m "options" = some opts) ∧
  ∃ x y tx ty n, 0 ≤ x ∧ 0 ≤ y ∧ y < 2147483647 ∧ news = [(ra, oR), (lb, ob), (ls, listOf [.int x tx, .int y ty].toArray n), (q, oc)]
/-- a mark at which the walk halts -/
def Halt (P : Prop) : Prop := P
theorem Halt.out {P : Prop} (h : Halt P) : P := h
section
variable {prog : Program} {w : World} {A : Around} {E : Value → Shared → Prop} {s : Shared} {env : Env} {h₀ : Heap} {L : Addr} {m : Str → Option Value}
/-- a block whose element draws from a list of two ints -/
theorem rest_take {elt : Expr} {x : Str} {scope : Scope} {cl : List (Str × Addr)} {S : List (Addr × Obj) → Prop} {P : Nat → Value → Prop} {Fin : List Value → List (Addr × Obj) → Prop} {N : Nat} (c : Int) (g : Obj → List (Addr × Obj))
    (hS : ∀ o, S (g o))
    (turn : ∀ v I oI C oC D ys m₂ h tk (E' : Value → Shared → Prop) a b ta tb n (Q' : Value → Shared → Prop), 0 ≤ a → 0 ≤ b → b < 2147483647 → LCg.NsObj oC m₂ → Fr h₀ L h m → News h₀ L h ((I, oI) :: (C, oC) :: (D, LCg.lst ys) :: g (listOf [.int a ta, .int b tb].toArray n)) →
      LCg.Off3 I C D (g (listOf [.int a ta, .int b tb].toArray n)) → ((@Ne Nat I C) ∧ (@Ne Nat I D) ∧ (@Ne Nat C D)) → m₂ x = some v →
      (∀ (r a' b' : Int) (t ta' tb' : Tok) (n' : Nat) (h' : Heap) (tk' : Nat), 0 ≤ r → r < c → 0 ≤ a' → 0 ≤ b' → b' < 2147483647 → Fr h₀ L h' m → News h₀ L h' ((I, oI) :: (C, oC) :: (D, LCg.lst ys) :: g (listOf [.int a' ta', .int b' tb'].toArray n')) → Q' (.int r t) { s with heap := h', toks := tk' }) →
      wpAny (model prog w) A (eval elt (compEnvC scope cl C env)) Q' E' { s with heap := h, toks := tk })
    (off : ∀ I C D o o', LCg.Off3 I C D (g o) → LCg.Off3 I C D (g o'))
    (fin : ∀ ys vs a b ta tb n, IntsAre ys vs → (∀ v ∈ vs, 0 ≤ v ∧ v < c) → vs.length = N → 0 ≤ a → 0 ≤ b → b < 2147483647 → Fin ys (g (listOf [.int a ta, .int b tb].toArray n))) :
    ∀ (k i : Nat) (ys : List Value) (vs : List Int) (a b : Int) (ta tb : Tok) (n : Nat), IntsAre ys vs → (∀ v ∈ vs, 0 ≤ v ∧ v < c) → vs.length + k = N → 0 ≤ a → 0 ≤ b → b < 2147483647 →
      LCg.CompRest prog w A h₀ L m env elt x scope cl s S P Fin k i ys (g (listOf [.int a ta, .int b tb].toArray n)) := by
  intro k
  induction k with
  | zero => exact fun i ys vs a b ta tb n hi hr hl a0 b0 b1 => LCg.CompRest.zero (fin ys vs a b ta tb n hi hr (by omega) a0 b0 b1)
  | succ k ih =>
    intro i ys vs a b ta tb n hi hr hl a0 b0 b1
    refine LCg.CompRest.succ fun v I oI C oC D m₂ h tk E' _ hC hx F N' o ne => ?_
    refine turn v I oI C oC D ys m₂ h tk E' a b ta tb n _ a0 b0 b1 hC F N' o ne hx fun r a' b' t ta' tb' n' h' tk' r0 r1 a0' b0' b1' F' N'' => ?_
    refine ⟨h', tk', _, rfl, F', N'', off _ _ _ _ _ o, hS _, ih (i + 1) (ys ++ [.int r t]) (vs ++ [r]) a' b' ta' tb' n' ?_ ?_ ?_ a0' b0' b1'⟩
    · exact hi.append (.cons _ _ .nil)
    · intro v hv
      rcases List.mem_append.mp hv with hv | hv
      · exact hr v hv
      · rw [List.mem_singleton.mp hv]
        exact ⟨r0, r1⟩
    · rw [List.length_append, List.length_singleton]; omega
theorem rest_take4 {elt : Expr} {x : Str} {scope : Scope} {cl : List (Str × Addr)} {P : Nat → Value → Prop} {Fin : List Value → List (Addr × Obj) → Prop} {N : Nat} {D₁ lb ls q : Addr} {oD ob oc : Obj} {a b : Int} {ta tb : Tok} {n : Nat} (c : Int)
    (a0 : 0 ≤ a) (b0 : 0 ≤ b) (b1 : b < 2147483647) (ap : (@Ne Nat D₁ lb) ∧ (@Ne Nat D₁ ls) ∧ (@Ne Nat D₁ q) ∧ (@LT.lt Nat _ ls lb) ∧ (@LT.lt Nat _ q ls))
    (turn : ∀ v I oI C oC D ys m₂ h tk (E' : Value → Shared → Prop) a b ta tb n (Q' : Value → Shared → Prop), 0 ≤ a → 0 ≤ b → b < 2147483647 → LCg.NsObj oC m₂ → Fr h₀ L h m → News h₀ L h [(I, oI), (C, oC), (D, LCg.lst ys), (D₁, oD), (lb, ob), (ls, listOf [.int a ta, .int b tb].toArray n), (q, oc)] →
      UpdF ls (listOf [.int a ta, .int b tb].toArray n) [(I, oI), (C, oC), (D, LCg.lst ys), (D₁, oD), (lb, ob), (ls, listOf [.int a ta, .int b tb].toArray n), (q, oc)] (fun o => [(I, oI), (C, oC), (D, LCg.lst ys), (D₁, oD), (lb, ob), (ls, o), (q, oc)]) → m₂ x = some v →
      (∀ (r a' b' : Int) (t ta' tb' : Tok) (n' : Nat) (h' : Heap) (tk' : Nat), 0 ≤ r → r < c → 0 ≤ a' → 0 ≤ b' → b' < 2147483647 → Fr h₀ L h' m → News h₀ L h' [(I, oI), (C, oC), (D, LCg.lst ys), (D₁, oD), (lb, ob), (ls, listOf [.int a' ta', .int b' tb'].toArray n'), (q, oc)] → Q' (.int r t) { s with heap := h', toks := tk' }) →
      wpAny (model prog w) A (eval elt (compEnvC scope cl C env)) Q' E' { s with heap := h, toks := tk })
    (fin : ∀ ys vs a b ta tb n, IntsAre ys vs → (∀ v ∈ vs, 0 ≤ v ∧ v < c) → vs.length = N → 0 ≤ a → 0 ≤ b → b < 2147483647 → Fin ys [(D₁, oD), (lb, ob), (ls, listOf [.int a ta, .int b tb].toArray n), (q, oc)]) :
    LCg.CompRest prog w A h₀ L m env elt x scope cl s (fun _ => True) P Fin N 0 [] [(D₁, oD), (lb, ob), (ls, listOf [.int a ta, .int b tb].toArray n), (q, oc)] :=
  rest_take c (fun o => [(D₁, oD), (lb, ob), (ls, o), (q, oc)]) (fun _ => trivial)
    (fun v I oI C oC D ys m₂ h tk E' a b ta tb n Q' a0 b0 b1 hC F N o ne hx hQ => turn v I oI C oC D ys m₂ h tk E' a b ta tb n Q' a0 b0 b1 hC F N
      (.tail (Ne.symm o.2.2.1.1) (.tail (Ne.symm o.2.2.1.2.1) (.tail (Ne.symm o.2.2.1.2.2) (.tail ap.2.1 (.tail (Ne.symm (Nat.ne_of_lt ap.2.2.2.1)) (.head fun p hp => by rw [List.mem_singleton.mp hp]; exact Nat.ne_of_lt ap.2.2.2.2)))))) hx hQ)
    (fun _ _ _ _ _ h => h) fin N 0 [] [] a b ta tb n .nil (fun _ h => nomatch h) (by simp) a0 b0 b1
theorem range_four {r : Int} (h0 : 0 ≤ r) (h1 : r < 11) : Builtin.Range.small 0 (4 * r) 1 = true ∧ Builtin.Range.rangeSize 0 (4 * r) 1 = (((4 * r).toNat : Nat) : Int) ∧ (4 * r).toNat ≤ 40 := by
  refine ⟨small_one (by omega) (by omega) (by omega) (by omega), ?_, by omega⟩
  unfold Builtin.Range.rangeSize
  rw [if_pos (by decide)]
  split <;> omega
theorem range_of {h : Heap} {r : Addr} {x : Int} {t u v : Tok} (_hr : IsRange h r 0 (4 * x) 1 t u v) (h0 : 0 ≤ x) (h1 : x < 11) : Builtin.Range.small 0 (4 * x) 1 = true ∧ Builtin.Range.rangeSize 0 (4 * x) 1 = (((4 * x).toNat : Nat) : Int) ∧ (4 * x).toNat ≤ 40 := range_four h0 h1
theorem ints_len {ys : List Value} {vs : List Int} {N : Nat} (hi : IntsAre ys vs) (hv : vs.length = N) (hN : N ≤ 40) : ys.length ≤ sizeLine ∧ vs.length ≤ 40 := ⟨by rw [hi.length, hv]; exact Nat.le_trans hN (by decide), by omega⟩
theorem rangeRest_J {x : Str} {body : List Stmt} {Q : Flow → Shared → Prop} {I : Addr} {a : Int} {n : Nat} (J : (Str → Option Value) → List (Addr × Obj) → Prop)
    (step : ∀ i m news, i < n → J m news → ∀ t h tk, Fr h₀ env.locals h (fun y => if y = x then some (.int (a + (i : Int)) t) else m y) → News h₀ env.locals h ((I, itR (a + ((i + 1 : Nat) : Int)) ((n : Int) - ((i + 1 : Nat) : Int))) :: news) →
      wpAny (model prog w) A (execs body env) (UnrPost h₀ env.locals { s with heap := h, toks := tk } I (itR (a + ((i + 1 : Nat) : Int)) ((n : Int) - ((i + 1 : Nat) : Int))) J Q) E { s with heap := h, toks := tk })
    (last : ∀ m news, J m news → ∀ h tk, Fr h₀ env.locals h m → News h₀ env.locals h news → Q .next { s with heap := h, toks := tk }) :
    ∀ k i m news, i + k = n → J m news → RangeRest prog w A E h₀ env x body Q s I a n k i m news := by
  intro k
  induction k with
  | zero => exact fun i m news _ j => RangeRest.zero fun h tk F N => last m news j h tk F N
  | succ k ih =>
    intro i m news hi j
    refine RangeRest.succ fun t h tk F N => wpAny_mono (step i m news (by omega) j t h tk F N) (fun f s₂ p => ?_) fun _ _ e => e
    have fin : UnrEnd h₀ env.locals { s with heap := h, toks := tk } I (itR (a + ((i + 1 : Nat) : Int)) ((n : Int) - ((i + 1 : Nat) : Int))) J s₂ →
        UnrEnd h₀ env.locals { s with heap := h, toks := tk } I (itR (a + ((i + 1 : Nat) : Int)) ((n : Int) - ((i + 1 : Nat) : Int))) (RangeRest prog w A E h₀ env x body Q s I a n k (i + 1)) s₂ := fun ⟨h', tk', m', news', e, F', N', o, j'⟩ => ⟨h', tk', m', news', e, F', N', o, ih (i + 1) m' news' (by omega) j'⟩
    cases f with
    | ret v => exact p
    | brk => exact p
    | next => exact fin p
    | cont => exact fin p
theorem items_J {target : Expr} {body : List Stmt} {Q : Flow → Shared → Prop} {I : Addr} {cl : String} {keep : List (Addr × Obj)} (J : (Str → Option Value) → List (Addr × Obj) → Prop) (ok : Value → Prop)
    (step : ∀ v m news, ok v → J m news → ∀ h tk (oI : Obj), oI.cls = .type cl → Fr h₀ env.locals h m → News h₀ env.locals h ((I, oI) :: news) →
      wpAny (model prog w) A (assign target env v) (fun _ s₂ => wpAny (model prog w) A (execs body env) (UnrPostW h₀ env.locals { s with heap := h, toks := tk } [(I, oI)] (fun m' n' => SubL keep n' ∧ J m' n') Q) E s₂) E { s with heap := h, toks := tk })
    (last : ∀ m news, J m news → ∀ h tk, Fr h₀ env.locals h m → News h₀ env.locals h news → Q .next { s with heap := h, toks := tk }) :
    ∀ (vs : List Value), (∀ v ∈ vs, ok v) → ∀ m news, J m news → ItemsRest prog w A E h₀ env target body Q s [(I, cl)] keep (vs.map .val) m news := by
  intro vs
  induction vs with
  | nil => exact fun _ m news j h tk F N => last m news j h tk F N
  | cons v r ih =>
    intro hv m news j u h tk e F oI hc N
    have e' : u = v := e
    subst e'
    refine wpAny_mono (step u m news (hv u (.head _)) j h tk oI hc F N) (fun _ s₂ q => wpAny_mono q (fun f s₃ p => ?_) fun _ _ e => e) fun _ _ e => e
    have fin : UnrEndW h₀ env.locals { s with heap := h, toks := tk } [(I, oI)] (fun m' n' => SubL keep n' ∧ J m' n') s₃ →
        UnrEndW h₀ env.locals { s with heap := h, toks := tk } [(I, oI)] (fun m' n' => SubL keep n' ∧ ItemsRest prog w A E h₀ env target body Q s [(I, cl)] keep (r.map .val) m' n') s₃ :=
      fun ⟨h', tk', m', news', e, F', N', o, sk, j'⟩ => ⟨h', tk', m', news', e, F', N', o, sk, ih (fun v hv' => hv v (.tail _ hv')) m' news' j'⟩
    cases f with
    | ret v => exact p
    | brk => exact p
    | next => exact fin p
    | cont => exact fin p
end
end Mine
namespace Mine
section
variable {prog : Program} {w : World} {A : Around} {E : Value → Shared → Prop} {s : Shared} {env : Env} {h₀ : Heap} {L : Addr} {m : Str → Option Value}
/-- a block whose element draws from a list of two ints, each item below its own bound -/
theorem rest_row {elt : Expr} {x : Str} {scope : Scope} {cl : List (Str × Addr)} {S : List (Addr × Obj) → Prop} {P : Nat → Value → Prop} {Fin : List Value → List (Addr × Obj) → Prop} {N : Nat} (bd : Nat → Int) {lb ls q : Addr} {ob oc : Obj}
    (ap : (@LT.lt Nat _ ls lb) ∧ (@LT.lt Nat _ q ls)) (hS : ∀ o, S [(lb, ob), (ls, o), (q, oc)])
    (turn : ∀ i v I oI C oC D ys m₂ h tk (E' : Value → Shared → Prop) a b ta tb n (Q' : Value → Shared → Prop), P i v → 0 ≤ a → 0 ≤ b → b < 2147483647 → LCg.NsObj oC m₂ → Fr h₀ L h m → News h₀ L h [(I, oI), (C, oC), (D, LCg.lst ys), (lb, ob), (ls, listOf [.int a ta, .int b tb].toArray n), (q, oc)] →
      UpdF ls (listOf [.int a ta, .int b tb].toArray n) [(I, oI), (C, oC), (D, LCg.lst ys), (lb, ob), (ls, listOf [.int a ta, .int b tb].toArray n), (q, oc)] (fun o => [(I, oI), (C, oC), (D, LCg.lst ys), (lb, ob), (ls, o), (q, oc)]) → m₂ x = some v →
      (∀ (r a' b' : Int) (t ta' tb' : Tok) (n' : Nat) (h' : Heap) (tk' : Nat), 0 ≤ r → r < bd i → 0 ≤ a' → 0 ≤ b' → b' < 2147483647 → Fr h₀ L h' m → News h₀ L h' [(I, oI), (C, oC), (D, LCg.lst ys), (lb, ob), (ls, listOf [.int a' ta', .int b' tb'].toArray n'), (q, oc)] → Q' (.int r t) { s with heap := h', toks := tk' }) →
      wpAny (model prog w) A (eval elt (compEnvC scope cl C env)) Q' E' { s with heap := h, toks := tk })
    (fin : ∀ ys vs a b ta tb n, IntsAre ys vs → (∀ j r, vs[j]? = some r → 0 ≤ r ∧ r < bd j) → vs.length = N → 0 ≤ a → 0 ≤ b → b < 2147483647 → Fin ys [(lb, ob), (ls, listOf [.int a ta, .int b tb].toArray n), (q, oc)]) :
    ∀ (k i : Nat) (ys : List Value) (vs : List Int) (a b : Int) (ta tb : Tok) (n : Nat), IntsAre ys vs → (∀ j r, vs[j]? = some r → 0 ≤ r ∧ r < bd j) → vs.length = i → i + k = N → 0 ≤ a → 0 ≤ b → b < 2147483647 →
      LCg.CompRest prog w A h₀ L m env elt x scope cl s S P Fin k i ys [(lb, ob), (ls, listOf [.int a ta, .int b tb].toArray n), (q, oc)] := by
  intro k
  induction k with
  | zero => exact fun i ys vs a b ta tb n hi hr hl hk a0 b0 b1 => LCg.CompRest.zero (fin ys vs a b ta tb n hi hr (by omega) a0 b0 b1)
  | succ k ih =>
    intro i ys vs a b ta tb n hi hr hl hk a0 b0 b1
    refine LCg.CompRest.succ fun v I oI C oC D m₂ h tk E' hP hC hx F N' o ne => ?_
    refine turn i v I oI C oC D ys m₂ h tk E' a b ta tb n _ hP a0 b0 b1 hC F N'
      (.tail (Ne.symm o.2.1.1) (.tail (Ne.symm o.2.1.2.1) (.tail (Ne.symm o.2.1.2.2) (.tail (Ne.symm (Nat.ne_of_lt ap.1)) (.head fun p hp => by rw [List.mem_singleton.mp hp]; exact Nat.ne_of_lt ap.2))))) hx fun r a' b' t ta' tb' n' h' tk' r0 r1 a0' b0' b1' F' N'' => ?_
    refine ⟨h', tk', _, rfl, F', N'', o, hS _, ih (i + 1) (ys ++ [.int r t]) (vs ++ [r]) a' b' ta' tb' n' ?_ ?_ ?_ (by omega) a0' b0' b1'⟩
    · exact hi.append (.cons _ _ .nil)
    · intro j z hz
      rcases Nat.lt_or_ge j vs.length with hj | hj
      · rw [List.getElem?_append_left hj] at hz
        exact hr j z hz
      · rw [List.getElem?_append_right hj] at hz
        have e : j - vs.length = 0 := by
          rcases Nat.eq_zero_or_pos (j - vs.length) with e | e
          · exact e
          · rw [List.getElem?_eq_none (by rw [List.length_singleton]; omega)] at hz; cases hz
        rw [e] at hz
        cases hz
        rw [show j = i from by omega]
        exact ⟨r0, r1⟩
    · rw [List.length_append, List.length_singleton, hl]
end
def bound (i : Nat) : Int := if i = 2 ∨ i = 3 then 4294967296 else if i = 4 then 64 else 65536
theorem seven_ints {ys : List Value} {vs : List Int} (hi : IntsAre ys vs) (hl : vs.length = 7) (hb : ∀ j r, vs[j]? = some r → 0 ≤ r ∧ r < bound j) :
    ∃ r0 r1 r2 r3 r4 r5 r6 t0 t1 t2 t3 t4 t5 t6, ys = [.int r0 t0, .int r1 t1, .int r2 t2, .int r3 t3, .int r4 t4, .int r5 t5, .int r6 t6] ∧ Fits r0 r1 r2 r3 r4 r5 r6 := by
  obtain _ | ⟨r0, t0, hi⟩ := hi
  · cases hl
  obtain _ | ⟨r1, t1, hi⟩ := hi
  · cases hl
  obtain _ | ⟨r2, t2, hi⟩ := hi
  · cases hl
  obtain _ | ⟨r3, t3, hi⟩ := hi
  · cases hl
  obtain _ | ⟨r4, t4, hi⟩ := hi
  · cases hl
  obtain _ | ⟨r5, t5, hi⟩ := hi
  · cases hl
  obtain _ | ⟨r6, t6, hi⟩ := hi
  · cases hl
  obtain _ | ⟨r7, t7, hi⟩ := hi
  · exact ⟨r0, r1, r2, r3, r4, r5, r6, t0, t1, t2, t3, t4, t5, t6, rfl, hb 0 _ rfl, hb 1 _ rfl, hb 2 _ rfl, hb 3 _ rfl, hb 4 _ rfl, hb 5 _ rfl, hb 6 _ rfl⟩
  · simp at hl
/-- the items that the row's block goes over -/
theorem bits_at {i : Nat} {v : Value} {t0 t1 t2 t3 t4 t5 t6 : Tok} (h : (#[Value.int 16 t0, .int 16 t1, .int 32 t2, .int 32 t3, .int 6 t4, .int 16 t5, .int 16 t6] : Array Value)[i]? = some v) :
    (∃ t, v = .int 16 t ∧ bound i = 65536) ∨ (∃ t, v = .int 32 t ∧ bound i = 4294967296) ∨ ∃ t, v = .int 6 t ∧ bound i = 64 := by
  rcases (show i = 0 ∨ i = 1 ∨ i = 2 ∨ i = 3 ∨ i = 4 ∨ i = 5 ∨ i = 6 ∨ 7 ≤ i from by omega) with rfl | rfl | rfl | rfl | rfl | rfl | rfl | hi
  · cases h; exact .inl ⟨_, rfl, rfl⟩
  · cases h; exact .inl ⟨_, rfl, rfl⟩
  · cases h; exact .inr (.inl ⟨_, rfl, rfl⟩)
  · cases h; exact .inr (.inl ⟨_, rfl, rfl⟩)
  · cases h; exact .inr (.inr ⟨_, rfl, rfl⟩)
  · cases h; exact .inl ⟨_, rfl, rfl⟩
  · cases h; exact .inl ⟨_, rfl, rfl⟩
  · rw [Array.getElem?_eq_none (by simpa using hi)] at h; cases h
end Mine
namespace Mine
/-- within a turn of the outer loop, between the turns of an inner one -/
def J4 (ax : Addr) (lo : Obj) (Io : Addr) (oIo : Obj) (ra lb ls q : Addr) (oR ob oc : Obj) (opts kv tv : Value) (m : Str → Option Value) (news : List (Addr × Obj)) : Prop :=
  (m "row" = some (.ref ra) ∧ m "bits" = some (.ref lb) ∧ m "options" = some opts ∧ m "at" = some kv ∧ m "top" = some tv) ∧
  ∃ x y tx ty n, 0 ≤ x ∧ 0 ≤ y ∧ y < 2147483647 ∧ news = [(ax, lo), (Io, oIo), (ra, oR), (lb, ob), (ls, listOf [.int x tx, .int y ty].toArray n), (q, oc)]
theorem turnW_end {h₀ h' : Heap} {L I ax Io ra lb ls q : Addr} {lo oIo oR ob oc oI : Obj} {opts kv tv : Value} {m' : Str → Option Value} {all : List (Addr × Obj)} {s₁ : Shared} {tk : Nat} {Q : Flow → Shared → Prop} {x y : Int} {tx ty : Tok} {n : Nat}
    (F : Fr h₀ L h' m') (N : News h₀ L h' all) (hI : (I, oI) ∈ all) (hs : ∀ p ∈ [(ax, lo), (Io, oIo), (ra, oR), (lb, ob), (ls, listOf [.int x tx, .int y ty].toArray n), (q, oc)], p ∈ all)
    (off : (@LT.lt Nat _ ax I) ∧ (@LT.lt Nat _ Io I) ∧ (@LT.lt Nat _ ra I) ∧ (@LT.lt Nat _ lb I) ∧ (@LT.lt Nat _ ls I) ∧ (@LT.lt Nat _ q I))
    (hm : m' "row" = some (.ref ra) ∧ m' "bits" = some (.ref lb) ∧ m' "options" = some opts ∧ m' "at" = some kv ∧ m' "top" = some tv) (x0 : 0 ≤ x) (y0 : 0 ≤ y) (y1 : y < 2147483647) :
    UnrPostW h₀ L s₁ [(I, oI)] (fun m' n' => SubL [(ax, lo)] n' ∧ J4 ax lo Io oIo ra lb ls q oR ob oc opts kv tv m' n') Q .next { s₁ with heap := h', toks := tk } := by
  refine ⟨h', tk, m', [(ax, lo), (Io, oIo), (ra, oR), (lb, ob), (ls, listOf [.int x tx, .int y ty].toArray n), (q, oc)], rfl, F, fun p hp => ?_, fun p hp z hz => ?_, ⟨.head _, trivial⟩, hm, x, y, tx, ty, n, x0, y0, y1, rfl⟩
  · rcases List.mem_append.mp hp with hp | hp
    · rw [List.mem_singleton.mp hp]; exact N _ hI
    · exact N _ (hs p hp)
  · rw [List.mem_singleton.mp hz]
    simp only [List.mem_cons, List.not_mem_nil, or_false] at hp
    rcases hp with rfl | rfl | rfl | rfl | rfl | rfl
    · exact Nat.ne_of_lt off.1
    · exact Nat.ne_of_lt off.2.1
    · exact Nat.ne_of_lt off.2.2.1
    · exact Nat.ne_of_lt off.2.2.2.1
    · exact Nat.ne_of_lt off.2.2.2.2.1
    · exact Nat.ne_of_lt off.2.2.2.2.2
theorem turn_end {h₀ h' : Heap} {L I ra lb ls q : Addr} {oR ob oc oI : Obj} {opts : Value} {m' : Str → Option Value} {all : List (Addr × Obj)} {s₁ : Shared} {tk : Nat} {Q : Flow → Shared → Prop} {x y : Int} {tx ty : Tok} {n : Nat}
    (F : Fr h₀ L h' m') (N : News h₀ L h' all) (hI : (I, oI) ∈ all) (hs : ∀ p ∈ [(ra, oR), (lb, ob), (ls, listOf [.int x tx, .int y ty].toArray n), (q, oc)], p ∈ all)
    (off : (@LT.lt Nat _ ra I) ∧ (@LT.lt Nat _ lb I) ∧ (@LT.lt Nat _ ls I) ∧ (@LT.lt Nat _ q I))
    (hm : m' "row" = some (.ref ra) ∧ m' "bits" = some (.ref lb) ∧ m' "options" = some opts) (x0 : 0 ≤ x) (y0 : 0 ≤ y) (y1 : y < 2147483647) :
    UnrPost h₀ L s₁ I oI (J3 ra lb ls q oR ob oc opts) Q .next { s₁ with heap := h', toks := tk } := by
  refine UnrEnd.intro F N [(ra, oR), (lb, ob), (ls, listOf [.int x tx, .int y ty].toArray n), (q, oc)] (fun p hp => ?_) (fun p hp => ?_) ⟨hm, x, y, tx, ty, n, x0, y0, y1, rfl⟩
  · rcases List.mem_cons.mp hp with rfl | hp
    · exact hI
    · exact hs p hp
  · simp only [List.mem_cons, List.not_mem_nil, or_false] at hp
    rcases hp with rfl | rfl | rfl | rfl
    · exact Nat.ne_of_lt off.1
    · exact Nat.ne_of_lt off.2.1
    · exact Nat.ne_of_lt off.2.2.1
    · exact Nat.ne_of_lt off.2.2.2
theorem drop_2nd {h₀ h : Heap} {L : Addr} {a b : Addr × Obj} {r : List (Addr × Obj)} (N : News h₀ L h (a :: b :: r)) : News h₀ L h (a :: r) := fun p hp => by
  rcases List.mem_cons.mp hp with rfl | hp
  · exact N _ (.head _)
  · exact N _ (.tail _ (.tail _ hp))

/-- what a turn of an inner loop leaves to be shown -/
def End4 (s : Shared) (h₀ : Heap) (L I ax Io ra lb ls q : Addr) (oI lo oIo oR ob oc : Obj) (opts kv tv : Value) (P : Flow → Shared → Prop) : Prop :=
  ∀ h' tk' m' all x y tx ty n, Fr h₀ L h' m' → News h₀ L h' all → (I, oI) ∈ all → (∀ p ∈ [(ax, lo), (Io, oIo), (ra, oR), (lb, ob), (ls, listOf [.int x tx, .int y ty].toArray n), (q, oc)], p ∈ all) →
    (m' "row" = some (.ref ra) ∧ m' "bits" = some (.ref lb) ∧ m' "options" = some opts ∧ m' "at" = some kv ∧ m' "top" = some tv) → 0 ≤ x → 0 ≤ y → y < 2147483647 → P .next { s with heap := h', toks := tk' }
/-- what a turn of the outer loop leaves to be shown -/
def End3 (s : Shared) (h₀ : Heap) (L I ra lb ls q : Addr) (oI oR ob oc : Obj) (opts : Value) (P : Flow → Shared → Prop) : Prop :=
  ∀ h' tk' m' all x y tx ty n, Fr h₀ L h' m' → News h₀ L h' all → (I, oI) ∈ all → (∀ p ∈ [(ra, oR), (lb, ob), (ls, listOf [.int x tx, .int y ty].toArray n), (q, oc)], p ∈ all) →
    (m' "row" = some (.ref ra) ∧ m' "bits" = some (.ref lb) ∧ m' "options" = some opts) → 0 ≤ x → 0 ≤ y → y < 2147483647 → P .next { s with heap := h', toks := tk' }
section
variable {prog : Program} {w : World} {A : Around} {E : Value → Shared → Prop} {s : Shared} {env : Env} {h₀ : Heap}
theorem items_J4 {target : Expr} {body : List Stmt} {Q : Flow → Shared → Prop} {I ax Io ra lb ls q : Addr} {lo oIo oR ob oc : Obj} {opts kv tv : Value} (ok : Value → Prop)
    (off : (@LT.lt Nat _ ax I) ∧ (@LT.lt Nat _ Io I) ∧ (@LT.lt Nat _ ra I) ∧ (@LT.lt Nat _ lb I) ∧ (@LT.lt Nat _ ls I) ∧ (@LT.lt Nat _ q I))
    (step : ∀ v (m : Str → Option Value) h tk oI x y tx ty n (P : Flow → Shared → Prop), ok v → 0 ≤ x → 0 ≤ y → y < 2147483647 → m "row" = some (.ref ra) → m "bits" = some (.ref lb) → m "options" = some opts → m "at" = some kv → m "top" = some tv → Fr h₀ env.locals h m →
      News h₀ env.locals h [(I, oI), (ax, lo), (Io, oIo), (ra, oR), (lb, ob), (ls, listOf [.int x tx, .int y ty].toArray n), (q, oc)] → End4 s h₀ env.locals I ax Io ra lb ls q oI lo oIo oR ob oc opts kv tv P →
      wpAny (model prog w) A (assign target env v) (fun _ s₂ => wpAny (model prog w) A (execs body env) P E s₂) E { s with heap := h, toks := tk })
    (last : ∀ (m : Str → Option Value) h tk x y tx ty n, 0 ≤ x → 0 ≤ y → y < 2147483647 → m "row" = some (.ref ra) → m "bits" = some (.ref lb) → m "options" = some opts → m "at" = some kv → m "top" = some tv → Fr h₀ env.locals h m →
      News h₀ env.locals h [(ax, lo), (Io, oIo), (ra, oR), (lb, ob), (ls, listOf [.int x tx, .int y ty].toArray n), (q, oc)] → Q .next { s with heap := h, toks := tk })
    (vs : List Value) (hv : ∀ v ∈ vs, ok v) {m : Str → Option Value} {x y : Int} {tx ty : Tok} {n : Nat} (hm : m "row" = some (.ref ra) ∧ m "bits" = some (.ref lb) ∧ m "options" = some opts ∧ m "at" = some kv ∧ m "top" = some tv) (x0 : 0 ≤ x) (y0 : 0 ≤ y) (y1 : y < 2147483647) :
    ItemsRest prog w A E h₀ env target body Q s [(I, "list_iterator")] [(ax, lo)] (vs.map .val) m [(ax, lo), (Io, oIo), (ra, oR), (lb, ob), (ls, listOf [.int x tx, .int y ty].toArray n), (q, oc)] := by
  refine items_J (J4 ax lo Io oIo ra lb ls q oR ob oc opts kv tv) ok (fun v m news hv j h tk oI hc F N => ?_) (fun m news j h tk F N => ?_) vs hv m _ ⟨hm, x, y, tx, ty, n, x0, y0, y1, rfl⟩
  · obtain ⟨⟨m1, m2, m3, m4, m5⟩, x, y, tx, ty, n, x0, y0, y1, rfl⟩ := j
    exact step v m h tk oI x y tx ty n _ hv x0 y0 y1 m1 m2 m3 m4 m5 F N fun h' tk' m' all x y tx ty n F' N' hI hs hm x0 y0 y1 => turnW_end F' N' hI hs off hm x0 y0 y1
  · obtain ⟨⟨m1, m2, m3, m4, m5⟩, x, y, tx, ty, n, x0, y0, y1, rfl⟩ := j
    exact last m h tk x y tx ty n x0 y0 y1 m1 m2 m3 m4 m5 F N
theorem range_J3 {z : Str} {body : List Stmt} {Q : Flow → Shared → Prop} {I ra lb ls q : Addr} {oR ob oc : Obj} {opts : Value} {N : Nat}
    (off : (@LT.lt Nat _ ra I) ∧ (@LT.lt Nat _ lb I) ∧ (@LT.lt Nat _ ls I) ∧ (@LT.lt Nat _ q I))
    (step : ∀ (i : Nat) (m : Str → Option Value) t h tk x y tx ty n (P : Flow → Shared → Prop), i < N → 0 ≤ x → 0 ≤ y → y < 2147483647 → m "row" = some (.ref ra) → m "bits" = some (.ref lb) → m "options" = some opts → Fr h₀ env.locals h (fun y => if y = z then some (.int (0 + (i : Int)) t) else m y) →
      News h₀ env.locals h [(I, itR (0 + ((i + 1 : Nat) : Int)) ((N : Int) - ((i + 1 : Nat) : Int))), (ra, oR), (lb, ob), (ls, listOf [.int x tx, .int y ty].toArray n), (q, oc)] →
      End3 s h₀ env.locals I ra lb ls q (itR (0 + ((i + 1 : Nat) : Int)) ((N : Int) - ((i + 1 : Nat) : Int))) oR ob oc opts P → wpAny (model prog w) A (execs body env) P E { s with heap := h, toks := tk })
    (last : ∀ (m : Str → Option Value) h tk news, Fr h₀ env.locals h m → News h₀ env.locals h news → Q .next { s with heap := h, toks := tk })
    {m : Str → Option Value} {x y : Int} {tx ty : Tok} {n : Nat} (hm : m "row" = some (.ref ra) ∧ m "bits" = some (.ref lb) ∧ m "options" = some opts) (x0 : 0 ≤ x) (y0 : 0 ≤ y) (y1 : y < 2147483647) :
    RangeRest prog w A E h₀ env z body Q s I 0 N N 0 m [(ra, oR), (lb, ob), (ls, listOf [.int x tx, .int y ty].toArray n), (q, oc)] := by
  refine rangeRest_J (J3 ra lb ls q oR ob oc opts) (fun i m news hi j t h tk F N => ?_) (fun m news _ h tk F N => last m h tk news F N) N 0 m _ (by omega) ⟨hm, x, y, tx, ty, n, x0, y0, y1, rfl⟩
  obtain ⟨⟨m1, m2, m3⟩, x, y, tx, ty, n, x0, y0, y1, rfl⟩ := j
  exact step i m t h tk x y tx ty n _ hi x0 y0 y1 m1 m2 m3 F N fun h' tk' m' all x y tx ty n F' N' hI hs hm x0 y0 y1 => turn_end F' N' hI hs off hm x0 y0 y1
end
end Mine
namespace Mine
theorem fits_no : ¬ Fits 1 2 3 4 64 5 6 := by unfold Fits; omega
theorem setup1 {h₀ h : Heap} {L q lb ls q2 c : Addr} {oq ob oq2 oc : Obj} {x y : Int} {tx ty : Tok} {n : Nat}
    (N : News h₀ L h [(q, oq), (lb, ob), (ls, listOf [.int x tx, .int y ty].toArray n), (q2, oq2), (c, oc)])
    (hx : 0 ≤ x) (hy : 0 ≤ y) (hy2 : y < 2147483647) (ap : (@LT.lt Nat _ ls lb) ∧ (@LT.lt Nat _ c ls)) :
    News h₀ L h [(lb, ob), (ls, listOf [.int x tx, .int y ty].toArray n), (c, oc)] ∧ 0 ≤ x ∧ 0 ≤ y ∧ y < 2147483647 ∧ ((@LT.lt Nat _ ls lb) ∧ (@LT.lt Nat _ c ls)) :=
  ⟨cb_drop N (by kcj_all), hx, hy, hy2, ap⟩
theorem fits_flags {r0 r1 r2 r3 r4 r5 r6 : Int} (f : Fits r0 r1 r2 r3 r4 r5 r6) : 0 ≤ r4 ∧ r4 < 256 := by unfold Fits at f; omega
theorem ne_same {prog : Program} {w : World} {A : Around} {E : Value → Shared → Prop} {s : Shared} {Q : Value → Shared → Prop} {b : Array UInt8} {t u : Tok} (h : Q (.bool false) s) : wpAny (model prog w) A (compareOp .NotEq (.bytes b t) (.bytes b u)) Q E s :=
  ne_bytes (by rw [bne_self_eq_false]; exact h)
theorem put0 {v0 v1 v2 v3 v4 v5 v6 k : Int} (h : Fits v0 v1 v2 v3 v4 v5 v6) (a : 0 ≤ k) (b : k < 65536) : Fits k v1 v2 v3 v4 v5 v6 := by
  unfold Fits at h ⊢; omega
theorem bad0 {v1 v2 v3 v4 v5 v6 k : Int} (b : k < 0 ∨ 65536 ≤ k) : ¬ Fits k v1 v2 v3 v4 v5 v6 := by
  unfold Fits; omega
theorem put1 {v0 v1 v2 v3 v4 v5 v6 k : Int} (h : Fits v0 v1 v2 v3 v4 v5 v6) (a : 0 ≤ k) (b : k < 65536) : Fits v0 k v2 v3 v4 v5 v6 := by
  unfold Fits at h ⊢; omega
theorem bad1 {v0 v2 v3 v4 v5 v6 k : Int} (b : k < 0 ∨ 65536 ≤ k) : ¬ Fits v0 k v2 v3 v4 v5 v6 := by
  unfold Fits; omega
theorem put2 {v0 v1 v2 v3 v4 v5 v6 k : Int} (h : Fits v0 v1 v2 v3 v4 v5 v6) (a : 0 ≤ k) (b : k < 4294967296) : Fits v0 v1 k v3 v4 v5 v6 := by
  unfold Fits at h ⊢; omega
theorem bad2 {v0 v1 v3 v4 v5 v6 k : Int} (b : k < 0 ∨ 4294967296 ≤ k) : ¬ Fits v0 v1 k v3 v4 v5 v6 := by
  unfold Fits; omega
theorem put3 {v0 v1 v2 v3 v4 v5 v6 k : Int} (h : Fits v0 v1 v2 v3 v4 v5 v6) (a : 0 ≤ k) (b : k < 4294967296) : Fits v0 v1 v2 k v4 v5 v6 := by
  unfold Fits at h ⊢; omega
theorem bad3 {v0 v1 v2 v4 v5 v6 k : Int} (b : k < 0 ∨ 4294967296 ≤ k) : ¬ Fits v0 v1 v2 k v4 v5 v6 := by
  unfold Fits; omega
theorem put4 {v0 v1 v2 v3 v4 v5 v6 k : Int} (h : Fits v0 v1 v2 v3 v4 v5 v6) (a : 0 ≤ k) (b : k < 64) : Fits v0 v1 v2 v3 k v5 v6 := by
  unfold Fits at h ⊢; omega
theorem bad4 {v0 v1 v2 v3 v5 v6 k : Int} (b : k < 0 ∨ 64 ≤ k) : ¬ Fits v0 v1 v2 v3 k v5 v6 := by
  unfold Fits; omega
theorem put5 {v0 v1 v2 v3 v4 v5 v6 k : Int} (h : Fits v0 v1 v2 v3 v4 v5 v6) (a : 0 ≤ k) (b : k < 65536) : Fits v0 v1 v2 v3 v4 k v6 := by
  unfold Fits at h ⊢; omega
theorem bad5 {v0 v1 v2 v3 v4 v6 k : Int} (b : k < 0 ∨ 65536 ≤ k) : ¬ Fits v0 v1 v2 v3 v4 k v6 := by
  unfold Fits; omega
theorem put6 {v0 v1 v2 v3 v4 v5 v6 k : Int} (h : Fits v0 v1 v2 v3 v4 v5 v6) (a : 0 ≤ k) (b : k < 65536) : Fits v0 v1 v2 v3 v4 v5 k := by
  unfold Fits at h ⊢; omega
theorem bad6 {v0 v1 v2 v3 v4 v5 k : Int} (b : k < 0 ∨ 65536 ≤ k) : ¬ Fits v0 v1 v2 v3 v4 v5 k := by
  unfold Fits; omega
theorem below_two {r : Int} (h : 0 ≤ r) : -2 - r < 0 := by omega
def AllUpd (l Io ra lb ls q : Addr) (lo oIo oR ob oc : Obj) : Prop := ∀ x tx y ty n, UpdF ls (listOf [.int x tx, .int y ty].toArray n) [(l, lo), (Io, oIo), (ra, oR), (lb, ob), (ls, listOf [.int x tx, .int y ty].toArray n), (q, oc)]
  (fun o => [(l, lo), (Io, oIo), (ra, oR), (lb, ob), (ls, o), (q, oc)])
theorem AllUpd.of {h₀ h : Heap} {L l Io ra lb ls q : Addr} {lo oIo oR o1 ob oc : Obj} (_N : News h₀ L h [(l, lo), (Io, oIo), (ra, oR), (lb, ob), (ls, o1), (q, oc)])
    (a : @LT.lt Nat _ ls l) (b : @LT.lt Nat _ ls Io) (c : @Ne Nat ra ls) (d : @LT.lt Nat _ ls lb) (e : @LT.lt Nat _ q ls) : AllUpd l Io ra lb ls q lo oIo oR ob oc := fun _ _ _ _ _ =>
  .tail (Ne.symm (Nat.ne_of_lt a)) (.tail (Ne.symm (Nat.ne_of_lt b)) (.tail c (.tail (Ne.symm (Nat.ne_of_lt d)) (.head fun p hp => by rw [List.mem_singleton.mp hp]; exact Nat.ne_of_lt e))))
theorem AllUpd.at {l Io ra lb ls q : Addr} {lo oIo oR ob oc : Obj} {x y : Int} {tx ty : Tok} {n : Nat} (h : AllUpd l Io ra lb ls q lo oIo oR ob oc) : UpdF ls (listOf [.int x tx, .int y ty].toArray n) [(l, lo), (Io, oIo), (ra, oR), (lb, ob), (ls, listOf [.int x tx, .int y ty].toArray n), (q, oc)]
    (fun o => [(l, lo), (Io, oIo), (ra, oR), (lb, ob), (ls, o), (q, oc)]) := h x tx y ty n
theorem fr_two {h₀ h : Heap} {L : Addr} {T T' K K' : Int} {t t' : Tok} {m : Str → Option Value} (F : Fr h₀ L h (fun y => if y = "top" then some (.int T t) else if y = "at" then some (.int K t') else m y)) (e : T = T') (e' : K = K') :
    Fr h₀ L h (fun y => if y = "top" then some (.int T' t) else if y = "at" then some (.int K' t') else m y) := by
  subst e e'; exact F
def Ok1 (T : Int) (v : Value) : Prop := ∃ k t, v = .int k t ∧ 0 ≤ k ∧ k < T
def Ok2 (T : Int) (v : Value) : Prop := ∃ k t, v = .int k t ∧ (k < 0 ∨ T ≤ k)
theorem all_two {P : Value → Prop} {a b : Value} (ha : P a) (hb : P b) : ∀ v ∈ [a, b], P v := List.forall_mem_cons.mpr ⟨ha, List.forall_mem_cons.mpr ⟨hb, List.forall_mem_nil _⟩⟩
theorem all_four {P : Value → Prop} {a b c d : Value} (ha : P a) (hb : P b) (hc : P c) (hd : P d) : ∀ v ∈ [a, b, c, d], P v := List.forall_mem_cons.mpr ⟨ha, List.forall_mem_cons.mpr ⟨hb, all_two hc hd⟩⟩
theorem seven {i : Nat} (h : i < 7) : i = 0 ∨ i = 1 ∨ i = 2 ∨ i = 3 ∨ i = 4 ∨ i = 5 ∨ i = 6 := by omega
local macro_rules | `(tactic| walk_at "call ref") => `(tactic| (k_here; (with_reducible show wpAny _ _ (call (Value.ref 138) [_, Value.int _ _]) _ _ _); k_dflt (refine' take_led 65536 ?k1 ?k2 ?k3 ?k4 ?kU ?k5 ?k6 ?k7 ?k8 ?kx ?ky ?kz ?kc ?kp ?kq ?_; (case kc => first | rfl | decide); (case k1 => k_asm); (case k2 => k_asm); (case k3 => k_asm); (case k4 => k_asm); (case kU => first | assumption | k_updF); (case k5 => k_asm); (case k6 => first | exact rfl | assumption); (case k7 => ktr_room); (case k8 => ktr_units); (case kx => assumption); (case ky => assumption); (case kz => assumption); (case kp => decide); (case kq => decide); k_whole; (intro r' x' y' t' tx' ty' n' h' tk' i0 i1 i2 i3 i4 F' N'; (try dsimp only at N'); (try dsimp only); (try k_sweep); (try k_fold)))))
local macro_rules | `(tactic| walk_at "call ref") => `(tactic| (k_here; (with_reducible show wpAny _ _ (call (Value.ref 138) [_, Value.int _ _]) _ _ _); k_dflt (refine' take_led 4294967296 ?k1 ?k2 ?k3 ?k4 ?kU ?k5 ?k6 ?k7 ?k8 ?kx ?ky ?kz ?kc ?kp ?kq ?_; (case kc => first | rfl | decide); (case k1 => k_asm); (case k2 => k_asm); (case k3 => k_asm); (case k4 => k_asm); (case kU => first | assumption | k_updF); (case k5 => k_asm); (case k6 => first | exact rfl | assumption); (case k7 => ktr_room); (case k8 => ktr_units); (case kx => assumption); (case ky => assumption); (case kz => assumption); (case kp => decide); (case kq => decide); k_whole; (intro r' x' y' t' tx' ty' n' h' tk' i0 i1 i2 i3 i4 F' N'; (try dsimp only at N'); (try dsimp only); (try k_sweep); (try k_fold)))))
local macro_rules | `(tactic| walk_at "call ref") => `(tactic| (k_here; (with_reducible show wpAny _ _ (call (Value.ref 138) [_, Value.int _ _]) _ _ _); k_dflt (refine' take_led 64 ?k1 ?k2 ?k3 ?k4 ?kU ?k5 ?k6 ?k7 ?k8 ?kx ?ky ?kz ?kc ?kp ?kq ?_; (case kc => first | rfl | decide); (case k1 => k_asm); (case k2 => k_asm); (case k3 => k_asm); (case k4 => k_asm); (case kU => first | assumption | k_updF); (case k5 => k_asm); (case k6 => first | exact rfl | assumption); (case k7 => ktr_room); (case k8 => ktr_units); (case kx => assumption); (case ky => assumption); (case kz => assumption); (case kp => decide); (case kq => decide); k_whole; (intro r' x' y' t' tx' ty' n' h' tk' i0 i1 i2 i3 i4 F' N'; (try dsimp only at N'); (try dsimp only); (try k_sweep); (try k_fold)))))
local macro_rules | `(tactic| walk_at "call ref") => `(tactic| (k_here; (with_reducible show wpAny _ _ (call (Value.ref 138) [_, Value.int 11 _]) _ _ _); k_dflt (refine' take_led 11 ?k1 ?k2 ?k3 ?k4 ?kU ?k5 ?k6 ?k7 ?k8 ?kx ?ky ?kz ?kc ?kp ?kq ?_; (case kc => first | rfl | decide); (case k1 => k_asm); (case k2 => k_asm); (case k3 => k_asm); (case k4 => k_asm); (case kU => first | assumption | k_updF); (case k5 => k_asm); (case k6 => first | exact rfl | assumption); (case k7 => ktr_room); (case k8 => ktr_units); (case kx => assumption); (case ky => assumption); (case kz => assumption); (case kp => decide); (case kq => decide); k_whole; (intro r' x' y' t' tx' ty' n' h' tk' i0 i1 i2 i3 i4 F' N'; (try dsimp only at N'); (try dsimp only); (try k_sweep); (try k_fold)))))
local macro_rules | `(tactic| walk_at "call ref") => `(tactic| (k_here; (with_reducible show wpAny _ _ (call (Value.ref 138) [_, Value.int 256 _]) _ _ _); k_dflt (refine' take_led 256 ?k1 ?k2 ?k3 ?k4 ?kU ?k5 ?k6 ?k7 ?k8 ?kx ?ky ?kz ?kc ?kp ?kq ?_; (case kc => first | rfl | decide); (case k1 => k_asm); (case k2 => k_asm); (case k3 => k_asm); (case k4 => k_asm); (case kU => first | assumption | k_updF); (case k5 => k_asm); (case k6 => first | exact rfl | assumption); (case k7 => ktr_room); (case k8 => ktr_units); (case kx => assumption); (case ky => assumption); (case kz => assumption); (case kp => decide); (case kq => decide); k_whole; (intro r' x' y' t' tx' ty' n' h' tk' i0 i1 i2 i3 i4 F' N'; (try dsimp only at N'); (try dsimp only); (try k_sweep); (try k_fold)))))
local macro_rules | `(tactic| walk_at "call ref") => `(tactic| (k_here; (with_reducible show wpAny _ _ (call (Value.ref 138) [_, Value.int 5000 _]) _ _ _); k_dflt (refine' take_led 5000 ?k1 ?k2 ?k3 ?k4 ?kU ?k5 ?k6 ?k7 ?k8 ?kx ?ky ?kz ?kc ?kp ?kq ?_; (case kc => first | rfl | decide); (case k1 => k_asm); (case k2 => k_asm); (case k3 => k_asm); (case k4 => k_asm); (case kU => first | exact AllUpd.at (by assumption) | k_updF); (case k5 => k_asm); (case k6 => first | exact rfl | assumption); (case k7 => ktr_room); (case k8 => ktr_units); (case kx => assumption); (case ky => assumption); (case kz => assumption); (case kp => decide); (case kq => decide); k_whole; (intro r' x' y' t' tx' ty' n' h' tk' i0 i1 i2 i3 i4 F' N'; (try dsimp only at N'); (try dsimp only); (try k_sweep); (try k_fold)))))
local macro_rules | `(tactic| walk_at "call ref") => `(tactic| (k_here; (with_reducible show wpAny _ _ (call (Value.ref 131) _) _ _ _); k_dflt (refine' pool_ok ?k1 ?k2 ?k3 ?k4 ?k5 ?kl ?kI ?kz ?k6 ?k7 ?k8 ?_; (case k1 => k_asm); (case k2 => k_asm); (case k3 => k_asm); (case k4 => k_asm); (case k5 => k_asm); (case kl => assumption); (case kI => assumption); (case kz => omega); (case k6 => first | exact rfl | assumption); (case k7 => ktr_room); (case k8 => ktr_units); (intro x' y' r' tx' ty' h' tk' i0 i1 i2 F' N' l1; (try k_lt l1); (try dsimp only); (try k_sweep); (try k_fold)))))
local macro_rules | `(tactic| walk_at "call ref") => `(tactic| (k_here; (with_reducible show wpAny _ _ (call (Value.ref 150) _) _ _ _); k_dflt (refine' head_ok (ob := []) ?k1 ?k2 ?k3 ?k4 ?k5 ?kXB ?kTB ?kr ?k6 ?k7 ?k8 ?k9 ?_ ?_; (case k1 => k_asm); (case k2 => k_asm); (case k3 => k_asm); (case k4 => k_asm); (case k5 => k_asm); (case kXB => k_asm); (case kTB => k_asm); (case kr => k_mem); (case k6 => first | exact rfl | assumption); (case k7 => ktr_room); (case k8 => ktr_units); (case k9 => decide); (intro t' h' tk' i0 F' N'; exact absurd i0 fits_no); (intro h' tk' i0 F' N'; (try dsimp only); (try k_sweep); (try k_fold)))))
local macro_rules | `(tactic| walk_at "call ref") => `(tactic| (k_here; (with_reducible show wpAny _ _ (call (Value.ref 150) [_, Value.bytes (byteArr _) _]) _ _ _); k_dflt (refine' head_ok ?k1 ?k2 ?k3 ?k4 ?k5 ?kXB ?kTB ?kr ?k6 ?k7 ?k8 ?k9 ?_ ?_; (case k1 => k_asm); (case k2 => k_asm); (case k3 => k_asm); (case k4 => k_asm); (case k5 => k_asm); (case kXB => k_asm); (case kTB => k_asm); (case kr => k_mem); (case k6 => first | exact rfl | assumption); (case k7 => ktr_room); (case k8 => ktr_units); (case k9 => first | assumption | decide); (intro t' h' tk' i0 F' N'; (first | exact absurd i0 (by first | exact bad0 (by assumption) | exact bad1 (by assumption) | exact bad2 (by assumption) | exact bad3 (by assumption) | exact bad4 (by assumption) | exact bad5 (by assumption) | exact bad6 (by assumption)) | ((try dsimp only); (try k_sweep); (try k_fold)))); (try rotate_left); (intro h' tk' i0 F' N'; (first | exact absurd (by assumption) i0 | exact absurd (by first | exact put0 (by assumption) (by assumption) (by assumption) | exact put1 (by assumption) (by assumption) (by assumption) | exact put2 (by assumption) (by assumption) (by assumption) | exact put3 (by assumption) (by assumption) (by assumption) | exact put4 (by assumption) (by assumption) (by assumption) | exact put5 (by assumption) (by assumption) (by assumption) | exact put6 (by assumption) (by assumption) (by assumption)) i0 | ((try dsimp only); (try k_sweep); (try k_fold)))); (try rotate_right))))
local macro_rules | `(tactic| walk_at "call ref") => `(tactic| (k_here; (with_reducible show wpAny _ _ (call (Value.ref 157) [_, Value.bytes (byteArr _) _]) _ _ _); k_dflt (refine' due_ok ?k1 ?k2 ?k3 ?k4 ?k5 ?kr ?k6 ?k7 ?kf ?k9 ?_; (case k1 => k_asm); (case k2 => k_asm); (case k3 => k_asm); (case k4 => k_asm); (case k5 => k_asm); (case kr => k_mem); (case k6 => first | exact rfl | assumption); (case k7 => ktr_room); (case kf => exact fits_flags (by assumption)); (case k9 => first | assumption | decide); (intro t' h' tk' F' N'; (try dsimp only); (try k_sweep); (try k_fold)))))
local macro_rules | `(tactic| walk_at "call type:bytes") => `(tactic| (k_here; (with_reducible show wpAny _ _ (call (Value.type "bytes") [Value.ref _]) _ _ _); (with_reducible rename News _ _ _ _ => nn); k_dflt (refine' bytes_B ?F nn (nn.isList (.head _)) ?i ?r ?z ?h ?_; (case F => k_asm); (case i => assumption); (case r => assumption); (case z => assumption); (case h => rfl); k_whole); intro h' t k F' N'; (try dsimp only); (try k_sweep)))
local macro_rules | `(tactic| walk_at "compareOp NotEq bytes bytes") => `(tactic| (k_here; (with_reducible refine ne_same ?_)))
local macro_rules | `(tactic| walk_at "exec Assign cons ListComp") => `(tactic| (k_here; refine Halt.out ?_))
local macro_rules | `(tactic| walk_at "CompSrc") => `(tactic| (k_here; refine Halt.out ?_))
local macro_rules | `(tactic| walk_at "eval ListComp") => `(tactic| (k_here; refine Halt.out ?_))
local macro_rules | `(tactic| walk_at "exec For Name Call cons nil") => `(tactic| (k_here; refine Halt.out ?_))
local macro_rules | `(tactic| walk_at "exec For Name List cons nil") => `(tactic| (k_here; refine Halt.out ?_))
local macro_rules | `(tactic| walk_at "pyIter ref") => `(tactic| (k_here; refine Halt.out ?_))
local macro_rules | `(tactic| walk_at "eval Name") => `(tactic| (k_here; k_dflt (refine' nameX_L ?k1 ?k2 ?_ ?a ?b; (case a => rfl); (case b => rfl); (case k1 => k_asm); (case k2 => first | exact rfl | assumption); k_whole)))
set_option maxHeartbeats 60000000 in
theorem law_holds : PySem.Challenge.rw_xw0326_01.Holds := hd (by
  k_go0
  all_goals try k_fold
  k_steps
  rename Fr _ _ _ _ => F1
  rename News _ _ _ _ => N1
  obtain ⟨N2, hx0, hy0, hy1, hA⟩ := setup1 N1 (by assumption) (by assumption) (by assumption) (by constructor <;> ((try dsimp only); omega))
  clear N1
  rename Below _ _ _ _ => B1
  rename Frag.In _ _ => X1
  rename Top _ _ _ _ _ _ => T1
  rename Obj.data _ = Data.cell _ => d1
  rename Shared.gens _ = #[] => hg
  repeat (rename_i z; first | clear z | revert z)
  try revert tk
  intros
  rename Fr _ _ _ _ => F1
  rename News _ _ _ _ => N2
  rename (@LT.lt Nat _ _ _ ∧ @LT.lt Nat _ _ _) => hA
  rename (_ < 2147483647) => hy1
  unfold Halt
  k_dflt (refine LCg.Assign_ListComp_U (F₀ := F1) (by rfl) (by with_unfolding_all rfl) (by rfl) (by decide) (by rfl) (by decide) (by rfl) (by rfl) (by rfl) ?_)
  k_steps
  unfold Halt
  rename Fr _ _ _ _ => F2
  refine LCg.CompSrc.ledger (by rfl) F2 N2 (.head _) (by first | size_fits | exact Nat.le_of_ble_eq_true rfl) fun g => ?_
  refine rest_row (N := 7) bound hA (fun _ => .inr ⟨_, .head _, rfl, _, rfl⟩) ?_ ?_ 7 0 [] [] _ _ _ _ _ .nil (fun _ _ h => nomatch h) rfl rfl (by assumption) (by assumption) hy1
  · intro i v I oI C oC D ys m₂ h tk E' a b ta tb n Q' hP a0 b0 b1 hC F N U hx hQ
    rcases bits_at hP with ⟨t, rfl, hb⟩ | ⟨t, rfl, hb⟩ | ⟨t, rfl, hb⟩
    all_goals clear hP
    all_goals (
      rw [hb] at hQ
      clear hb
      k_steps)
    · refine' hQ _ _ _ _ _ _ _ _ _ ?r0 ?r1 ?x0 ?y0 ?y1 ?F ?N
      case N => assumption
      case F => k_asm
      case r0 => assumption
      case r1 => assumption
      case x0 => assumption
      case y0 => assumption
      case y1 => assumption
    · refine' hQ _ _ _ _ _ _ _ _ _ ?r0 ?r1 ?x0 ?y0 ?y1 ?F ?N
      case N => assumption
      case F => k_asm
      case r0 => assumption
      case r1 => assumption
      case x0 => assumption
      case y0 => assumption
      case y1 => assumption
    · refine' hQ _ _ _ _ _ _ _ _ _ ?r0 ?r1 ?x0 ?y0 ?y1 ?F ?N
      case N => assumption
      case F => k_asm
      case r0 => assumption
      case r1 => assumption
      case x0 => assumption
      case y0 => assumption
      case y1 => assumption
  · intro ys vs a b ta tb n hi hb hl a0 b0 b1
    obtain ⟨r0, r1, r2, r3, r4, r5, r6, t0, t1, t2, t3, t4, t5, t6, rfl, hF⟩ := seven_ints hi hl hb
    clear hi hl hb
    unfold LCg.FinA
    intro D h tk F3 N3 o1
    simp only [LCg.Off1, and_true] at o1
    have hA5 : (@Ne Nat D _) ∧ (@Ne Nat D _) ∧ (@Ne Nat D _) ∧ (@LT.lt Nat _ _ _) ∧ (@LT.lt Nat _ _ _) := ⟨Ne.symm o1.1, Ne.symm o1.2.1, Ne.symm o1.2.2, hA.1, hA.2⟩
    clear o1 hA
    try clear F1
    try clear N2
    try clear F2
    k_steps
    rename Fr _ _ _ _ => F1
    unfold Halt
    k_dflt (refine LCg.ListComp_U (F₀ := F1) (by rfl) (by decide) (by rfl) (by decide) (by rfl) ?_)
    k_steps
    rename IsRange _ _ _ _ _ _ _ _ => hr
    rename Fr _ _ _ _ => F2
    rename News _ _ _ _ => N2
    have hq := range_of hr (by assumption) (by assumption)
    unfold Halt
    refine LCg.CompSrc.range (by rfl) F2 N2 hr hq.1 hq.2.1 (Nat.le_trans hq.2.2 (by decide)) fun g => ?_
    refine rest_take4 256 (by assumption) (by assumption) (by assumption) (by assumption) ?_ ?_
    · intro v I oI C oC D ys m₂ h tk E' a b ta tb n Q' a0 b0 b1 hC F N U hx hQ
      k_steps
      refine' hQ _ _ _ _ _ _ _ _ _ ?r0 ?r1 ?x0 ?y0 ?y1 ?F ?N
      case N => assumption
      case F => k_asm
      all_goals assumption
    · intro ys vs a b ta tb n hi hv hl a0 b0 b1
      have hlen := ints_len hi hl hq.2.2
      have hl1 := hlen.1
      have hl2 := hlen.2
      unfold LCg.FinE
      intro D h tk F3 N3 o1
      clear o1
      k_steps
      unfold Halt
      rename Fr _ _ _ _ => F4
      rename News _ _ _ _ => N4
      refine For_invVF F4 (by rfl) (by rfl) ?_
      k_steps
      unfold Halt
      rename IsRange _ _ _ _ _ _ _ _ => hr7
      rename Fr _ _ _ _ => F5
      rename News _ _ _ _ => N5
      refine iter_rangeUnr (n := 7) (by rfl) hr7 (by decide) (by rfl) F5 (cb_drop N5 fun _ h => .tail _ h) ?_
      intro I hI
      k_lt hI
      refine range_J3 hI ?_ ?_ ⟨rfl, rfl, rfl⟩ a0 b0 b1
      · intro i m t h tk x y tx ty n P hi7 x0 y0 y1 hm1 hm2 hm3 F6 N6 hP
        rename Below _ _ _ _ => B1
        rename Frag.In _ _ => X1
        rename Top _ _ _ _ _ _ => T1
        rename Obj.data _ = Data.cell _ => d1
        rename Shared.gens _ = #[] => hg
        rename (@Ne Nat _ _ ∧ _) => hA
        try clear N5
        try clear F5
        try clear N4
        try clear F4
        try clear hr7
        try clear F3
        try clear N3
        try clear hr
        try clear F2
        try clear N2
        try clear hlen
        try clear hl1
        try clear hi
        try clear hv
        try clear hl
        try clear hq
        repeat (rename_i z; first | clear z | revert z)
        intros
        rename End3 _ _ _ _ _ _ _ _ _ _ _ _ _ _ => hP
        rename _ < 7 => hi7
        rcases seven hi7 with h | h | h | h | h | h | h
        all_goals subst h
        all_goals clear hi7
        · k_steps
          rename Fr _ _ _ _ => F1
          have F2 := fr_two (T' := 65536) (K' := 0) F1 (by rfl) (by rfl)
          clear F1
          unfold Halt
          refine For_turns F2 ?_
          k_steps
          rename Fr _ _ _ _ => F3
          rename News _ _ _ _ => N3
          unfold Halt
          refine' iter_listTurns ?hh F3 N3 ?hm ?hc ?hd ?_
          case hm => exact .head _
          case hh => rfl
          case hc => rfl
          case hd => rfl
          intro I' hI'
          k_lt hI'
          refine items_J4 (Ok1 65536) hI' ?_ ?_ _ (all_two ⟨_, _, rfl, by decide, by decide⟩ ⟨_, _, rfl, by decide, by decide⟩) ⟨by assumption, by assumption, by assumption, rfl, rfl⟩ (by assumption) (by assumption) (by assumption)
          · intro v m' h' tk' oI x y tx ty n P' hv x0 y0 y1 hm1 hm2 hm3 hm4 hm5 F5 N5 hP'
            obtain ⟨kk, tt, rfl, k0, k1⟩ := hv
            clear F3 N3
            k_steps
            rename Fr _ _ _ _ => F6
            rename News _ _ _ _ => N6
            refine' hP' _ _ _ _ x y tx ty n F6 N6 ?hi ?hs ⟨hm1, hm2, hm3, hm4, hm5⟩ x0 y0 y1
            case hi => k_mem
            case hs => lcg_sub
          · intro m' h' tk' x y tx ty n x0 y0 y1 hm1 hm2 hm3 hm4 hm5 F5 N5
            clear F3 N3 hI'
            k_steps
            unfold Halt
            rename (@LT.lt Nat _ _ _ ∧ @LT.lt Nat _ _ _ ∧ @LT.lt Nat _ _ _ ∧ @LT.lt Nat _ _ _ ∧ @LT.lt Nat _ _ _) => l5
            rename (@LT.lt Nat _ _ _ ∧ @LT.lt Nat _ _ _ ∧ @LT.lt Nat _ _ _ ∧ @LT.lt Nat _ _ _) => l4
            rename (@Ne Nat _ _ ∧ _) => hA
            have hU := AllUpd.of N5 l5.2.2.2.1 l4.2.2.1 hA.2.1 hA.2.2.2.1 hA.2.2.2.2
            refine For_turns F5 ?_
            k_steps
            unfold Halt
            rename Fr _ _ _ _ => F7
            rename News _ _ _ _ => N7
            refine' iter_listTurns ?hh F7 (drop_2nd N7) ?hm ?hc ?hd ?_
            case hm => exact .head _
            case hh => rfl
            case hc => rfl
            case hd => rfl
            intro I' hI'
            k_lt hI'
            refine items_J4 (Ok2 65536) hI' ?_ ?_ _ (all_four ⟨_, _, rfl, .inl (by decide)⟩ ⟨_, _, rfl, .inr (Int.le_refl _)⟩ ⟨_, _, rfl, .inr (Int.le_add_of_nonneg_right (by assumption))⟩ ⟨_, _, rfl, .inl (below_two (by assumption))⟩) ⟨hm1, hm2, hm3, hm4, hm5⟩ (by assumption) (by assumption) (by assumption)
            · intro v m' h' tk' oI x y tx ty n P' hv x0 y0 y1 hm1 hm2 hm3 hm4 hm5 F5 N5 hP'
              obtain ⟨kk, tt, rfl, k0⟩ := hv
              clear F7 N7
              k_steps
              rename Fr _ _ _ _ => F6
              rename News _ _ _ _ => N6
              refine' hP' _ _ _ _ x y tx ty n F6 N6 ?hi ?hs ⟨hm1, hm2, hm3, hm4, hm5⟩ x0 y0 y1
              case hi => k_mem
              case hs => lcg_sub
            · intro m' h' tk' x y tx ty n x0 y0 y1 hm1 hm2 hm3 hm4 hm5 F5 N5
              clear F7 N7 hI'
              k_steps
              rename Fr _ _ _ _ => F6
              rename News _ _ _ _ => N6
              refine' hP _ _ _ _ x y tx ty n F6 N6 ?hi ?hs ⟨hm1, hm2, hm3⟩ x0 y0 y1
              case hi => k_mem
              case hs => lcg_sub
        · k_steps
          rename Fr _ _ _ _ => F1
          have F2 := fr_two (T' := 65536) (K' := 1) F1 (by rfl) (by rfl)
          clear F1
          unfold Halt
          refine For_turns F2 ?_
          k_steps
          rename Fr _ _ _ _ => F3
          rename News _ _ _ _ => N3
          unfold Halt
          refine' iter_listTurns ?hh F3 N3 ?hm ?hc ?hd ?_
          case hm => exact .head _
          case hh => rfl
          case hc => rfl
          case hd => rfl
          intro I' hI'
          k_lt hI'
          refine items_J4 (Ok1 65536) hI' ?_ ?_ _ (all_two ⟨_, _, rfl, by decide, by decide⟩ ⟨_, _, rfl, by decide, by decide⟩) ⟨by assumption, by assumption, by assumption, rfl, rfl⟩ (by assumption) (by assumption) (by assumption)
          · intro v m' h' tk' oI x y tx ty n P' hv x0 y0 y1 hm1 hm2 hm3 hm4 hm5 F5 N5 hP'
            obtain ⟨kk, tt, rfl, k0, k1⟩ := hv
            clear F3 N3
            k_steps
            rename Fr _ _ _ _ => F6
            rename News _ _ _ _ => N6
            refine' hP' _ _ _ _ x y tx ty n F6 N6 ?hi ?hs ⟨hm1, hm2, hm3, hm4, hm5⟩ x0 y0 y1
            case hi => k_mem
            case hs => lcg_sub
          · intro m' h' tk' x y tx ty n x0 y0 y1 hm1 hm2 hm3 hm4 hm5 F5 N5
            clear F3 N3 hI'
            k_steps
            unfold Halt
            rename (@LT.lt Nat _ _ _ ∧ @LT.lt Nat _ _ _ ∧ @LT.lt Nat _ _ _ ∧ @LT.lt Nat _ _ _ ∧ @LT.lt Nat _ _ _) => l5
            rename (@LT.lt Nat _ _ _ ∧ @LT.lt Nat _ _ _ ∧ @LT.lt Nat _ _ _ ∧ @LT.lt Nat _ _ _) => l4
            rename (@Ne Nat _ _ ∧ _) => hA
            have hU := AllUpd.of N5 l5.2.2.2.1 l4.2.2.1 hA.2.1 hA.2.2.2.1 hA.2.2.2.2
            refine For_turns F5 ?_
            k_steps
            unfold Halt
            rename Fr _ _ _ _ => F7
            rename News _ _ _ _ => N7
            refine' iter_listTurns ?hh F7 (drop_2nd N7) ?hm ?hc ?hd ?_
            case hm => exact .head _
            case hh => rfl
            case hc => rfl
            case hd => rfl
            intro I' hI'
            k_lt hI'
            refine items_J4 (Ok2 65536) hI' ?_ ?_ _ (all_four ⟨_, _, rfl, .inl (by decide)⟩ ⟨_, _, rfl, .inr (Int.le_refl _)⟩ ⟨_, _, rfl, .inr (Int.le_add_of_nonneg_right (by assumption))⟩ ⟨_, _, rfl, .inl (below_two (by assumption))⟩) ⟨hm1, hm2, hm3, hm4, hm5⟩ (by assumption) (by assumption) (by assumption)
            · intro v m' h' tk' oI x y tx ty n P' hv x0 y0 y1 hm1 hm2 hm3 hm4 hm5 F5 N5 hP'
              obtain ⟨kk, tt, rfl, k0⟩ := hv
              clear F7 N7
              k_steps
              rename Fr _ _ _ _ => F6
              rename News _ _ _ _ => N6
              refine' hP' _ _ _ _ x y tx ty n F6 N6 ?hi ?hs ⟨hm1, hm2, hm3, hm4, hm5⟩ x0 y0 y1
              case hi => k_mem
              case hs => lcg_sub
            · intro m' h' tk' x y tx ty n x0 y0 y1 hm1 hm2 hm3 hm4 hm5 F5 N5
              clear F7 N7 hI'
              k_steps
              rename Fr _ _ _ _ => F6
              rename News _ _ _ _ => N6
              refine' hP _ _ _ _ x y tx ty n F6 N6 ?hi ?hs ⟨hm1, hm2, hm3⟩ x0 y0 y1
              case hi => k_mem
              case hs => lcg_sub
        · k_steps
          rename Fr _ _ _ _ => F1
          have F2 := fr_two (T' := 4294967296) (K' := 2) F1 (by rfl) (by rfl)
          clear F1
          unfold Halt
          refine For_turns F2 ?_
          k_steps
          rename Fr _ _ _ _ => F3
          rename News _ _ _ _ => N3
          unfold Halt
          refine' iter_listTurns ?hh F3 N3 ?hm ?hc ?hd ?_
          case hm => exact .head _
          case hh => rfl
          case hc => rfl
          case hd => rfl
          intro I' hI'
          k_lt hI'
          refine items_J4 (Ok1 4294967296) hI' ?_ ?_ _ (all_two ⟨_, _, rfl, by decide, by decide⟩ ⟨_, _, rfl, by decide, by decide⟩) ⟨by assumption, by assumption, by assumption, rfl, rfl⟩ (by assumption) (by assumption) (by assumption)
          · intro v m' h' tk' oI x y tx ty n P' hv x0 y0 y1 hm1 hm2 hm3 hm4 hm5 F5 N5 hP'
            obtain ⟨kk, tt, rfl, k0, k1⟩ := hv
            clear F3 N3
            k_steps
            rename Fr _ _ _ _ => F6
            rename News _ _ _ _ => N6
            refine' hP' _ _ _ _ x y tx ty n F6 N6 ?hi ?hs ⟨hm1, hm2, hm3, hm4, hm5⟩ x0 y0 y1
            case hi => k_mem
            case hs => lcg_sub
          · intro m' h' tk' x y tx ty n x0 y0 y1 hm1 hm2 hm3 hm4 hm5 F5 N5
            clear F3 N3 hI'
            k_steps
            unfold Halt
            rename (@LT.lt Nat _ _ _ ∧ @LT.lt Nat _ _ _ ∧ @LT.lt Nat _ _ _ ∧ @LT.lt Nat _ _ _ ∧ @LT.lt Nat _ _ _) => l5
            rename (@LT.lt Nat _ _ _ ∧ @LT.lt Nat _ _ _ ∧ @LT.lt Nat _ _ _ ∧ @LT.lt Nat _ _ _) => l4
            rename (@Ne Nat _ _ ∧ _) => hA
            have hU := AllUpd.of N5 l5.2.2.2.1 l4.2.2.1 hA.2.1 hA.2.2.2.1 hA.2.2.2.2
            refine For_turns F5 ?_
            k_steps
            unfold Halt
            rename Fr _ _ _ _ => F7
            rename News _ _ _ _ => N7
            refine' iter_listTurns ?hh F7 (drop_2nd N7) ?hm ?hc ?hd ?_
            case hm => exact .head _
            case hh => rfl
            case hc => rfl
            case hd => rfl
            intro I' hI'
            k_lt hI'
            refine items_J4 (Ok2 4294967296) hI' ?_ ?_ _ (all_four ⟨_, _, rfl, .inl (by decide)⟩ ⟨_, _, rfl, .inr (Int.le_refl _)⟩ ⟨_, _, rfl, .inr (Int.le_add_of_nonneg_right (by assumption))⟩ ⟨_, _, rfl, .inl (below_two (by assumption))⟩) ⟨hm1, hm2, hm3, hm4, hm5⟩ (by assumption) (by assumption) (by assumption)
            · intro v m' h' tk' oI x y tx ty n P' hv x0 y0 y1 hm1 hm2 hm3 hm4 hm5 F5 N5 hP'
              obtain ⟨kk, tt, rfl, k0⟩ := hv
              clear F7 N7
              k_steps
              rename Fr _ _ _ _ => F6
              rename News _ _ _ _ => N6
              refine' hP' _ _ _ _ x y tx ty n F6 N6 ?hi ?hs ⟨hm1, hm2, hm3, hm4, hm5⟩ x0 y0 y1
              case hi => k_mem
              case hs => lcg_sub
            · intro m' h' tk' x y tx ty n x0 y0 y1 hm1 hm2 hm3 hm4 hm5 F5 N5
              clear F7 N7 hI'
              k_steps
              rename Fr _ _ _ _ => F6
              rename News _ _ _ _ => N6
              refine' hP _ _ _ _ x y tx ty n F6 N6 ?hi ?hs ⟨hm1, hm2, hm3⟩ x0 y0 y1
              case hi => k_mem
              case hs => lcg_sub
        · k_steps
          rename Fr _ _ _ _ => F1
          have F2 := fr_two (T' := 4294967296) (K' := 3) F1 (by rfl) (by rfl)
          clear F1
          unfold Halt
          refine For_turns F2 ?_
          k_steps
          rename Fr _ _ _ _ => F3
          rename News _ _ _ _ => N3
          unfold Halt
          refine' iter_listTurns ?hh F3 N3 ?hm ?hc ?hd ?_
          case hm => exact .head _
          case hh => rfl
          case hc => rfl
          case hd => rfl
          intro I' hI'
          k_lt hI'
          refine items_J4 (Ok1 4294967296) hI' ?_ ?_ _ (all_two ⟨_, _, rfl, by decide, by decide⟩ ⟨_, _, rfl, by decide, by decide⟩) ⟨by assumption, by assumption, by assumption, rfl, rfl⟩ (by assumption) (by assumption) (by assumption)
          · intro v m' h' tk' oI x y tx ty n P' hv x0 y0 y1 hm1 hm2 hm3 hm4 hm5 F5 N5 hP'
            obtain ⟨kk, tt, rfl, k0, k1⟩ := hv
            clear F3 N3
            k_steps
            rename Fr _ _ _ _ => F6
            rename News _ _ _ _ => N6
            refine' hP' _ _ _ _ x y tx ty n F6 N6 ?hi ?hs ⟨hm1, hm2, hm3, hm4, hm5⟩ x0 y0 y1
            case hi => k_mem
            case hs => lcg_sub
          · intro m' h' tk' x y tx ty n x0 y0 y1 hm1 hm2 hm3 hm4 hm5 F5 N5
            clear F3 N3 hI'
            k_steps
            unfold Halt
            rename (@LT.lt Nat _ _ _ ∧ @LT.lt Nat _ _ _ ∧ @LT.lt Nat _ _ _ ∧ @LT.lt Nat _ _ _ ∧ @LT.lt Nat _ _ _) => l5
            rename (@LT.lt Nat _ _ _ ∧ @LT.lt Nat _ _ _ ∧ @LT.lt Nat _ _ _ ∧ @LT.lt Nat _ _ _) => l4
            rename (@Ne Nat _ _ ∧ _) => hA
            have hU := AllUpd.of N5 l5.2.2.2.1 l4.2.2.1 hA.2.1 hA.2.2.2.1 hA.2.2.2.2
            refine For_turns F5 ?_
            k_steps
            unfold Halt
            rename Fr _ _ _ _ => F7
            rename News _ _ _ _ => N7
            refine' iter_listTurns ?hh F7 (drop_2nd N7) ?hm ?hc ?hd ?_
            case hm => exact .head _
            case hh => rfl
            case hc => rfl
            case hd => rfl
            intro I' hI'
            k_lt hI'
            refine items_J4 (Ok2 4294967296) hI' ?_ ?_ _ (all_four ⟨_, _, rfl, .inl (by decide)⟩ ⟨_, _, rfl, .inr (Int.le_refl _)⟩ ⟨_, _, rfl, .inr (Int.le_add_of_nonneg_right (by assumption))⟩ ⟨_, _, rfl, .inl (below_two (by assumption))⟩) ⟨hm1, hm2, hm3, hm4, hm5⟩ (by assumption) (by assumption) (by assumption)
            · intro v m' h' tk' oI x y tx ty n P' hv x0 y0 y1 hm1 hm2 hm3 hm4 hm5 F5 N5 hP'
              obtain ⟨kk, tt, rfl, k0⟩ := hv
              clear F7 N7
              k_steps
              rename Fr _ _ _ _ => F6
              rename News _ _ _ _ => N6
              refine' hP' _ _ _ _ x y tx ty n F6 N6 ?hi ?hs ⟨hm1, hm2, hm3, hm4, hm5⟩ x0 y0 y1
              case hi => k_mem
              case hs => lcg_sub
            · intro m' h' tk' x y tx ty n x0 y0 y1 hm1 hm2 hm3 hm4 hm5 F5 N5
              clear F7 N7 hI'
              k_steps
              rename Fr _ _ _ _ => F6
              rename News _ _ _ _ => N6
              refine' hP _ _ _ _ x y tx ty n F6 N6 ?hi ?hs ⟨hm1, hm2, hm3⟩ x0 y0 y1
              case hi => k_mem
              case hs => lcg_sub
        · k_steps
          rename Fr _ _ _ _ => F1
          have F2 := fr_two (T' := 64) (K' := 4) F1 (by rfl) (by rfl)
          clear F1
          unfold Halt
          refine For_turns F2 ?_
          k_steps
          rename Fr _ _ _ _ => F3
          rename News _ _ _ _ => N3
          unfold Halt
          refine' iter_listTurns ?hh F3 N3 ?hm ?hc ?hd ?_
          case hm => exact .head _
          case hh => rfl
          case hc => rfl
          case hd => rfl
          intro I' hI'
          k_lt hI'
          refine items_J4 (Ok1 64) hI' ?_ ?_ _ (all_two ⟨_, _, rfl, by decide, by decide⟩ ⟨_, _, rfl, by decide, by decide⟩) ⟨by assumption, by assumption, by assumption, rfl, rfl⟩ (by assumption) (by assumption) (by assumption)
          · intro v m' h' tk' oI x y tx ty n P' hv x0 y0 y1 hm1 hm2 hm3 hm4 hm5 F5 N5 hP'
            obtain ⟨kk, tt, rfl, k0, k1⟩ := hv
            clear F3 N3
            k_steps
            rename Fr _ _ _ _ => F6
            rename News _ _ _ _ => N6
            refine' hP' _ _ _ _ x y tx ty n F6 N6 ?hi ?hs ⟨hm1, hm2, hm3, hm4, hm5⟩ x0 y0 y1
            case hi => k_mem
            case hs => lcg_sub
          · intro m' h' tk' x y tx ty n x0 y0 y1 hm1 hm2 hm3 hm4 hm5 F5 N5
            clear F3 N3 hI'
            k_steps
            unfold Halt
            rename (@LT.lt Nat _ _ _ ∧ @LT.lt Nat _ _ _ ∧ @LT.lt Nat _ _ _ ∧ @LT.lt Nat _ _ _ ∧ @LT.lt Nat _ _ _) => l5
            rename (@LT.lt Nat _ _ _ ∧ @LT.lt Nat _ _ _ ∧ @LT.lt Nat _ _ _ ∧ @LT.lt Nat _ _ _) => l4
            rename (@Ne Nat _ _ ∧ _) => hA
            have hU := AllUpd.of N5 l5.2.2.2.1 l4.2.2.1 hA.2.1 hA.2.2.2.1 hA.2.2.2.2
            refine For_turns F5 ?_
            k_steps
            unfold Halt
            rename Fr _ _ _ _ => F7
            rename News _ _ _ _ => N7
            refine' iter_listTurns ?hh F7 (drop_2nd N7) ?hm ?hc ?hd ?_
            case hm => exact .head _
            case hh => rfl
            case hc => rfl
            case hd => rfl
            intro I' hI'
            k_lt hI'
            refine items_J4 (Ok2 64) hI' ?_ ?_ _ (all_four ⟨_, _, rfl, .inl (by decide)⟩ ⟨_, _, rfl, .inr (Int.le_refl _)⟩ ⟨_, _, rfl, .inr (Int.le_add_of_nonneg_right (by assumption))⟩ ⟨_, _, rfl, .inl (below_two (by assumption))⟩) ⟨hm1, hm2, hm3, hm4, hm5⟩ (by assumption) (by assumption) (by assumption)
            · intro v m' h' tk' oI x y tx ty n P' hv x0 y0 y1 hm1 hm2 hm3 hm4 hm5 F5 N5 hP'
              obtain ⟨kk, tt, rfl, k0⟩ := hv
              clear F7 N7
              k_steps
              rename Fr _ _ _ _ => F6
              rename News _ _ _ _ => N6
              refine' hP' _ _ _ _ x y tx ty n F6 N6 ?hi ?hs ⟨hm1, hm2, hm3, hm4, hm5⟩ x0 y0 y1
              case hi => k_mem
              case hs => lcg_sub
            · intro m' h' tk' x y tx ty n x0 y0 y1 hm1 hm2 hm3 hm4 hm5 F5 N5
              clear F7 N7 hI'
              k_steps
              rename Fr _ _ _ _ => F6
              rename News _ _ _ _ => N6
              refine' hP _ _ _ _ x y tx ty n F6 N6 ?hi ?hs ⟨hm1, hm2, hm3⟩ x0 y0 y1
              case hi => k_mem
              case hs => lcg_sub
        · k_steps
          rename Fr _ _ _ _ => F1
          have F2 := fr_two (T' := 65536) (K' := 5) F1 (by rfl) (by rfl)
          clear F1
          unfold Halt
          refine For_turns F2 ?_
          k_steps
          rename Fr _ _ _ _ => F3
          rename News _ _ _ _ => N3
          unfold Halt
          refine' iter_listTurns ?hh F3 N3 ?hm ?hc ?hd ?_
          case hm => exact .head _
          case hh => rfl
          case hc => rfl
          case hd => rfl
          intro I' hI'
          k_lt hI'
          refine items_J4 (Ok1 65536) hI' ?_ ?_ _ (all_two ⟨_, _, rfl, by decide, by decide⟩ ⟨_, _, rfl, by decide, by decide⟩) ⟨by assumption, by assumption, by assumption, rfl, rfl⟩ (by assumption) (by assumption) (by assumption)
          · intro v m' h' tk' oI x y tx ty n P' hv x0 y0 y1 hm1 hm2 hm3 hm4 hm5 F5 N5 hP'
            obtain ⟨kk, tt, rfl, k0, k1⟩ := hv
            clear F3 N3
            k_steps
            rename Fr _ _ _ _ => F6
            rename News _ _ _ _ => N6
            refine' hP' _ _ _ _ x y tx ty n F6 N6 ?hi ?hs ⟨hm1, hm2, hm3, hm4, hm5⟩ x0 y0 y1
            case hi => k_mem
            case hs => lcg_sub
          · intro m' h' tk' x y tx ty n x0 y0 y1 hm1 hm2 hm3 hm4 hm5 F5 N5
            clear F3 N3 hI'
            k_steps
            unfold Halt
            rename (@LT.lt Nat _ _ _ ∧ @LT.lt Nat _ _ _ ∧ @LT.lt Nat _ _ _ ∧ @LT.lt Nat _ _ _ ∧ @LT.lt Nat _ _ _) => l5
            rename (@LT.lt Nat _ _ _ ∧ @LT.lt Nat _ _ _ ∧ @LT.lt Nat _ _ _ ∧ @LT.lt Nat _ _ _) => l4
            rename (@Ne Nat _ _ ∧ _) => hA
            have hU := AllUpd.of N5 l5.2.2.2.1 l4.2.2.1 hA.2.1 hA.2.2.2.1 hA.2.2.2.2
            refine For_turns F5 ?_
            k_steps
            unfold Halt
            rename Fr _ _ _ _ => F7
            rename News _ _ _ _ => N7
            refine' iter_listTurns ?hh F7 (drop_2nd N7) ?hm ?hc ?hd ?_
            case hm => exact .head _
            case hh => rfl
            case hc => rfl
            case hd => rfl
            intro I' hI'
            k_lt hI'
            refine items_J4 (Ok2 65536) hI' ?_ ?_ _ (all_four ⟨_, _, rfl, .inl (by decide)⟩ ⟨_, _, rfl, .inr (Int.le_refl _)⟩ ⟨_, _, rfl, .inr (Int.le_add_of_nonneg_right (by assumption))⟩ ⟨_, _, rfl, .inl (below_two (by assumption))⟩) ⟨hm1, hm2, hm3, hm4, hm5⟩ (by assumption) (by assumption) (by assumption)
            · intro v m' h' tk' oI x y tx ty n P' hv x0 y0 y1 hm1 hm2 hm3 hm4 hm5 F5 N5 hP'
              obtain ⟨kk, tt, rfl, k0⟩ := hv
              clear F7 N7
              k_steps
              rename Fr _ _ _ _ => F6
              rename News _ _ _ _ => N6
              refine' hP' _ _ _ _ x y tx ty n F6 N6 ?hi ?hs ⟨hm1, hm2, hm3, hm4, hm5⟩ x0 y0 y1
              case hi => k_mem
              case hs => lcg_sub
            · intro m' h' tk' x y tx ty n x0 y0 y1 hm1 hm2 hm3 hm4 hm5 F5 N5
              clear F7 N7 hI'
              k_steps
              rename Fr _ _ _ _ => F6
              rename News _ _ _ _ => N6
              refine' hP _ _ _ _ x y tx ty n F6 N6 ?hi ?hs ⟨hm1, hm2, hm3⟩ x0 y0 y1
              case hi => k_mem
              case hs => lcg_sub
        · k_steps
          rename Fr _ _ _ _ => F1
          have F2 := fr_two (T' := 65536) (K' := 6) F1 (by rfl) (by rfl)
          clear F1
          unfold Halt
          refine For_turns F2 ?_
          k_steps
          rename Fr _ _ _ _ => F3
          rename News _ _ _ _ => N3
          unfold Halt
          refine' iter_listTurns ?hh F3 N3 ?hm ?hc ?hd ?_
          case hm => exact .head _
          case hh => rfl
          case hc => rfl
          case hd => rfl
          intro I' hI'
          k_lt hI'
          refine items_J4 (Ok1 65536) hI' ?_ ?_ _ (all_two ⟨_, _, rfl, by decide, by decide⟩ ⟨_, _, rfl, by decide, by decide⟩) ⟨by assumption, by assumption, by assumption, rfl, rfl⟩ (by assumption) (by assumption) (by assumption)
          · intro v m' h' tk' oI x y tx ty n P' hv x0 y0 y1 hm1 hm2 hm3 hm4 hm5 F5 N5 hP'
            obtain ⟨kk, tt, rfl, k0, k1⟩ := hv
            clear F3 N3
            k_steps
            rename Fr _ _ _ _ => F6
            rename News _ _ _ _ => N6
            refine' hP' _ _ _ _ x y tx ty n F6 N6 ?hi ?hs ⟨hm1, hm2, hm3, hm4, hm5⟩ x0 y0 y1
            case hi => k_mem
            case hs => lcg_sub
          · intro m' h' tk' x y tx ty n x0 y0 y1 hm1 hm2 hm3 hm4 hm5 F5 N5
            clear F3 N3 hI'
            k_steps
            unfold Halt
            rename (@LT.lt Nat _ _ _ ∧ @LT.lt Nat _ _ _ ∧ @LT.lt Nat _ _ _ ∧ @LT.lt Nat _ _ _ ∧ @LT.lt Nat _ _ _) => l5
            rename (@LT.lt Nat _ _ _ ∧ @LT.lt Nat _ _ _ ∧ @LT.lt Nat _ _ _ ∧ @LT.lt Nat _ _ _) => l4
            rename (@Ne Nat _ _ ∧ _) => hA
            have hU := AllUpd.of N5 l5.2.2.2.1 l4.2.2.1 hA.2.1 hA.2.2.2.1 hA.2.2.2.2
            refine For_turns F5 ?_
            k_steps
            unfold Halt
            rename Fr _ _ _ _ => F7
            rename News _ _ _ _ => N7
            refine' iter_listTurns ?hh F7 (drop_2nd N7) ?hm ?hc ?hd ?_
            case hm => exact .head _
            case hh => rfl
            case hc => rfl
            case hd => rfl
            intro I' hI'
            k_lt hI'
            refine items_J4 (Ok2 65536) hI' ?_ ?_ _ (all_four ⟨_, _, rfl, .inl (by decide)⟩ ⟨_, _, rfl, .inr (Int.le_refl _)⟩ ⟨_, _, rfl, .inr (Int.le_add_of_nonneg_right (by assumption))⟩ ⟨_, _, rfl, .inl (below_two (by assumption))⟩) ⟨hm1, hm2, hm3, hm4, hm5⟩ (by assumption) (by assumption) (by assumption)
            · intro v m' h' tk' oI x y tx ty n P' hv x0 y0 y1 hm1 hm2 hm3 hm4 hm5 F5 N5 hP'
              obtain ⟨kk, tt, rfl, k0⟩ := hv
              clear F7 N7
              k_steps
              rename Fr _ _ _ _ => F6
              rename News _ _ _ _ => N6
              refine' hP' _ _ _ _ x y tx ty n F6 N6 ?hi ?hs ⟨hm1, hm2, hm3, hm4, hm5⟩ x0 y0 y1
              case hi => k_mem
              case hs => lcg_sub
            · intro m' h' tk' x y tx ty n x0 y0 y1 hm1 hm2 hm3 hm4 hm5 F5 N5
              clear F7 N7 hI'
              k_steps
              rename Fr _ _ _ _ => F6
              rename News _ _ _ _ => N6
              refine' hP _ _ _ _ x y tx ty n F6 N6 ?hi ?hs ⟨hm1, hm2, hm3⟩ x0 y0 y1
              case hi => k_mem
              case hs => lcg_sub
      · intro m h tk news F6 N6
        try clear N5
        try clear F5
        try clear N4
        try clear F4
        k_steps)
end Mine
theorem PySem.Challenge.cw_xw0326_01_holds : PySem.Challenge.rw_xw0326_01.Holds :=
  Mine.law_holds
