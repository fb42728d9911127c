import PyProof.Rows.All
import Wide.All
import OpenK.AllK
import KE.KDictOf
import Wide.FinOn
import PySem.Challenge.RW_xm0955_03
set_option Elab.async false
set_option genSizeOf false
set_option backward.eqns.nonrecursive false
set_option genCtorIdx false
set_option genInjectivity false
set_option bootstrap.genMatcherCode false
open PySem PySem.W PyProof.Rows PySem.Calls
namespace Mine
set_option autoImplicit false
set_option backward.match.sparseCases false
set_option linter.unusedVariables false
set_option maxRecDepth 100000
open Builtin Builtin.Getset_descriptor
/-- what is told of two classes of which neither is the other -/
noncomputable def isNotC (K : Frag) (T C : Addr) : Bool := !(T == C) && (clsIn K C).isSome && typeIn K (.ref C) == some (.type "type") && instIn K (.ref C) (.type "type") == some true && subIn K (.ref T) (.ref C) == some false
/-- what is told of a class whose instances are asked for their class -/
noncomputable def clsAsk (K : Frag) (T : Addr) : Bool := findIn K (.ref T) "__getattribute__" == some (some (.builtin "object.__getattribute__")) && findIn K (.ref T) "__class__" == some (some (.builtin "object.__class__")) && subIn K (.ref T) (.type "object") == some true && (clsIn K T).isSome && findIn K (.ref T) "__getattr__" == some none
theorem gs_get (K : Frag) : specialIn K (.builtin "object.__class__") "__get__" = some (some (.builtin "getset_descriptor.__get__")) := by kernel_rfl
theorem gs_set (K : Frag) : takesIn K (.builtin "object.__class__") = some true := by kernel_rfl
section
variable {prog : Program} {w : World} {A : Around} {E : Value → Shared → Prop} {h : Heap} {g : Array GenState} {d : Drawn} {t : Nat} {os : OsState} {K : Frag} {x T C : Addr} {ox : Obj} {od : Option Obj}
theorem class_get_inst {R : Result → Shared → Prop} (X : K.In h) (I : InstAt h x ox T od) (e : clsAsk K T = true) (hq : R (.ok (.ret (.ref T))) ⟨h, g, d, t, os⟩) :
    codeAny (model prog w) A (.call (.builtin "getset_descriptor.__get__") ⟨[.builtin "object.__class__", .ref x, .ref T], []⟩) R ⟨h, g, d, t, os⟩ := by
  unfold clsAsk at e
  simp only [Bool.and_eq_true, beq_iff_eq] at e
  obtain ⟨⟨⟨⟨e1, e2⟩, e3⟩, e4⟩, e5⟩ := e
  have L0 := I.type (M := model prog w)
  have LO : Looks (model prog w) h (isSubtype (.ref T) (.type (".".intercalate ("object.__class__".cutAt '.').dropLast))) true := by rw [F.owner_object_class]; exact looks_subIn X e3
  have hT5 : (⟨h, g, d, t, os⟩ : Shared).TypeIs (.builtin "object.__class__") "getset_descriptor" := F.typeOf_object_class
  refine codeAny_call_builtin F.slot_gs_get.plain F.entry_gs_get (F.slot_gs_get.check _ _ _ _ _ _ _ _ hT5 (F.args_gs_get _ _ _) ?_)
  unfold Builtin.«getset_descriptor.__get__» descrGet
  refine wpAny_bind ?_
  unfold descrGetArgs
  repeat lk
  have hqc : (Code.builtin "object.__class__" ⟨[.ref x], []⟩).quiet = true := Code.quiet_builtin _ (by decide +kernel)
  refine And.intro hqc (codeAny_builtin F.entry_object_class ?_)
  unfold Builtin.«object.__class__» shownTypeOf
  repeat lk
  exact hq
theorem class_attr_inst {Q : Option Value → Shared → Prop} (X : K.In h) (I : InstAt h x ox T od) (e : clsAsk K T = true) (hq : Q (some (.ref T)) ⟨h, g, d, t + 1, os⟩) : wpAny (model prog w) A (getAttr? (.ref x) "__class__") Q E ⟨h, g, d, t, os⟩ := by
  have e' := e
  unfold clsAsk at e'
  simp only [Bool.and_eq_true, beq_iff_eq] at e'
  obtain ⟨⟨⟨⟨e1, e2⟩, e3⟩, e4⟩, e5⟩ := e'
  have hf : findObj K T od "__class__" = some (.bind (.builtin "getset_descriptor.__get__") (.builtin "object.__class__")) := by
    obtain ⟨cd, hcd⟩ := Option.isSome_iff_exists.mp e4
    unfold findObj
    rw [hcd, Option.bind_some, e2, Option.bind_some]
    simp only [gs_get, Option.bind_some, gs_set]
  have L0 := I.type (M := model prog w)
  have L1 := looks_findIn (M := model prog w) X e1
  have L2 := looks_find (M := model prog w) X I hf
  unfold getAttr? getAttrBy? getAttrBy
  refine wpAny_bind (wpAny_mkText (wpAny_bind (wpAny_attempt (wpAny_holding (wpAny_bind (L0.at (wpAny_bind (L1.at ?_))))))))
  show wpAny _ _ (getAttrEveryday _ _ _) _ _ _
  refine wpAny_bind (wpAny_onRaise (wpAny_runValue (codeAny_builtin F.plainObj_entry_getattr_hooked ?_)))
  have L3 := looks_findIn (M := model prog w) X e5
  refine wpAny_bind (wpAny_pure (wpAny_bind (L0.at (wpAny_bind (L2.at (wpAny_bind (L3.at ?_)))))))
  show wpAny _ _ (holding [_] (call _ [_, .ref x, .ref T]) >>= ret) _ _ _
  refine wpAny_bind (wpAny_holding (wpAny_call (class_get_inst X I e ?_)))
  refine wpAny_pure ?_
  show wpAny _ _ (handedOut (.ref T)) _ _ _
  rw [handedOut_of (by rfl)]
  exact wpAny_pure (wpAny_pure hq)
theorem isn_nested_inst {dep : Int} {tk : Tok} {Q : Fin → Shared → Prop} (X : K.In h) (I : InstAt h x ox T od) (ea : clsAsk K T = true) (e : isNotC K T C = true) (hq : Q (.done (.ret (.bool false))) ⟨h, g, d, t + 1, os⟩) :
    wpAny (model prog w) A (Builtin.«isinstance.nested» ⟨[.ref x, .ref C, .int dep tk], []⟩) Q E ⟨h, g, d, t, os⟩ := by
  unfold isNotC at e
  rw [Bool.and_eq_true, Bool.and_eq_true, Bool.and_eq_true, Bool.and_eq_true] at e
  obtain ⟨⟨⟨⟨en, e0⟩, e1⟩, e2⟩, e3⟩ := e
  have ht := I.type (M := model prog w)
  have L1 := looks_typeIn (M := model prog w) X (beq_iff_eq.mp e1)
  have L2 := looks_instIn (M := model prog w) X (beq_iff_eq.mp e2)
  have L4 : Looks (model prog w) h (isSubtype (.ref T) (.ref C)) false := looks_subIn X (beq_iff_eq.mp e3)
  have L3 : Looks (model prog w) h (isInstance (.ref x) (.ref C)) false := ht.andThen L4
  unfold Builtin.«isinstance.nested»
  refine wpAny_bind (ht.at ?_)
  rw [if_neg (fun q => by
    have := beq_iff_eq.mp q
    cases this
    simp at en)]
  refine wpAny_bind (L1.at ?_)
  rw [if_pos (by decide)]
  k_delta "plainIsInstance"
  unfold isType
  repeat lk
  unfold clsIn at e0
  split at e0
  · rename_i ho
    refine nd_load (X _ _ ho) (nd_pure (wpAny_pure ?_))
    simp only [Bool.not_true, Bool.false_eq_true, if_false]
    refine wpAny_bind (L3.at ?_)
    simp only [Bool.false_eq_true, if_false]
    refine wpAny_bind (class_attr_inst X I ea ?_)
    obtain ⟨cd, hcd⟩ : ∃ cd, clsIn K T = some cd := by
      unfold clsAsk at ea
      simp only [Bool.and_eq_true] at ea
      exact Option.isSome_iff_exists.mp ea.1.2
    unfold clsIn at hcd
    split at hcd
    · rename_i hoT
      have hT := X _ _ hoT
      repeat lk
      exact hq
    · cases hcd
  · cases e0
theorem isn_call_inst {s : Shared} {Q : Value → Shared → Prop} (X : K.In s.heap) (I : InstAt s.heap x ox T od) (ea : clsAsk K T = true) (e : isNotC K T C = true)
    (h : Q (.bool false) { s with toks := s.toks + 1 }) :
    wpAny (model prog w) A (call (.builtin "isinstance") [.ref x, .ref C]) Q E s :=
  call_isinstance (S := fun _ R s => (K.In s.heap ∧ InstAt s.heap x ox T od) ∧ R (.ok (.ret (.bool false))) { s with toks := s.toks + 1 })
    (fun _ _ _ _ _ hs => isinstance_outer (isn_nested_inst hs.1.1 hs.1.2 ea e hs.2) (by intro q; cases q)) ⟨⟨X, I⟩, h⟩
theorem isi_call_inst {s : Shared} {Q : Value → Shared → Prop} (X : K.In s.heap) (I : InstAt s.heap x ox T od)
    (h : Q (.bool true) s) :
    wpAny (model prog w) A (call (.builtin "isinstance") [.ref x, .ref T]) Q E s :=
  isi_call X (t := .ref T) (fun M => I.type) (by unfold isIn; simp) (by intro q; cases q) h
end
end Mine

open PySem PySem.W PyProof.Rows PySem.Calls
namespace Mine
set_option autoImplicit false
set_option backward.match.sparseCases false
set_option linter.unusedVariables false
set_option maxRecDepth 100000
theorem entry_dul : entryFor table "dict.update.loop" = some Builtin.«dict.update.loop» := entryFor_of_tree (by kernel_rfl)
theorem plain_dul : plainId "dict.update.loop" = true := by decide +kernel
theorem list_keys_none : typeLookup (.type "list") "keys" = pure none := am_miss_of_fast (by decide +kernel)
section
variable {prog : Program} {w : World} {A : Around} {E : Value → Shared → Prop} {s : Shared}
theorem attrq_miss_list {a : Addr} {o : Obj} {xs : Array Value} {k : Nat} {name : Str} {Q : Option Value → Shared → Prop}
    (hx : s.heap.get? a = some o) (hc : o.cls = .type "list") (hdat : o.data = .seq xs k) (hd : o.dict = none) (hmiss : typeLookup (.type "list") name = pure none) (hname : (["__module__", "__name__", "__qualname__", "__doc__", "__annotations__"] : List Str).contains name = false) (hA : A.handled = none)
    (h : ∀ h' tk, (∀ b ob, s.heap.get? b = some ob → h'.get? b = some ob) → Q none { s with heap := h', toks := tk }) (hsz : name.length + 100 ≤ sizeLine) :
    wpAny (model prog w) A (getAttr? (.ref a) name) Q E s := by
  obtain ⟨c, dct, dat, sl⟩ := o
  simp only at hc hdat hd
  subst hc hdat hd
  obtain ⟨hp, g, d, tk, os⟩ := s
  have hT : ∀ tk', (⟨hp, g, d, tk', os⟩ : Shared).TypeIs (.ref a) "list" := fun _ => ⟨_, hx, rfl⟩
  have f1 := sub_AttributeError
  have f3 := F.slot_list_getattribute.lookup
  have f4 := F.slot_list_getattribute.bind (.ref a)
  have f5 := am_list_getattr_none
  unfold getAttr? getAttrBy? getAttrBy
  repeat (any_goals (first | assumption | exact hT _ | ((with_reducible show wpAny _ _ (call (Value.builtin "list.__getattribute__") _ _) _ _ _); refine call_meets F.slot_list_getattribute (hT _) am_entry_list_getattribute (F.args_list_getattribute_2 _ _) (meets_getattribute_miss_list a xs k sl name _ hmiss hname hsz) ⟨hx, hA, fun h' tk' e hx' => ?_⟩) | wp_step))
  obtain ⟨t', u', he⟩ := hx'.there
  show wpAny _ _ (getattributeRaised _ _ _ _ _ _ _) _ _ _
  unfold getattributeRaised
  repeat (any_goals (first | assumption | wp_step))
  exact h _ _ hx'.keeps
theorem dul_code {D I src : Addr} {ws : Array Value} {kvs : List (Str × Value)} {hb : Heap} (hA : A.handled = none) (h64 : kvs.length ≤ 64) (hws : ws.size = kvs.length) (hl : hb.IsList src ws) (nd : (kvs.map (·.1)).Nodup)
    (hp : ∀ (i : Nat) (kv : Str × Value), kvs[i]? = some kv → ∃ a o n t, ws[i]? = some (Value.ref a) ∧ hb.get? a = some o ∧ o.cls = .type "tuple" ∧ o.data = .seq #[.str kv.1 t, kv.2] n) (hI : hb.get? I = none) (hD : hb.get? D = none) (hDI : D ≠ I) {R : Result → Shared → Prop} :
    ∀ (k i : Nat) (j : Int) (s : Shared), kvs.length - i = k → i ≤ kvs.length → (∀ b o, hb.get? b = some o → s.heap.get? b = some o) → s.heap.IsListIter I src i → s.heap.DictOf (strKind prog w) D (kvs.take i) →
      (∀ h' tk, (∀ b o, hb.get? b = some o → h'.get? b = some o) → h'.DictOf (strKind prog w) D kvs → R (.ok (.ret .none)) { s with heap := h', toks := tk }) →
      codeAny (model prog w) A (.builtin "dict.update.loop" ⟨[.ref D, .ref I, rawInt j, .none], []⟩) R s := by
  have list : ∀ {h : Heap}, (∀ b o, hb.get? b = some o → h.get? b = some o) → h.IsList src ws := fun k => let ⟨o, ho, r⟩ := hl; ⟨o, k _ _ ho, r⟩
  intro k
  induction k with
  | zero =>
    intro i j s hk hi keep hit hd hR
    have hin : i = kvs.length := by omega
    subst hin
    refine codeAny_builtin entry_dul ?_
    rw [Around.under_plainId plain_dul _]
    show wpAny _ A.in1 (pyNext (.ref I) >>= _) _ _ s
    refine wpAny_bind (wpAny_pyNext_list_end hA hit (list keep) (by simp; omega) fun h' xb => ?_)
    show wpAny _ _ (Builtin.Dict.addKeywords D [] >>= fun _ => ret Value.none) _ _ _
    refine wpAny_bind (wpAny_pure (wpAny_pure (hR h' s.toks (fun b o e => xb b o (fun e' => ?_) (keep b o e)) ?_)))
    · rw [e', hI] at e; cases e
    · have := hd.extBut xb hDI
      rwa [List.take_length] at this
  | succ k ih =>
    intro i j s hk hi keep hit hd hR
    have hlt : i < kvs.length := by omega
    obtain ⟨a, o, n, t, g1, g2, g3, g4⟩ := hp i kvs[i] (List.getElem?_eq_getElem hlt)
    refine codeAny_builtin entry_dul ?_
    rw [Around.under_plainId plain_dul _]
    show wpAny _ A.in1 (pyNext (.ref I) >>= _) _ _ s
    refine wpAny_bind (wpAny_pyNext_list_item hit (list keep) g1 fun h' hit' sb => ?_)
    have keep' : ∀ b o, hb.get? b = some o → h'.get? b = some o := fun b o e => (sb.2 b (fun e' => by rw [e', hI] at e; cases e)).trans (keep b o e)
    have hd' := hd.sameBut sb hDI
    have hT : (⟨h', s.gens, s.drawn, s.toks, s.os⟩ : Shared).TypeIs (.ref a) "tuple" := ⟨o, keep' _ _ g2, g3⟩
    refine wpAny_bind (wpAny_holding (wpAny_bind (wpAny_tryCatch ?_)))
    unfold Builtin.Dict.pairItems
    refine wpAny_bind (wpAny_typeOf hT ?_)
    rw [if_pos (by decide)]
    refine wpAny_bind (wpAny_seqItems (keep' _ _ g2) g4 (wpAny_pure ?_))
    show wpAny _ _ (holding [Value.str kvs[i].1 t, kvs[i].2] (dictSet D (.str kvs[i].1 t) kvs[i].2)) _ _ _
    refine wpAny_holding (wpAny_dictSet_pairs (knd := strKind prog w) (strKind_is _ _ _ _) hd' (fun h'' hd'' sb' => ?_) ?_)
    · have st : stored (kvs.take i) kvs[i].1 kvs[i].2 = kvs.take (i + 1) := by
        have hn : ¬ ((kvs.take i).any fun x => decide (x.1 = kvs[i].1)) = true := by
          rw [List.any_eq_true]
          rintro ⟨x, hx, he⟩
          obtain ⟨j', hj', rfl⟩ := List.mem_take_iff_getElem.mp hx
          have hj2 : j' < kvs.length := by omega
          have hji : j' < i := by omega
          have := (List.nodup_iff_pairwise_ne.mp nd)
          rw [List.pairwise_iff_getElem] at this
          exact this j' i (by simpa using hj2) (by simpa using hlt) hji (by simpa using of_decide_eq_true he)
        unfold stored
        rw [if_neg hn, List.take_add_one, List.getElem?_eq_getElem hlt]; rfl
      rw [st] at hd''
      refine wpAny_pure ⟨plainId_quiet plain_dul _, ih (i + 1) (j + 1) _ (by omega) hlt (fun b o e => (sb'.2 b (fun e' => by rw [e', hD] at e; cases e)).trans (keep' b o e)) ?_ hd'' fun h3 tk k3 d3 => hR h3 tk k3 d3⟩
      obtain ⟨oi, q1, q2⟩ := hit'
      exact ⟨oi, (sb'.2 I (Ne.symm hDI)).trans q1, q2⟩
    · have := List.length_take_le i kvs
      have : (64 : Nat) ≤ sizeLine := by decide
      omega
theorem dict_pairs {src : Addr} {o : Obj} {ws : Array Value} {n : Nat} {kvs : List (Str × Value)} {Q : Value → Shared → Prop} (hA : A.handled = none) (hx : s.heap.get? src = some o) (hc : o.cls = .type "list") (hdat : o.data = .seq ws n) (hdn : o.dict = none)
    (h64 : kvs.length ≤ 64) (hws : ws.size = kvs.length) (nd : (kvs.map (·.1)).Nodup)
    (hp : ∀ (i : Nat) (kv : Str × Value), kvs[i]? = some kv → ∃ a o n t, ws[i]? = some (Value.ref a) ∧ s.heap.get? a = some o ∧ o.cls = .type "tuple" ∧ o.data = .seq #[.str kv.1 t, kv.2] n)
    (k : ∀ h' tk o', (∀ b ob, s.heap.get? b = some ob → h'.get? b = some ob) → h'.get? s.heap.objs.size = some o' → o'.IsDictOf (strKind prog w) kvs → Q (.ref s.heap.objs.size) { s with heap := h', toks := tk }) :
    wpAny (model prog w) A (call (.type "dict") [.ref src]) Q E s := by
  refine callType_codes (Q₁ := fun obj s₁ => obj = .ref s.heap.objs.size ∧ s₁ = { s with heap := s.heap.push { cls := .type "dict", data := .dict #[] } }) F.kt_called_dict (F.kt_typeCall_dict_1 _) F.entry_dict_init (kt_code_dict_new _ ⟨rfl, rfl⟩) ?_
  rintro obj s₁ ⟨rfl, rfl⟩
  have hnew : (s.heap.push { cls := .type "dict", data := .dict #[] }).DictOf (strKind prog w) s.heap.objs.size [] := Heap.DictOf.new s.heap
  have k0 : ∀ b ob, s.heap.get? b = some ob → (s.heap.push { cls := .type "dict", data := .dict #[] }).get? b = some ob := fun b ob e => Heap.get?_push_of_some _ e
  refine ⟨hnew.typeIs, F.args_dict_init_2 _ _, ?_⟩
  unfold Builtin.«dict.__init__»
  refine wpAny_bind ?_
  unfold Builtin.Dict.selfAndRest
  refine wpAny_bind (wpAny_notOrdered_dict hnew.typeIs ?_)
  show wpAny _ _ (pure (s.heap.objs.size, [Value.ref src])) _ _ _
  refine wpAny_pure ?_
  show wpAny _ _ (Builtin.Dict.updateFrom "dict.__init__" s.heap.objs.size (.ref src) [] .none) _ _ _
  unfold Builtin.Dict.updateFrom
  refine wpAny_bind (wpAny_typeOf (T := "list") ⟨o, k0 _ _ hx, hc⟩ ?_)
  rw [if_pos (by decide)]
  refine wpAny_bind (attrq_miss_list (s := { s with heap := s.heap.push { cls := .type "dict", data := .dict #[] } }) (k0 _ _ hx) hc hdat hdn list_keys_none (by decide +kernel) hA (fun h₁ tk k1 => ?_) (by decide +kernel))
  have k01 : ∀ b ob, s.heap.get? b = some ob → h₁.get? b = some ob := fun b ob e => k1 b ob (k0 b ob e)
  have hl1 : h₁.IsList src ws := ⟨o, k01 _ _ hx, hc, n, hdat⟩
  rw [if_pos (show (none : Option Value).isNone = true from rfl)]
  refine wpAny_bind (wpAny_rule (wpAny_bind (wpAny_pyIter_list (s := ⟨h₁, s.gens, s.drawn, tk, s.os⟩) hl1 ?_)))
  have hnew1 : h₁.DictOf (strKind prog w) s.heap.objs.size [] := hnew.keep k1
  have lt1 : s.heap.objs.size < h₁.objs.size := by
    obtain ⟨_, _, _, hg, _⟩ := hnew1
    exact Heap.lt_size hg
  have k2 : ∀ b ob, h₁.get? b = some ob → (h₁.push { cls := .type "list_iterator", data := .fields #[.ref src, .int 0 0] }).get? b = some ob := fun b ob e => Heap.get?_push_of_some _ e
  refine wpAny_pure ⟨plainId_quiet plain_dul _, dul_code (A := A.in1) (kvs := kvs) (hb := s.heap) (ws := ws) (src := src) hA h64 hws ⟨o, hx, hc, n, hdat⟩ nd hp (Heap.get?_none_of_le (Nat.le_of_lt lt1)) (Heap.get?_none_of_le (Nat.le_refl _)) (Nat.ne_of_lt lt1) (kvs.length - 0) 0 0 ⟨h₁.push { cls := .type "list_iterator", data := .fields #[.ref src, .int 0 0] }, s.gens, s.drawn, tk, s.os⟩ rfl (Nat.zero_le _) (fun b ob e => k2 b ob (k01 b ob e)) ⟨_, Heap.get?_push_size _ rfl, rfl, rfl⟩ (hnew1.keep k2) fun h' tk' k3 d3 => ?_⟩
  obtain ⟨o', ho', hd'⟩ := Heap.dictOf_iff.mp d3
  exact ⟨rfl, k h' tk' o' k3 ho' hd'⟩
end
end Mine

open PySem PySem.W PyProof.Rows PySem.Calls
namespace Mine
set_option autoImplicit false
set_option backward.match.sparseCases false
set_option linter.unusedVariables false

/-! ## values, objects, terms -/
set_option genCtorIdx true in
inductive Bi where
  | len | isinstance | range | list | abs | int | tuple | dict
  deriving DecidableEq

inductive MV where
  | none
  | bool (b : Bool)
  | int (i : Int)
  | str (l : List Nat)
  | tup (vs : List MV)
  | ref (i : Nat)
  | fn (k : Nat)
  | cls (k : Nat)
  | bi (b : Bi)
  | rng (a n : Nat)
  | clo (k : Nat) (cs : List Nat)
  | bl (xs : List MV)
  | ab (M r : Nat)
  | md (M r : Nat)
  | chr (c : Nat)
  | emp
  | any
protected noncomputable def MV.ctorIdx (x : MV) : Nat := @MV.casesOn (fun _ => Nat) x 0 (fun _ => 1) (fun _ => 2) (fun _ => 3) (fun _ => 4) (fun _ => 5) (fun _ => 6) (fun _ => 7) (fun _ => 8) (fun _ _ => 9) (fun _ _ => 10) (fun _ => 11) (fun _ _ => 12) (fun _ _ => 13) (fun _ => 14) 15 16

/-- one sign, told as a text -/
noncomputable def MV.wk : MV → MV
  | .chr c => .str [c]
  | .emp => .str []
  | v => v
/-- an iterator: what is left -/
inductive It where
  | rng (a n : Nat)
  | str (l : List Nat) (k : Nat) (r : List Nat)
  | lst (i k : Nat)
protected noncomputable def It.ctorIdx (x : It) : Nat := @It.casesOn (fun _ => Nat) x (fun _ _ => 0) (fun _ _ _ => 1) (fun _ _ => 2)

noncomputable abbrev Names := List (Str × NameKind)

inductive MO where
  | list (xs : List MV)
  | inst (k : Nat) (ats : List (Nat × MV))
  | dict (kvs : List (List Nat × MV))
  | cell (v : Option MV)
protected noncomputable def MO.ctorIdx (x : MO) : Nat := @MO.casesOn (fun _ => Nat) x (fun _ => 0) (fun _ _ => 1) (fun _ => 2) (fun _ => 3)

set_option genCtorIdx true in
/-- the slot of a name of a comprehension -/
inductive CS where
  | loc
  | out (j : Nat)
  | glb (g : Nat)
  deriving DecidableEq

inductive Cst where
  | none | bool (b : Bool) | int (i : Int) | str (l : List Nat) | emp
protected noncomputable def Cst.ctorIdx (x : Cst) : Nat := @Cst.casesOn (fun _ => Nat) x 0 (fun _ => 1) (fun _ => 2) (fun _ => 3) 4

/-- the attribute names -/
noncomputable def anL : List Str := ["values", "limit", "refused", "width", "steps", "log", "kind", "owner", "key", "node", "append", "pop", "get", "join", "replace", "index", "count", "step", "assign", "value_of"]
noncomputable def an (a : Nat) : Str := anL.getD a "values"

noncomputable def Names.at (ns : Names) (i : Nat) : Str := (ns.map (·.1)).getD i "values"
/-- a code that is made within another one -/
structure Cd where
  name : Str
  qual : Str
  params : Arguments
  body : List Stmt
  scope : Scope
  pos : Pos
/-- the codes that the program makes within its functions, read off the given row -/
noncomputable def pgm : Program := PySem.Challenge.rw_xm0955_03.row.toRowW.prog
noncomputable def noSt : Stmt := .Pass ⟨0, 0, 0, 0⟩
noncomputable def bodyOf : Stmt → List Stmt
  | .FunctionDef _ _ b _ _ _ _ _ _ _ => b
  | _ => []
noncomputable def cdSt (q : Str) : Stmt → Cd
  | .FunctionDef n a b _ _ _ s _ _ p => ⟨n, q, a, b, s, p⟩
  | _ => ⟨"", q, { posonlyargs := [], args := [], vararg := none, kwonlyargs := [], kw_defaults := [], kwarg := none, defaults := [] }, [], { kind := .function, names := [], isGenerator := false, isCoroutine := false }, ⟨0, 0, 0, 0⟩⟩
noncomputable def inSt (i j : Nat) : Stmt := ((bodyOf ((pgm.main.body[i]?).getD noSt))[j]?).getD noSt
noncomputable def cdL : List Cd := [cdSt "_law_put.<locals>.text_of" (inSt 59 1)]
noncomputable def cdAt (k : Nat) : Cd := cdL.getD k { name := "", qual := "", params := { posonlyargs := [], args := [], vararg := none, kwonlyargs := [], kw_defaults := [], kwarg := none, defaults := [] }, body := [], scope := { kind := .function, names := [], isGenerator := false, isCoroutine := false }, pos := ⟨0, 0, 0, 0⟩ }
/-- the global names that comprehensions read -/
noncomputable def gnL : List Str := ["abs", "int", "len", "range", "_law_number", "Pattern", "_law_one_of", "_law_orders", "match_plain", "PlainHost", "_law_deed"]
/-- the names of the comprehensions -/
noncomputable def nmL : List Names := [[(".0", .local), ("one", .local), ("abs", .globalImplicit), ("int", .globalImplicit)],
  [(".0", .local), ("at", .local), ("cells", .free)],
  [(".0", .local), ("one", .local)],
  [(".0", .local), ("one", .local), ("len", .globalImplicit), ("size", .free)],
  [(".0", .local), ("one", .local), ("_law_number", .globalImplicit), ("number", .free)],
  [(".0", .local), ("a", .local), ("b", .local)],
  [(".0", .local), ("sign", .local), ("whole", .free), ("word", .free)],
  [(".0", .local), ("row", .local), ("len", .globalImplicit), ("at", .free)],
  [(".0", .local), ("at", .local), ("len", .globalImplicit), ("cells", .free), ("letters", .free)],
  [(".0", .local), ("letter", .local), ("edges", .free)],
  [(".0", .local), ("one", .local), ("rest", .local), ("_law_orders", .globalImplicit), ("players", .free)],
  [(".0", .local), ("player", .local)],
  [(".0", .local), ("player", .local), ("Pattern", .globalImplicit), ("_law_one_of", .globalImplicit), ("beaten", .free)],
  [(".0", .local), ("one", .local), ("match_plain", .globalImplicit), ("PlainHost", .globalImplicit), ("node", .free), ("values", .free)]]
noncomputable def nmAt (u : Nat) : Names := nmL.getD u []
/-- the names of the functions that hold comprehensions; the last one is not a name of the program -/
noncomputable def nsL : List Names := [[("script", .local), ("usual", .local), ("cells", .cell), ("size", .cell), ("row", .local), ("turn", .local), ("number", .cell), ("later", .local), ("up", .local), ("down", .local), ("len", .globalImplicit), ("range", .globalImplicit), ("_law_number", .globalImplicit), ("_law_deed", .globalImplicit), ("any", .globalImplicit), ("%n", .local)],
  [("script", .local), ("usual", .local), ("cells", .local), ("rest", .local), ("word", .cell), ("told", .local), ("whole", .cell), ("sign", .local), ("tables", .local), ("other", .local), ("turned", .local), ("columns", .local), ("at", .cell), ("len", .globalImplicit), ("_law_tables", .globalImplicit), ("range", .globalImplicit), ("%n", .local)],
  [("word", .local), ("rows", .local), ("marks", .local), ("at", .local), ("sign", .local), ("level", .local), ("row", .local), ("enumerate", .globalImplicit), ("len", .globalImplicit), ("_law_put", .globalImplicit), ("sorted", .globalImplicit), ("list", .globalImplicit), ("any", .globalImplicit), ("zip", .globalImplicit), ("%n", .local)],
  [("script", .local), ("usual", .local), ("cells", .cell), ("letters", .cell), ("code", .local), ("edges", .cell), ("told", .local), ("left", .local), ("turn", .local), ("letter", .local), ("due", .local), ("least", .local), ("beside", .local), ("node", .local), ("host", .local), ("len", .globalImplicit), ("range", .globalImplicit), ("_law_edges", .globalImplicit), ("NameRef", .globalImplicit), ("PlainHost", .globalImplicit), ("replace_once", .globalImplicit), ("match_plain", .globalImplicit), ("%n", .local), ("%d", .local)],
  [("script", .local), ("usual", .local), ("cells", .local), ("players", .local), ("row", .local), ("at", .local), ("player", .local), ("beaten", .cell), ("second", .local), ("first", .local), ("pair", .local), ("values", .cell), ("node", .cell), ("found", .local), ("len", .globalImplicit), ("dict", .globalImplicit), ("range", .globalImplicit), ("_law_one_of", .globalImplicit), ("_law_put", .globalImplicit), ("match_plain", .globalImplicit), ("PlainHost", .globalImplicit), ("_law_orders", .globalImplicit), ("%n", .local)],
  [("players", .cell), ("%n", .local)]]
noncomputable def nsAt (w : Nat) : Names := nsL.getD w []
noncomputable def csOne (ns : Names) (x : Str) (k : NameKind) : CS → Bool
  | .loc => k == .local
  | .out j => k == .free && x == ns.at j
  | .glb g => k == .globalImplicit && gnL[g]? == some x
noncomputable def csB (ns : Names) : Names → List CS → Bool
  | [], [] => true
  | p :: nm, c :: cs => csOne ns p.1 p.2 c && csB ns nm cs
  | _, _ => false
noncomputable def ndB2 : List Str → Bool
  | [] => true
  | x :: xs => !xs.contains x && ndB2 xs
/-- what a comprehension assigns to -/
inductive CTg where
  | one (i : Nat) (p : Pos)
noncomputable def CTg.ix : CTg → List Nat
  | .one i _ => [i]
noncomputable def CTg.ok (cs : List CS) : CTg → Bool
  | .one i _ => cs[i]? == some .loc
noncomputable def CTg.er (ns : Names) : CTg → Expr
  | .one i p => .Name (ns.at i) p
noncomputable def csOkB (u w : Nat) (ct : CTg) (cs : List CS) : Bool :=
  csB (nsAt w) (nmAt u) cs && ndB2 ((nmAt u).map (·.1)) && ((nmAt u).all fun p => !(p.1 == ("__debug__" : Str)) && !(p.1 == ("__classdict__" : Str))) && ct.ok cs
mutual
inductive E where
  | name (i : Nat) (p : Pos)
  | cst (c : Cst) (k : Nat) (p : Pos)
  | tup (es : List E) (k : Nat) (p : Pos)
  | list (es : List E) (p : Pos)
  | dict0 (p : Pos)
  | sub (e i : E) (p : Pos)
  | slc (e : E) (lo hi st : Option E) (sp p : Pos)
  | attr (e : E) (a : Nat) (p : Pos)
  | bin (l : E) (op : Operator) (r : E) (p : Pos)
  | neg (e : E) (p : Pos)
  | not (e : E) (p : Pos)
  | boo (op : BoolOp) (es : List E) (p : Pos)
  | cmp (l : E) (op : CmpOp) (r : E) (p : Pos)
  | ite (t b o : E) (p : Pos)
  | call (i : Nat) (np : Pos) (as : List E) (p : Pos)
  | meth (o : E) (a : Nat) (as : List E) (ap p : Pos) (h : ap.endLine = p.line)
  | comp (elt : E) (ct : CTg) (it : E) (ifs : List E) (u w jn : Nat) (cs : List CS) (sc : Scope) (h : csOkB u w ct cs = true ∧ sc.names = nmAt u ∧ sc.kind = .function) (p : Pos)
  | comp2 (elt : E) (ct : CTg) (it : E) (ct2 : CTg) (it2 : E) (u w jn : Nat) (cs : List CS) (sc : Scope) (h : csOkB u w ct cs = true ∧ csOkB u w ct2 cs = true ∧ sc.names = nmAt u ∧ sc.kind = .function) (p : Pos)
  | raw (e : Expr)

inductive T where
  | name (i : Nat) (p : Pos)
  | tup (ts : List T) (k : Nat) (p : Pos)
  | attr (o : E) (a : Nat) (p : Pos)
  | sub (o i : E) (p : Pos)
end
protected noncomputable def E.ctorIdx (x : E) : Nat := @E.casesOn (fun _ => Nat) x (fun _ _ => 0) (fun _ _ _ => 1) (fun _ _ _ => 2) (fun _ _ => 3) (fun _ => 4) (fun _ _ _ => 5) (fun _ _ _ _ _ _ => 6) (fun _ _ _ => 7) (fun _ _ _ _ => 8) (fun _ _ => 9) (fun _ _ => 10) (fun _ _ _ => 11) (fun _ _ _ _ => 12) (fun _ _ _ _ => 13) (fun _ _ _ _ => 14) (fun _ _ _ _ _ _ => 15) (fun _ _ _ _ _ _ _ _ _ _ _ => 16) (fun _ _ _ _ _ _ _ _ _ _ _ _ => 17) (fun _ => 18)
protected noncomputable def T.ctorIdx (x : T) : Nat := @T.casesOn (fun _ => Nat) x (fun _ _ => 0) (fun _ _ _ => 1) (fun _ _ _ => 2) (fun _ _ _ => 3)

inductive S where
  | asg (t : T) (e : E) (p : Pos)
  | asgC (i : Nat) (np : Pos) (e : E) (p : Pos)
  | swp (is : List (Nat × Pos)) (tk : Nat) (tp : Pos) (es : List E) (ek : Nat) (ep : Pos) (p : Pos)
  | fdef (i j k : Nat)
  | aug (i : Nat) (np : Pos) (op : Operator) (e : E) (p : Pos)
  | augA (o : E) (a : Nat) (tp : Pos) (op : Operator) (e : E) (p : Pos)
  | iff (t : E) (b o : List S) (p : Pos)
  | whl (t : E) (b : List S) (p : Pos)
  | fr (t : T) (it : E) (b : List S) (p : Pos)
  | ret (e : E) (p : Pos)
  | brk (p : Pos)
  | ex (e : E) (p : Pos)
  | raw (st : Stmt)
protected noncomputable def S.ctorIdx (x : S) : Nat := @S.casesOn (fun _ => Nat) x (fun _ _ _ => 0) (fun _ _ _ _ => 1) (fun _ _ _ _ _ _ _ => 2) (fun _ _ _ => 3) (fun _ _ _ _ _ => 4) (fun _ _ _ _ _ _ => 5) (fun _ _ _ _ => 6) (fun _ _ _ => 7) (fun _ _ _ _ => 8) (fun _ _ => 9) (fun _ => 10) (fun _ _ => 11) (fun _ => 12)


noncomputable def Cst.er : Cst → Const
  | .none => .none
  | .bool b => .bool b
  | .int i => .int i
  | .str l => .str ⟨l.toArray⟩
  | .emp => .str ⟨[].toArray⟩

mutual
noncomputable def E.er (ns : Names) : E → Expr
  | .name i p => .Name (ns.at i) p
  | .cst c k p => .Constant c.er k p
  | .tup es k p => .Tuple (E.ers ns es) k p
  | .list es p => .List (E.ers ns es) p
  | .dict0 p => .Dict [] [] p
  | .sub e i p => .Subscript (e.er ns) (i.er ns) p
  | .slc e lo hi st sp p => .Subscript (e.er ns) (.Slice (E.ero ns lo) (E.ero ns hi) (E.ero ns st) sp) p
  | .attr e a p => .Attribute (e.er ns) (an a) p
  | .bin l op r p => .BinOp (l.er ns) op (r.er ns) p
  | .neg e p => .UnaryOp .USub (e.er ns) p
  | .not e p => .UnaryOp .Not (e.er ns) p
  | .boo op es p => .BoolOp op (E.ers ns es) p
  | .cmp l op r p => .Compare (l.er ns) [op] [r.er ns] p
  | .ite t b o p => .IfExp (t.er ns) (b.er ns) (o.er ns) p
  | .call i np as p => .Call (.Name (ns.at i) np) (E.ers ns as) [] p
  | .meth o a as ap p _ => .Call (.Attribute (o.er ns) (an a) ap) (E.ers ns as) [] p
  | .comp elt ct it ifs u _ _ _ sc _ p => .ListComp (elt.er (nmAt u)) [⟨ct.er (nmAt u), it.er ns, E.ers (nmAt u) ifs, 0⟩] sc p
  | .comp2 elt ct it ct2 it2 u _ _ _ sc _ p => .ListComp (elt.er (nmAt u)) [⟨ct.er (nmAt u), it.er ns, [], 0⟩, ⟨ct2.er (nmAt u), it2.er (nmAt u), [], 0⟩] sc p
  | .raw e => e
noncomputable def E.ers (ns : Names) : List E → List Expr
  | [] => []
  | e :: es => e.er ns :: E.ers ns es
noncomputable def E.ero (ns : Names) : Option E → Option Expr
  | none => none
  | some e => some (e.er ns)
noncomputable def T.er (ns : Names) : T → Expr
  | .name i p => .Name (ns.at i) p
  | .tup ts k p => .Tuple (T.ers ns ts) k p
  | .attr o a p => .Attribute (o.er ns) (an a) p
  | .sub o i p => .Subscript (o.er ns) (i.er ns) p
noncomputable def T.ers (ns : Names) : List T → List Expr
  | [] => []
  | t :: ts => t.er ns :: T.ers ns ts
end
noncomputable def swpTs (ns : Names) : List (Nat × Pos) → List Expr
  | [] => []
  | p :: ps => .Name (ns.at p.1) p.2 :: swpTs ns ps
mutual
noncomputable def S.er (ns : Names) : S → Stmt
  | .asg t e p => .Assign [t.er ns] (e.er ns) p
  | .asgC i np e p => .Assign [.Name (ns.at i) np] (e.er ns) p
  | .swp is tk tp es ek ep p => .Assign [.Tuple (swpTs ns is) tk tp] (.Tuple (E.ers ns es) ek ep) p
  | .fdef _ _ k => .FunctionDef (cdAt k).name (cdAt k).params (cdAt k).body [] none [] (cdAt k).scope none (cdAt k).name (cdAt k).pos
  | .aug i np op e p => .AugAssign (.Name (ns.at i) np) op (e.er ns) p
  | .augA o a tp op e p => .AugAssign (.Attribute (o.er ns) (an a) tp) op (e.er ns) p
  | .iff t b o p => .If (t.er ns) (S.ers ns b) (S.ers ns o) p
  | .whl t b p => .While (t.er ns) (S.ers ns b) [] p
  | .fr t it b p => .For (t.er ns) (it.er ns) (S.ers ns b) [] p
  | .ret e p => .Return (some (e.er ns)) p
  | .brk p => .Break p
  | .ex e p => .Expr (e.er ns) p
  | .raw st => st
noncomputable def S.ers (ns : Names) : List S → List Stmt
  | [] => []
  | s :: ss => s.er ns :: S.ers ns ss
end

/-! ## the interpreter -/
inductive Slot where
  | loc (v : Option MV)
  | glb (v : MV)
  | cel (k : Nat)
  | fre (k : Nat)
  | nst (i k : Nat) (cs : List Nat)
  | nid (w : Nat)
  | unk
protected noncomputable def Slot.ctorIdx (x : Slot) : Nat := @Slot.casesOn (fun _ => Nat) x (fun _ => 0) (fun _ => 1) (fun _ => 2) (fun _ => 3) (fun _ _ _ => 4) (fun _ => 5) 6

/-- a slot as a function is entered -/
inductive FS where
  | loc
  | glb (v : MV)
  | cel
  | fre (j : Nat)
  | nst (i k : Nat) (cs : List Nat)
  | nid (w : Nat)
  | unk
protected noncomputable def FS.ctorIdx (x : FS) : Nat := @FS.casesOn (fun _ => Nat) x 0 (fun _ => 1) 2 (fun _ => 3) (fun _ _ _ => 4) (fun _ => 5) 6
structure Fn where
  np : Nat
  slots : List FS
  body : List S

structure Cl where
  ini : Option Nat
  meths : List (Nat × Nat)

inductive Fl where
  | next | brk | ret (v : MV)
protected noncomputable def Fl.ctorIdx (x : Fl) : Nat := @Fl.casesOn (fun _ => Nat) x 0 1 (fun _ => 2)

/-! written with the recursors: the kernel is quicker at them -/
noncomputable def eqL (x : List Nat) : List Nat → Bool := List.rec (motive := fun _ => List Nat → Bool) (fun y => List.rec true (fun _ _ _ => false) y) (fun a _ ih y => List.rec false (fun b bs _ => Bool.rec false (ih bs) (Nat.beq a b)) y) x
noncomputable def memN (c : Nat) (x : List Nat) : Bool := List.rec false (fun a _ ih => Bool.rec ih true (Nat.beq a c)) x
noncomputable def lkN {α : Type} (k : Nat) (l : List (Nat × α)) : Option α := List.rec none (fun p _ ih => Bool.rec ih (some p.2) (Nat.beq p.1 k)) l
noncomputable def lkS {α : Type} (k : List Nat) (l : List (List Nat × α)) : Option α := List.rec none (fun p _ ih => Bool.rec ih (some p.2) (eqL p.1 k)) l
noncomputable def putN (k : Nat) (v : MV) (l : List (Nat × MV)) : List (Nat × MV) := List.rec [(k, v)] (fun p r ih => Bool.rec (p :: ih) ((k, v) :: r) (Nat.beq p.1 k)) l
noncomputable def hasS (k : List Nat) : List (List Nat × MV) → Bool
  | [] => false
  | p :: r => eqL p.1 k || hasS k r
noncomputable def mapS (k : List Nat) (v : MV) : List (List Nat × MV) → List (List Nat × MV)
  | [] => []
  | p :: r => cond (eqL p.1 k) (p.1, v) p :: mapS k v r
noncomputable def putS (k : List Nat) (v : MV) (kvs : List (List Nat × MV)) : List (List Nat × MV) := cond (hasS k kvs) (mapS k v kvs) (kvs ++ [(k, v)])
noncomputable def at? {α : Type} (l : List α) : Nat → Option α := List.rec (motive := fun _ => Nat → Option α) (fun _ => none) (fun a _ ih n => Bool.rec (ih (Nat.sub n 1)) (some a) (Nat.beq n 0)) l
/-- an index of nought or more, in bounds -/
noncomputable def nth {α : Type} (l : List α) (i : Int) : Option α := match i with
  | .ofNat n => cond (Nat.ble n 4096) (at? l n) none
  | .negSucc _ => none
noncomputable def setAt {α : Type} (v : α) (l : List α) : Nat → List α := List.rec (motive := fun _ => Nat → List α) (fun _ => []) (fun a l ih n => Bool.rec (a :: ih (Nat.sub n 1)) (v :: l) (Nat.beq n 0)) l
noncomputable def lenOk (n : Nat) : Bool := Nat.ble n 4096

noncomputable def r0 {α : Type} (σ : List MO) (v : α) : Option (α × List MO) := some (v, σ)
noncomputable def newL (σ : List MO) (xs : List MV) : Option (MV × List MO) := cond (lenOk xs.length) (some (.ref σ.length, σ ++ [.list xs])) none
noncomputable def addLL (σ : List MO) (xs : List MV) : Option MO → Option (MV × List MO)
  | some (.list ys) => newL σ (xs ++ ys)
  | _ => none
noncomputable def addL (σ : List MO) (b : MV) : Option MO → Option (MV × List MO)
  | some (.list xs) => (match b with | .ref j => addLL σ xs (at? σ j) | _ => none)
  | _ => none
noncomputable def bAdd (σ : List MO) : MV → MV → Option (MV × List MO)
  | .int x, b => (match b with | .int y => r0 σ (.int (x + y)) | _ => none)
  | .str x, b => (match b with | .str y => cond (lenOk (x.length + y.length)) (r0 σ (.str (x ++ y))) none | _ => none)
  | .ref i, b => addL σ b (at? σ i)
  | _, _ => none
noncomputable def bII (σ : List MO) (f : Int → Int → Option Int) : MV → MV → Option (MV × List MO)
  | .int x, b => (match b with | .int y => (f x y).bind fun z => r0 σ (.int z) | _ => none)
  | _, _ => none
noncomputable def posI (f : Int → Int → Int) (x : Int) : Int → Option Int
  | .ofNat (n + 1) => cond (lenOk (n + 1)) (some (f x (.ofNat (n + 1)))) none
  | _ => none
noncomputable def powI (x : Int) : Int → Option Int
  | .ofNat n => cond (Nat.ble n 16) (cond (Nat.ble x.natAbs 16) (some (x ^ n)) none) none
  | _ => none
noncomputable def mdDiv (σ : List MO) (M r : Nat) : MV → Option (MV × List MO)
  | .int (.ofNat (d + 1)) => cond (lenOk (d + 1) && Nat.beq (M % (d + 1)) 0) (r0 σ (.md (M / (d + 1)) (r / (d + 1)))) none
  | _ => none
noncomputable def mdMod (σ : List MO) (M r : Nat) : MV → Option (MV × List MO)
  | .int (.ofNat (d + 1)) => cond (Nat.beq (M % (d + 1)) 0) (r0 σ (.int (Int.ofNat (r % (d + 1))))) none
  | _ => none
noncomputable def bDiv (σ : List MO) : MV → MV → Option (MV × List MO)
  | .md M r, b => mdDiv σ M r b
  | a, b => bII σ (posI Int.fdiv) a b
noncomputable def bMod (σ : List MO) : MV → MV → Option (MV × List MO)
  | .md M r, b => mdMod σ M r b
  | a, b => bII σ (posI Int.fmod) a b
noncomputable def binop (σ : List MO) : Operator → MV → MV → Option (MV × List MO)
  | .Add => bAdd σ
  | .Sub => bII σ fun x y => some (x - y)
  | .FloorDiv => bDiv σ
  | .Mod => bMod σ
  | .Pow => bII σ powI
  | _ => fun _ _ => none
noncomputable def iop : Operator → MV → MV → Option MV
  | .Add => fun a b => (match a with | .int x => (match b with | .int y => some (.int (x + y)) | _ => none) | _ => none)
  | _ => fun _ _ => none
noncomputable def anyStr (x : List Nat) : List MV → Option Bool
  | [] => some false
  | .str y :: r => (anyStr x r).bind fun b => some (eqL y x || b)
  | .chr c :: r => (anyStr x r).bind fun b => some (eqL [c] x || b)
  | _ :: _ => none
noncomputable def isNone : MV → Option Bool
  | .none => some true
  | .str _ => some false
  | .chr _ => some false
  | .emp => some false
  | .int _ => some false
  | .tup _ => some false
  | _ => none
noncomputable def cIs : MV → MV → Option Bool
  | a, .none => isNone a
  | _, _ => none
noncomputable def cEq (σ : List MO) : MV → MV → Option Bool
  | .str x, b => (match b with | .str y => some (eqL x y) | _ => none)
  | .int x, b => (match b with | .int y => some (decide (x = y)) | _ => none)
  | .bool x, b => (match b with | .bool y => some (x == y) | _ => none)
  | .tup _, b => (match b with | .str _ => some false | _ => none)
  | _, _ => none
noncomputable def cNe (σ : List MO) : MV → MV → Option Bool
  | .str x, b => (match b with | .str y => some (!eqL x y) | _ => none)
  | .int x, b => (match b with | .int y => some (!decide (x = y)) | _ => none)
  | _, _ => none
noncomputable def cInt (f : Int → Int → Bool) : MV → MV → Option Bool
  | .int x, b => (match b with | .int y => some (f x y) | _ => none)
  | _, _ => none
noncomputable def one : List Nat → Option Nat
  | [c] => some c
  | _ => none
noncomputable def cInR (x : List Nat) : Option MO → Option Bool
  | some (.list vs) => anyStr x vs
  | _ => none
noncomputable def cIn (σ : List MO) : MV → MV → Option Bool
  | .str x, b => (match b with
    | .tup vs => anyStr x vs
    | .str y => (one x).map fun c => memN c y
    | .ref i => cInR x (at? σ i)
    | _ => none)
  | _, _ => none
noncomputable def cmpop (σ : List MO) : CmpOp → MV → MV → Option Bool
  | .Is => cIs
  | .IsNot => fun a b => (cIs a b).map (!·)
  | .Eq => cEq σ
  | .NotEq => cNe σ
  | .Lt => cInt fun x y => decide (x < y)
  | .Gt => cInt fun x y => decide (y < x)
  | .In => cIn σ
  | .NotIn => fun a b => (cIn σ a b).map (!·)
  | _ => fun _ _ => none

noncomputable def subsR : Option MO → MV → Option MV
  | some (.list xs), b => (match b with | .int i => nth xs i | _ => none)
  | some (.dict kvs), b => (match b with | .str x => lkS x kvs | _ => none)
  | _, _ => none
noncomputable def subs (σ : List MO) : MV → MV → Option MV
  | .tup vs, b => (match b with | .int i => nth vs i | _ => none)
  | .str l, b => (match b with | .int i => (nth l i).map fun c => .chr c | _ => none)
  | .ref k, b => subsR (at? σ k) b
  | _, _ => none

/-- a part of a slice: None or an int of nought or more -/
noncomputable def part : MV → Option (Option Nat)
  | .none => some none
  | .int i => (match i with | .ofNat n => some (some n) | .negSucc _ => none)
  | _ => none
noncomputable def cut {α : Type} (l : List α) (lo hi : Option Nat) : List α :=
  ((match hi with | some n => l.take n | none => l).drop (lo.getD 0))

noncomputable def itR (k : Nat) : Option MO → Option It
  | some (.list _) => some (.lst k 0)
  | _ => none
noncomputable def It.of (σ : List MO) : MV → Option It
  | .rng a n => cond (lenOk (a + n)) (some (.rng a n)) none
  | .str l => some (.str l 0 l)
  | .ref i => itR i (at? σ i)
  | _ => none
noncomputable def nextR (i k : Nat) : Option MO → Option (Option (MV × It))
  | some (.list xs) => (match at? xs k with
      | some v => some (some (v, .lst i (k + 1)))
      | none => some none)
  | _ => none
noncomputable def nextG (a : Nat) : Nat → Option (MV × It)
  | n + 1 => some (.int (a : Int), .rng (a + 1) n)
  | 0 => none
noncomputable def nextS (l : List Nat) (k : Nat) : List Nat → Option (MV × It)
  | c :: r => some (.chr c, .str l (k + 1) r)
  | [] => none
noncomputable def It.next (σ : List MO) : It → Option (Option (MV × It))
  | .rng a n => some (nextG a n)
  | .str l k r => some (nextS l k r)
  | .lst i k => nextR i k (at? σ i)

structure Rec where
  n : Nat
  e : E → List Slot → List MO → Option (MV × List MO)
  es : List E → List Slot → List MO → Option (List MV × List MO)
  eo : Option E → List Slot → List MO → Option (MV × List MO)
  t : E → List Slot → List MO → Option (Bool × List MO)
  ts : BoolOp → List E → List Slot → List MO → Option (Bool × List MO)
  a : T → MV → List Slot → List MO → Option (List Slot × List MO)
  as : List T → List MV → List Slot → List MO → Option (List Slot × List MO)
  s : S → List Slot → List MO → Option (Fl × List Slot × List MO)
  ss : List S → List Slot → List MO → Option (Fl × List Slot × List MO)
  wh : E → List S → List Slot → List MO → Option (Fl × List Slot × List MO)
  fr : T → It → List S → List Slot → List MO → Option (Fl × List Slot × List MO)
  co : E → CTg → List E → It → Nat → List Slot → List MO → Option (List MO)
  co2 : E → CTg → CTg → E → It → Nat → List Slot → List MO → Option (List MO)
  call : MV → List MV → List MO → Option (MV × List MO)

noncomputable def Rec.nil : Rec where
  n := 0
  e := fun _ _ _ => none
  es := fun _ _ _ => none
  eo := fun _ _ _ => none
  t := fun _ _ _ => none
  ts := fun _ _ _ _ => none
  a := fun _ _ _ _ => none
  as := fun _ _ _ _ => none
  s := fun _ _ _ => none
  ss := fun _ _ _ => none
  wh := fun _ _ _ _ => none
  fr := fun _ _ _ _ _ => none
  co := fun _ _ _ _ _ _ _ => none
  co2 := fun _ _ _ _ _ _ _ _ => none
  call := fun _ _ _ => none

noncomputable def Cst.mv : Cst → MV
  | .none => .none
  | .bool b => .bool b
  | .int i => .int i
  | .str l => .str l
  | .emp => .emp

noncomputable def notAny : MV → Bool
  | .any => false
  | _ => true
noncomputable def okAny (v : MV) : Option MV := cond (notAny v) (some v) none
/-- the built-in functions and types -/
noncomputable def lenR (σ : List MO) : Option MO → Option (MV × List MO)
  | some (.list xs) => cond (lenOk xs.length) (some (.int (xs.length : Int), σ)) none
  | _ => none
noncomputable def bLen (σ : List MO) : MV → Option (MV × List MO)
  | .str l => cond (lenOk l.length) (some (.int (l.length : Int), σ)) none
  | .ref i => lenR σ (at? σ i)
  | _ => none
noncomputable def isiR (σ : List MO) (c : Nat) : Option MO → Option (MV × List MO)
  | some (.inst k _) => cond (Nat.ble k 3 && Nat.ble c 3) (some (.bool (Nat.beq k c), σ)) none
  | _ => none
noncomputable def bIsi (σ : List MO) : MV → MV → Option (MV × List MO)
  | .ref i, .cls c => isiR σ c (at? σ i)
  | .int _, .bi .tuple => some (.bool false, σ)
  | .str _, .bi .tuple => some (.bool false, σ)
  | _, _ => none
noncomputable def bRange (σ : List MO) : MV → Option (MV × List MO)
  | .int (.ofNat n) => cond (lenOk n) (some (.rng 0 n, σ)) none
  | _ => none
noncomputable def bRange2 (σ : List MO) : MV → MV → Option (MV × List MO)
  | .int (.ofNat a), .int (.ofNat b) => cond (lenOk b && Nat.ble a b) (some (.rng a (b - a), σ)) none
  | _, _ => none
noncomputable def range12 (σ : List MO) : List MV → Option (MV × List MO)
  | [a] => bRange σ a
  | [a, b] => bRange2 σ a b
  | _ => none
/-- pairs of a text and a value -/
noncomputable def pairs : List MV → Option (List (List Nat × MV))
  | [] => some []
  | .tup [.str k, v] :: r => (pairs r).bind fun l => some ((k, v) :: l)
  | _ :: _ => none
noncomputable def distinct : List (List Nat × MV) → Bool
  | [] => true
  | p :: r => !hasS p.1 r && distinct r
noncomputable def bDictR (σ : List MO) : Option MO → Option (MV × List MO)
  | some (.list xs) => cond (Nat.ble xs.length 64) ((pairs xs).bind fun l => cond (distinct l) (some (.ref σ.length, σ ++ [.dict l])) none) none
  | _ => none
noncomputable def bDict (σ : List MO) : MV → Option (MV × List MO)
  | .ref i => bDictR σ (at? σ i)
  | _ => none
noncomputable def bList (σ : List MO) : MV → Option (MV × List MO)
  | .tup [] => some (.ref σ.length, σ ++ [.list []])
  | _ => none
noncomputable def bAbs (σ : List MO) : MV → Option (MV × List MO)
  | .ab M r => some (.md M r, σ)
  | _ => none
noncomputable def bInt (σ : List MO) : MV → Option (MV × List MO)
  | .ab M r => some (.ab M r, σ)
  | _ => none
noncomputable def a1 (f : MV → Option (MV × List MO)) : List MV → Option (MV × List MO)
  | [a] => f a
  | _ => none
noncomputable def a2 (f : MV → MV → Option (MV × List MO)) : List MV → Option (MV × List MO)
  | [a, b] => f a b
  | _ => none
noncomputable def biCall (b : Bi) (as : List MV) (σ : List MO) : Option (MV × List MO) := match b with
  | .len => a1 (bLen σ) as
  | .range => range12 σ as
  | .isinstance => a2 (bIsi σ) as
  | .list => a1 (bList σ) as
  | .abs => a1 (bAbs σ) as
  | .int => a1 (bInt σ) as
  | .dict => a1 (bDict σ) as
  | _ => none

noncomputable def popL : List MV → Option (List MV × MV)
  | [] => none
  | x :: r => (match popL r with
    | some p => some (x :: p.1, p.2)
    | none => some ([], x))
/-- the methods of the built-in types -/
noncomputable def mList (σ : List MO) (i : Nat) (xs : List MV) : Nat → List MV → Option (MV × List MO)
  | 10 => a1 fun v => cond (lenOk xs.length) (some (.none, setAt (.list (xs ++ [v])) σ i)) none
  | 11 => fun as => (match as with
    | [] => cond (lenOk xs.length) ((popL xs).bind fun p => some (p.2, setAt (.list p.1) σ i)) none
    | _ => none)
  | _ => fun _ => none
noncomputable def mGet (σ : List MO) (kvs : List (List Nat × MV)) (d : MV) : MV → Option (MV × List MO)
  | .str k => some ((lkS k kvs).getD d, σ)
  | _ => none
noncomputable def mDict (σ : List MO) (kvs : List (List Nat × MV)) : Nat → List MV → Option (MV × List MO)
  | 12 => a2 fun k d => mGet σ kvs d k
  | _ => fun _ => none
noncomputable def joinS : List MV → Option (List Nat)
  | [] => some []
  | .str x :: r => (joinS r).bind fun y => some (x ++ y)
  | .chr c :: r => (joinS r).bind fun y => some (c :: y)
  | _ :: _ => none
noncomputable def joinR (σ : List MO) : Option MO → Option (MV × List MO)
  | some (.list xs) => cond (lenOk xs.length) ((joinS xs).bind fun x => cond (lenOk x.length) (some (.str x, σ)) none) none
  | _ => none
noncomputable def join1 (σ : List MO) : MV → Option (MV × List MO)
  | .ref i => joinR σ (at? σ i)
  | _ => none
/-- a sign taken out of a text -/
noncomputable def without (c : Nat) : List Nat → List Nat
  | [] => []
  | d :: r => cond (Nat.beq d c) (without c r) (d :: without c r)
noncomputable def sRepl (σ : List MO) (x : List Nat) : MV → MV → Option (MV × List MO)
  | .chr c, .emp => cond (lenOk x.length) (some (.str (without c x), σ)) none
  | _, _ => none
noncomputable def cntN (c : Nat) : List Nat → Nat
  | [] => 0
  | d :: r => cond (Nat.beq d c) (cntN c r + 1) (cntN c r)
noncomputable def sCount (σ : List MO) (x : List Nat) : MV → Option (MV × List MO)
  | .str y => (one y).bind fun c => some (.int (cntN c x : Int), σ)
  | _ => none
noncomputable def mStr (σ : List MO) (x : List Nat) : Nat → List MV → Option (MV × List MO)
  | 13 => (match x with | [] => a1 (join1 σ) | _ => fun _ => none)
  | 14 => a2 (sRepl σ x)
  | 16 => a1 fun v => sCount σ x v.wk
  | _ => fun _ => none
/-- the method that is meant, told ahead of the arguments -/
inductive Sel where
  | list | dict | str
  | own (f : Nat)
protected noncomputable def Sel.ctorIdx (x : Sel) : Nat := @Sel.casesOn (fun _ => Nat) x 0 1 2 (fun _ => 3)
noncomputable def selC (a : Nat) (c : Cl) : Option Sel := (lkN a c.meths).bind fun f => some (.own f)
noncomputable def selI (CT : List Cl) (k a : Nat) : Option MV → Option Sel
  | some _ => none
  | none => (at? CT k).bind (selC a)
noncomputable def selR (CT : List Cl) (a : Nat) : Option MO → Option Sel
  | some (.list _) => cond (Nat.beq a 10 || Nat.beq a 11) (some .list) none
  | some (.dict _) => cond (Nat.beq a 12) (some .dict) none
  | some (.inst k ats) => cond (Nat.ble a 19) (selI CT k a (lkN a ats)) none
  | _ => none
noncomputable def mSel (CT : List Cl) (σ : List MO) (a : Nat) : MV → Option Sel
  | .ref i => selR CT a (at? σ i)
  | .str _ => cond (Nat.ble 13 a && Nat.ble a 16) (some .str) none
  | _ => none
noncomputable def apL (σ : List MO) (i a : Nat) (as : List MV) : Option MO → Option (MV × List MO)
  | some (.list xs) => mList σ i xs a as
  | _ => none
noncomputable def apD (σ : List MO) (a : Nat) (as : List MV) : Option MO → Option (MV × List MO)
  | some (.dict kvs) => mDict σ kvs a as
  | _ => none
noncomputable def apLv (σ : List MO) (a : Nat) (as : List MV) : MV → Option (MV × List MO)
  | .ref i => apL σ i a as (at? σ i)
  | _ => none
noncomputable def apDv (σ : List MO) (a : Nat) (as : List MV) : MV → Option (MV × List MO)
  | .ref i => apD σ a as (at? σ i)
  | _ => none
noncomputable def apSv (σ : List MO) (a : Nat) (as : List MV) : MV → Option (MV × List MO)
  | .str x => mStr σ x a as
  | _ => none

noncomputable def cellR (σ : List MO) : Option MO → Option (MV × List MO)
  | some (.cell (some v)) => some (v, σ)
  | _ => none
noncomputable def getS (σ : List MO) : Option Slot → Option (MV × List MO)
  | some (.loc (some v)) => some (v, σ)
  | some (.glb v) => some (v, σ)
  | some (.cel k) => cellR σ (at? σ k)
  | some (.fre k) => cellR σ (at? σ k)
  | _ => none
noncomputable def cutR (σ : List MO) (a b : Option Nat) : Option MO → Option (MV × List MO)
  | some (.list xs) => cond (lenOk xs.length) (newL σ (cut xs a b)) none
  | _ => none
noncomputable def cutE (σ : List MO) (lo hi : Option (Option Nat)) : MV → Option (MV × List MO)
  | .str l => cond (lenOk l.length) (lo.bind fun a => hi.bind fun b => some (.str (cut l a b), σ)) none
  | .ref i => lo.bind fun a => hi.bind fun b => cutR σ a b (at? σ i)
  | .bl xs => lo.bind fun a => hi.bind fun b => cond (lenOk xs.length) (newL σ (cut xs a b)) none
  | _ => none
/-- a text from behind -/
noncomputable def revE (σ : List MO) (k : MV) : MV → Option (MV × List MO)
  | .str l => (match k with | .int (.negSucc 0) => cond (lenOk l.length) (some (.str l.reverse, σ)) none | _ => none)
  | _ => none
noncomputable def negE (x : MV × List MO) : Option (MV × List MO) := match x.1 with
  | .int i => some (.int (-i), x.2)
  | _ => none
noncomputable def okBase : E → Bool
  | .slc _ _ _ _ _ _ => true
  | .name _ _ => true
  | .sub _ _ _ => true
  | .attr _ _ _ => true
  | .cst _ _ _ => true
  | _ => false
noncomputable def isCst : E → Bool
  | .cst _ _ _ => true
  | _ => false
noncomputable def isLoc : Option Slot → Bool
  | some (.loc _) => true
  | _ => false
noncomputable def isCel : Option Slot → Bool
  | some (.cel _) => true
  | _ => false
/-- a target that no exchange would take -/
noncomputable def notLoc (sl : List Slot) : T → Bool
  | .name i _ => isCel (at? sl i)
  | .sub _ _ _ => true
  | _ => false
noncomputable def asgB (sl : List Slot) : T → E → Bool
  | .tup ts _ _, .tup es _ _ => es.all isCst || ts.any (notLoc sl)
  | _, .comp _ _ _ _ _ _ _ _ _ _ _ => false
  | _, .comp2 _ _ _ _ _ _ _ _ _ _ _ _ => false
  | _, .raw _ => false
  | _, _ => true
noncomputable def celOf : Slot → Option Nat
  | .cel k => some k
  | .fre k => some k
  | _ => none
noncomputable def cs1 (GV : List (Option MV)) (sl : List Slot) : CS → Option Slot
  | .loc => some (.loc none)
  | .out j => (at? sl j).bind fun x => (celOf x).bind fun k => some (.fre k)
  | .glb g => (at? GV g).bind fun x => x.bind fun v => some (.glb v)
noncomputable def csl (GV : List (Option MV)) (sl : List Slot) : List CS → Option (List Slot)
  | [] => some []
  | c :: cs => (cs1 GV sl c).bind fun x => (csl GV sl cs).bind fun y => some (x :: y)
noncomputable def isNid (w : Nat) : Option Slot → Bool
  | some (.nid w') => Nat.beq w w'
  | _ => false
noncomputable def apnd (ka : Nat) (v : MV) (σ : List MO) : Option MO → Option (List MO)
  | some (.list xs) => cond (lenOk xs.length) (some (setAt (.list (xs ++ [v])) σ ka)) none
  | _ => none
noncomputable def capt (sl : List Slot) : List Nat → Option (List Nat)
  | [] => some []
  | j :: js => (at? sl j).bind fun x => (celOf x).bind fun k => (capt sl js).bind fun y => some (k :: y)
noncomputable def notMethN (a : Nat) (c : Cl) : Bool := match lkN a c.meths with | none => true | some _ => false
noncomputable def notMeth (CT : List Cl) (k a : Nat) : Bool := ((at? CT k).map (notMethN a)).getD false
noncomputable def bndK (σ : List MO) (a : Nat) (c : Cl) : Option (MV × List MO) := (lkN a c.meths).bind fun _ => some (.any, σ)
noncomputable def attrB (CT : List Cl) (σ : List MO) (a : Nat) : Option MO → Option (MV × List MO)
  | some (.inst k ats) => cond (Nat.ble a 19) (match lkN a ats with
      | some v => cond (notMeth CT k a) ((okAny v).bind fun v => some (v, σ)) none
      | none => (at? CT k).bind (bndK σ a)) none
  | _ => none
noncomputable def attrE (CT : List Cl) (σ : List MO) (a : Nat) : MV → Option (MV × List MO)
  | .ref i => attrB CT σ a (at? σ i)
  | _ => none
section
variable (FT NF : List Fn) (CT : List Cl) (GV : List (Option MV)) (mm : Nat → List MV → List MO → Option ((MV × List MO) × Nat)) (r : Rec)
noncomputable def mApp (sel : Sel) (a : Nat) (v : MV) (as : List MV) (σ : List MO) : Option (MV × List MO) := match sel with
  | .list => apLv σ a (as.map MV.wk) v
  | .dict => apDv σ a (as.map MV.wk) v
  | .str => apSv σ a as v
  | .own f => r.call (.fn f) (v :: as.map MV.wk) σ

noncomputable def eSub (e i : E) (sl : List Slot) (σ : List MO) : Option (MV × List MO) :=
  (r.e e sl σ).bind fun x => (r.e i sl x.2).bind fun y => (subs y.2 x.1.wk y.1.wk).bind fun v => some (v, y.2)
noncomputable def eSlc (e : E) (lo hi st : Option E) (sl : List Slot) (σ : List MO) : Option (MV × List MO) := match st with
  | none => (r.e e sl σ).bind fun x => (r.eo lo sl x.2).bind fun y => (r.eo hi sl y.2).bind fun z => cutE z.2 (part y.1) (part z.1) x.1.wk
  | some e2 => match lo, hi with
    | none, none => (r.e e sl σ).bind fun x => (r.e e2 sl x.2).bind fun y => revE y.2 y.1 x.1.wk
    | _, _ => none
noncomputable def eBin (l : E) (op : Operator) (rr : E) (sl : List Slot) (σ : List MO) : Option (MV × List MO) :=
  (r.e l sl σ).bind fun x => (r.e rr sl x.2).bind fun y => binop y.2 op x.1.wk y.1.wk
noncomputable def eCmp (l : E) (op : CmpOp) (rr : E) (sl : List Slot) (σ : List MO) : Option (Bool × List MO) :=
  (r.e l sl σ).bind fun x => (r.e rr sl x.2).bind fun y => (cmpop y.2 op x.1.wk y.1.wk).bind fun b => some (b, y.2)
noncomputable def eMeth (o : E) (a : Nat) (as : List E) (sl : List Slot) (σ : List MO) : Option (MV × List MO) :=
  (r.e o sl σ).bind fun x => (mSel CT x.2 a x.1.wk).bind fun m => (r.es as sl x.2).bind fun y => mApp r m a x.1.wk y.1 y.2
noncomputable def biAt : Option Slot → Option Bi
  | some (.glb (.bi b)) => some b
  | _ => none
noncomputable def srcG (e : E) (sl : List Slot) (σ : List MO) : Option (It × List MO) := (r.e e sl σ).bind fun x => (It.of x.2 x.1.wk).bind fun t => some (t, x.2)
noncomputable def isNm : T → Bool
  | .name _ _ => true
  | _ => false
noncomputable def eCompG (run : It → Nat → List Slot → List MO → Option (List MO)) (it : E) (w jn : Nat) (cs : List CS) (sl : List Slot) (σ : List MO) : Option (MV × List MO) :=
  cond (isNid w (at? sl jn)) ((srcG r it sl σ).bind fun x => (csl GV sl cs).bind fun c =>
    (run x.1 x.2.length c (x.2 ++ [.list []])).bind fun y => some (.ref x.2.length, y)) none
noncomputable def eCall (i : Nat) (as : List E) (sl : List Slot) (σ : List MO) : Option (MV × List MO) :=
  (getS σ (at? sl i)).bind fun x => (r.es as sl x.2).bind fun y => r.call x.1 (y.1.map MV.wk) y.2
/-! the match on the code is kept apart from what is walked with: the kernel keeps its answer -/
structure BxE where
  f : Rec → List Slot → List MO → Option (MV × List MO)
noncomputable def fE (e : E) : BxE := match e with
  | .name i _ => ⟨fun r sl σ => getS σ (at? sl i)⟩
  | .cst c _ _ => ⟨fun r sl σ => some (c.mv, σ)⟩
  | .tup es _ _ => ⟨fun r sl σ => (r.es es sl σ).bind fun x => cond (lenOk x.1.length) (some (.tup (x.1.map MV.wk), x.2)) none⟩
  | .list es _ => ⟨fun r sl σ => (r.es es sl σ).bind fun x => newL x.2 (x.1.map MV.wk)⟩
  | .dict0 _ => ⟨fun r sl σ => some (.ref σ.length, σ ++ [.dict []])⟩
  | .sub e i _ => ⟨fun r sl σ => eSub r e i sl σ⟩
  | .slc e lo hi st _ _ => ⟨fun r sl σ => eSlc r e lo hi st sl σ⟩
  | .attr e a _ => ⟨fun r sl σ => cond (okBase e) ((r.e e sl σ).bind fun x => attrE CT x.2 a x.1) none⟩
  | .bin l op rr _ => ⟨fun r sl σ => eBin r l op rr sl σ⟩
  | .neg e _ => ⟨fun r sl σ => (r.e e sl σ).bind negE⟩
  | .not _ _ => ⟨fun r sl σ => none⟩
  | .boo _ _ _ => ⟨fun r sl σ => none⟩
  | .cmp l op rr _ => ⟨fun r sl σ => (eCmp r l op rr sl σ).bind fun x => some (.bool x.1, x.2)⟩
  | .ite t b o _ => ⟨fun r sl σ => (r.t t sl σ).bind fun x => cond x.1 (r.e b sl x.2) (r.e o sl x.2)⟩
  | .call i _ as _ => ⟨fun r sl σ => eCall r i as sl σ⟩
  | .raw _ => ⟨fun r sl σ => none⟩
  | .meth o a as _ _ _ => ⟨fun r sl σ => cond (okBase o && Nat.ble as.length 20) (eMeth CT r o a as sl σ) none⟩
  | .comp elt ct it ifs _ w jn cs _ _ _ => ⟨fun r sl σ => eCompG GV r (r.co elt ct ifs) it w jn cs sl σ⟩
  | .comp2 elt ct it ct2 it2 _ w jn cs _ _ _ => ⟨fun r sl σ => eCompG GV r (r.co2 elt ct ct2 it2) it w jn cs sl σ⟩
noncomputable def stepE (e : E) (sl : List Slot) (σ : List MO) : Option (MV × List MO) := (fE CT GV e).f r sl σ
structure BxL where
  f : Rec → List Slot → List MO → Option (List MV × List MO)
noncomputable def fEs (es : List E) : BxL := match es with
  | [] => ⟨fun _ _ σ => some ([], σ)⟩
  | e :: es => ⟨fun r sl σ => (r.e e sl σ).bind fun x => (r.es es sl x.2).bind fun y => some (x.1 :: y.1, y.2)⟩
noncomputable def stepEs (es : List E) (sl : List Slot) (σ : List MO) : Option (List MV × List MO) := (fEs es).f r sl σ
noncomputable def stepEo (e : Option E) (sl : List Slot) (σ : List MO) : Option (MV × List MO) := match e with
  | none => some (.none, σ)
  | some e => r.e e sl σ
noncomputable def truth (x : MV × List MO) : Option (Bool × List MO) := match x.1 with
  | .bool b => some (b, x.2)
  | _ => none
structure BxT where
  f : Rec → List Slot → List MO → Option (Bool × List MO)
noncomputable def fT (e : E) : BxT := match e with
  | .not e _ => ⟨fun r sl σ => (r.t e sl σ).bind fun x => some (!x.1, x.2)⟩
  | .boo op es _ => ⟨fun r sl σ => r.ts op es sl σ⟩
  | .cmp l op rr _ => ⟨fun r sl σ => eCmp r l op rr sl σ⟩
  | .ite _ _ _ _ => ⟨fun r sl σ => none⟩
  | e => ⟨fun r sl σ => (r.e e sl σ).bind truth⟩
noncomputable def stepT (e : E) (sl : List Slot) (σ : List MO) : Option (Bool × List MO) := (fT e).f r sl σ
noncomputable def tsN (op : BoolOp) (es : List E) (sl : List Slot) (x : Bool × List MO) : Option (Bool × List MO) := match op with
  | .And => cond x.1 (r.ts op es sl x.2) (some (false, x.2))
  | .Or => cond x.1 (some (true, x.2)) (r.ts op es sl x.2)
noncomputable def tsE : BoolOp → Bool
  | .And => true
  | .Or => false
noncomputable def fTs (op : BoolOp) (es : List E) : BxT := match es with
  | [] => ⟨fun _ _ σ => some (tsE op, σ)⟩
  | e :: es => ⟨fun r sl σ => (r.t e sl σ).bind (tsN r op es sl)⟩
noncomputable def stepTs (op : BoolOp) (es : List E) (sl : List Slot) (σ : List MO) : Option (Bool × List MO) := (fTs op es).f r sl σ
noncomputable def putCell (sl : List Slot) (σ : List MO) (k : Nat) (v : MV) : Option MO → Option (List Slot × List MO)
  | some (.cell _) => some (sl, setAt (.cell (some v)) σ k)
  | _ => none
noncomputable def putSl (i : Nat) (v : MV) (sl : List Slot) (σ : List MO) : Option Slot → Option (List Slot × List MO)
  | some (.loc _) => some (setAt (.loc (some v)) sl i, σ)
  | some (.cel k) => putCell sl σ k v (at? σ k)
  | _ => none
noncomputable def putAt (CT : List Cl) (i a : Nat) (v : MV) (σ : List MO) : Option MO → Option (List MO)
  | some (.inst k ats) => cond (Nat.ble a 19 && Nat.ble ats.length 900) (cond (notMeth CT k a) (some (setAt (.inst k (putN a v ats)) σ i)) none) none
  | _ => none
noncomputable def putA (CT : List Cl) (a : Nat) (v : MV) (σ : List MO) : MV → Option (List MO)
  | .ref i => putAt CT i a v σ (at? σ i)
  | _ => none
noncomputable def putIt (k : Nat) (v : MV) (σ : List MO) (i : MV) : Option MO → Option (List MO)
  | some (.dict kvs) => (match i with
    | .str s => cond (lenOk kvs.length) (some (setAt (.dict (putS s v kvs)) σ k)) none
    | _ => none)
  | _ => none
noncomputable def putI (v : MV) (σ : List MO) (i : MV) : MV → Option (List MO)
  | .ref k => putIt k v σ i (at? σ k)
  | _ => none
noncomputable def asTup (ts : List T) (sl : List Slot) (σ : List MO) : MV → Option (List Slot × List MO)
  | .tup vs => cond (Nat.beq ts.length vs.length) (r.as ts vs sl σ) none
  | _ => none
structure BxA where
  f : Rec → MV → List Slot → List MO → Option (List Slot × List MO)
noncomputable def fA (t : T) : BxA := match t with
  | .name i _ => ⟨fun r v sl σ => putSl i v sl σ (at? sl i)⟩
  | .tup ts _ _ => ⟨fun r v sl σ => asTup r ts sl σ v⟩
  | .attr o a _ => ⟨fun r v sl σ => (r.e o sl σ).bind fun x => (putA CT a v.wk x.2 x.1).bind fun s => some (sl, s)⟩
  | .sub o i _ => ⟨fun r v sl σ => (r.e o sl σ).bind fun x => (r.e i sl x.2).bind fun y => (putI v.wk y.2 y.1.wk x.1).bind fun s => some (sl, s)⟩
noncomputable def stepA (t : T) (v : MV) (sl : List Slot) (σ : List MO) : Option (List Slot × List MO) := (fA CT t).f r v sl σ
noncomputable def stepAs (ts : List T) (vs : List MV) (sl : List Slot) (σ : List MO) : Option (List Slot × List MO) := match ts with
  | [] => (match vs with | [] => some (sl, σ) | _ => none)
  | t :: ts => (match vs with | v :: vs => (r.a t v sl σ).bind fun x => r.as ts vs x.1 x.2 | [] => none)
noncomputable def sAug (i : Nat) (op : Operator) (e : E) (sl : List Slot) (σ : List MO) : Option (Fl × List Slot × List MO) :=
  (getS σ (at? sl i)).bind fun x => (r.e e sl x.2).bind fun y => (iop op x.1 y.1).bind fun v => (putSl i v sl y.2 (at? sl i)).bind fun z => some (.next, z)
noncomputable def sAugA (o : E) (a : Nat) (op : Operator) (e : E) (sl : List Slot) (σ : List MO) : Option (Fl × List Slot × List MO) :=
  (r.e o sl σ).bind fun x => (attrE CT x.2 a x.1).bind fun w => (r.e e sl w.2).bind fun y => (iop op w.1 y.1).bind fun v => (putA CT a v y.2 x.1).bind fun s => some (.next, sl, s)
noncomputable def putLoc (i : Nat) (v : MV) (sl : List Slot) : Option Slot → Option (List Slot)
  | some (.loc _) => some (setAt (.loc (some v)) sl i)
  | _ => none
noncomputable def putLocs : List (Nat × Pos) → List MV → List Slot → Option (List Slot)
  | [], vs, sl => (match vs with | [] => some sl | _ => none)
  | p :: ps, vs, sl => (match vs with | v :: vs => (putLoc p.1 v sl (at? sl p.1)).bind fun x => putLocs ps vs x | [] => none)
/-- a value that a fold would not take for one of constants alone -/
noncomputable def ncst : Nat → E → Bool
  | 0, _ => false
  | n + 1, e => (match e with
    | .tup es _ _ => es.any (ncst n)
    | .call _ _ _ _ => true
    | .list _ _ => true
    | .slc _ _ _ _ _ _ => true
    | .meth _ _ _ _ _ _ => true
    | _ => false)
/-- a name that stands in a slot -/
noncomputable def nmB (sl : List Slot) : Nat → E → Bool
  | 0, _ => false
  | n + 1, e => (match e with
    | .name i _ => (at? sl i).isSome
    | .sub e _ _ => nmB sl n e
    | _ => false)
noncomputable def lineOf (is : List (Nat × Pos)) : Nat := (is.head?.map (·.2.line)).getD 0
noncomputable def fromNat (l : List (Nat × Pos)) (n : Nat) : Bool := l.all fun p => !Nat.beq p.1 n
noncomputable def ndB : List (Nat × Pos) → Bool
  | [] => true
  | p :: ps => fromNat ps p.1 && ndB ps
noncomputable def swpB (sl : List Slot) (is : List (Nat × Pos)) (es : List E) : Bool :=
  (Nat.beq is.length 2 || Nat.beq is.length 3) && Nat.beq es.length is.length && (es.any (ncst 8) || es.any (nmB sl 8)) && is.all (fun p => Nat.beq p.2.line (lineOf is)) && ndB is
noncomputable def allLoc (sl : List Slot) (is : List (Nat × Pos)) : Bool := is.all fun p => isLoc (at? sl p.1)
noncomputable def sSwp (is : List (Nat × Pos)) (es : List E) (sl : List Slot) (σ : List MO) : Option (Fl × List Slot × List MO) :=
  (r.es es sl σ).bind fun x => (putLocs is.reverse (x.1.map MV.wk).reverse sl).bind fun y => some (.next, y, x.2)
noncomputable def sAsgC (i : Nat) (e : E) (sl : List Slot) (σ : List MO) : Option (Fl × List Slot × List MO) := match e with
  | .comp elt ct it ifs _ w jn cs _ _ _ => (eCompG GV r (r.co elt ct ifs) it w jn cs sl σ).bind fun x => (putLoc i x.1 sl (at? sl i)).bind fun y => some (.next, y, x.2)
  | _ => none
noncomputable def sFdef (i k : Nat) (sl : List Slot) (σ : List MO) : Option Slot → Option (Fl × List Slot × List MO)
  | some (.nst i' k' cs) => cond (Nat.beq i i' && Nat.beq k k') ((capt sl cs).bind fun c => (putSl i (.clo k c) sl σ (at? sl i)).bind fun y => some (.next, y)) none
  | _ => none
noncomputable def exB : E → Bool
  | .comp _ _ _ _ _ _ _ _ _ _ _ => false
  | .comp2 _ _ _ _ _ _ _ _ _ _ _ _ => false
  | _ => true
noncomputable def sEx (sl : List Slot) (x : MV × List MO) : Option (Fl × List Slot × List MO) := match x.1 with
  | .none => some (.next, sl, x.2)
  | _ => none
structure BxS where
  f : Rec → List Slot → List MO → Option (Fl × List Slot × List MO)
noncomputable def fS (s : S) : BxS := match s with
  | .asg t e _ => ⟨fun r sl σ => cond (asgB sl t e) ((r.e e sl σ).bind fun x => (r.a t x.1 sl x.2).bind fun y => some (.next, y)) none⟩
  | .asgC i _ e _ => ⟨fun r sl σ => sAsgC GV r i e sl σ⟩
  | .swp is _ _ es _ _ _ => ⟨fun r sl σ => cond (swpB sl is es && allLoc sl is) (sSwp r is es sl σ) none⟩
  | .fdef i j k => ⟨fun r sl σ => sFdef i k sl σ (at? sl j)⟩
  | .aug i _ op e _ => ⟨fun r sl σ => sAug r i op e sl σ⟩
  | .augA o a _ op e _ => ⟨fun r sl σ => sAugA CT r o a op e sl σ⟩
  | .iff t b o _ => ⟨fun r sl σ => (r.t t sl σ).bind fun x => cond x.1 (r.ss b sl x.2) (r.ss o sl x.2)⟩
  | .whl t b _ => ⟨fun r sl σ => r.wh t b sl σ⟩
  | .fr t it b _ => ⟨fun r sl σ => (srcG r it sl σ).bind fun x => r.fr t x.1 b sl x.2⟩
  | .ret e _ => ⟨fun r sl σ => (r.e e sl σ).bind fun x => some (.ret x.1, sl, x.2)⟩
  | .brk _ => ⟨fun r sl σ => some (.brk, sl, σ)⟩
  | .ex e _ => ⟨fun r sl σ => cond (exB e) ((r.e e sl σ).bind (sEx sl)) none⟩
  | .raw _ => ⟨fun r sl σ => none⟩
noncomputable def stepS (s : S) (sl : List Slot) (σ : List MO) : Option (Fl × List Slot × List MO) := (fS CT GV s).f r sl σ
noncomputable def ssN (ss : List S) (x : Fl × List Slot × List MO) : Option (Fl × List Slot × List MO) := match x.1 with
  | .next => r.ss ss x.2.1 x.2.2
  | _ => some x
noncomputable def fSs (ss : List S) : BxS := match ss with
  | [] => ⟨fun _ sl σ => some (.next, sl, σ)⟩
  | s :: ss => ⟨fun r sl σ => (r.s s sl σ).bind (ssN r ss)⟩
noncomputable def stepSs (ss : List S) (sl : List Slot) (σ : List MO) : Option (Fl × List Slot × List MO) := (fSs ss).f r sl σ
noncomputable def whN (t : E) (b : List S) (y : Fl × List Slot × List MO) : Option (Fl × List Slot × List MO) := match y.1 with
  | .next => r.wh t b y.2.1 y.2.2
  | .brk => some (.next, y.2)
  | .ret _ => some y
noncomputable def stepWh (t : E) (b : List S) (sl : List Slot) (σ : List MO) : Option (Fl × List Slot × List MO) :=
  (r.t t sl σ).bind fun x => cond x.1 ((r.ss b sl x.2).bind (whN r t b)) (some (.next, sl, x.2))
noncomputable def frN (t : T) (it : It) (b : List S) (y : Fl × List Slot × List MO) : Option (Fl × List Slot × List MO) := match y.1 with
  | .next => r.fr t it b y.2.1 y.2.2
  | .brk => some (.next, y.2)
  | .ret _ => some y
noncomputable def frG (t : T) (b : List S) (sl : List Slot) (σ : List MO) : Option (MV × It) → Option (Fl × List Slot × List MO)
  | none => some (.next, sl, σ)
  | some p => cond (isNm t) ((r.a t p.1 sl σ).bind fun x => (r.ss b x.1 x.2).bind (frN r t p.2 b)) none
noncomputable def stepFr (t : T) (it : It) (b : List S) (sl : List Slot) (σ : List MO) : Option (Fl × List Slot × List MO) := (it.next σ).bind (frG r t b sl σ)
/-- the slots of a comprehension as its target is set -/
noncomputable def ctSet (v : MV) (sl : List Slot) : CTg → List Slot
  | .one i _ => setAt (.loc (some v)) sl i
/-- a store spelt out -/
noncomputable def force {α : Type} (l : List MO) : (List MO → α) → α := List.rec (motive := fun _ => (List MO → α) → α) (fun k => k []) (fun a _ ih k => ih fun l => k (a :: l)) l
noncomputable def takeN (l : List MO) : Nat → List MO := List.rec (motive := fun _ => Nat → List MO) (fun _ => []) (fun a _ ih n => Bool.rec (a :: ih (Nat.sub n 1)) [] (Nat.beq n 0)) l
noncomputable def weakL : List MV → List MV := List.map fun v => match v with
  | .int i => .int i
  | _ => .any
/-- a value with its objects forgotten -/
noncomputable def weak : MV → MV
  | .tup vs => .tup (weakL vs)
  | v => v
noncomputable def gcT : MV → Bool
  | .none => true
  | .tup (.int _ :: _) => true
  | _ => false
noncomputable def ltB (n : Nat) (i : Nat) : Bool := Nat.blt i n
noncomputable def closedV (n : Nat) : Nat → MV → Bool
  | 0, _ => false
  | f + 1, v => (match v with
    | .tup vs => vs.all (closedV n f)
    | .ref i => ltB n i
    | .clo _ cs => cs.all (ltB n)
    | .bl _ => false
    | _ => true)
noncomputable def closedC (n : Nat) : Option MV → Bool
  | none => true
  | some v => closedV n 30 v
noncomputable def closedO (n : Nat) : MO → Bool
  | .list xs => xs.all (closedV n 30)
  | .inst _ ats => ats.all fun p => closedV n 30 p.2
  | .dict kvs => kvs.all fun p => closedV n 30 p.2
  | .cell v => closedC n v
/-- what came about is let go, where nothing leans on it -/
noncomputable def gcK {α : Type} (n : Nat) (z : MV × List MO) (k : MV → List MO → Option α) : Option α :=
  cond (gcT z.1) (force (takeN z.2 n) fun s => cond (s.all (closedO n)) (k (weak z.1) s) (k z.1 z.2)) (k z.1 z.2)
noncomputable def coE (elt : E) (ct : CTg) (ifs : List E) (it : It) (ka : Nat) (sl : List Slot) (y : Bool × List MO) : Option (List MO) :=
  cond y.1 ((r.e elt sl y.2).bind fun z => gcK y.2.length z fun v s => (apnd ka v s (at? s ka)).bind fun s => r.co elt ct ifs it ka sl s) (r.co elt ct ifs it ka sl y.2)
noncomputable def coG (elt : E) (ct : CTg) (ifs : List E) (ka : Nat) (sl : List Slot) (σ : List MO) : Option (MV × It) → Option (List MO)
  | none => some σ
  | some p => (r.ts .And ifs (ctSet p.1 sl ct) σ).bind (coE r elt ct ifs p.2 ka (ctSet p.1 sl ct))
noncomputable def stepCo (elt : E) (ct : CTg) (ifs : List E) (it : It) (ka : Nat) (sl : List Slot) (σ : List MO) : Option (List MO) := (it.next σ).bind (coG r elt ct ifs ka sl σ)
noncomputable def co2G (elt : E) (ct ct2 : CTg) (it2 : E) (ka : Nat) (sl : List Slot) (σ : List MO) : Option (MV × It) → Option (List MO)
  | none => some σ
  | some p => (srcG r it2 (ctSet p.1 sl ct) σ).bind fun x => (r.co elt ct2 [] x.1 ka (ctSet p.1 sl ct) x.2).bind fun s => r.co2 elt ct ct2 it2 p.2 ka sl s
noncomputable def noLocB (sl : List Slot) : Bool := sl.all fun x => match x with
  | .loc (some _) => false
  | _ => true
noncomputable def stepCo2 (elt : E) (ct ct2 : CTg) (it2 : E) (it : It) (ka : Nat) (sl : List Slot) (σ : List MO) : Option (List MO) := cond (noLocB sl) ((it.next σ).bind (co2G r elt ct ct2 it2 ka sl σ)) none
noncomputable def con (x : Slot) (y : List Slot × List MO) : Option (List Slot × List MO) := some (x :: y.1, y.2)
/-- the slots of a function as it is entered -/
noncomputable def mkSl : Nat → List FS → List MV → List Nat → List MO → Option (List Slot × List MO)
  | np, [], vs, _, σ => (match np with | 0 => (match vs with | [] => some ([], σ) | _ => none) | _ => none)
  | np, f :: fs, vs, cs, σ => (match np with
    | 0 => (match f with
      | .loc => (mkSl 0 fs vs cs σ).bind (con (.loc none))
      | .cel => (mkSl 0 fs vs cs (σ ++ [.cell none])).bind (con (.cel σ.length))
      | .glb v => (mkSl 0 fs vs cs σ).bind (con (.glb v))
      | .fre j => (at? cs j).bind fun k => (mkSl 0 fs vs cs σ).bind (con (.fre k))
      | .nst i k js => (mkSl 0 fs vs cs σ).bind (con (.nst i k js))
      | .nid w => (mkSl 0 fs vs cs σ).bind (con (.nid w))
      | .unk => (mkSl 0 fs vs cs σ).bind (con .unk))
    | n + 1 => (match vs with
      | [] => none
      | v :: vs => (match f with
        | .loc => (mkSl n fs vs cs σ).bind (con (.loc (some v)))
        | .cel => (mkSl n fs vs cs (σ ++ [.cell (some v)])).bind (con (.cel σ.length))
        | _ => none)))
noncomputable def retN (x : Fl × List Slot × List MO) : Option (MV × List MO) := match x.1 with
  | .ret v => some (v, x.2.2)
  | .next => some (.none, x.2.2)
  | .brk => none
noncomputable def callFn (fn : Fn) (as : List MV) (cs : List Nat) (σ : List MO) : Option (MV × List MO) :=
  (mkSl fn.np fn.slots as cs σ).bind fun x => (r.ss fn.body x.1 x.2).bind retN
noncomputable def iniN (k : Nat) (x : MV × List MO) : Option (MV × List MO) := match x.1 with
  | .none => some (.ref k, x.2)
  | _ => none
noncomputable def callCl (k : Nat) (c : Cl) (as : List MV) (σ : List MO) : Option (MV × List MO) :=
  (c.ini).bind fun fi => (r.call (.fn fi) (.ref σ.length :: as) (σ ++ [.inst k []])).bind (iniN σ.length)
noncomputable def memoN (n : Nat) (p : (MV × List MO) × Nat) : Option (MV × List MO) := cond (Nat.ble p.2 n) (some p.1) none
noncomputable def callK (k : Nat) (as : List MV) (σ : List MO) : Option ((MV × List MO) × Nat) → Option (MV × List MO)
  | some p => memoN r.n p
  | none => (at? FT k).bind fun fn => callFn r fn as [] σ
noncomputable def stepCall (f : MV) (as : List MV) (σ : List MO) : Option (MV × List MO) := match f with
  | .fn k => callK FT r k as σ (mm k as σ)
  | .clo k cs => (at? NF k).bind fun fn => callFn r fn as cs σ
  | .cls k => (at? CT k).bind fun c => callCl r k c as σ
  | .bi b => biCall b as σ
  | _ => none
noncomputable def step : Rec where
  n := r.n + 1
  e := stepE CT GV r
  es := stepEs r
  eo := stepEo r
  t := stepT r
  ts := stepTs r
  a := stepA CT r
  as := stepAs r
  s := stepS CT GV r
  ss := stepSs r
  wh := stepWh r
  fr := stepFr r
  co := stepCo r
  co2 := stepCo2 r
  call := stepCall FT NF CT mm r
end
noncomputable def run (FT NF : List Fn) (CT : List Cl) (GV : List (Option MV)) (mm : Nat → List MV → List MO → Option ((MV × List MO) × Nat)) : Nat → Rec
  | n => Nat.rec (motive := fun _ => Rec) .nil (fun _ r => step FT NF CT GV mm r) n
end Mine

open PySem PyProof.Rows
namespace Mine
set_option autoImplicit false
set_option backward.match.sparseCases false
/-- no run takes back a token -/
theorem runs_toks {M : Model} {Γ : Ctx} {p : Pos} {t : Sem Fin} {fs : List Frame} {s s' : Shared} {e : End} (h : Runs M Γ p t fs s e s') : s.toks ≤ s'.toks := by
  induction h <;> (try dsimp only [Shared.setGen] at *) <;> first | exact Nat.le_refl _ | assumption | omega
theorem wakes_toks {M : Model} {Γ : Ctx} {p : Pos} {g : Nat} {r : Resume} {s s' : Shared} {res : GenResult} (h : Wakes M Γ p g r s res s') : s.toks ≤ s'.toks := by
  unfold Wakes at h
  split at h
  · exact h.elim
  · split at h
    · obtain ⟨e, s₁, h1, _, _, rfl⟩ := h; exact (show (s.setGen g .running).toks ≤ s₁.toks from runs_toks h1)
    · rw [h.2]; exact Nat.le_refl _
    · rw [h.2]; exact Nat.le_refl _
  · obtain ⟨e, s₁, h1, _, _, rfl⟩ := h; exact (show (s.setGen g .running).toks ≤ s₁.toks from runs_toks h1)
  · rw [h.2]; exact Nat.le_refl _
  · rw [h.2]; exact Nat.le_refl _
theorem wp_toks {α : Type} {M : Model} {Γ : Ctx} {n : Nat} {t : Sem α} : ∀ {Q : α → Pos → Shared → Prop} {E : Value → Pos → Shared → Prop} {p : Pos} {s : Shared}, n ≤ s.toks →
    Sem.wp M Γ t (fun a p' s' => n ≤ s'.toks → Q a p' s') E p s → Sem.wp M Γ t Q E p s := by
  induction t with
  | call c h g l k ih =>
    intro Q E p s hn w
    rw [Sem.wp_call] at w ⊢
    obtain ⟨r, s', h1, h2⟩ := w
    exact ⟨r, s', h1, ih r (Nat.le_trans hn (runs_toks h1)) h2⟩
  | resume g r l k ih =>
    intro Q E p s hn w
    rw [Sem.wp_resume] at w ⊢
    obtain ⟨res, s', h1, h2⟩ := w
    exact ⟨res, s', h1, ih res (Nat.le_trans hn (wakes_toks h1)) h2⟩
  | load a part k ih =>
    intro Q E p s hn w
    rw [Sem.wp_load] at w ⊢
    obtain ⟨o, h1, h2⟩ := w
    exact ⟨o, h1, ih o hn h2⟩
  | update a part f k ih =>
    intro Q E p s hn w
    rw [Sem.wp_update] at w ⊢
    exact ⟨w.1, ih () hn w.2⟩
  | choose src m k ih =>
    intro Q E p s hn w
    rw [Sem.wp_choose] at w ⊢
    exact ⟨w.1, ih _ hn w.2⟩
  | genState g k ih =>
    intro Q E p s hn w
    rw [Sem.wp_genState] at w ⊢
    obtain ⟨st, h1, h2⟩ := w
    exact ⟨st, h1, ih _ hn h2⟩
  | fresh k ih =>
    intro Q E p s hn w
    rw [Sem.wp_fresh] at w ⊢
    exact ih _ (Nat.le_succ_of_le hn) w
  | pure a => intro Q E p s hn w; rw [Sem.wp_pure] at w ⊢; exact w hn
  | _ => intro Q E p s hn w; first | (simp only [Sem.wp] at w ⊢; rename_i ih; exact ih _ hn w) | (simp only [Sem.wp] at w ⊢; exact w) | (simp only [Sem.wp] at w)
theorem toksUp {α : Type} {M : Model} {A : Around} {t : Sem α} {Q : α → Shared → Prop} {E : Value → Shared → Prop} {s : Shared} (h : wpAny M A t (fun a s' => s.toks ≤ s'.toks → Q a s') E s) : wpAny M A t Q E s :=
  fun Γ p hΓ => wp_toks (Nat.le_refl _) (h Γ p hΓ)
theorem codeUp {M : Model} {A : Around} {c : Code} {R : Result → Shared → Prop} {s : Shared} (h : codeAny M A c (fun r s' => s.toks ≤ s'.toks → R r s') s) : codeAny M A c R s :=
  fun Γ p hc hA => let ⟨r, s', h1, h2⟩ := h Γ p hc hA; ⟨r, s', h1, h2 (runs_toks h1)⟩
end Mine

open PySem PySem.W PyProof.Rows PySem.Calls
namespace Mine
theorem no {α : Type} {x : α} (h : (none : Option α) = some x) : False := nomatch h
set_option autoImplicit false
set_option backward.match.sparseCases false
set_option linter.unusedVariables false

theorem eqL_cons (a b : Nat) (as bs : List Nat) : eqL (a :: as) (b :: bs) = (Nat.beq a b && eqL as bs) := by
  have h : eqL (a :: as) (b :: bs) = @Bool.rec (fun _ => Bool) false (eqL as bs) (Nat.beq a b) := rfl
  rw [h]; cases Nat.beq a b <;> rfl
theorem memN_cons (c a : Nat) (as : List Nat) : memN c (a :: as) = (Nat.beq a c || memN c as) := by
  have h : memN c (a :: as) = @Bool.rec (fun _ => Bool) (memN c as) true (Nat.beq a c) := rfl
  rw [h]; cases Nat.beq a c <;> rfl
theorem lkN_cons {α : Type} (k : Nat) (p : Nat × α) (r : List (Nat × α)) : lkN k (p :: r) = if Nat.beq p.1 k then some p.2 else lkN k r := by
  have h : lkN k (p :: r) = @Bool.rec (fun _ => Option α) (lkN k r) (some p.2) (Nat.beq p.1 k) := rfl
  rw [h]; cases Nat.beq p.1 k <;> rfl
theorem lkS_cons {α : Type} (k : List Nat) (p : List Nat × α) (r : List (List Nat × α)) : lkS k (p :: r) = if eqL p.1 k then some p.2 else lkS k r := by
  have h : lkS k (p :: r) = @Bool.rec (fun _ => Option α) (lkS k r) (some p.2) (eqL p.1 k) := rfl
  rw [h]; cases eqL p.1 k <;> rfl
theorem putN_cons (k : Nat) (v : MV) (p : Nat × MV) (r : List (Nat × MV)) : putN k v (p :: r) = if Nat.beq p.1 k then (k, v) :: r else p :: putN k v r := by
  have h : putN k v (p :: r) = @Bool.rec (fun _ => List (Nat × MV)) (p :: putN k v r) ((k, v) :: r) (Nat.beq p.1 k) := rfl
  rw [h]; cases Nat.beq p.1 k <;> rfl
/-! ## the ledger -/
noncomputable abbrev Led := List (Addr × Obj)
/-- the addresses of the objects of the store, and what all known tokens are below -/
structure Rho where
  l : List (Addr × Addr)
  cs : List Nat
  ls : List Nat
  fz : List Addr
noncomputable def Rho.app (ρ : Rho) (τ : List (Addr × Addr)) : Rho := ⟨ρ.l ++ τ, ρ.cs, ρ.ls, ρ.fz⟩
noncomputable abbrev Rho.add (ρ : Rho) (p : Addr × Addr) : Rho := ρ.app [p]
noncomputable def Rho.up (ρ : Rho) (n : Nat) : Rho := ⟨ρ.l, n :: ρ.cs, ρ.ls, ρ.fz⟩
noncomputable def Rho.ups (ρ : Rho) (ts : List Nat) : Rho := ⟨ρ.l, ts ++ ρ.cs, ρ.ls, ρ.fz⟩
noncomputable def Rho.upl (ρ : Rho) (n : Nat) : Rho := ⟨ρ.l, ρ.cs, n :: ρ.ls, ρ.fz⟩
structure Rho.le (ρ ρ' : Rho) : Prop where
  c : ∀ t ∈ ρ.cs, t ∈ ρ'.cs
  l : ∀ t ∈ ρ.ls, t ∈ ρ'.ls
  f : ρ'.fz = ρ.fz
theorem Rho.le.refl (ρ : Rho) : ρ.le ρ := ⟨fun _ h => h, fun _ h => h, rfl⟩
theorem Rho.le.trans {ρ ρ' ρ'' : Rho} (x : ρ.le ρ') (y : ρ'.le ρ'') : ρ.le ρ'' := ⟨fun t h => y.c t (x.c t h), fun t h => y.l t (x.l t h), y.f.trans x.f⟩
noncomputable abbrev tupO (ws : List Value) (n : Nat) : Obj := { cls := .type "tuple", data := .seq ws.toArray n }
/-- the table of the codes made within one code -/
structure Tb where
  c : Addr
  P : Addr
  pos : Pos
  qual : Str
/-- the free names of a code -/
noncomputable def frees (ns : Names) : List Str := (ns.filter (·.2 == .free)).map (·.1)
/-- what stands fast -/
structure St where
  K : Frag
  FA : Nat → Addr
  CA : Nat → Addr
  TB : List Tb
  BL : List (Addr × List Value)
  prog : Program
  w : World
variable (G : St)
noncomputable def pairsL (l : List (Addr × Addr)) : List Addr := l.flatMap fun p => [p.1, p.2]
noncomputable def pairsOf (ρ : Rho) : List Addr := pairsL ρ.l
noncomputable def mts (ρ : Rho) : List Addr := (G.TB.map (·.P) ++ ρ.fz) ++ pairsOf ρ
noncomputable def upd (a : Addr) (o' : Obj) (N : Led) : Led := N.map fun p => if p.1 = a then (a, o') else p

theorem mem_pairs {ρ : Rho} {i : Nat} {p : Addr × Addr} (h : ρ.l[i]? = some p) : p.1 ∈ pairsOf ρ ∧ p.2 ∈ pairsOf ρ := by
  have := List.mem_of_getElem? h
  constructor <;> exact List.mem_flatMap.mpr ⟨p, this, by simp⟩
theorem mem_mts {ρ : Rho} {i : Nat} {p : Addr × Addr} (h : ρ.l[i]? = some p) : p.1 ∈ mts G ρ ∧ p.2 ∈ mts G ρ :=
  ⟨List.mem_append_right _ (mem_pairs h).1, List.mem_append_right _ (mem_pairs h).2⟩
theorem mts_append (ρ : Rho) (τ : List (Addr × Addr)) : mts G (ρ.app τ) = mts G ρ ++ pairsL τ := by simp [mts, pairsOf, pairsL, Rho.app]
theorem mts_up (ρ : Rho) (n : Nat) : mts G (ρ.up n) = mts G ρ := rfl
theorem tab_mts {ρ : Rho} {t : Tb} (h : t ∈ G.TB) : t.P ∈ mts G ρ := List.mem_append_left _ (List.mem_append_left _ (List.mem_map_of_mem h))
theorem fz_mts {ρ : Rho} {a : Addr} (h : a ∈ ρ.fz) : a ∈ mts G ρ := List.mem_append_left _ (List.mem_append_right _ h)
theorem upd_mem {a : Addr} {o' : Obj} {N : Led} {q : Addr × Obj} (h : q ∈ N) (hn : q.1 ≠ a) : q ∈ upd a o' N :=
  List.mem_map.mpr ⟨q, h, by simp [hn]⟩
theorem upd_self {a : Addr} {o o' : Obj} {N : Led} (h : (a, o) ∈ N) : (a, o') ∈ upd a o' N :=
  List.mem_map.mpr ⟨(a, o), h, by simp⟩
theorem upd_map (a : Addr) (o' : Obj) (N : Led) : (upd a o' N).map (·.1) = N.map (·.1) := by
  unfold upd
  rw [List.map_map]
  apply List.map_congr_left
  intro p _
  by_cases h : p.1 = a <;> simp [h]
theorem upd_ne {a : Addr} {o' : Obj} {N : Led} (h : ∀ p ∈ N, p.1 ≠ a) : upd a o' N = N := by
  unfold upd
  conv => rhs; rw [← List.map_id N]
  apply List.map_congr_left
  intro p hp
  simp [h p hp]
theorem upd_Upd {a : Addr} {o o' : Obj} : ∀ {N : Led}, (N.map (·.1)).Nodup → (a, o) ∈ N → Upd a o o' N (upd a o' N)
  | [], _, h => nomatch h
  | p :: N, nd, h => by
    rw [List.map_cons, List.nodup_cons] at nd
    rcases List.mem_cons.mp h with e | h
    · subst e
      have hn : ∀ p ∈ N, p.1 ≠ a := fun p hp e => nd.1 (List.mem_map.mpr ⟨p, hp, e⟩)
      have : upd a o' ((a, o) :: N) = (a, o') :: N := by
        show (if a = a then (a, o') else (a, o)) :: upd a o' N = _
        rw [if_pos rfl, upd_ne hn]
      rw [this]
      exact .head hn
    · have hn : p.1 ≠ a := fun e => nd.1 (List.mem_map.mpr ⟨(a, o), h, e.symm⟩)
      have : upd a o' (p :: N) = p :: upd a o' N := by
        show (if p.1 = a then (a, o') else p) :: upd a o' N = _
        rw [if_neg hn]
      rw [this]
      exact .tail hn (upd_Upd nd.2 h)
theorem upd_UpdF {a : Addr} {o : Obj} : ∀ {N : Led}, (N.map (·.1)).Nodup → (a, o) ∈ N → UpdF a o N (fun o' => upd a o' N)
  | [], _, h => nomatch h
  | p :: N, nd, h => by
    rw [List.map_cons, List.nodup_cons] at nd
    rcases List.mem_cons.mp h with e | h
    · subst e
      have hn : ∀ p ∈ N, p.1 ≠ a := fun p hp e => nd.1 (List.mem_map.mpr ⟨p, hp, e⟩)
      have : (fun o' => upd a o' ((a, o) :: N)) = fun o' => (a, o') :: N := by
        funext o'
        show (if a = a then (a, o') else (a, o)) :: upd a o' N = _
        rw [if_pos rfl, upd_ne hn]
      rw [this]
      exact .head hn
    · have hn : p.1 ≠ a := fun e => nd.1 (List.mem_map.mpr ⟨(a, o), h, e.symm⟩)
      have : (fun o' => upd a o' (p :: N)) = fun o' => p :: upd a o' N := by
        funext o'
        show (if p.1 = a then (a, o') else p) :: upd a o' N = _
        rw [if_neg hn]
      rw [this]
      exact .tail hn (upd_UpdF nd.2 h)

/-! ## what a value stands for -/
noncomputable def biV : Bi → Value
  | .len => .builtin "len"
  | .isinstance => .builtin "isinstance"
  | .range => .type "range"
  | .list => .type "list"
  | .abs => .builtin "abs"
  | .int => .type "int"
  | .tuple => .type "tuple"
  | .dict => .type "dict"
noncomputable def rngO (a n : Nat) (t u v : Tok) : Obj := { cls := .type "range", data := .fields #[.int (a : Int) t, .int ((a : Int) + n) u, .int 1 v] }

section
mutual
inductive RV (N : Led) (ρ : Rho) : Value → MV → Prop
  | none : RV N ρ .none .none
  | bool (b : Bool) : RV N ρ (.bool b) (.bool b)
  | int (i : Int) (t : Tok) : RV N ρ (.int i t) (.int i)
  | str (l : List Nat) (t : Tok) : RV N ρ (.str ⟨l.toArray⟩ t) (.str l)
  | tup {a : Addr} {ws : List Value} {n : Nat} {vs : List MV} : (a, tupO ws n) ∈ N → a ∉ mts G ρ → RVs N ρ ws vs → RV N ρ (.ref a) (.tup vs)
  | ktup {a : Addr} {ws : List Value} {n : Nat} {vs : List MV} : G.K.lookup a = some (tupO ws n) → RVs N ρ ws vs → RV N ρ (.ref a) (.tup vs)
  | ref {i : Nat} {p : Addr × Addr} : ρ.l[i]? = some p → RV N ρ (.ref p.1) (.ref i)
  | fn (k : Nat) : RV N ρ (.ref (G.FA k)) (.fn k)
  | cls (k : Nat) : RV N ρ (.ref (G.CA k)) (.cls k)
  | bi (b : Bi) : RV N ρ (biV b) (.bi b)
  | rng {r : Addr} {a n : Nat} {t u v : Tok} : (r, rngO a n t u v) ∈ N → r ∉ mts G ρ → RV N ρ (.ref r) (.rng a n)
  | clo {g : Addr} {k : Nat} {cs : List Nat} {clos : List (Str × Addr)} {doc pm : Value} {c' : Addr} {ctv : Value} {oc : Obj} {vs : Array Value} {t : Tok} : (g, fnMade (cdAt k).name (cdAt k).qual (cdAt k).params (cdAt k).body (cdAt k).scope clos doc pm c' ctv) ∈ N → g ∉ mts G ρ →
      (c', oc) ∈ N → c' ∉ mts G ρ → oc.data = .fields vs → vs[1]? = some (.str (cdAt k).qual t) → clos.length = cs.length → clos.map (·.1) = frees (cdAt k).scope.names → (∀ (i : Nat) (c : Str × Addr), clos[i]? = some c → ∃ k', cs[i]? = some k' ∧ ρ.l[k']? = some (c.2, c.2)) → RV N ρ (.ref g) (.clo k cs)
  | bl {a : Addr} {ws : List Value} {xs : List MV} : (a, ws) ∈ G.BL → RVs N ρ ws xs → RV N ρ (.ref a) (.bl xs)
  | ab {i : Int} {t : Tok} {M r : Nat} : i.natAbs % M = r → RV N ρ (.int i t) (.ab M r)
  | md {x : Nat} {t : Tok} {M r : Nat} : x % M = r → RV N ρ (.int (x : Int) t) (.md M r)
  | chr {c : Nat} {t : Tok} : t ∈ ρ.cs → RV N ρ (.str ⟨[c].toArray⟩ t) (.chr c)
  | emp {t : Tok} : t ∈ ρ.ls → RV N ρ (.str ⟨[].toArray⟩ t) .emp
  | any (v : Value) : RV N ρ v .any
inductive RVs (N : Led) (ρ : Rho) : List Value → List MV → Prop
  | nil : RVs N ρ [] []
  | cons {w : Value} {ws : List Value} {v : MV} {vs : List MV} : RV N ρ w v → RVs N ρ ws vs → RVs N ρ (w :: ws) (v :: vs)
end

structure Ext (N : Led) (ρ : Rho) (N' : Led) (ρ' : Rho) : Prop where
  sub : ∀ q ∈ N, q.1 ∉ mts G ρ → q ∈ N'
  pre : ∃ t, ρ'.l = ρ.l ++ t
  bb : ρ.le ρ'
  fr : ∀ a ∈ mts G ρ', a ∈ mts G ρ ∨ ∀ o, (a, o) ∉ N
  old : ∀ a o, (a, o) ∈ N → ∃ o', (a, o') ∈ N'
variable {G}
theorem Ext.refl (G : St) (N : Led) (ρ : Rho) : Ext G N ρ N ρ := ⟨fun _ h _ => h, ⟨[], by simp⟩, Rho.le.refl _, fun _ h => .inl h, fun _ o h => ⟨o, h⟩⟩
theorem Ext.off {N N' : Led} {ρ ρ' : Rho} (x : Ext G N ρ N' ρ') {a : Addr} {o : Obj} (h : (a, o) ∈ N) (hn : a ∉ mts G ρ) : a ∉ mts G ρ' := fun h' =>
  (x.fr a h').elim hn fun f => f o h
theorem Ext.trans {N N' N'' : Led} {ρ ρ' ρ'' : Rho} (x : Ext G N ρ N' ρ') (y : Ext G N' ρ' N'' ρ'') : Ext G N ρ N'' ρ'' where
  sub q h hn := y.sub q (x.sub q h hn) (x.off (a := q.1) (o := q.2) h hn)
  pre := by
    obtain ⟨t, e⟩ := x.pre
    obtain ⟨u, e'⟩ := y.pre
    exact ⟨t ++ u, by rw [e', e, List.append_assoc]⟩
  bb := x.bb.trans y.bb
  fr a h := by
    rcases y.fr a h with h | h
    · exact x.fr a h
    · refine .inr fun o ho => ?_
      obtain ⟨o', h'⟩ := x.old a o ho
      exact h o' h'
  old a o h := by
    obtain ⟨o', h'⟩ := x.old a o h
    exact y.old a o' h'
theorem Ext.get {N N' : Led} {ρ ρ' : Rho} (x : Ext G N ρ N' ρ') {i : Nat} {p : Addr × Addr} (h : ρ.l[i]? = some p) : ρ'.l[i]? = some p := by
  obtain ⟨t, e⟩ := x.pre
  have := List.getElem?_eq_some_iff.mp h
  rw [e, List.getElem?_append_left this.1]; exact h

/-- the objects that a value may stand on -/
noncomputable def Good (o : Obj) : Prop := (∃ ws n, o.data = .seq ws n) ∨ (∃ fd, o.data = .func fd) ∨ (o.cls = .type "range" ∧ ∃ vs, o.data = .fields vs) ∨ ∃ vs x t, o.data = .fields vs ∧ vs[1]? = some (.str x t)
/-- what the values are borne on by -/
structure Tr (G : St) (N : Led) (ρ : Rho) (N' : Led) (ρ' : Rho) : Prop where
  sub : ∀ q ∈ N, q.1 ∉ mts G ρ → Good q.2 → q ∈ N' ∧ q.1 ∉ mts G ρ'
  pre : ∃ t, ρ'.l = ρ.l ++ t
  bb : ρ.le ρ'
theorem Tr.get {N N' : Led} {ρ ρ' : Rho} (x : Tr G N ρ N' ρ') {i : Nat} {p : Addr × Addr} (h : ρ.l[i]? = some p) : ρ'.l[i]? = some p := by
  obtain ⟨t, e⟩ := x.pre
  have := List.getElem?_eq_some_iff.mp h
  rw [e, List.getElem?_append_left this.1]; exact h
theorem Ext.tr {N N' : Led} {ρ ρ' : Rho} (x : Ext G N ρ N' ρ') : Tr G N ρ N' ρ' := ⟨fun q h hn _ => ⟨x.sub q h hn, x.off (a := q.1) (o := q.2) h hn⟩, x.pre, x.bb⟩
/-- the ledger grown, but for a few rows -/
structure ExtX (G : St) (ex : List Addr) (N : Led) (ρ : Rho) (N' : Led) (ρ' : Rho) : Prop where
  sub : ∀ q ∈ N, q.1 ∉ mts G ρ → q.1 ∉ ex → q ∈ N'
  pre : ∃ t, ρ'.l = ρ.l ++ t
  bb : ρ.le ρ'
  fr : ∀ a ∈ mts G ρ', a ∈ mts G ρ ∨ ∀ o, (a, o) ∉ N
  old : ∀ a o, (a, o) ∈ N → a ∉ ex → ∃ o', (a, o') ∈ N'
theorem Ext.toX {N N' : Led} {ρ ρ' : Rho} (x : Ext G N ρ N' ρ') (ex : List Addr) : ExtX G ex N ρ N' ρ' := ⟨fun q h hn _ => x.sub q h hn, x.pre, x.bb, x.fr, fun a o h _ => x.old a o h⟩
theorem ExtX.off {ex : List Addr} {N N' : Led} {ρ ρ' : Rho} (x : ExtX G ex N ρ N' ρ') {a : Addr} {o : Obj} (h : (a, o) ∈ N) (hn : a ∉ mts G ρ) : a ∉ mts G ρ' := fun h' =>
  (x.fr a h').elim hn fun f => f o h
theorem ExtX.tr {ex : List Addr} {N N' : Led} {ρ ρ' : Rho} (x : ExtX G ex N ρ N' ρ') (bad : ∀ a ∈ ex, ∀ o, (a, o) ∈ N → ¬ Good o) : Tr G N ρ N' ρ' :=
  ⟨fun q h hn g => ⟨x.sub q h hn fun he => bad q.1 he q.2 h g, x.off (a := q.1) (o := q.2) h hn⟩, x.pre, x.bb⟩
theorem ExtX.trans {ex : List Addr} {N N' N'' : Led} {ρ ρ' ρ'' : Rho} (x : ExtX G ex N ρ N' ρ') (hx : ∀ a o, (a, o) ∈ N → ∃ o', (a, o') ∈ N') (y : ExtX G ex N' ρ' N'' ρ'') : ExtX G ex N ρ N'' ρ'' where
  sub q h hn he := y.sub q (x.sub q h hn he) (x.off (a := q.1) (o := q.2) h hn) he
  pre := by
    obtain ⟨t, e⟩ := x.pre
    obtain ⟨u, e'⟩ := y.pre
    exact ⟨t ++ u, by rw [e', e, List.append_assoc]⟩
  bb := x.bb.trans y.bb
  fr a h := by
    rcases y.fr a h with h | h
    · exact x.fr a h
    · refine .inr fun o ho => ?_
      obtain ⟨o', h'⟩ := hx a o ho
      exact h o' h'
  old a o h he := by
    obtain ⟨o', h'⟩ := hx a o h
    exact y.old a o' h' he
theorem RV.monoT {N N' : Led} {ρ ρ' : Rho} (x : Tr G N ρ N' ρ') {v : Value} {m : MV} (h : RV G N ρ v m) : RV G N' ρ' v m :=
  RV.rec (motive_1 := fun v m _ => RV G N' ρ' v m) (motive_2 := fun vs ms _ => RVs G N' ρ' vs ms) .none .bool .int .str
    (fun h hn _ hs => .tup (x.sub _ h hn (.inl ⟨_, _, rfl⟩)).1 (x.sub _ h hn (.inl ⟨_, _, rfl⟩)).2 hs) (fun h _ hs => .ktup h hs) (fun h => .ref (x.get h)) .fn .cls .bi
    (fun h hn => .rng (x.sub _ h hn (.inr (.inr (.inl ⟨rfl, _, rfl⟩)))).1 (x.sub _ h hn (.inr (.inr (.inl ⟨rfl, _, rfl⟩)))).2)
    (fun h1 h2 h3 h4 h5 h6 h7 h9 h8 => .clo (x.sub _ h1 h2 (.inr (.inl ⟨_, rfl⟩))).1 (x.sub _ h1 h2 (.inr (.inl ⟨_, rfl⟩))).2 (x.sub _ h3 h4 (.inr (.inr (.inr ⟨_, _, _, h5, h6⟩)))).1 (x.sub _ h3 h4 (.inr (.inr (.inr ⟨_, _, _, h5, h6⟩)))).2 h5 h6 h7 h9 fun i c e => let ⟨k', e1, e2⟩ := h8 i c e; ⟨k', e1, x.get e2⟩)
    (fun h _ hs => .bl h hs) .ab .md (fun h => .chr (x.bb.c _ h)) (fun h => .emp (x.bb.l _ h)) .any .nil (fun _ _ h hs => .cons h hs) h
theorem RVs.nilv {N : Led} {ρ : Rho} {vs : List Value} (h : RVs G N ρ vs []) : vs = [] := by (first | exact (no h).elim | cases h); rfl
theorem RVs.uncons {N : Led} {ρ : Rho} {vs : List Value} {m : MV} {ms : List MV} (h : RVs G N ρ vs (m :: ms)) : ∃ u us, vs = u :: us ∧ RV G N ρ u m ∧ RVs G N ρ us ms := by cases h with | cons h hs => exact ⟨_, _, rfl, h, hs⟩
theorem RVs.monoT {N N' : Led} {ρ ρ' : Rho} (x : Tr G N ρ N' ρ') {vs : List Value} {ms : List MV} (h : RVs G N ρ vs ms) : RVs G N' ρ' vs ms := by
  induction ms generalizing vs with
  | nil => rw [h.nilv]; exact .nil
  | cons m ms ih => obtain ⟨_, _, rfl, h, hs⟩ := h.uncons; exact .cons (h.monoT x) (ih hs)
theorem RV.mono {N N' : Led} {ρ ρ' : Rho} (x : Ext G N ρ N' ρ') {v : Value} {m : MV} (h : RV G N ρ v m) : RV G N' ρ' v m := RV.monoT x.tr h
theorem RVs.mono {N N' : Led} {ρ ρ' : Rho} (x : Ext G N ρ N' ρ') {vs : List Value} {ms : List MV} (h : RVs G N ρ vs ms) : RVs G N' ρ' vs ms := RVs.monoT x.tr h
theorem RVs.length {N : Led} {ρ : Rho} {vs : List Value} {ms : List MV} (h : RVs G N ρ vs ms) : vs.length = ms.length := by
  induction ms generalizing vs with
  | nil => rw [h.nilv]; rfl
  | cons m ms ih => obtain ⟨_, _, rfl, h, hs⟩ := h.uncons; rw [List.length_cons, List.length_cons, ih hs]
theorem RVs.at {N : Led} {ρ : Rho} {vs : List Value} {ms : List MV} (h : RVs G N ρ vs ms) {i : Nat} {m : MV} (e : ms[i]? = some m) : ∃ v, vs[i]? = some v ∧ RV G N ρ v m := by
  induction ms generalizing vs i with
  | nil => simp at e
  | cons x ms ih =>
    obtain ⟨u, us, rfl, h, hs⟩ := h.uncons
    cases i with
    | zero => simp at e; exact ⟨u, by simp, e ▸ h⟩
    | succ i => obtain ⟨v, h1, h2⟩ := ih hs (i := i) (by simpa using e); exact ⟨v, by simpa using h1, h2⟩
theorem RVs.append {N : Led} {ρ : Rho} {vs vs' : List Value} {ms ms' : List MV} (h : RVs G N ρ vs ms) (y : RVs G N ρ vs' ms') : RVs G N ρ (vs ++ vs') (ms ++ ms') := by
  induction ms generalizing vs with
  | nil => rw [h.nilv]; exact y
  | cons x ms ih => obtain ⟨u, us, rfl, h, hs⟩ := h.uncons; exact .cons h (ih hs)
theorem at?_eq {α : Type} : ∀ (l : List α) (i : Nat), at? l i = l[i]?
  | [], i => by rw [List.getElem?_nil]; rfl
  | a :: l, 0 => rfl
  | a :: l, i + 1 => by rw [List.getElem?_cons_succ]; exact at?_eq l i
theorem setAt_eq {α : Type} (v : α) : ∀ (l : List α) (i : Nat), setAt v l i = l.set i v
  | [], i => rfl
  | a :: l, 0 => rfl
  | a :: l, i + 1 => by rw [List.set_cons_succ, ← setAt_eq v l i]; rfl
end
/-- what is known of a value, read off what it stands for -/
noncomputable def RVi (G : St) (N : Led) (ρ : Rho) (v : Value) : MV → Prop
  | .none => v = .none
  | .bool b => v = .bool b
  | .int i => ∃ t, v = .int i t
  | .str l => ∃ t, v = .str ⟨l.toArray⟩ t
  | .ref i => ∃ p, ρ.l[i]? = some p ∧ v = .ref p.1
  | .fn k => v = .ref (G.FA k)
  | .cls k => v = .ref (G.CA k)
  | .bi b => v = biV b
  | .ab M r => ∃ i t, i.natAbs % M = r ∧ v = .int i t
  | .chr c => ∃ (t : Tok), v = .str ⟨[c].toArray⟩ t ∧ t ∈ ρ.cs
  | .emp => ∃ (t : Tok), v = .str ⟨[].toArray⟩ t ∧ t ∈ ρ.ls
  | .md M r => ∃ (x : Nat) (t : Tok), x % M = r ∧ v = .int (x : Int) t
  | .bl xs => ∃ a ws, (a, ws) ∈ G.BL ∧ RVs G N ρ ws xs ∧ v = .ref a
  | .rng a n => ∃ r t u w, (r, rngO a n t u w) ∈ N ∧ r ∉ mts G ρ ∧ v = .ref r
  | _ => True
theorem RV.inv {G : St} {N : Led} {ρ : Rho} {v : Value} {m : MV} (h : RV G N ρ v m) : RVi G N ρ v m := by
  cases h with
  | none => rfl
  | bool b => rfl
  | int i t => exact ⟨t, rfl⟩
  | str l t => exact ⟨t, rfl⟩
  | tup h1 h2 h3 => trivial
  | ktup h1 h2 => trivial
  | ref h => exact ⟨_, h, rfl⟩
  | fn k => rfl
  | cls k => rfl
  | bi b => rfl
  | rng h1 h2 => exact ⟨_, _, _, _, h1, h2, rfl⟩
  | clo h1 => trivial
  | bl h1 h2 => exact ⟨_, _, h1, h2, rfl⟩
  | ab h => exact ⟨_, _, h, rfl⟩
  | md h => exact ⟨_, _, h, rfl⟩
  | chr h1 => exact ⟨_, rfl, h1⟩
  | emp h1 => exact ⟨_, rfl, h1⟩
  | any v => trivial
theorem RV.wk {G : St} {N : Led} {ρ : Rho} {v : Value} {m : MV} (h : RV G N ρ v m) : RV G N ρ v m.wk := by
  cases m <;> first | exact h | (obtain ⟨t, rfl, _⟩ := h.inv; exact .str _ _)
theorem RVs.wk {G : St} {N : Led} {ρ : Rho} {vs : List Value} {ms : List MV} (h : RVs G N ρ vs ms) : RVs G N ρ vs (ms.map MV.wk) := by
  induction ms generalizing vs with
  | nil => exact h
  | cons x ms ih => obtain ⟨u, us, rfl, h, hs⟩ := h.uncons; exact .cons h.wk (ih hs)
theorem a1_ok {G : St} {N : Led} {ρ : Rho} {f : MV → Option (MV × List MO)} {as : List MV} {vs : List Value} {r : MV × List MO} (e : a1 f as = some r) (hs : RVs G N ρ vs as) : ∃ v x, vs = [v] ∧ RV G N ρ v x ∧ f x = some r := by
  unfold a1 at e
  split at e
  · obtain ⟨_, _, rfl, h, hs⟩ := hs.uncons; rw [hs.nilv]; exact ⟨_, _, rfl, h, e⟩
  · (first | exact (no e).elim | cases e)
theorem a2_ok {G : St} {N : Led} {ρ : Rho} {f : MV → MV → Option (MV × List MO)} {as : List MV} {vs : List Value} {r : MV × List MO} (e : a2 f as = some r) (hs : RVs G N ρ vs as) : ∃ v x w y, vs = [v, w] ∧ RV G N ρ v x ∧ RV G N ρ w y ∧ f x y = some r := by
  unfold a2 at e
  split at e
  · obtain ⟨_, _, rfl, h, hs⟩ := hs.uncons; obtain ⟨_, _, rfl, h2, hs⟩ := hs.uncons; rw [hs.nilv]; exact ⟨_, _, _, _, rfl, h, h2, e⟩
  · (first | exact (no e).elim | cases e)
end Mine

open PySem PySem.W PyProof.Rows PySem.Calls
namespace Mine
set_option autoImplicit false
set_option backward.match.sparseCases false
set_option linter.unusedVariables false

section
variable (G : St)

inductive AR (N : Led) (ρ : Rho) : List DictEntry → List (Nat × MV) → Prop
  | nil : AR N ρ [] []
  | cons {h : Int} {a : Nat} {t : Tok} {v : Value} {mv : MV} {es : List DictEntry} {ats : List (Nat × MV)} : a < 20 → RV G N ρ v mv → AR N ρ es ats → AR N ρ (⟨h, .str (an a) t, v⟩ :: es) ((a, mv) :: ats)
inductive DR (N : Led) (ρ : Rho) : List (Str × Value) → List (List Nat × MV) → Prop
  | nil : DR N ρ [] []
  | cons {k : List Nat} {v : Value} {mv : MV} {es : List (Str × Value)} {kvs : List (List Nat × MV)} : RV G N ρ v mv → DR N ρ es kvs → DR N ρ ((⟨k.toArray⟩, v) :: es) ((k, mv) :: kvs)
inductive CR (N : Led) (ρ : Rho) : Option Value → Option MV → Prop
  | none : CR N ρ none none
  | some {v : Value} {mv : MV} : RV G N ρ v mv → CR N ρ (some v) (some mv)

noncomputable def NsOb (o : Obj) (m : Str → Option Value) : Prop := ∃ es ep, o.data = .dict es ep ∧ StrKeys es ∧ ∀ name, nsFind es name = m name
theorem NsOb.ns {h : Heap} {C : Addr} {o : Obj} {m : Str → Option Value} (x : NsOb o m) (e : h.get? C = some o) : h.Ns C m := let ⟨es, ep, hd, r⟩ := x; ⟨o, es, ep, e, hd, r⟩
theorem ns_ob {h : Heap} {C : Addr} {m : Str → Option Value} (x : h.Ns C m) : ∃ o, h.get? C = some o ∧ NsOb o m := let ⟨o, es, ep, e, hd, r⟩ := x; ⟨o, e, es, ep, hd, r⟩
noncomputable def strIt (l : List Nat) : String := if l.toArray.all (· < 128) then "str_ascii_iterator" else "str_iterator"
/-- what an iterator stands for -/
inductive IR (ρ : Rho) : Obj → It → Prop
  | rng (a n : Nat) : IR ρ { cls := .type "range_iterator", dict := none, data := .fields #[rawInt (a : Int), rawInt (n : Int), rawInt 1], slots := #[] } (.rng a n)
  | str {o : Obj} {l : List Nat} {k : Nat} {t : Tok} : o.cls = .type (strIt l) → o.data = .fields #[.str ⟨l.toArray⟩ t, .int k 0] → IR ρ o (.str l k (l.drop k))
  | lst {o : Obj} {i k : Nat} {p : Addr × Addr} : ρ.l[i]? = some p → o.cls = .type "list_iterator" → o.data = .fields #[.ref p.1, .int k 0] → IR ρ o (.lst i k)
/-- what an object of the store stands for -/
inductive OR (N : Led) (ρ : Rho) : Addr × Addr → MO → Prop
  | list {a : Addr} {ws : List Value} {n : Nat} {xs : List MV} : (a, listOf ws.toArray n) ∈ N → RVs G N ρ ws xs → OR N ρ (a, a) (.list xs)
  | inst {a d : Addr} {k : Nat} {es : List DictEntry} {n : Nat} {ats : List (Nat × MV)} : (a, instObj (G.CA k) d) ∈ N → (d, dictOf es n) ∈ N → AR G N ρ es ats → OR N ρ (a, d) (.inst k ats)
  | dict {a : Addr} {o : Obj} {es : List (Str × Value)} {kvs : List (List Nat × MV)} : (a, o) ∈ N → o.IsDictOf (strKind G.prog G.w) es → (a == sysModules) = false → DR G N ρ es kvs → OR N ρ (a, a) (.dict kvs)
  | cell {a : Addr} {o : Obj} {v : Option Value} {mv : Option MV} : (a, o) ∈ N → o.data = .cell v → CR G N ρ v mv → OR N ρ (a, a) (.cell mv)

/-- a table of codes: empty, or with the one code that is made there -/
noncomputable def TabRow (N : Led) (ρ : Rho) (t : Tb) : Prop := ∃ ps, (t.P, tabObj ps) ∈ N ∧ (ps = #[] ∨ ∃ c' oc vs u, ps = #[rawInt t.pos.line, rawInt t.pos.col, .ref c'] ∧ (c', oc) ∈ N ∧ c' ∉ mts G ρ ∧ oc.data = .fields vs ∧ vs[1]? = some (.str t.qual u))

/-- two pairs of addresses with nothing in common -/
noncomputable def Off2 (p q : Addr × Addr) : Prop := p.1 ≠ q.1 ∧ p.1 ≠ q.2 ∧ p.2 ≠ q.1 ∧ p.2 ≠ q.2

/-- the tokens that are known -/
structure TkOk (ρ : Rho) (tk : Nat) : Prop where
  pos : 0 < tk
  c : ∀ t ∈ ρ.cs, 0 < t ∧ t < tk
  l : ∀ t ∈ ρ.ls, 0 < t ∧ t < tk
  d : ∀ t ∈ ρ.cs, t ∉ ρ.ls
theorem TkOk.mono {ρ : Rho} {tk tk' : Nat} (h : TkOk ρ tk) (le : tk ≤ tk') : TkOk ρ tk' := ⟨Nat.lt_of_lt_of_le h.pos le, fun t ht => ⟨(h.c t ht).1, Nat.lt_of_lt_of_le (h.c t ht).2 le⟩, fun t ht => ⟨(h.l t ht).1, Nat.lt_of_lt_of_le (h.l t ht).2 le⟩, h.d⟩

structure Inv (h₀ : Heap) (L : Addr) (m : Str → Option Value) (N : Led) (ρ : Rho) (σ : List MO) (h : Heap) (tk : Nat) : Prop where
  F : Fr h₀ L h m
  W : News h₀ L h N
  nd : (N.map (·.1)).Nodup
  len : ρ.l.length = σ.length
  ap : ρ.l.Pairwise Off2
  so : ∀ (i : Nat) (mo : MO), σ[i]? = some mo → ∃ p, ρ.l[i]? = some p ∧ OR G N ρ p mo
  tb : ∀ t ∈ G.TB, TabRow G N ρ t
  bk : TkOk ρ tk
  fz : ∀ a ∈ ρ.fz, (∃ x y, (a, tupO [x, y] 0) ∈ N) ∧ a ∉ pairsOf ρ
end

section
variable {G : St} {h₀ h : Heap} {L : Addr} {m : Str → Option Value} {N : Led} {ρ : Rho} {σ : List MO} {tk tk' : Nat}

theorem AR.monoT {N' : Led} {ρ' : Rho} (x : Tr G N ρ N' ρ') {es : List DictEntry} {ats : List (Nat × MV)} (h : AR G N ρ es ats) : AR G N' ρ' es ats :=
  AR.rec (motive := fun es ats _ => AR G N' ρ' es ats) .nil (fun h1 h2 _ h3 => .cons h1 (h2.monoT x) h3) h
theorem DR.monoT {N' : Led} {ρ' : Rho} (x : Tr G N ρ N' ρ') {es : List (Str × Value)} {ats : List (List Nat × MV)} (h : DR G N ρ es ats) : DR G N' ρ' es ats :=
  DR.rec (motive := fun es ats _ => DR G N' ρ' es ats) .nil (fun h2 _ h3 => .cons (h2.monoT x) h3) h
theorem CR.monoT {N' : Led} {ρ' : Rho} (x : Tr G N ρ N' ρ') {v : Option Value} {mv : Option MV} (h : CR G N ρ v mv) : CR G N' ρ' v mv :=
  CR.rec (motive := fun v mv _ => CR G N' ρ' v mv) .none (fun h => .some (h.monoT x)) h
theorem IR.monoT {N' : Led} {ρ' : Rho} (x : Tr G N ρ N' ρ') {o : Obj} {it : It} (h : IR ρ o it) : IR ρ' o it :=
  IR.rec (motive := fun o it _ => IR ρ' o it) .rng .str (fun h1 h2 h3 => .lst (x.get h1) h2 h3) h
theorem AR.mono {N' : Led} {ρ' : Rho} (x : Ext G N ρ N' ρ') {es : List DictEntry} {ats : List (Nat × MV)} (h : AR G N ρ es ats) : AR G N' ρ' es ats := h.monoT x.tr
theorem DR.mono {N' : Led} {ρ' : Rho} (x : Ext G N ρ N' ρ') {es : List (Str × Value)} {ats : List (List Nat × MV)} (h : DR G N ρ es ats) : DR G N' ρ' es ats := h.monoT x.tr
theorem CR.mono {N' : Led} {ρ' : Rho} (x : Ext G N ρ N' ρ') {v : Option Value} {mv : Option MV} (h : CR G N ρ v mv) : CR G N' ρ' v mv := h.monoT x.tr
theorem IR.mono {N' : Led} {ρ' : Rho} (x : Ext G N ρ N' ρ') {o : Obj} {it : It} (h : IR ρ o it) : IR ρ' o it := h.monoT x.tr
/-- an object of the store is borne on where its own rows of the ledger stand -/
theorem OR.keepT {N' : Led} {ρ' : Rho} (x : Tr G N ρ N' ρ') {p : Addr × Addr} {mo : MO} (h : OR G N ρ p mo)
    (k : ∀ q ∈ N, q.1 = p.1 ∨ q.1 = p.2 → q ∈ N') : OR G N' ρ' p mo := by
  cases h with
  | list h1 h2 => exact .list (k _ h1 (.inl rfl)) (h2.monoT x)
  | inst h1 h2 h3 => exact .inst (k _ h1 (.inl rfl)) (k _ h2 (.inr rfl)) (h3.monoT x)
  | dict h1 h2 h0 h3 => exact .dict (k _ h1 (.inl rfl)) h2 h0 (h3.monoT x)
  | cell h1 h2 h3 => exact .cell (k _ h1 (.inl rfl)) h2 (h3.monoT x)
theorem OR.keep {N' : Led} {ρ' : Rho} (x : Ext G N ρ N' ρ') {p : Addr × Addr} {mo : MO} (h : OR G N ρ p mo)
    (k : ∀ q ∈ N, q.1 = p.1 ∨ q.1 = p.2 → q ∈ N') : OR G N' ρ' p mo := h.keepT x.tr k
theorem OR.mem {p : Addr × Addr} {mo : MO} (h : OR G N ρ p mo) : (∃ o, (p.1, o) ∈ N) ∧ ∃ o, (p.2, o) ∈ N := by
  cases h with
  | list h1 h2 => exact ⟨⟨_, h1⟩, ⟨_, h1⟩⟩
  | inst h1 h2 h3 => exact ⟨⟨_, h1⟩, ⟨_, h2⟩⟩
  | dict h1 => exact ⟨⟨_, h1⟩, ⟨_, h1⟩⟩
  | cell h1 h2 h3 => exact ⟨⟨_, h1⟩, ⟨_, h1⟩⟩
theorem nodup_row : ∀ {N : Led}, (N.map (·.1)).Nodup → ∀ {a : Addr} {o o' : Obj}, (a, o) ∈ N → (a, o') ∈ N → o = o'
  | [], _, _, _, _, h1, _ => nomatch h1
  | p :: N, nd, a, o, o', h1, h2 => by
    rw [List.map_cons, List.nodup_cons] at nd
    rcases List.mem_cons.mp h1 with e1 | h1 <;> rcases List.mem_cons.mp h2 with e2 | h2
    · have := e1.trans e2.symm; exact (Prod.mk.inj this).2
    · exact absurd (List.mem_map.mpr ⟨_, h2, by rw [← e1]⟩) nd.1
    · exact absurd (List.mem_map.mpr ⟨_, h1, by rw [← e2]⟩) nd.1
    · exact nodup_row nd.2 h1 h2
theorem OR.noTab {p : Addr × Addr} {mo : MO} (nd : (N.map (·.1)).Nodup) (h : OR G N ρ p mo) {a : Addr} {ps : Array Value} (ha : a = p.1 ∨ a = p.2) (hm : (a, tabObj ps) ∈ N) : False := by
  have one : ∀ {b : Addr} {o : Obj}, (b, o) ∈ N → a = b ∨ a = b → o = tabObj ps := fun h1 ha => by
    rcases ha with rfl | rfl <;> exact nodup_row nd h1 hm
  cases h with
  | list h1 h2 => exact absurd (congrArg Obj.cls (one h1 ha)) (by simp)
  | inst h1 h2 h3 =>
    rcases ha with rfl | rfl
    · exact absurd (congrArg Obj.cls (nodup_row nd h1 hm)) (by simp)
    · exact absurd (congrArg Obj.data (nodup_row nd h2 hm)) (by simp)
  | dict h1 h2 h0 h3 =>
    obtain ⟨es, ep, h4, h5, _⟩ := h2
    rw [one h1 ha] at h5; simp at h5
  | cell h1 h2 h3 => rw [one h1 ha] at h2; simp at h2
theorem TabRow.keepT {N' : Led} {ρ' : Rho} (x : Tr G N ρ N' ρ') {t : Tb} (h : TabRow G N ρ t) (k : ∀ q ∈ N, q.1 = t.P → q ∈ N') : TabRow G N' ρ' t := by
  obtain ⟨ps, h1, h2⟩ := h
  refine ⟨ps, k _ h1 rfl, h2.imp id ?_⟩
  rintro ⟨c', oc, vs, u, e, h3, h4, h5, h6⟩
  have g : Good oc := .inr (.inr (.inr ⟨_, _, _, h5, h6⟩))
  exact ⟨c', oc, vs, u, e, (x.sub _ h3 h4 g).1, (x.sub _ h3 h4 g).2, h5, h6⟩
theorem TabRow.keep {N' : Led} {ρ' : Rho} (x : Ext G N ρ N' ρ') {t : Tb} (h : TabRow G N ρ t) (k : ∀ q ∈ N, q.1 = t.P → q ∈ N') : TabRow G N' ρ' t := h.keepT x.tr k

noncomputable def Fresh (N : Led) (a : Addr) : Prop := ∀ p ∈ N, p.1 ≠ a
theorem Fresh.lt {N : Led} {a : Addr} (h : ∀ p ∈ N, p.1 < a) : Fresh N a := fun p hp => Nat.ne_of_lt (h p hp)
namespace Inv
theorem get (I : Inv G h₀ L m N ρ σ h tk) {i : Nat} {p : Addr × Addr} (e : ρ.l[i]? = some p) : ∃ mo, σ[i]? = some mo ∧ OR G N ρ p mo := by
  have hi := (List.getElem?_eq_some_iff.mp e).1
  rw [I.len] at hi
  obtain ⟨p', e', o⟩ := I.so i σ[i] (List.getElem?_eq_getElem hi)
  rw [e] at e'; (first | exact (no e').elim | cases e')
  exact ⟨_, List.getElem?_eq_getElem hi, o⟩
theorem mtsIn (I : Inv G h₀ L m N ρ σ h tk) {a : Addr} (ha : a ∈ mts G ρ) : ∃ o, (a, o) ∈ N := by
  rcases List.mem_append.mp ha with ha | ha
  · rcases List.mem_append.mp ha with ha | ha
    · obtain ⟨t, ht, rfl⟩ := List.mem_map.mp ha
      obtain ⟨ps, h, _⟩ := I.tb t ht
      exact ⟨_, h⟩
    · obtain ⟨⟨x, y, h⟩, _⟩ := I.fz a ha
      exact ⟨_, h⟩
  obtain ⟨p, hp, ha⟩ := List.mem_flatMap.mp ha
  obtain ⟨i, e⟩ := List.mem_iff_getElem?.mp hp
  obtain ⟨mo, _, o⟩ := I.get e
  rcases List.mem_cons.mp ha with rfl | ha
  · exact o.mem.1
  · rw [List.mem_singleton.mp ha]; exact o.mem.2
theorem mtsLt (I : Inv G h₀ L m N ρ σ h tk) {a : Addr} (ha : a ∈ mts G ρ) : a < h.objs.size := by
  obtain ⟨o, ho⟩ := I.mtsIn ha
  exact Heap.lt_size (I.W _ ho).1
theorem fresh (I : Inv G h₀ L m N ρ σ h tk) {a : Addr} (ha : h.objs.size ≤ a) : Fresh N a := fun p hm e => absurd (Heap.lt_size (I.W p hm).1) (Nat.not_lt.mpr (e ▸ ha))
theorem off (I : Inv G h₀ L m N ρ σ h tk) {a : Addr} (ha : Fresh N a) : a ∉ mts G ρ ∧ ∀ o, (a, o) ∉ N :=
  ⟨fun hm => let ⟨_, ho⟩ := I.mtsIn hm; ha _ ho rfl, fun _ hm => ha _ hm rfl⟩

/-- the heap grown, nothing new known -/
theorem grown (I : Inv G h₀ L m N ρ σ h tk) (le : tk ≤ tk') {h' : Heap} (F : Fr h₀ L h' m) (W : News h₀ L h' N) : Inv G h₀ L m N ρ σ h' tk' := ⟨F, W, I.nd, I.len, I.ap, I.so, I.tb, I.bk.mono le, I.fz⟩

/-- rows put ahead of the ledger -/
theorem more (I : Inv G h₀ L m N ρ σ h tk) (le : tk ≤ tk') {h' : Heap} {new : Led} (F : Fr h₀ L h' m) (W : News h₀ L h' (new ++ N)) (hn : (new.map (·.1)).Nodup) (hs : ∀ p ∈ new, Fresh N p.1) :
    Inv G h₀ L m (new ++ N) ρ σ h' tk' ∧ Ext G N ρ (new ++ N) ρ := by
  have x : Ext G N ρ (new ++ N) ρ := ⟨fun q hq _ => List.mem_append_right _ hq, ⟨[], by simp⟩, Rho.le.refl _, fun a ha => .inl ha, fun a o ha => ⟨o, List.mem_append_right _ ha⟩⟩
  refine ⟨⟨F, W, ?_, I.len, I.ap, fun i mo e => ?_, fun t ht => (I.tb t ht).keep x fun q hq _ => List.mem_append_right _ hq, I.bk.mono le, fun a ha => let ⟨⟨u, v, h⟩, hn⟩ := I.fz a ha; ⟨⟨u, v, List.mem_append_right _ h⟩, hn⟩⟩, x⟩
  · rw [List.map_append]
    refine List.nodup_append.mpr ⟨hn, I.nd, fun a ha b hb e => ?_⟩
    obtain ⟨p, hp, rfl⟩ := List.mem_map.mp ha
    obtain ⟨q, hq, rfl⟩ := List.mem_map.mp hb
    exact (hs p hp) q hq e.symm
  · obtain ⟨p, e', o⟩ := I.so i mo e
    exact ⟨p, e', o.keep x fun q hq _ => List.mem_append_right _ hq⟩
theorem one (I : Inv G h₀ L m N ρ σ h tk) {o : Obj} (hf : o.isFreed = false := by rfl) :
    Inv G h₀ L m ((h.objs.size, o) :: N) ρ σ (h.push o) tk ∧ Ext G N ρ ((h.objs.size, o) :: N) ρ :=
  I.more (tk' := tk) (Nat.le_refl _) (new := [(h.objs.size, o)]) (I.F.push _) (I.W.push I.F o hf) (by simp) (fun p hp => by rw [List.mem_singleton.mp hp]; exact I.fresh (Nat.le_refl _))

/-- an object of the store more -/
theorem alloc (I : Inv G h₀ L m N ρ σ h tk) (le : tk ≤ tk') {h' : Heap} {new : Led} {p : Addr × Addr} {mo : MO} (F : Fr h₀ L h' m) (W : News h₀ L h' (new ++ N)) (hn : (new.map (·.1)).Nodup) (hs : ∀ q ∈ new, Fresh N q.1)
    (hp1 : Fresh N p.1) (hp2 : Fresh N p.2) (ho : ∀ ρ', Ext G N ρ (new ++ N) ρ' → OR G (new ++ N) ρ' p mo) :
    Inv G h₀ L m (new ++ N) (ρ.add p) (σ ++ [mo]) h' tk' ∧ Ext G N ρ (new ++ N) (ρ.add p) := by
  have x : Ext G N ρ (new ++ N) (ρ.add p) := ⟨fun q hq _ => List.mem_append_right _ hq, ⟨[p], rfl⟩, ⟨fun _ h => h, fun _ h => h, rfl⟩, fun a ha => by
    rw [mts_append] at ha
    rcases List.mem_append.mp ha with ha | ha
    · exact .inl ha
    · refine .inr (I.off ?_).2
      simp [pairsL] at ha
      rcases ha with rfl | rfl <;> assumption, fun a o ha => ⟨o, List.mem_append_right _ ha⟩⟩
  refine ⟨⟨F, W, ?_, by simp [I.len, Rho.app], ?_, fun i mo' e => ?_, fun t ht => (I.tb t ht).keep x fun q hq _ => List.mem_append_right _ hq, (let z := I.bk.mono le; ⟨z.pos, z.c, z.l, z.d⟩), fun a ha => ?_⟩, x⟩
  · rw [List.map_append]
    refine List.nodup_append.mpr ⟨hn, I.nd, fun a ha b hb e => ?_⟩
    obtain ⟨p, hp, rfl⟩ := List.mem_map.mp ha
    obtain ⟨q, hq, rfl⟩ := List.mem_map.mp hb
    exact (hs p hp) q hq e.symm
  · refine List.pairwise_append.mpr ⟨I.ap, by simp, fun q hq r hr => ?_⟩
    rw [List.mem_singleton.mp hr]
    obtain ⟨i, e⟩ := List.mem_iff_getElem?.mp hq
    obtain ⟨o1, l1⟩ := I.mtsIn (mem_mts G e).1
    obtain ⟨o2, l2⟩ := I.mtsIn (mem_mts G e).2
    exact ⟨hp1 _ l1, hp2 _ l1, hp1 _ l2, hp2 _ l2⟩
  · by_cases hi : i < σ.length
    · rw [List.getElem?_append_left hi] at e
      obtain ⟨p', e', o⟩ := I.so i mo' e
      exact ⟨p', x.get e', o.keep x fun q hq _ => List.mem_append_right _ hq⟩
    · rw [List.getElem?_append_right (Nat.not_lt.mp hi)] at e
      have hi0 : i - σ.length = 0 := by
        cases hh : i - σ.length with
        | zero => rfl
        | succ k => rw [hh] at e; simp at e
      rw [hi0] at e
      simp at e
      subst e
      refine ⟨p, ?_, ho _ x⟩
      show (ρ.l ++ [p])[i]? = some p
      rw [List.getElem?_append_right (by rw [I.len]; exact Nat.not_lt.mp hi), I.len, hi0]; rfl
  · obtain ⟨⟨u, v, h⟩, hn⟩ := I.fz a ha
    refine ⟨⟨u, v, List.mem_append_right _ h⟩, fun hm => ?_⟩
    have hm' : a ∈ pairsOf ρ ++ pairsL [p] := by simpa [pairsOf, pairsL, Rho.app] using hm
    rcases List.mem_append.mp hm' with hm | hm
    · exact hn hm
    · simp [pairsL] at hm
      rcases hm with e | e
      · exact hp1 _ h e
      · exact hp2 _ h e

/-- an object of the store turned: one row of the ledger, at one of its addresses -/
theorem turn (I : Inv G h₀ L m N ρ σ h tk) (le : tk ≤ tk') {h' : Heap} {i : Nat} {p : Addr × Addr} {a : Addr} {o o' : Obj} {mo : MO} (F : Fr h₀ L h' m) (W : News h₀ L h' (upd a o' N)) (hi : ρ.l[i]? = some p) (ha : a = p.1 ∨ a = p.2)
    (hm : (a, o) ∈ N) (hno : ∀ ps, o ≠ tabObj ps) (ho : Ext G N ρ (upd a o' N) ρ → OR G (upd a o' N) ρ p mo) : Inv G h₀ L m (upd a o' N) ρ (setAt mo σ i) h' tk' ∧ Ext G N ρ (upd a o' N) ρ := by
  have ham : a ∈ mts G ρ := by
    have := mem_mts G hi
    rcases ha with rfl | rfl
    · exact this.1
    · exact this.2
  have x : Ext G N ρ (upd a o' N) ρ := ⟨fun q hq hn => upd_mem hq fun e => hn (e ▸ ham), ⟨[], by simp⟩, Rho.le.refl _, fun b hb => .inl hb, fun b ob hb => by
    by_cases e : b = a
    · subst e; exact ⟨o', upd_self hm⟩
    · exact ⟨ob, upd_mem hb e⟩⟩
  refine ⟨⟨F, W, by rw [upd_map]; exact I.nd, by rw [setAt_eq]; simp [I.len], I.ap, fun j mo' e => ?_, fun t ht => (I.tb t ht).keep x fun q hq hqt => upd_mem hq fun hqa => ?_, I.bk.mono le, fun b hb => ?_⟩, x⟩
  rw [setAt_eq] at e
  by_cases hij : i = j
  · subst hij
    have hlt : i < σ.length := by
      have := (List.getElem?_eq_some_iff.mp hi).1
      rwa [I.len] at this
    rw [List.getElem?_set_self hlt] at e
    (first | exact (no e).elim | cases e)
    exact ⟨p, hi, ho x⟩
  · rw [List.getElem?_set_ne hij] at e
    obtain ⟨p', e', oj⟩ := I.so j mo' e
    refine ⟨p', e', oj.keep x fun q hq hqp => upd_mem hq fun hqa => ?_⟩
    have off : Off2 p p' ∨ Off2 p' p := by
      have g := List.pairwise_iff_getElem.mp I.ap
      obtain ⟨l1, e1⟩ := List.getElem?_eq_some_iff.mp hi
      obtain ⟨l2, e2⟩ := List.getElem?_eq_some_iff.mp e'
      rcases Nat.lt_or_gt_of_ne hij with lt | lt
      · exact .inl (e1 ▸ e2 ▸ g i j l1 l2 lt)
      · exact .inr (e1 ▸ e2 ▸ g j i l2 l1 lt)
    rw [hqa] at hqp
    rcases off with ⟨o1, o2, o3, o4⟩ | ⟨o1, o2, o3, o4⟩ <;> rcases ha with e1 | e1 <;> rcases hqp with e2 | e2 <;> rw [e1] at e2 <;> first | exact o1 e2 | exact o2 e2 | exact o3 e2 | exact o4 e2 | exact o1 e2.symm | exact o2 e2.symm | exact o3 e2.symm | exact o4 e2.symm
  · obtain ⟨ps, h1, _⟩ := I.tb t ht
    exact hno ps (nodup_row I.nd hm (by rw [← hqa, hqt]; exact h1))
  · obtain ⟨⟨u, v, h⟩, hn⟩ := I.fz b hb
    refine ⟨⟨u, v, upd_mem h fun e => hn ?_⟩, hn⟩
    have e' : b = a := e
    have := mem_pairs hi
    rw [e']
    rcases ha with rfl | rfl
    · exact this.1
    · exact this.2
/-- the one code of a table made -/
theorem tabs (I : Inv G h₀ L m N ρ σ h tk) (le : tk ≤ tk') {h' : Heap} {new : Led} {t : Tb} {ps ps' : Array Value} (hT : (G.TB.map (·.P)).Nodup) (ht : t ∈ G.TB) (hm : (t.P, tabObj ps) ∈ N) (F : Fr h₀ L h' m) (W : News h₀ L h' (new ++ upd t.P (tabObj ps') N))
    (hn : (new.map (·.1)).Nodup) (hs : ∀ p ∈ new, Fresh N p.1) (hps : ∃ c' oc vs u, ps' = #[rawInt t.pos.line, rawInt t.pos.col, .ref c'] ∧ (c', oc) ∈ new ∧ oc.data = .fields vs ∧ vs[1]? = some (.str t.qual u)) :
    Inv G h₀ L m (new ++ upd t.P (tabObj ps') N) ρ σ h' tk' ∧ Ext G N ρ (new ++ upd t.P (tabObj ps') N) ρ := by
  have ham : t.P ∈ mts G ρ := tab_mts G ht
  have up : ∀ q ∈ N, q.1 ≠ t.P → q ∈ new ++ upd t.P (tabObj ps') N := fun q hq hn => List.mem_append_right _ (upd_mem hq hn)
  have x : Ext G N ρ (new ++ upd t.P (tabObj ps') N) ρ := ⟨fun q hq hn => up q hq fun e => hn (e ▸ ham), ⟨[], by simp⟩, Rho.le.refl _, fun b hb => .inl hb, fun b ob hb => by
    by_cases e : b = t.P
    · subst e; exact ⟨tabObj ps', List.mem_append_right _ (upd_self hm)⟩
    · exact ⟨ob, up _ hb e⟩⟩
  refine ⟨⟨F, W, ?_, I.len, I.ap, fun i mo e => ?_, fun t' ht' => ?_, I.bk.mono le, fun b hb => ?_⟩, x⟩
  · rw [List.map_append, upd_map]
    refine List.nodup_append.mpr ⟨hn, I.nd, fun a ha b hb e => ?_⟩
    obtain ⟨p, hp, rfl⟩ := List.mem_map.mp ha
    obtain ⟨q, hq, rfl⟩ := List.mem_map.mp hb
    exact (hs p hp) q hq e.symm
  · obtain ⟨p, e', o⟩ := I.so i mo e
    refine ⟨p, e', o.keep x fun q hq hqp => up q hq fun hqa => ?_⟩
    exact o.noTab I.nd (hqp.imp (hqa.symm.trans ·) (hqa.symm.trans ·)) hm
  · by_cases e : t'.P = t.P
    · have : t' = t := by
        obtain ⟨i, hi, rfl⟩ := List.mem_iff_getElem.mp ht'
        obtain ⟨j, hj, rfl⟩ := List.mem_iff_getElem.mp ht
        have := (List.getElem_inj (h₀ := by simpa using hi) (h₁ := by simpa using hj) hT).mp (by simpa using e)
        subst this; rfl
      subst this
      obtain ⟨c', oc, vs, u, e1, h1, h2, h3⟩ := hps
      exact ⟨ps', List.mem_append_right _ (upd_self hm), .inr ⟨c', oc, vs, u, e1, List.mem_append_left _ h1, (I.off (hs _ h1)).1, h2, h3⟩⟩
    · exact (I.tb t' ht').keep x fun q hq hqt => up q hq (hqt ▸ e)
  · obtain ⟨⟨u, v, h⟩, hn⟩ := I.fz b hb
    refine ⟨⟨u, v, up _ h fun e => ?_⟩, hn⟩
    have e' : b = t.P := e
    rw [e'] at h
    exact absurd (congrArg Obj.cls (nodup_row I.nd h hm)) (by simp)
/-- a token more -/
theorem sign (I : Inv G h₀ L m N ρ σ h tk) : Inv G h₀ L m N (ρ.up tk) σ h (tk + 1) ∧ Ext G N ρ N (ρ.up tk) := by
  have x : Ext G N ρ N (ρ.up tk) := ⟨fun _ h => fun _ => h, ⟨[], by simp [Rho.up]⟩, ⟨fun _ h => List.mem_cons_of_mem _ h, fun _ h => h, rfl⟩, fun _ h => .inl h, fun _ o h => ⟨o, h⟩⟩
  refine ⟨⟨I.F, I.W, I.nd, I.len, I.ap, fun i mo e => let ⟨p, e', o⟩ := I.so i mo e; ⟨p, e', o.keep x fun q hq _ => hq⟩, fun t ht => (I.tb t ht).keep x fun q hq _ => hq, ⟨Nat.succ_pos _, fun t ht => ?_, fun t ht => ?_, fun t ht hl => ?_⟩, I.fz⟩, x⟩
  · rcases List.mem_cons.mp ht with rfl | ht
    · exact ⟨I.bk.pos, Nat.lt_succ_self _⟩
    · exact ⟨(I.bk.c t ht).1, Nat.lt_succ_of_lt (I.bk.c t ht).2⟩
  · exact ⟨(I.bk.l t ht).1, Nat.lt_succ_of_lt (I.bk.l t ht).2⟩
  · rcases List.mem_cons.mp ht with rfl | ht
    · exact absurd (I.bk.l _ hl).2 (Nat.lt_irrefl _)
    · exact I.bk.d t ht hl
theorem lit (I : Inv G h₀ L m N ρ σ h tk) : Inv G h₀ L m N (ρ.upl tk) σ h (tk + 1) ∧ Ext G N ρ N (ρ.upl tk) := by
  have x : Ext G N ρ N (ρ.upl tk) := ⟨fun _ h => fun _ => h, ⟨[], by simp [Rho.upl]⟩, ⟨fun _ h => h, fun _ h => List.mem_cons_of_mem _ h, rfl⟩, fun _ h => .inl h, fun _ o h => ⟨o, h⟩⟩
  refine ⟨⟨I.F, I.W, I.nd, I.len, I.ap, fun i mo e => let ⟨p, e', o⟩ := I.so i mo e; ⟨p, e', o.keep x fun q hq _ => hq⟩, fun t ht => (I.tb t ht).keep x fun q hq _ => hq, ⟨Nat.succ_pos _, fun t ht => ?_, fun t ht => ?_, fun t ht hl => ?_⟩, I.fz⟩, x⟩
  · exact ⟨(I.bk.c t ht).1, Nat.lt_succ_of_lt (I.bk.c t ht).2⟩
  · rcases List.mem_cons.mp ht with rfl | ht
    · exact ⟨I.bk.pos, Nat.lt_succ_self _⟩
    · exact ⟨(I.bk.l t ht).1, Nat.lt_succ_of_lt (I.bk.l t ht).2⟩
  · rcases List.mem_cons.mp hl with rfl | hl
    · exact absurd (I.bk.c _ ht).2 (Nat.lt_irrefl _)
    · exact I.bk.d t ht hl
end Inv
end
end Mine

open PySem PySem.W PyProof.Rows PySem.Calls
namespace Mine
set_option autoImplicit false
set_option backward.match.sparseCases false
set_option linter.unusedVariables false

/-! ## texts -/
noncomputable abbrev tx (l : List Nat) : Str := ⟨l.toArray⟩
theorem eqL_iff : ∀ (a b : List Nat), eqL a b = true ↔ a = b
  | [], [] => ⟨fun _ => rfl, fun _ => rfl⟩
  | [], _ :: _ => ⟨fun h => (nomatch (show false = true from h)), fun h => (nomatch h)⟩
  | _ :: _, [] => ⟨fun h => (nomatch (show false = true from h)), fun h => (nomatch h)⟩
  | a :: as, b :: bs => by
    simp only [eqL_cons, Bool.and_eq_true, List.cons.injEq, eqL_iff as bs]
    rw [Nat.beq_eq]
theorem eqL_dec (a b : List Nat) : eqL a b = decide (a = b) := by
  rw [Bool.eq_iff_iff, eqL_iff, decide_eq_true_eq]
theorem tx_inj {a b : List Nat} : tx a = tx b ↔ a = b := by
  constructor
  · intro h; have := congrArg (fun x : Str => x.cps.toList) h; simpa using this
  · rintro rfl; rfl
theorem tx_beq (a b : List Nat) : (tx a == tx b) = eqL a b := by
  rw [Bool.eq_iff_iff, beq_iff_eq, tx_inj, eqL_iff]
theorem tx_append (a b : List Nat) : tx a ++ tx b = tx (a ++ b) := by
  apply Str.ext'
  show (Str.append (tx a) (tx b)).cps = _
  simp [Str.append]
theorem tx_len (a : List Nat) : (tx a).length = a.length := by simp [Str.length]
theorem memN_iff (c : Nat) : ∀ l : List Nat, memN c l = true ↔ c ∈ l
  | [] => ⟨fun h => (nomatch (show false = true from h)), fun h => (nomatch h)⟩
  | a :: l => by
    simp only [memN_cons, Bool.or_eq_true, memN_iff c l, List.mem_cons, Nat.beq_eq]
    exact ⟨fun h => h.imp Eq.symm id, fun h => h.imp Eq.symm id⟩
theorem memN_found (c : Nat) (l : List Nat) : (!(Builtin.Str.occurrences (tx l) (tx [c]) 0 (tx l).length 1).isEmpty) = memN c l := by
  rw [StrLaws.found_one, Bool.eq_iff_iff, decide_eq_true_eq, memN_iff]
theorem lenOk_le {n : Nat} (h : lenOk n = true) : n ≤ 4096 := Nat.le_of_ble_eq_true h
theorem lenOk_line {n : Nat} (h : lenOk n = true) : n ≤ sizeLine := by
  have := lenOk_le h
  rw [sizeLine_eq]; omega

theorem pick_cut (l : List Nat) (a b : Nat) : ((sliceRange (a : Int) (b : Int) 1).filterMap fun x => l.toArray[x]?) = (l.take b).drop a := by
  rw [sliceRange_one, List.drop_take, pick_run]
noncomputable def oi (x : Option Nat) : Option Int := x.map Int.ofNat
theorem idx_cut (n : Nat) (lo hi : Option Nat) : Builtin.Str.strSliceIndices (oi lo) (oi hi) 1 n = sliceRange ((min (lo.getD 0) n : Nat) : Int) ((match hi with | some b => min b n | none => n : Nat) : Int) 1 := by
  unfold Builtin.Str.strSliceIndices
  cases lo <;> cases hi <;> simp only [oi, Option.map_some, Option.map_none, Option.getD_none, Option.getD_some] <;> simp only [show (1 : Int) > 0 by decide, if_true] <;> congr 1 <;> simp <;> omega
theorem cut_clip (l : List Nat) (lo hi : Option Nat) : (l.take (match hi with | some b => min b l.length | none => l.length)).drop (min (lo.getD 0) l.length) = cut l lo hi := by
  show _ = ((match hi with | some n => l.take n | none => l).drop (lo.getD 0))
  have e : l.take (match hi with | some b => min b l.length | none => l.length) = (match hi with | some n => l.take n | none => l) := by
    cases hi with
    | none => simp
    | some b => simp only []; rw [List.take_eq_take_iff]; omega
  rw [e]
  generalize hq : (match hi with | some n => l.take n | none => l) = q
  try rw [hq]
  have hlen : q.length ≤ l.length := by
    subst hq
    cases hi with
    | none => exact Nat.le_refl _
    | some b => simp only [List.length_take]; omega
  by_cases h : lo.getD 0 ≤ l.length
  · rw [Nat.min_eq_left h]
  · have h1 : min (lo.getD 0) l.length = l.length := by omega
    rw [h1, List.drop_eq_nil_of_le hlen, List.drop_eq_nil_of_le (by omega)]
theorem slice_cut (l : List Nat) (lo hi : Option Nat) : Txt.slice (tx l) (oi lo) (oi hi) = tx (cut l lo hi) := by
  have key : (Builtin.Str.strSliceIndices (oi lo) (oi hi) 1 (tx l).length).filterMap (fun x => (tx l).cps[x]?) = cut l lo hi := by
    rw [tx_len, idx_cut]
    show ((sliceRange _ _ 1).filterMap fun x => l.toArray[x]?) = _
    rw [pick_cut, cut_clip]
  unfold Txt.slice
  split
  · rename_i h
    have h2 : (Builtin.Str.strSliceIndices (oi lo) (oi hi) 1 (tx l).length).length = l.length := by
      simpa [Str.length] using h
    rw [tx_inj.symm.symm]
    rw [tx_len, idx_cut, sliceRange_one] at h2
    rw [List.length_map, List.length_range] at h2
    rw [← cut_clip]
    generalize ha : min (lo.getD 0) l.length = a at h2 ⊢
    generalize hb : (match hi with | some b => min b l.length | none => l.length) = b at h2 ⊢
    have hbl : b ≤ l.length := by subst hb; split <;> omega
    by_cases hz : l.length = 0
    · have : l = [] := List.length_eq_zero_iff.mp hz
      subst this; simp
    · have : a = 0 := by omega
      have : b = l.length := by omega
      subst_vars
      simp_all
  · rw [← key]
end Mine

open PySem PySem.W PyProof.Rows PySem.Calls
namespace Mine
set_option autoImplicit false
set_option backward.match.sparseCases false
set_option linter.unusedVariables false

/-! ## the judgement -/
section
variable (G : St)
/-- from the state s, at the ledger N, ρ: the tree ends in a value that R takes, at a store σ' -/
noncomputable def Wp {α : Type} (A : Around) (h₀ : Heap) (L : Addr) (m : Str → Option Value) (t : Sem α) (σ' : List MO) (R : α → Led → Rho → Prop) (N : Led) (ρ : Rho) (s : Shared) : Prop :=
  ∀ (Q : α → Shared → Prop) (E : Value → Shared → Prop),
    (∀ a h' tk N' ρ', Inv G h₀ L m N' ρ' σ' h' tk → Ext G N ρ N' ρ' → R a N' ρ' → Q a { s with heap := h', toks := tk }) → wpAny (model G.prog G.w) A t Q E s
noncomputable abbrev VR (mv : MV) : Value → Led → Rho → Prop := fun v N ρ => RV G N ρ v mv
noncomputable abbrev VRs (ms : List MV) : List Value → Led → Rho → Prop := fun vs N ρ => RVs G N ρ vs ms
noncomputable abbrev BR (b : Bool) : Bool → Led → Rho → Prop := fun c _ _ => c = b
noncomputable abbrev UR : Unit → Led → Rho → Prop := fun _ _ _ => True
end

section
variable {G : St} {A : Around} {h₀ : Heap} {L : Addr} {m : Str → Option Value} {N : Led} {ρ : Rho} {σ σ' σ'' : List MO} {s : Shared}

theorem Wp.same {α : Type} {t : Sem α} {R : α → Led → Rho → Prop} {a : α} {tk : Nat} (I : Inv G h₀ L m N ρ σ s.heap s.toks) (r : R a N ρ)
    (h : ∀ (Q : α → Shared → Prop) (E : Value → Shared → Prop), Q a { s with toks := tk } → wpAny (model G.prog G.w) A t Q E s) : Wp G A h₀ L m t σ R N ρ s :=
  fun Q E k => toksUp (h _ E fun le => k a s.heap tk N ρ (I.grown le I.F I.W) (Ext.refl _ _ _) r)
theorem Wp.same' {α : Type} {t : Sem α} {R : α → Led → Rho → Prop} {a : α} (I : Inv G h₀ L m N ρ σ s.heap s.toks) (r : R a N ρ)
    (h : ∀ (Q : α → Shared → Prop) (E : Value → Shared → Prop), Q a s → wpAny (model G.prog G.w) A t Q E s) : Wp G A h₀ L m t σ R N ρ s :=
  fun Q E k => h Q E (k a s.heap s.toks N ρ I (Ext.refl _ _ _) r)
theorem Wp.pure {α : Type} {R : α → Led → Rho → Prop} {a : α} (I : Inv G h₀ L m N ρ σ s.heap s.toks) (r : R a N ρ) : Wp G A h₀ L m (pure a) σ R N ρ s := Wp.same' I r fun _ _ q => wpAny_pure q
theorem Wp.bind {α β : Type} {t : Sem α} {f : α → Sem β} {R : α → Led → Rho → Prop} {R' : β → Led → Rho → Prop} (ht : Wp G A h₀ L m t σ R N ρ s)
    (hf : ∀ a h₁ tk N₁ ρ₁, Inv G h₀ L m N₁ ρ₁ σ h₁ tk → Ext G N ρ N₁ ρ₁ → R a N₁ ρ₁ → Wp G A h₀ L m (f a) σ' R' N₁ ρ₁ { s with heap := h₁, toks := tk }) : Wp G A h₀ L m (t >>= f) σ' R' N ρ s :=
  fun Q E k => wpAny_bind (ht _ _ fun a h₁ tk N₁ ρ₁ I₁ x₁ r₁ => hf a h₁ tk N₁ ρ₁ I₁ x₁ r₁ Q E fun b h₂ tk₂ N₂ ρ₂ I₂ x₂ r₂ => k b h₂ tk₂ N₂ ρ₂ I₂ (x₁.trans x₂) r₂)
theorem Wp.mono {α : Type} {t : Sem α} {R R' : α → Led → Rho → Prop} (ht : Wp G A h₀ L m t σ R N ρ s) (h : ∀ a N' ρ', Ext G N ρ N' ρ' → R a N' ρ' → R' a N' ρ') : Wp G A h₀ L m t σ R' N ρ s :=
  fun Q E k => ht Q E fun a h' tk N' ρ' I x r => k a h' tk N' ρ' I x (h a N' ρ' x r)
theorem Wp.stand {α : Type} {p : Pos} {t : Sem α} {R : α → Led → Rho → Prop} (ht : Wp G A h₀ L m t σ R N ρ s) : Wp G A h₀ L m (standAt p >>= fun _ => t) σ R N ρ s :=
  fun Q E k => wpAny_bind (wpAny_standAt (ht Q E k))
theorem Wp.hold {α : Type} {vs : List Value} {t : Sem α} {R : α → Led → Rho → Prop} (ht : Wp G A h₀ L m t σ R N ρ s) : Wp G A h₀ L m (holding vs t) σ R N ρ s :=
  fun Q E k => wpAny_holding (ht Q E k)
theorem Wp.oper {vs : List Value} {t : Sem Value} {R : Value → Led → Rho → Prop} (ht : Wp G A h₀ L m t σ R N ρ s) : Wp G A h₀ L m (operate vs t) σ R N ρ s :=
  fun Q E k => wpAny_operating (ht Q E k)

/-- a sign made: its token is known from here on -/
theorem Wp.sign {t : Sem Value} {c : Nat} (I : Inv G h₀ L m N ρ σ s.heap s.toks)
    (h : ∀ (Q : Value → Shared → Prop) (E : Value → Shared → Prop), Q (.str ⟨[c].toArray⟩ s.toks) { s with toks := s.toks + 1 } → wpAny (model G.prog G.w) A t Q E s) : Wp G A h₀ L m t σ (VR G (.chr c)) N ρ s := by
  intro Q E k
  have J := I.sign
  exact h Q E (k _ s.heap (s.toks + 1) N (ρ.up s.toks) J.1 J.2 (.chr (List.mem_cons_self ..)))

theorem Wp.lit {t : Sem Value} (I : Inv G h₀ L m N ρ σ s.heap s.toks)
    (h : ∀ (Q : Value → Shared → Prop) (E : Value → Shared → Prop), Q (.str ⟨[].toArray⟩ s.toks) { s with toks := s.toks + 1 } → wpAny (model G.prog G.w) A t Q E s) : Wp G A h₀ L m t σ (VR G .emp) N ρ s := by
  intro Q E k
  have J := I.lit
  exact h Q E (k _ s.heap (s.toks + 1) N (ρ.upl s.toks) J.1 J.2 (.emp (List.mem_cons_self ..)))

/-! ### arithmetic -/
theorem newL_ok {xs : List MV} {ws : List Value} {mv : MV} (e : newL σ xs = some (mv, σ')) (hx : RVs G N ρ ws xs) (I : Inv G h₀ L m N ρ σ s.heap s.toks) {t : Sem Value}
    (h : ws.length ≤ 4096 → ∀ (Q : Value → Shared → Prop) (E : Value → Shared → Prop), (∀ D h' tk, Fr h₀ L h' m → News h₀ L h' ((D, listOf ws.toArray 0) :: N) → (∀ p ∈ N, p.1 < D) → Q (.ref D) { s with heap := h', toks := tk }) → wpAny (model G.prog G.w) A t Q E s) :
    Wp G A h₀ L m t σ' (VR G mv) N ρ s := by
  unfold newL at e
  cases hl : lenOk xs.length with
  | false => rw [hl] at e; (first | exact (no e).elim | cases e)
  | true =>
    rw [hl] at e; (first | exact (no e).elim | cases e)
    intro Q E k
    refine toksUp (h (hx.length ▸ lenOk_le hl) _ E fun D h' tk F' W' hlt le => ?_)
    have fr : Fresh N D := .lt hlt
    have J := I.alloc le (new := [(D, listOf ws.toArray 0)]) (p := (D, D)) (mo := .list xs) F' W' (by simp) (by simpa using fr) fr fr (fun ρ' x => .list (List.mem_cons_self ..) (hx.mono x))
    refine k _ h' tk _ _ J.1 J.2 ?_
    have : (ρ.add (D, D)).l[σ.length]? = some (D, D) := by rw [← I.len]; simp [Rho.app]
    exact .ref (p := (D, D)) this
theorem bII_ok {f : Int → Int → Option Int} {a b mv : MV} {va vb : Value} {t : Sem Value} (e : bII σ f a b = some (mv, σ')) (ha : RV G N ρ va a) (hb : RV G N ρ vb b) (I : Inv G h₀ L m N ρ σ s.heap s.toks)
    (h : ∀ x u y w z, va = .int x u → vb = .int y w → f x y = some z → Wp G A h₀ L m t σ (VR G (.int z)) N ρ s) : Wp G A h₀ L m t σ' (VR G mv) N ρ s := by
  unfold bII at e
  split at e
  · split at e
    · rename_i x _ y
      cases hz : f x y with
      | none => rw [hz] at e; (first | exact (no e).elim | cases e)
      | some z =>
        rw [hz] at e; (first | exact (no e).elim | cases e)
        (first | obtain ⟨_, rfl⟩ := ha.inv | obtain rfl := ha.inv | cases ha); (first | obtain ⟨_, rfl⟩ := hb.inv | obtain rfl := hb.inv | cases hb)
        exact h _ _ _ _ z rfl rfl hz
    · (first | exact (no e).elim | cases e)
  · (first | exact (no e).elim | cases e)
theorem list_at {i : Nat} {p : Addr × Addr} {xs : List MV} (I : Inv G h₀ L m N ρ σ s.heap s.toks) (hp : ρ.l[i]? = some p) (e : at? σ i = some (.list xs)) : ∃ ws n, (p.1, listOf ws.toArray n) ∈ N ∧ RVs G N ρ ws xs ∧ p = (p.1, p.1) := by
  rw [at?_eq] at e
  obtain ⟨p', hp', o⟩ := I.so i _ e
  rw [hp] at hp'; cases hp'
  cases o with
  | list h1 h2 => exact ⟨_, _, h1, h2, rfl⟩
theorem isList {a : Addr} {ws : List Value} {n : Nat} (I : Inv G h₀ L m N ρ σ s.heap s.toks) (h : (a, listOf ws.toArray n) ∈ N) : s.heap.IsList a ws.toArray := ⟨_, (I.W _ h).1, rfl, n, rfl⟩
theorem isTup {a : Addr} {ws : List Value} {n : Nat} (I : Inv G h₀ L m N ρ σ s.heap s.toks) (h : (a, tupO ws n) ∈ N) : IsTup s.heap a ws.toArray := ⟨_, (I.W _ h).1, rfl, n, rfl⟩
theorem binop_ok {op : Operator} {a b mv : MV} {va vb : Value} (e : binop σ op a b = some (mv, σ')) (ha : RV G N ρ va a) (hb : RV G N ρ vb b) (I : Inv G h₀ L m N ρ σ s.heap s.toks) (hL : h₀.NoLimit) :
    Wp G A h₀ L m (binaryOp op va vb) σ' (VR G mv) N ρ s := by
  cases op <;> try (exact (no e).elim)
  · -- Add
    simp only [binop] at e
    unfold bAdd at e
    split at e
    · split at e
      · (first | exact (no e).elim | cases e)
        (first | obtain ⟨_, rfl⟩ := ha.inv | obtain rfl := ha.inv | cases ha); (first | obtain ⟨_, rfl⟩ := hb.inv | obtain rfl := hb.inv | cases hb)
        exact Wp.same I (.int _ s.toks) fun Q E q => add_int q
      · (first | exact (no e).elim | cases e)
    · split at e
      · cases hl : lenOk _ with
        | false => rw [hl] at e; (first | exact (no e).elim | cases e)
        | true =>
          rw [hl] at e
          (first | exact (no e).elim | cases e)
          (first | obtain ⟨_, rfl⟩ := ha.inv | obtain rfl := ha.inv | cases ha); (first | obtain ⟨_, rfl⟩ := hb.inv | obtain rfl := hb.inv | cases hb)
          intro Q E k
          refine toksUp (add_str (fun t' tk le => ?_) (by rw [tx_len, tx_len]; exact lenOk_line hl))
          rw [tx_append]
          exact k _ s.heap tk N ρ (I.grown le I.F I.W) (Ext.refl _ _ _) (.str _ _)
      · (first | exact (no e).elim | cases e)
    · rename_i i
      unfold addL at e
      split at e
      · rename_i xs hxs
        split at e
        · rename_i j
          unfold addLL at e
          split at e
          · rename_i ys hys
            obtain ⟨_, hi, rfl⟩ := ha.inv; obtain ⟨_, hj, rfl⟩ := hb.inv
            obtain ⟨ws, n, h1, h2, h3⟩ := list_at I hi hxs
            obtain ⟨us, k, g1, g2, g3⟩ := list_at I hj hys
            refine newL_ok e (h2.append g2) I fun hz Q E q => ?_
            refine kmk_add_lit I.F I.W (isList I h1) (isList I g1) (zs := ws ++ us) (by simp) (fun D h' F' W' hlt => q D h' s.toks F' W' hlt) ?_
            rw [List.length_append] at hz
            simp only [sizeLine_eq] at *
            show ws.toArray.toList.length + us.toArray.toList.length ≤ _
            simp; omega
          · (first | exact (no e).elim | cases e)
        · (first | exact (no e).elim | cases e)
      · (first | exact (no e).elim | cases e)
    · (first | exact (no e).elim | cases e)
  · -- Sub
    exact bII_ok e ha hb I fun x u y w z e1 e2 hz => by subst e1 e2; (first | exact (no hz).elim | cases hz); exact Wp.same I (.int _ s.toks) fun Q E q => sub_int q
  · -- Mod
    by_cases hmd : ∃ M r, a = .md M r
    · obtain ⟨M, r, rfl⟩ := hmd
      have e : mdMod σ M r b = some (mv, σ') := e
      unfold mdMod at e
      split at e
      · rename_i d _
        cases hb0 : Nat.beq (M % (d + 1)) 0 with
        | false => rw [hb0] at e; (first | exact (no e).elim | cases e)
        | true =>
          rw [hb0] at e; (first | exact (no e).elim | cases e)
          have hd := Nat.eq_of_beq_eq_true hb0
          (first | obtain ⟨_, rfl⟩ := hb.inv | obtain rfl := hb.inv | cases hb)
          obtain ⟨_, _, hx, rfl⟩ := ha.inv
          rename_i x t
          have e1 : Int.fmod (x : Int) (Int.ofNat (d + 1)) = Int.ofNat (r % (d + 1)) := by
            show Int.fmod (x : Int) ((d + 1 : Nat) : Int) = ((r % (d + 1) : Nat) : Int)
            rw [← Int.ofNat_fmod, ← hx, Nat.mod_mod_of_dvd _ (Nat.dvd_of_mod_eq_zero hd)]
          exact Wp.same I (.int _ s.toks) fun Q E q => PyProof.Rows.mod_int (Int.ofNat_ne_zero.mpr (Nat.succ_ne_zero d)) (by rw [e1]; exact q)
      · (first | exact (no e).elim | cases e)
    have e : bII σ (posI Int.fmod) a b = some (mv, σ') := by
      cases a <;> first | exact absurd ⟨_, _, rfl⟩ hmd | exact e
    exact bII_ok e ha hb I fun x u y w z e1 e2 hz => by
      subst e1 e2
      unfold posI at hz
      split at hz
      · rename_i n
        cases hl : lenOk (n + 1) with
        | false => rw [hl] at hz; (first | exact (no hz).elim | cases hz)
        | true =>
          rw [hl] at hz; (first | exact (no hz).elim | cases hz)
          exact Wp.same I (.int _ s.toks) fun Q E q => PyProof.Rows.mod_int (Int.ofNat_ne_zero.mpr (Nat.succ_ne_zero n)) q
      · (first | exact (no hz).elim | cases hz)
  · -- Pow
    exact bII_ok e ha hb I fun x u y w z e1 e2 hz => by
      subst e1 e2
      unfold powI at hz
      split at hz
      · rename_i n
        cases h1 : Nat.ble n 16 with
        | false => rw [h1] at hz; (first | exact (no hz).elim | cases hz)
        | true =>
          rw [h1] at hz
          cases h2 : Nat.ble x.natAbs 16 with
          | false => rw [h2] at hz; (first | exact (no hz).elim | cases hz)
          | true =>
            rw [h2] at hz; (first | exact (no hz).elim | cases hz)
            have := Nat.le_of_ble_eq_true h1
            have := Nat.le_of_ble_eq_true h2
            exact Wp.same I (.int _ s.toks) fun Q E q => PyProof.Rows.pow_int_small (by simp) (by simp; omega) (by omega) q
      · (first | exact (no hz).elim | cases hz)
  · -- FloorDiv
    by_cases hmd : ∃ M r, a = .md M r
    · obtain ⟨M, r, rfl⟩ := hmd
      have e : mdDiv σ M r b = some (mv, σ') := e
      unfold mdDiv at e
      split at e
      · rename_i d _
        cases hb0 : (lenOk (d + 1) && Nat.beq (M % (d + 1)) 0) with
        | false => rw [hb0] at e; (first | exact (no e).elim | cases e)
        | true =>
          rw [hb0] at e; (first | exact (no e).elim | cases e)
          obtain ⟨hl, hd⟩ := Bool.and_eq_true_iff.mp hb0
          have hd := Nat.eq_of_beq_eq_true hd
          have hl := lenOk_le hl
          (first | obtain ⟨_, rfl⟩ := hb.inv | obtain rfl := hb.inv | cases hb)
          obtain ⟨_, _, hx, rfl⟩ := ha.inv
          rename_i x t
          have e1 : Int.fdiv (x : Int) (Int.ofNat (d + 1)) = ((x / (d + 1) : Nat) : Int) := by
            show Int.fdiv (x : Int) ((d + 1 : Nat) : Int) = _
            rw [← Int.ofNat_fdiv]
          have e2 : (x / (d + 1)) % (M / (d + 1)) = r / (d + 1) := by
            rw [← hx, ← Nat.mod_mul_right_div_self, Nat.mul_div_cancel' (Nat.dvd_of_mod_eq_zero hd)]
          exact Wp.same I (.md (t := s.toks) e2) fun Q E q => PyProof.Rows.floordiv_int (Int.ofNat_ne_zero.mpr (Nat.succ_ne_zero d)) (by rw [e1]; exact q) (.inl (PyProof.noPylong_small (by show (d + 1) < _; omega)))
      · (first | exact (no e).elim | cases e)
    have e : bII σ (posI Int.fdiv) a b = some (mv, σ') := by
      cases a <;> first | exact absurd ⟨_, _, rfl⟩ hmd | exact e
    exact bII_ok e ha hb I fun x u y w z e1 e2 hz => by
      subst e1 e2
      unfold posI at hz
      split at hz
      · rename_i n
        cases hl : lenOk (n + 1) with
        | false => rw [hl] at hz; (first | exact (no hz).elim | cases hz)
        | true =>
          rw [hl] at hz; (first | exact (no hz).elim | cases hz)
          have := lenOk_le hl
          exact Wp.same I (.int _ s.toks) fun Q E q => PyProof.Rows.floordiv_int (Int.ofNat_ne_zero.mpr (Nat.succ_ne_zero n)) q (.inl (PyProof.noPylong_small (by show (n + 1) < _; omega)))
      · (first | exact (no hz).elim | cases hz)
theorem iop_ok {op : Operator} {a b mv : MV} {va vb : Value} (e : iop op a b = some mv) (ha : RV G N ρ va a) (hb : RV G N ρ vb b) (I : Inv G h₀ L m N ρ σ s.heap s.toks) :
    Wp G A h₀ L m (inplaceOp op va vb) σ (VR G mv) N ρ s := by
  cases op <;> try (exact (no e).elim)
  simp only [iop] at e
  split at e
  · split at e
    · (first | exact (no e).elim | cases e)
      (first | obtain ⟨_, rfl⟩ := ha.inv | obtain rfl := ha.inv | cases ha); (first | obtain ⟨_, rfl⟩ := hb.inv | obtain rfl := hb.inv | cases hb)
      exact Wp.same I (.int _ s.toks) fun Q E q => PyProof.Rows.iadd_int q
    · (first | exact (no e).elim | cases e)
  · (first | exact (no e).elim | cases e)
theorem neg_ok {i : Int} {v : Value} (hv : RV G N ρ v (.int i)) (I : Inv G h₀ L m N ρ σ s.heap s.toks) : Wp G A h₀ L m (unaryOp .USub v) σ (VR G (.int (-i))) N ρ s := by
  (first | obtain ⟨_, rfl⟩ := hv.inv | obtain rfl := hv.inv | cases hv)
  exact Wp.same I (.int _ s.toks) fun Q E q => neg_int q

/-! ### comparisons -/
theorem isNone_ok {a : MV} {va : Value} {b : Bool} (e : isNone a = some b) (ha : RV G N ρ va a) : (va == .none) = b := by
  cases ha <;> simp [isNone] at e <;> subst e <;> rfl
theorem cIs_ok {a b : MV} {va vb : Value} {c : Bool} (e : cIs a b = some c) (ha : RV G N ρ va a) (hb : RV G N ρ vb b) : vb = .none ∧ (va == .none) = c := by
  unfold cIs at e
  split at e
  · (first | obtain ⟨_, rfl⟩ := hb.inv | obtain rfl := hb.inv | cases hb); exact ⟨rfl, isNone_ok e ha⟩
  · (first | exact (no e).elim | cases e)
theorem isnot_none' {v : Value} {Q : Value → Shared → Prop} {E : Value → Shared → Prop} (h : Q (.bool (!(v == .none))) s) : wpAny (model G.prog G.w) A (compareOp .IsNot v .none) Q E s := by
  by_cases hv : v = .none
  · subst hv; exact wpAny_isNot_self (by rfl) h
  · have : (v == Value.none) = false := by
      cases v <;> first | exact absurd rfl hv | rfl
    rw [this] at h
    exact isnot_none_ne hv h
theorem anyStr_strs (x : List Nat) : ∀ {vs : List MV} {ws : List Value} {b : Bool}, anyStr x vs = some b → RVs G N ρ ws vs → ∃ ys : List Str, StrsAre ws ys ∧ b = ys.any (· == tx x)
  | [], ws, b, e, h => by obtain rfl := h.nilv; (first | exact (no e).elim | cases e); exact ⟨[], .nil, rfl⟩
  | v :: vs, ws, b, e, h => by
      have hh := h.uncons; clear h; obtain ⟨_, _, rfl, h, hs⟩ := hh
      cases v <;> try (exact (no e).elim)
      · rename_i y
        obtain ⟨_, rfl⟩ := h.inv
        simp only [anyStr] at e
        cases hq : anyStr x vs with
        | none => rw [hq] at e; (first | exact (no e).elim | cases e)
        | some b' =>
          rw [hq] at e; (first | exact (no e).elim | cases e)
          obtain ⟨ys, h1, h2⟩ := anyStr_strs x hq hs
          exact ⟨tx y :: ys, .cons _ _ h1, by rw [List.any_cons, tx_beq, h2]⟩
      · rename_i y
        obtain ⟨_, rfl, _⟩ := h.inv
        simp only [anyStr] at e
        cases hq : anyStr x vs with
        | none => rw [hq] at e; (first | exact (no e).elim | cases e)
        | some b' =>
          rw [hq] at e; (first | exact (no e).elim | cases e)
          obtain ⟨ys, h1, h2⟩ := anyStr_strs x hq hs
          exact ⟨tx [y] :: ys, .cons _ _ h1, by rw [List.any_cons, tx_beq, h2]⟩
theorem isTupK {t : Addr} {ws : List Value} {n : Nat} (I : Inv G h₀ L m N ρ σ s.heap s.toks) (X : G.K.In h₀) (h : G.K.lookup t = some (tupO ws n)) : IsTup s.heap t ws.toArray := ⟨_, I.F.keep _ _ (X _ _ h), rfl, n, rfl⟩
theorem rv_tup {v : Value} {vs : List MV} (h : RV G N ρ v (.tup vs)) (I : Inv G h₀ L m N ρ σ s.heap s.toks) (X : G.K.In h₀) : ∃ t ws, v = .ref t ∧ IsTup s.heap t ws.toArray ∧ RVs G N ρ ws vs := by
  cases h with
  | tup h1 h2 h3 => exact ⟨_, _, rfl, isTup I h1, h3⟩
  | ktup h1 h2 => exact ⟨_, _, rfl, isTupK I X h1, h2⟩
theorem one_ok {x : List Nat} {c : Nat} (h : one x = some c) : x = [c] := by
  unfold one at h
  split at h
  · (first | exact (no h).elim | cases h); rfl
  · (first | exact (no h).elim | cases h)
theorem cIn_ok {a b : MV} {va vb : Value} {c : Bool} (e : cIn σ a b = some c) (ha : RV G N ρ va a) (hb : RV G N ρ vb b) (I : Inv G h₀ L m N ρ σ s.heap s.toks) (X : G.K.In h₀) :
    (∀ (Q : Value → Shared → Prop) (E : Value → Shared → Prop), Q (.bool c) s → wpAny (model G.prog G.w) A (compareOp .In va vb) Q E s) ∧ (∀ (Q : Value → Shared → Prop) (E : Value → Shared → Prop), Q (.bool (!c)) s → wpAny (model G.prog G.w) A (compareOp .NotIn va vb) Q E s) := by
  cases a <;> try (exact (no e).elim)
  rename_i x
  (first | obtain ⟨_, rfl⟩ := ha.inv | obtain rfl := ha.inv | cases ha)
  cases b <;> try (exact (no e).elim)
  · rename_i y
    (first | obtain ⟨_, rfl⟩ := hb.inv | obtain rfl := hb.inv | cases hb)
    simp only [cIn] at e
    cases ho : one x with
    | none => rw [ho] at e; (first | exact (no e).elim | cases e)
    | some k =>
      rw [ho] at e; (first | exact (no e).elim | cases e)
      have hx := one_ok ho; subst hx
      have key := memN_found k y
      exact ⟨fun Q E q => PyProof.Rows.in_str (by rw [key]; exact q), fun Q E q => PyProof.Rows.notIn_str (by rw [key]; exact q)⟩
  · simp only [cIn] at e
    obtain ⟨t, ws, rfl, ht, hs⟩ := rv_tup hb I X
    obtain ⟨ys, h1, h2⟩ := anyStr_strs x e hs
    subst h2
    exact ⟨fun Q E q => in_tuple_strs ht h1 q, fun Q E q => notin_tuple_strs ht h1 q⟩
  · rename_i i
    simp only [cIn] at e
    unfold cInR at e
    split at e
    · rename_i xs hxs
      obtain ⟨_, hi, rfl⟩ := hb.inv
      obtain ⟨ws, n, h1, h2, h3⟩ := list_at I hi hxs
      obtain ⟨ys, g1, g2⟩ := anyStr_strs x e h2
      subst g2
      have hl := isList I h1
      have he : ∀ t y, y ∈ ws.toArray → SeqAt.EqAt A.in1 s y (.str (tx x) t) (match y with | .str z _ => z == tx x | _ => false) := fun t y hy => by
        obtain ⟨z, t, rfl⟩ := g1.all y (by simpa using hy)
        exact SeqAt.EqAt.str_str z t _ _
      have hany : ws.toArray.any (fun y => match y with | .str z _ => z == tx x | _ => false) = ys.any (· == tx x) := by
        rw [List.any_toArray]
        clear he hl h1 h2 h3 e
        induction g1 with
        | nil => rfl
        | cons y t h ih => rw [List.any_cons, List.any_cons, ih]
      exact ⟨fun Q E q => SeqAt.in_listAt _ hl (he _) (by rw [hany]; exact q), fun Q E q => SeqAt.notIn_listAt _ hl (he _) (by rw [hany]; exact q)⟩
    · (first | exact (no e).elim | cases e)
theorem cEq_ok {a b : MV} {va vb : Value} {c : Bool} (e : cEq σ a b = some c) (ha : RV G N ρ va a) (hb : RV G N ρ vb b) (I : Inv G h₀ L m N ρ σ s.heap s.toks) (X : G.K.In h₀) (hu : A.units + 64 < cLine) :
    ∀ (Q : Value → Shared → Prop) (E : Value → Shared → Prop), Q (.bool c) s → wpAny (model G.prog G.w) A (compareOp .Eq va vb) Q E s := by
  intro Q E q
  cases a <;> try (exact (no e).elim)
  · cases b <;> try (exact (no e).elim)
    (first | obtain ⟨_, rfl⟩ := ha.inv | obtain rfl := ha.inv | cases ha); (first | obtain ⟨_, rfl⟩ := hb.inv | obtain rfl := hb.inv | cases hb); simp only [cEq, Option.some.injEq] at e; subst e
    exact PyProof.Rows.eq_bool q
  · cases b <;> try (exact (no e).elim)
    (first | obtain ⟨_, rfl⟩ := ha.inv | obtain rfl := ha.inv | cases ha); (first | obtain ⟨_, rfl⟩ := hb.inv | obtain rfl := hb.inv | cases hb); simp only [cEq, Option.some.injEq] at e; subst e
    exact PyProof.Rows.eq_int q
  · cases b <;> try (exact (no e).elim)
    (first | obtain ⟨_, rfl⟩ := ha.inv | obtain rfl := ha.inv | cases ha); (first | obtain ⟨_, rfl⟩ := hb.inv | obtain rfl := hb.inv | cases hb); simp only [cEq, Option.some.injEq] at e; subst e
    exact PyProof.Rows.eq_str (by rw [tx_beq]; exact q)
  · rename_i vs
    by_cases hs : ∃ x, b = .str x
    · obtain ⟨x, rfl⟩ := hs
      (first | obtain ⟨_, rfl⟩ := hb.inv | obtain rfl := hb.inv | cases hb); simp only [cEq, Option.some.injEq] at e; subst e
      obtain ⟨t, ws, rfl, ht, hs⟩ := rv_tup ha I X
      exact EqBoolInt.of_rc (SeqAt.RcAt.tuple_str _ _ ht (by omega)) q
    · cases b <;> first | exact absurd ⟨_, rfl⟩ hs | exact (no e).elim
theorem cNe_ok {a b : MV} {va vb : Value} {c : Bool} (e : cNe σ a b = some c) (ha : RV G N ρ va a) (hb : RV G N ρ vb b) (I : Inv G h₀ L m N ρ σ s.heap s.toks) (X : G.K.In h₀) (hu : A.units + 64 < cLine) :
    ∀ (Q : Value → Shared → Prop) (E : Value → Shared → Prop), Q (.bool c) s → wpAny (model G.prog G.w) A (compareOp .NotEq va vb) Q E s := by
  intro Q E q
  cases a <;> try (exact (no e).elim)
  · cases b <;> try (exact (no e).elim)
    (first | obtain ⟨_, rfl⟩ := ha.inv | obtain rfl := ha.inv | cases ha); (first | obtain ⟨_, rfl⟩ := hb.inv | obtain rfl := hb.inv | cases hb); simp only [cNe, Option.some.injEq] at e; subst e
    exact PyProof.Rows.ne_int q
  · cases b <;> try (exact (no e).elim)
    obtain ⟨_, rfl⟩ := ha.inv; obtain ⟨_, rfl⟩ := hb.inv; simp only [cNe, Option.some.injEq] at e; subst e
    exact PyProof.Rows.ne_str (by rw [bne, tx_beq]; exact q)
theorem cInt_ok {f : Int → Int → Bool} {a b : MV} {va vb : Value} {c : Bool} (e : cInt f a b = some c) (ha : RV G N ρ va a) (hb : RV G N ρ vb b) : ∃ x t y u, va = .int x t ∧ vb = .int y u ∧ c = f x y := by
  cases a <;> try (exact (no e).elim)
  cases b <;> try (exact (no e).elim)
  (first | obtain ⟨_, rfl⟩ := ha.inv | obtain rfl := ha.inv | cases ha); (first | obtain ⟨_, rfl⟩ := hb.inv | obtain rfl := hb.inv | cases hb)
  simp only [cInt, Option.some.injEq] at e
  exact ⟨_, _, _, _, rfl, rfl, e.symm⟩
theorem cmpop_ok {op : CmpOp} {a b : MV} {va vb : Value} {c : Bool} (e : cmpop σ op a b = some c) (ha : RV G N ρ va a) (hb : RV G N ρ vb b) (I : Inv G h₀ L m N ρ σ s.heap s.toks) (X : G.K.In h₀) (hu : A.units + 64 < cLine) :
    ∀ (Q : Value → Shared → Prop) (E : Value → Shared → Prop), Q (.bool c) s → wpAny (model G.prog G.w) A (compareOp op va vb) Q E s := by
  intro Q E q
  cases op <;> try (exact (no e).elim)
  · exact cEq_ok e ha hb I X hu Q E q
  · exact cNe_ok e ha hb I X hu Q E q
  · obtain ⟨x, t, y, u, rfl, rfl, rfl⟩ := cInt_ok e ha hb
    exact PyProof.Rows.lt_int q
  · obtain ⟨x, t, y, u, rfl, rfl, rfl⟩ := cInt_ok e ha hb
    exact PyProof.Rows.gt_int q
  · obtain ⟨rfl, rfl⟩ := cIs_ok e ha hb
    exact is_none q
  · simp only [cmpop] at e
    cases h : cIs a b with
    | none => rw [h] at e; (first | exact (no e).elim | cases e)
    | some d =>
      rw [h] at e; (first | exact (no e).elim | cases e)
      obtain ⟨rfl, rfl⟩ := cIs_ok h ha hb
      exact isnot_none' q
  · exact (cIn_ok e ha hb I X).1 Q E q
  · simp only [cmpop] at e
    cases h : cIn σ a b with
    | none => rw [h] at e; (first | exact (no e).elim | cases e)
    | some d =>
      rw [h] at e; (first | exact (no e).elim | cases e)
      exact (cIn_ok h ha hb I X).2 Q E q
end
end Mine

open PySem PySem.W PyProof.Rows PySem.Calls
namespace Mine
set_option autoImplicit false
set_option backward.match.sparseCases false
set_option linter.unusedVariables false

noncomputable def NR (e : E) : Prop := ∀ x, e ≠ .raw x
section
variable {G : St} {A : Around} {h₀ : Heap} {L : Addr} {m : Str → Option Value} {N : Led} {ρ : Rho} {σ σ' σ'' : List MO} {s : Shared} {env : Env} {ns : Names}

theorem subscripted_er {e : E} (h : NR e) (o i : Value) : subscripted (e.er ns) false o i = operate [o, i] (getItem o i) := by
  cases e <;> first | exact absurd rfl (h _) | rfl
theorem letGo_str (value : Expr) (x : Str) (t : Tok) (r : Value) : letTemporaryGo value (.str x t) r = pure () := by
  cases value <;> rfl
theorem nth_ok {α : Type} {l : List α} {i : Int} {v : α} (h : nth l i = some v) : ∃ n : Nat, i = n ∧ l[n]? = some v ∧ n ≤ 4096 := by
  unfold nth at h
  split at h
  · rename_i n
    cases q : Nat.ble n 4096 with
    | false => rw [q] at h; (first | exact (no h).elim | cases h)
    | true => rw [q] at h; exact ⟨_, rfl, by rw [← at?_eq]; exact h, Nat.le_of_ble_eq_true q⟩
  · (first | exact (no h).elim | cases h)
theorem idx_ok {n k : Nat} (h : n < k) : seqIndex? (n : Int) k = some n := by
  unfold seqIndex?
  simp; omega
theorem lenOk_of {α : Type} {l : List α} {n : Nat} {v : α} (h : l[n]? = some v) : n < l.length := (List.getElem?_eq_some_iff.mp h).1
theorem small_of {h : Heap} {a : Addr} {ws : Array Value} : True := trivial
theorem DR.find {k : List Nat} {es : List (Str × Value)} {kvs : List (List Nat × MV)} (h : DR G N ρ es kvs) : (∀ mv, lkS k kvs = some mv → ∃ v, valueAt es (tx k) = some v ∧ RV G N ρ v mv) ∧ (lkS k kvs = none → valueAt es (tx k) = none) := by
  induction h with
  | nil => exact ⟨fun _ e => (nomatch e), fun _ => rfl⟩
  | cons h hs ih =>
    rename_i k' v mv es kvs
    have key : valueAt ((tx k', v) :: es) (tx k) = if eqL k' k then some v else valueAt es (tx k) := by
      unfold valueAt
      rw [List.find?_cons]
      by_cases q : k' = k
      · subst q; simp [(eqL_iff k' k').mpr rfl]
      · have q1 : eqL k' k = false := by rw [Bool.eq_false_iff]; exact fun h => q ((eqL_iff _ _).mp h)
        have q2 : ¬ (tx k' = tx k) := fun h => q (tx_inj.mp h)
        simp [q1, q2]
    have key2 : lkS k ((k', mv) :: kvs) = if eqL k' k then some mv else lkS k kvs := lkS_cons k _ kvs
    rw [key2]
    show (∀ mv', _ → ∃ v', valueAt ((tx k', v) :: es) (tx k) = some v' ∧ _) ∧ (_ → valueAt ((tx k', v) :: es) (tx k) = none)
    rw [key]
    split
    · exact ⟨fun mv' e => by (first | exact (no e).elim | cases e); exact ⟨v, rfl, h⟩, fun e => by (first | exact (no e).elim | cases e)⟩
    · exact ih
theorem dict_at {i : Nat} {p : Addr × Addr} {kvs : List (List Nat × MV)} (I : Inv G h₀ L m N ρ σ s.heap s.toks) (hp : ρ.l[i]? = some p) (e : at? σ i = some (.dict kvs)) : ∃ o es, (p.1, o) ∈ N ∧ o.IsDictOf (strKind G.prog G.w) es ∧ DR G N ρ es kvs ∧ p = (p.1, p.1) ∧ (p.1 == sysModules) = false := by
  rw [at?_eq] at e
  obtain ⟨p', hp', o⟩ := I.so i _ e
  rw [hp] at hp'; cases hp'
  cases o with
  | dict h1 h2 h0 h3 => exact ⟨_, _, h1, h2, h3, rfl, h0⟩
theorem dictOf_at {a : Addr} {o : Obj} {es : List (Str × Value)} (I : Inv G h₀ L m N ρ σ s.heap s.toks) (h1 : (a, o) ∈ N) (h2 : o.IsDictOf (strKind G.prog G.w) es) : s.heap.DictOf (strKind G.prog G.w) a es := Heap.dictOf_iff.mpr ⟨o, (I.W _ h1).1, h2⟩
theorem subs_ok {value slice : Expr} {a b mv : MV} {va vb : Value} (e : subs σ a b = some mv) (ha : RV G N ρ va a) (hb : RV G N ρ vb b) (I : Inv G h₀ L m N ρ σ s.heap s.toks) (X : G.K.In h₀)
    (hs : subscripted slice false va vb = operate [va, vb] (getItem va vb)) : Wp G A h₀ L m (subscriptTail value slice va vb) σ (VR G mv) N ρ s := by
  cases a <;> try (exact (no e).elim)
  · rename_i l
    cases b <;> try (exact (no e).elim)
    rename_i i
    simp only [subs] at e
    cases h : nth l i with
    | none => rw [h] at e; (first | exact (no e).elim | cases e)
    | some c =>
      rw [h] at e; (first | exact (no e).elim | cases e)
      obtain ⟨n, rfl, hn, hz⟩ := nth_ok h
      (first | obtain ⟨_, rfl⟩ := ha.inv | obtain rfl := ha.inv | cases ha); (first | obtain ⟨_, rfl⟩ := hb.inv | obtain rfl := hb.inv | cases hb)
      have hlt := lenOk_of hn
      refine Wp.sign I fun Q E q => tail_any (typeIs_str s _ _) F.slot_str_getitem.lookup (PyProof.Rows.getItem_str (c := c) (by simp; omega) ?_ q) hs
      rw [tx_len, idx_ok hlt]
      show (tx l).cps[n]? = some c
      simpa using hn
  · rename_i vs
    cases b <;> try (exact (no e).elim)
    rename_i i
    simp only [subs] at e
    obtain ⟨n, rfl, hn, hz⟩ := nth_ok e
    obtain ⟨t, ws, rfl, ht, hr⟩ := rv_tup ha I X
    obtain ⟨v, hv, r⟩ := hr.at hn
    (first | obtain ⟨_, rfl⟩ := hb.inv | obtain rfl := hb.inv | cases hb)
    have hlt := lenOk_of hv
    exact Wp.same' I r fun Q E q => tail_any ht.typeIs slot_tuple_getitem.lookup (PyProof.Rows.getItem_tuple ht (by omega) (by omega) (idx_ok (by simpa using hlt)) (by simpa using hv) q) hs
  · rename_i i
    simp only [subs] at e
    obtain ⟨_, hi, rfl⟩ := ha.inv
    cases hxs : at? σ i with
    | none => rw [hxs] at e; cases b <;> (first | exact (no e).elim | cases e)
    | some mo =>
      rw [hxs] at e
      cases mo <;> try (exact (no e).elim)
      · rename_i xs
        cases b <;> try (exact (no e).elim)
        rename_i j
        simp only [subsR] at e
        obtain ⟨n, rfl, hn, hz⟩ := nth_ok e
        obtain ⟨ws, k, h1, h2, h3⟩ := list_at I hi hxs
        obtain ⟨v, hv, r⟩ := h2.at hn
        (first | obtain ⟨_, rfl⟩ := hb.inv | obtain rfl := hb.inv | cases hb)
        have hl := isList I h1
        exact Wp.same' I r fun Q E q => tail_any hl.typeIs slot_list_getitem.lookup (wpAny_getItem_list hl (by omega) (by omega) (by simpa using hv) q) hs
      · rename_i kvs
        cases b <;> try (exact (no e).elim)
        rename_i x
        simp only [subsR] at e
        obtain ⟨o, es, h1, h2, h3, h4⟩ := dict_at I hi hxs
        obtain ⟨v, hv, r⟩ := (h3.find (k := x)).1 _ e
        (first | obtain ⟨_, rfl⟩ := hb.inv | obtain rfl := hb.inv | cases hb)
        have hd := dictOf_at I h1 h2
        exact Wp.same I r fun Q E q => tail_any hd.typeIs slot_dict_getitem.lookup (wpAny_getItem_of (strKind_is G.prog G.w (tx x) _) hd.mapOf hv q) hs

/-! ### slices -/
theorem part_ok {v : Value} {mv : MV} {o : Option Nat} (e : part mv = some o) (h : RV G N ρ v mv) : IsPart v (oi o) := by
  unfold part at e
  split at e
  · (first | exact (no e).elim | cases e); (first | exact (no h).elim | cases h); exact .none
  · split at e
    · (first | exact (no e).elim | cases e); (first | exact (no h).elim | cases h); exact .int _ _
    · (first | exact (no e).elim | cases e)
  · (first | exact (no e).elim | cases e)
theorem RVs.cut {ws : List Value} {xs : List MV} (h : RVs G N ρ ws xs) (lo hi : Option Nat) : RVs G N ρ (cut ws lo hi) (cut xs lo hi) := by
  have ht : ∀ {ws : List Value} {xs : List MV} (n : Nat), RVs G N ρ ws xs → RVs G N ρ (ws.take n) (xs.take n) := by
    intro ws xs
    induction xs generalizing ws with
    | nil => intro n h; rw [h.nilv]; simp; exact .nil
    | cons x xs ih =>
      intro n h
      obtain ⟨_, _, rfl, h, hs⟩ := h.uncons
      cases n with
      | zero => exact .nil
      | succ n => exact .cons h (ih n hs)
  have hd : ∀ {ws : List Value} {xs : List MV} (n : Nat), RVs G N ρ ws xs → RVs G N ρ (ws.drop n) (xs.drop n) := by
    intro ws xs
    induction xs generalizing ws with
    | nil => intro n h; rw [h.nilv]; simp; exact .nil
    | cons x xs ih =>
      intro n h
      obtain ⟨_, _, rfl, h, hs⟩ := h.uncons
      cases n with
      | zero => exact .cons h hs
      | succ n => exact ih n hs
  unfold Mine.cut
  cases hi with
  | none => exact hd _ h
  | some n => exact hd _ (ht _ h)
theorem kms_cut (l : List Value) (lo hi : Option Nat) : kms_pick l (oi lo) (oi hi) = cut l lo hi := by
  unfold kms_pick cut
  have e1 : kms_lo (oi lo) l.length = min (lo.getD 0) l.length := by cases lo <;> simp [kms_lo, oi]; try omega
  have e2 : kms_hi (oi hi) l.length = (match hi with | some n => min n l.length | none => l.length) := by cases hi <;> simp [kms_hi, oi]; try omega
  rw [e1, e2]
  cases hi with
  | none => simp only []; rw [← List.drop_take]; simp
  | some n =>
    simp only []
    rw [← List.drop_take]
    have : l.take (min n l.length) = l.take n := by rw [List.take_eq_take_iff]; omega
    rw [this]
    by_cases h : lo.getD 0 ≤ l.length
    · rw [Nat.min_eq_left h]
    · rw [Nat.min_eq_right (by omega), List.drop_eq_nil_of_le (by simp; omega), List.drop_eq_nil_of_le (by simp; omega)]
theorem cutE_ok {value slice : Expr} {lo hi : Option (Option Nat)} {a mv ml mh : MV} {va vl vh : Value} (e : cutE σ (part ml) (part mh) a = some (mv, σ')) (ha : RV G N ρ va a) (hl : RV G N ρ vl ml) (hh : RV G N ρ vh mh) (I : Inv G h₀ L m N ρ σ s.heap s.toks) (hB : ∀ p ∈ G.BL, h₀.IsList p.1 p.2.toArray)
    (hs : subscripted slice false va (.ref s.heap.objs.size) = operate [.ref s.heap.objs.size, va] (getItem va (.ref s.heap.objs.size))) :
    Wp G A h₀ L m (subscriptTail value slice va (.ref s.heap.objs.size)) σ' (VR G mv) N ρ { s with heap := s.heap.push { cls := .type "slice", data := .fields #[vl, vh, .none] } } := by
  cases a <;> try (exact (no e).elim)
  · rename_i l
    simp only [cutE] at e
    cases hz : lenOk l.length with
    | false => rw [hz] at e; (first | exact (no e).elim | cases e)
    | true =>
    rw [hz] at e
    cases p1 : part ml with
    | none => rw [p1] at e; (first | exact (no e).elim | cases e)
    | some lo =>
      rw [p1] at e
      cases p2 : part mh with
      | none => rw [p2] at e; (first | exact (no e).elim | cases e)
      | some hi =>
        rw [p2] at e; (first | exact (no e).elim | cases e)
        (first | obtain ⟨_, rfl⟩ := ha.inv | obtain rfl := ha.inv | cases ha)
        have q1 := part_ok p1 hl
        have q2 := part_ok p2 hh
        have hsz : (tx l).length ≤ sizeLine := by rw [tx_len]; exact lenOk_line hz
        intro Q E k
        refine toksUp ?_
        have fin : ∀ h' t' k', Fr h₀ L h' m → News h₀ L h' N → s.toks ≤ k' → Q (.str (Txt.slice (tx l) (oi lo) (oi hi)) t') { s with heap := h', toks := k' } := fun h' t' k' F' W' le => by
          rw [slice_cut]
          exact k _ h' k' N ρ (I.grown le F' W') (Ext.refl _ _ _) (.str _ _)
        cases lo <;> cases hi <;> cases q1 <;> cases q2
        · exact slice_strN_nn I.F I.W fin hs (letGo_str _ _ _) hsz
        · exact slice_strN_ns I.F I.W fin hs (letGo_str _ _ _) hsz
        · exact slice_strN_sn I.F I.W fin hs (letGo_str _ _ _) hsz
        · exact slice_strN_ss I.F I.W fin hs (letGo_str _ _ _) hsz
  · rename_i i
    simp only [cutE] at e
    cases p1 : part ml with
    | none => rw [p1] at e; (first | exact (no e).elim | cases e)
    | some lo =>
      rw [p1] at e
      cases p2 : part mh with
      | none => rw [p2] at e; (first | exact (no e).elim | cases e)
      | some hi =>
        rw [p2] at e
        simp only [Option.bind_some] at e
        obtain ⟨_, hi', rfl⟩ := ha.inv
        cases hxs : at? σ i with
        | none => rw [hxs] at e; (first | exact (no e).elim | cases e)
        | some mo =>
          rw [hxs] at e
          cases mo <;> try (exact (no e).elim)
          rename_i xs
          simp only [cutR] at e
          cases hz : lenOk xs.length with
          | false => rw [hz] at e; (first | exact (no e).elim | cases e)
          | true =>
            rw [hz] at e
            obtain ⟨ws, n, h1, h2, h3⟩ := list_at I hi' hxs
            have q1 := part_ok p1 hl
            have q2 := part_ok p2 hh
            let s₁ : Shared := { s with heap := s.heap.push { cls := .type "slice", data := .fields #[vl, vh, .none] } }
            have I₁ : Inv G h₀ L m N ρ σ s₁.heap s₁.toks := I.grown (Nat.le_refl _) (I.F.push _) (I.W.pushKeep _)
            have hl := isList I h1
            have hl₁ : s₁.heap.IsList _ ws.toArray := hl.push _
            refine newL_ok (s := s₁) e (h2.cut lo hi) I₁ fun hz' Q E q => ?_
            refine tail_any hl₁.typeIs slot_list_getitem.lookup (wpAny_getItem_list_slice (vl := vl) (vu := vh) (vs := .none) hl₁ ⟨_, Heap.get?_push_size _ rfl, rfl, rfl⟩ q1 q2 .none (by simp) ?_ (by
              have := lenOk_line hz
              have := h2.length
              show ws.toArray.size ≤ _
              simp; omega)) hs
            rw [kms_pick_eq]
            show Q _ { s₁ with heap := s₁.heap.push (listOf (kms_pick ws.toArray.toList (oi lo) (oi hi)).toArray 0) }
            have e3 : kms_pick ws.toArray.toList (oi lo) (oi hi) = cut ws lo hi := by rw [← kms_cut]
            rw [e3]
            exact q _ _ s₁.toks (I₁.F.push _) (I₁.W.push I₁.F _) (fun p hp => Heap.lt_size (I₁.W p hp).1)
  · rename_i xs
    simp only [cutE] at e
    cases p1 : part ml with
    | none => rw [p1] at e; (first | exact (no e).elim | cases e)
    | some lo =>
      rw [p1] at e
      cases p2 : part mh with
      | none => rw [p2] at e; (first | exact (no e).elim | cases e)
      | some hi =>
        rw [p2] at e
        simp only [Option.bind_some] at e
        obtain ⟨_, _, hb, h2, rfl⟩ := ha.inv
        rename_i a ws
        cases hz : lenOk xs.length with
        | false => rw [hz] at e; (first | exact (no e).elim | cases e)
        | true =>
          rw [hz] at e
          have q1 := part_ok p1 hl
          have q2 := part_ok p2 hh
          let s₁ : Shared := { s with heap := s.heap.push { cls := .type "slice", data := .fields #[vl, vh, .none] } }
          have I₁ : Inv G h₀ L m N ρ σ s₁.heap s₁.toks := I.grown (Nat.le_refl _) (I.F.push _) (I.W.pushKeep _)
          have hl₀ : s.heap.IsList a ws.toArray := let ⟨o, ho, r⟩ := hB _ hb; ⟨o, I.F.keep _ _ ho, r⟩
          have hl₁ : s₁.heap.IsList _ ws.toArray := hl₀.push _
          refine newL_ok (s := s₁) e (h2.cut lo hi) I₁ fun hz' Q E q => ?_
          refine tail_any hl₁.typeIs slot_list_getitem.lookup (wpAny_getItem_list_slice (vl := vl) (vu := vh) (vs := .none) hl₁ ⟨_, Heap.get?_push_size _ rfl, rfl, rfl⟩ q1 q2 .none (by simp) ?_ (by
            have := lenOk_line hz
            have := h2.length
            show ws.toArray.size ≤ _
            simp; omega)) hs
          rw [kms_pick_eq]
          show Q _ { s₁ with heap := s₁.heap.push (listOf (kms_pick ws.toArray.toList (oi lo) (oi hi)).toArray 0) }
          have e3 : kms_pick ws.toArray.toList (oi lo) (oi hi) = cut ws lo hi := by rw [← kms_cut]
          rw [e3]
          exact q _ _ s₁.toks (I₁.F.push _) (I₁.W.push I₁.F _) (fun p hp => Heap.lt_size (I₁.W p hp).1)
end
end Mine

open PySem PySem.W PyProof.Rows PySem.Calls
namespace Mine
set_option autoImplicit false
set_option backward.match.sparseCases false
set_option linter.unusedVariables false

/-! ## attributes -/
theorem an_inj : ∀ a < 20, ∀ b < 20, an a = an b → a = b := by decide +kernel
theorem an_ne {a b : Nat} (ha : a < 20) (hb : b < 20) (h : a ≠ b) : (an a == an b) = false := by
  rw [beq_eq_false_iff_ne]; exact fun e => h (an_inj a ha b hb e)
/-- what is told of a class of the program -/
structure ClsOk (G : St) (k : Nat) (c : Cl) : Prop where
  dict : hasDictIn G.K (G.CA k) = true
  plain : plainOver G.K (G.CA k) = true
  get : findIn G.K (.ref (G.CA k)) "__getattribute__" = some (some (.builtin "object.__getattribute__")) ∧ findIn G.K (.ref (G.CA k)) "__getattr__" = some none
  set : findIn G.K (.ref (G.CA k)) "__setattr__" = some (some (.builtin "object.__setattr__"))
  none : ∀ a < 20, lkN a c.meths = none → findIn G.K (.ref (G.CA k)) (an a) = some none
  meth : ∀ a < 20, ∀ f, lkN a c.meths = some f → findIn G.K (.ref (G.CA k)) (an a) = some (some (.ref (G.FA f))) ∧ isFn G.K (.ref (G.FA f)) = true
  make : ∀ f, c.ini = some f → makesIn G.K (G.CA k) = true ∧ findIn G.K (.ref (G.CA k)) "__init__" = some (some (.ref (G.FA f))) ∧ typeIn G.K (.ref (G.FA f)) = some (.type "function")
theorem ClsOk.plainGet {G : St} {k : Nat} {c : Cl} (C : ClsOk G k c) (x : Str) : plainGet G.K (G.CA k) x = true := by
  unfold PySem.W.plainGet; rw [C.get.1, C.get.2]; rfl
theorem ClsOk.taker {G : St} {k : Nat} {c : Cl} (C : ClsOk G k c) {a : Nat} (ha : a < 20) (h : lkN a c.meths = Option.none) : takerIn G.K (G.CA k) (an a) = some Option.none := by
  unfold takerIn; rw [C.none a ha h]; rfl

section
variable {G : St} {A : Around} {h₀ : Heap} {L : Addr} {m : Str → Option Value} {N : Led} {ρ : Rho} {σ σ' σ'' : List MO} {s : Shared} {env : Env} {ns : Names}
theorem AR.get {a : Nat} (ha : a < 20) {es : List DictEntry} {ats : List (Nat × MV)} (h : AR G N ρ es ats) : (∀ mv, lkN a ats = some mv → ∃ v, getL (an a) es = some (some v) ∧ RV G N ρ v mv) ∧ (lkN a ats = none → getL (an a) es = some none) := by
  induction h with
  | nil => exact ⟨fun _ e => (nomatch e), fun _ => rfl⟩
  | cons hb h hs ih =>
    rename_i hh b t v mv es ats
    have key2 : lkN a ((b, mv) :: ats) = if Nat.beq b a then some mv else lkN a ats := lkN_cons a _ ats
    have ks : (Value.str (an b) t).isStr (an a) = (an b == an a) := rfl
    rw [key2]
    by_cases q : b = a
    · subst q
      have hq : Nat.beq b b = true := by simp
      have hbb : (an b == an b) = true := by simp
      simp only [hq, if_true]
      exact ⟨fun mv' e => by (first | exact (no e).elim | cases e); exact ⟨v, by unfold getL; rw [List.find?_cons, ks, hbb], h⟩, fun e => by (first | exact (no e).elim | cases e)⟩
    · have hq : Nat.beq b a = false := by rw [Bool.eq_false_iff]; exact fun h => q (Nat.eq_of_beq_eq_true h)
      have hbb := an_ne hb ha q
      have hr : (⟨hh, .str (an b) t, v⟩ : DictEntry).refKey = false := rfl
      have key : getL (an a) (⟨hh, .str (an b) t, v⟩ :: es) = getL (an a) es := by
        unfold getL; rw [List.find?_cons, ks, hbb, List.any_cons, hr, Bool.false_or]
      simp only [hq, Bool.false_eq_true, if_false]
      rw [key]
      exact ih
theorem AR.put {a : Nat} {hsh : Int} {t : Tok} {v : Value} {mv : MV} (ha : a < 20) (hv : RV G N ρ v mv) {es : List DictEntry} {ats : List (Nat × MV)} (h : AR G N ρ es ats) : AR G N ρ (putL (an a) hsh (.str (an a) t) v es) (putN a mv ats) := by
  induction h with
  | nil => exact .cons ha hv .nil
  | cons hb h hs ih =>
    rename_i hh b t' w mw es ats
    have ks : (Value.str (an b) t').isStr (an a) = (an b == an a) := rfl
    have key2 : Mine.putN a mv ((b, mw) :: ats) = if Nat.beq b a then (a, mv) :: ats else (b, mw) :: Mine.putN a mv ats := putN_cons a mv _ ats
    rw [key2]
    show AR G N ρ (if (Value.str (an b) t').isStr (an a) then _ else _) _
    rw [ks]
    by_cases q : b = a
    · subst q
      have hq : Nat.beq b b = true := by simp
      have hbb : (an b == an b) = true := by simp
      simp only [hq, hbb, if_true]
      exact .cons hb hv hs
    · have hq : Nat.beq b a = false := by rw [Bool.eq_false_iff]; exact fun h => q (Nat.eq_of_beq_eq_true h)
      have hbb := an_ne hb ha q
      simp only [hq, hbb, Bool.false_eq_true, if_false]
      exact .cons hb h ih
theorem AR.length {es : List DictEntry} {ats : List (Nat × MV)} (h : AR G N ρ es ats) : es.length = ats.length := by
  induction h with
  | nil => rfl
  | cons _ _ _ ih => rw [List.length_cons, List.length_cons, ih]
theorem inst_at {i k : Nat} {p : Addr × Addr} {ats : List (Nat × MV)} (I : Inv G h₀ L m N ρ σ s.heap s.toks) (hp : ρ.l[i]? = some p) (e : at? σ i = some (.inst k ats)) :
    ∃ es n, (p.1, instObj (G.CA k) p.2) ∈ N ∧ (p.2, dictOf es n) ∈ N ∧ AR G N ρ es ats := by
  rw [at?_eq] at e
  obtain ⟨p', hp', o⟩ := I.so i _ e
  rw [hp] at hp'; cases hp'
  cases o with
  | inst h1 h2 h3 => exact ⟨_, _, h1, h2, h3⟩
theorem handed {v : Value} {mv : MV} (h : RV G N ρ v mv) (hn : notAny mv = true) : handedIn v = true := by
  cases h <;> try rfl
  · rename_i b; cases b <;> first | rfl | decide +kernel
  · cases hn
theorem okAny_ok {v w : MV} (h : okAny v = some w) : w = v ∧ notAny v = true := by
  unfold okAny at h
  cases q : notAny v with
  | false => rw [q] at h; (first | exact (no h).elim | cases h)
  | true => rw [q] at h; (first | exact (no h).elim | cases h); exact ⟨rfl, rfl⟩
theorem lt20 {a : Nat} (h : Nat.ble a 19 = true) : a < 20 := Nat.lt_succ_of_le (Nat.le_of_ble_eq_true h)
/-- what is told of the classes -/
structure ClsAll (G : St) (CT : List Cl) : Prop where
  ok : ∀ k c, at? CT k = some c → ClsOk G k c
  fns : ∀ k c, at? CT k = some c → ∀ a f, lkN a c.meths = some f → specialIn G.K (.ref (G.FA f)) "__get__" = some (some (.builtin "function.__get__")) ∧ takesIn G.K (.ref (G.FA f)) = some false
  names : ∀ a < 20, copiedNames.contains (an a) = false
  isi : ∀ k c, k ≤ 3 → c ≤ 3 → k ≠ c → clsAsk G.K (G.CA k) = true ∧ isNotC G.K (G.CA k) (G.CA c) = true
theorem instAt {a d : Addr} {k : Nat} {es : List DictEntry} {n : Nat} (I : Inv G h₀ L m N ρ σ s.heap s.toks) (h1 : (a, instObj (G.CA k) d) ∈ N) (h2 : (d, dictOf es n) ∈ N) : InstAt s.heap a (instObj (G.CA k) d) (G.CA k) (some (dictOf es n)) := InstAt.of_news I.W h1 h2
theorem notMeth_ok {CT : List Cl} {k a : Nat} (h : notMeth CT k a = true) : ∃ c, at? CT k = some c ∧ lkN a c.meths = none := by
  unfold notMeth at h
  cases hc : at? CT k with
  | none => rw [hc] at h; (first | exact (no h).elim | cases h)
  | some c =>
    rw [hc] at h
    refine ⟨c, rfl, ?_⟩
    have : notMethN a c = true := h
    unfold notMethN at this
    cases hz : lkN a c.meths with
    | none => rfl
    | some f => rw [hz] at this; cases this
theorem attrE_ok {CT : List Cl} (hC : ClsAll G CT) {a : Nat} {mv x : MV} {v : Value} {expr : Bool} (e : attrE CT σ a x = some (mv, σ')) (hx : RV G N ρ v x) (I : Inv G h₀ L m N ρ σ s.heap s.toks) (X : G.K.In h₀) :
    Wp G A h₀ L m (getAttr v (an a) expr) σ' (VR G mv) N ρ s := by
  cases x <;> try (exact (no e).elim)
  rename_i i
  simp only [attrE] at e
  obtain ⟨_, hi, rfl⟩ := hx.inv
  cases hq : at? σ i with
  | none => rw [hq] at e; (first | exact (no e).elim | cases e)
  | some mo =>
    rw [hq] at e
    cases mo <;> try (exact (no e).elim)
    rename_i k ats
    simp only [attrB] at e
    cases ha : Nat.ble a 19 with
    | false => rw [ha] at e; (first | exact (no e).elim | cases e)
    | true =>
      rw [ha] at e
      have ha' := lt20 ha
      obtain ⟨es, n, h1, h2, h3⟩ := inst_at I hi hq
      simp only [cond_true] at e
      cases hl : lkN a ats with
      | some w =>
        rw [hl] at e
        simp only at e
        cases hnm : notMeth CT k a with
        | false => rw [hnm] at e; (first | exact (no e).elim | cases e)
        | true =>
          rw [hnm] at e
          obtain ⟨c, hc, hcn⟩ := notMeth_ok hnm
          have C := hC.ok k c hc
          cases hok : okAny w with
          | none => rw [hok] at e; (first | exact (no e).elim | cases e)
          | some w' =>
            rw [hok] at e; (first | exact (no e).elim | cases e)
            obtain ⟨rfl, hn⟩ := okAny_ok hok
            obtain ⟨u, hu, r⟩ := (h3.get ha').1 _ hl
            exact Wp.same I r fun Q E q => get_own I.F X (instAt I h1 h2) (C.plainGet _) C.dict (C.none a ha' hcn) rfl hu (handed r hn) q
      | none =>
        rw [hl] at e
        simp only at e
        cases hc : at? CT k with
        | none => rw [hc] at e; (first | exact (no e).elim | cases e)
        | some c =>
          rw [hc] at e
          simp only [Option.bind_some, bndK] at e
          cases hf : lkN a c.meths with
          | none => rw [hf] at e; (first | exact (no e).elim | cases e)
          | some f =>
            rw [hf] at e; (first | exact (no e).elim | cases e)
            have C := hC.ok k c hc
            obtain ⟨g1, g2⟩ := C.meth a ha' f hf
            obtain ⟨g3, g4⟩ := hC.fns k c hc a f hf
            have hu := (h3.get ha').2 hl
            intro Q E q
            refine toksUp (kbm_bound I.F X I.W (instAt I h1 h2) (C.plainGet _) C.dict g1 g2 g3 g4 (hC.names a ha') hu fun b h' F' W' hlt le => ?_)
            obtain ⟨J, x⟩ := I.more le (new := [(b, methodObj (.ref (G.FA f)) (.ref _))]) F' W' (by simp) (by simpa using Fresh.lt hlt)
            exact q _ h' _ _ ρ J x (.any _)
theorem AR.full : ∀ {es : List DictEntry} {ats : List (Nat × MV)}, AR G N ρ es ats → ∀ {a : Nat}, a < 20 → (getL (an a) es).isSome = true := fun h a ha => by
  cases hl : lkN a _ with
  | none => rw [(h.get ha).2 hl]; rfl
  | some mv => obtain ⟨v, hv, _⟩ := (h.get ha).1 mv hl; rw [hv]; rfl
theorem putN_len (a : Nat) (v : MV) : ∀ ats : List (Nat × MV), (putN a v ats).length ≤ ats.length + 1
  | [] => Nat.le_refl _
  | p :: r => by
    rw [putN_cons]
    split
    · exact Nat.le_succ _
    · exact Nat.succ_le_succ (putN_len a v r)
theorem putA_ok {CT : List Cl} (hC : ClsAll G CT) {a : Nat} {mv x : MV} {v vx : Value} (e : putA CT a mv σ x = some σ') (hx : RV G N ρ vx x) (hv : RV G N ρ v mv) (I : Inv G h₀ L m N ρ σ s.heap s.toks) (X : G.K.In h₀) :
    Wp G A h₀ L m (setAttr vx (an a) v) σ' UR N ρ s := by
  cases x <;> try (exact (no e).elim)
  rename_i i
  simp only [putA] at e
  obtain ⟨_, hi, rfl⟩ := hx.inv
  cases hq : at? σ i with
  | none => rw [hq] at e; (first | exact (no e).elim | cases e)
  | some mo =>
    rw [hq] at e
    cases mo <;> try (exact (no e).elim)
    rename_i k ats
    simp only [putAt] at e
    cases ha : Nat.ble a 19 with
    | false => rw [ha] at e; (first | exact (no e).elim | cases e)
    | true =>
      cases hz : Nat.ble ats.length 900 with
      | false => rw [ha, hz] at e; (first | exact (no e).elim | cases e)
      | true =>
        cases hnm : notMeth CT k a with
        | false => rw [ha, hz, hnm] at e; (first | exact (no e).elim | cases e)
        | true =>
          rw [ha, hz, hnm] at e; (first | exact (no e).elim | cases e)
          have ha' := lt20 ha
          obtain ⟨c, hc, hcn⟩ := notMeth_ok hnm
          have C := hC.ok k c hc
          obtain ⟨es, n, h1, h2, h3⟩ := inst_at I hi hq
          intro Q E q
          have h3' := h3.put (hsh := PyData.keyHash G.w.params (an a)) (t := s.toks + 1) ha' hv
          have hlen : (putL (an a) (PyData.keyHash G.w.params (an a)) (.str (an a) (s.toks + 1)) v es).length ≤ 1000 := by
            rw [h3'.length]
            have := putN_len a mv ats
            have := Nat.le_of_ble_eq_true hz
            omega
          refine toksUp (set_dict I.F X I.W (instAt I h1 h2) rfl C.set C.plain (C.taker ha' hcn) C.dict (h3.full ha') rfl (upd_Upd I.nd h2) hlen fun h' F' W' le => ?_)
          obtain ⟨J, x⟩ := I.turn le (mo := .inst k (Mine.putN a mv ats)) F' W' hi (.inr rfl) h2 (fun ps e => by have := congrArg Obj.data e; simp at this) (fun x => by
            refine .inst (upd_mem h1 ?_) (upd_self h2) (h3'.mono x)
            intro e'
            have e4 := nodup_row I.nd h1 (show (_, dictOf es n) ∈ N by rw [show _ = _ from e']; exact h2)
            exact absurd (congrArg Obj.cls e4) (by simp))
          exact q () h' _ _ ρ J x trivial
end
end Mine

open PySem PySem.W PyProof.Rows PySem.Calls
namespace Mine
set_option autoImplicit false
set_option backward.match.sparseCases false
set_option linter.unusedVariables false

section
variable {G : St} {A : Around} {h₀ : Heap} {L : Addr} {m : Str → Option Value} {N : Led} {ρ : Rho} {σ σ' σ'' : List MO} {s : Shared} {env : Env} {ns : Names}

/-! ### dicts -/
theorem DR.keys {es : List (Str × Value)} {kvs : List (List Nat × MV)} (h : DR G N ρ es kvs) (k : List Nat) : hasS k kvs = es.any (fun kv => kv.1 = tx k) := by
  induction h with
  | nil => rfl
  | cons h hs ih =>
    rename_i k' _ _ _ _
    show (eqL k' k || hasS k _) = _
    rw [List.any_cons, ih]
    congr 1
    rw [eqL_dec]
    exact decide_eq_decide.mpr tx_inj.symm
theorem DR.length {es : List (Str × Value)} {kvs : List (List Nat × MV)} (h : DR G N ρ es kvs) : es.length = kvs.length := by
  induction h with
  | nil => rfl
  | cons _ _ ih => rw [List.length_cons, List.length_cons, ih]
theorem DR.map {k : List Nat} {v : Value} {mv : MV} (hv : RV G N ρ v mv) {es : List (Str × Value)} {kvs : List (List Nat × MV)} (h : DR G N ρ es kvs) : DR G N ρ (es.map fun kv => if kv.1 = tx k then (kv.1, v) else kv) (mapS k mv kvs) := by
  induction h with
  | nil => exact .nil
  | cons h hs ih =>
    rename_i k' w mw _ _
    show DR G N ρ ((if tx k' = tx k then (tx k', v) else (tx k', w)) :: _) (cond (eqL k' k) (k', mv) (k', mw) :: _)
    by_cases q : k' = k
    · subst q
      rw [if_pos rfl, (eqL_iff k' k').mpr rfl]
      exact .cons hv ih
    · have q1 : eqL k' k = false := by rw [Bool.eq_false_iff]; exact fun h => q ((eqL_iff _ _).mp h)
      rw [if_neg (fun h => q (tx_inj.mp h)), q1]
      exact .cons h ih
theorem DR.append {es es' : List (Str × Value)} {kvs kvs' : List (List Nat × MV)} (h : DR G N ρ es kvs) (y : DR G N ρ es' kvs') : DR G N ρ (es ++ es') (kvs ++ kvs') :=
  DR.rec (motive := fun es kvs _ => DR G N ρ (es ++ es') (kvs ++ kvs')) y (fun h _ ih => .cons h ih) h
theorem DR.put {k : List Nat} {v : Value} {mv : MV} (hv : RV G N ρ v mv) {es : List (Str × Value)} {kvs : List (List Nat × MV)} (h : DR G N ρ es kvs) : DR G N ρ (stored es (tx k) v) (putS k mv kvs) := by
  unfold putS stored
  rw [h.keys k]
  cases q : es.any (fun kv => kv.1 = tx k) with
  | true => rw [if_pos rfl]; exact h.map hv
  | false => rw [if_neg (by simp)]; exact h.append (.cons hv .nil)
theorem listTurn {i : Nat} {p : Addr × Addr} {ws ws' : List Value} {n n' : Nat} {xs' : List MV} {h' : Heap} {tk : Nat} (I : Inv G h₀ L m N ρ σ s.heap s.toks) (le : s.toks ≤ tk) (hp : ρ.l[i]? = some p) (hpp : p = (p.1, p.1)) (h1 : (p.1, listOf ws.toArray n) ∈ N)
    (F' : Fr h₀ L h' m) (W' : News h₀ L h' (upd p.1 (listOf ws'.toArray n') N)) (hx : RVs G N ρ ws' xs') :
    Inv G h₀ L m (upd p.1 (listOf ws'.toArray n') N) ρ (setAt (.list xs') σ i) h' tk ∧ Ext G N ρ (upd p.1 (listOf ws'.toArray n') N) ρ :=
  I.turn le F' W' hp (.inl rfl) h1 (fun ps e => by have := congrArg Obj.cls e; simp at this) fun x => by
    rw [hpp]; exact .list (upd_self h1) (hx.mono x)
theorem RVs.set {v : Value} {mv : MV} (hv : RV G N ρ v mv) {ws : List Value} {xs : List MV} {n : Nat} (h : RVs G N ρ ws xs) : RVs G N ρ (ws.set n v) (setAt mv xs n) := by
  induction xs generalizing ws n with
  | nil => rw [h.nilv]; exact .nil
  | cons x xs ih =>
    obtain ⟨_, _, rfl, h, hs⟩ := h.uncons
    cases n with
    | zero => exact .cons hv hs
    | succ n => exact .cons h (ih hs)
theorem putI_ok {i mv x : MV} {v vi vx : Value} (e : putI mv σ i x = some σ') (hx : RV G N ρ vx x) (hi : RV G N ρ vi i) (hv : RV G N ρ v mv) (I : Inv G h₀ L m N ρ σ s.heap s.toks) :
    Wp G A h₀ L m (setItem vx vi v) σ' UR N ρ s := by
  cases x <;> try (exact (no e).elim)
  rename_i k
  simp only [putI] at e
  obtain ⟨pk, hk, rfl⟩ := hx.inv
  cases hq : at? σ k with
  | none => rw [hq] at e; (first | exact (no e).elim | cases e)
  | some mo =>
    rw [hq] at e
    cases mo <;> try (exact (no e).elim)
    rename_i kvs
    cases i <;> try (exact (no e).elim)
    rename_i x
    simp only [putIt] at e
    cases hz : lenOk kvs.length with
    | false => rw [hz] at e; (first | exact (no e).elim | cases e)
    | true =>
      rw [hz] at e; (first | exact (no e).elim | cases e)
      (first | obtain ⟨_, rfl⟩ := hi.inv | obtain rfl := hi.inv | cases hi)
      obtain ⟨o, es, h1, h2, h3, h4, h5⟩ := dict_at I hk hq
      have hd := dictOf_at I h1 h2
      intro Q E q
      refine toksUp (wpAny_setItem_pairs (strKind_is G.prog G.w (tx x) _) hd (fun h' hd' sb le => ?_) (by rw [h3.length]; exact lenOk_line hz))
      obtain ⟨o', ho', hd''⟩ := Heap.dictOf_iff.mp hd'
      obtain ⟨J, xx⟩ := I.turn le (mo := .dict (putS x mv kvs)) (I.F.update I.W h1 sb) (I.W.update h1 sb ho') hk (.inl rfl) h1 (fun ps e => by
          obtain ⟨_, _, _, e2, _⟩ := h2; rw [e] at e2; cases e2) (fun xx => by
        rw [h4]
        exact .dict (upd_self h1) hd'' h5 ((h3.put hv).mono xx))
      exact q () h' _ _ ρ J xx trivial

/-! ### methods of lists, dicts, texts -/
theorem popL_ok : ∀ {xs : List MV} {ws : List Value} {p : List MV × MV}, popL xs = some p → RVs G N ρ ws xs → ∃ us y, kl_last ws = some (us, y) ∧ RVs G N ρ us p.1 ∧ RV G N ρ y p.2
  | [], ws, p, e, h => by (first | exact (no e).elim | cases e)
  | x :: r, ws, p, e, h => by
    cases h with
    | cons h hs =>
      rename_i w ws
      simp only [popL] at e
      cases hq : popL r with
      | none =>
        rw [hq] at e; (first | exact (no e).elim | cases e)
        have hr : r = [] := by
          cases r with
          | nil => rfl
          | cons y r' =>
            simp only [popL] at hq
            split at hq <;> cases hq
        subst hr
        cases hs
        exact ⟨[], w, rfl, .nil, h⟩
      | some q =>
        rw [hq] at e; (first | exact (no e).elim | cases e)
        obtain ⟨us, y, g1, g2, g3⟩ := popL_ok hq hs
        exact ⟨w :: us, y, by simp only [kl_last, g1], .cons h g2, g3⟩
noncomputable def lname (a : Nat) : String := if Nat.beq a 10 then "list.append" else "list.pop"
theorem apL_ok {a : Nat} {as : List MV} {v mv : MV} {va : Value} {vs : List Value} (ha : a = 10 ∨ a = 11) (e : apLv σ a as v = some (mv, σ')) (hv : RV G N ρ va v) (hs : RVs G N ρ vs as) (I : Inv G h₀ L m N ρ σ s.heap s.toks) :
    Wp G A h₀ L m (call (.builtin (lname a)) (va :: vs)) σ' (VR G mv) N ρ s := by
  cases v <;> try (exact (no e).elim)
  rename_i i
  simp only [apLv] at e
  obtain ⟨_, hi, rfl⟩ := hv.inv
  cases hq : at? σ i with
  | none => rw [hq] at e; (first | exact (no e).elim | cases e)
  | some mo =>
    rw [hq] at e
    cases mo <;> try (exact (no e).elim)
    rename_i xs
    simp only [apL] at e
    obtain ⟨ws, n, h1, h2, h3⟩ := list_at I hi hq
    rcases ha with rfl | rfl
    · simp only [mList] at e
      · · obtain ⟨vb, b, rfl, hb, e⟩ := a1_ok e hs
          cases hz : lenOk xs.length with
          | false => rw [hz] at e; (first | exact (no e).elim | cases e)
          | true =>
            rw [hz] at e; (first | exact (no e).elim | cases e)
            intro Q E q
            refine toksUp (append_K (its := ws.toArray) (n := n) I.F I.W (upd_Upd I.nd h1) (fun h' F' W' le => ?_) (by have := lenOk_line hz; have := h2.length; simp; omega))
            have hw : ws.toArray.push vb = (ws ++ [vb]).toArray := by simp
            rw [hw] at W'
            obtain ⟨J, x⟩ := listTurn I le hi h3 h1 F' W' (h2.append (.cons hb .nil))
            exact q _ h' _ _ ρ J x .none
    · simp only [mList] at e
      cases as with
      | cons b bs => (first | exact (no e).elim | cases e)
      | nil =>
        obtain rfl := hs.nilv
        simp only at e
        cases hz : lenOk xs.length with
        | false => rw [hz] at e; (first | exact (no e).elim | cases e)
        | true =>
          rw [hz] at e
          cases hp : popL xs with
          | none => rw [hp] at e; (first | exact (no e).elim | cases e)
          | some p =>
            rw [hp] at e; (first | exact (no e).elim | cases e)
            obtain ⟨us, y, g1, g2, g3⟩ := popL_ok hp h2
            intro Q E q
            refine toksUp (kl_pop (its := ws.toArray) (n := n) (p := us) (y := y) I.F I.W (by simpa using g1) (upd_Upd I.nd h1) (by have := lenOk_line hz; have := h2.length; simp; omega) fun h' F' W' le => ?_)
            obtain ⟨J, x⟩ := listTurn I le hi h3 h1 F' W' g2
            exact q _ h' _ _ ρ J x (g3.mono x)
theorem apD_ok {as : List MV} {v mv : MV} {va : Value} {vs : List Value} (e : apDv σ 12 as v = some (mv, σ')) (hv : RV G N ρ va v) (hs : RVs G N ρ vs as) (I : Inv G h₀ L m N ρ σ s.heap s.toks) :
    Wp G A h₀ L m (call (.builtin "dict.get") (va :: vs)) σ' (VR G mv) N ρ s := by
  cases v <;> try (exact (no e).elim)
  rename_i i
  simp only [apDv] at e
  obtain ⟨_, hi, rfl⟩ := hv.inv
  cases hq : at? σ i with
  | none => rw [hq] at e; (first | exact (no e).elim | cases e)
  | some mo =>
    rw [hq] at e
    cases mo <;> try (exact (no e).elim)
    rename_i kvs
    simp only [apD, mDict] at e
    obtain ⟨o, es, h1, h2, h3, h4, h5⟩ := dict_at I hi hq
    · · · obtain ⟨vk, k, vd, d, rfl, hb, hd, e⟩ := a2_ok e hs
          cases k <;> try (exact (no e).elim)
          rename_i x
          simp only [mGet] at e
          (first | exact (no e).elim | cases e)
          (first | obtain ⟨_, rfl⟩ := hb.inv | obtain rfl := hb.inv | cases hb)
          refine Wp.same I ?_ fun Q E q => kdg_get2 (x := valueAt es (tx x)) I.W h1 h2 h5 (strKind_is G.prog G.w (tx x) _) rfl q
          have f := h3.find (k := x)
          cases hl : lkS x kvs with
          | none => rw [f.2 hl]; exact hd
          | some w =>
            obtain ⟨u, hu, r⟩ := f.1 w hl
            rw [hu]; exact r
theorem joinS_ok : ∀ {xs : List MV} {ws : List Value} {l : List Nat}, joinS xs = some l → RVs G N ρ ws xs → ∃ ys, StrsAre ws ys ∧ Str.join ⟨#[]⟩ ys = tx l ∧ (ys.map (·.length)).sum = l.length
  | [], ws, l, e, h => by obtain rfl := h.nilv; (first | exact (no e).elim | cases e); exact ⟨[], .nil, by rw [PyProof.Rows.join_nil]; rfl, rfl⟩
  | x :: r, ws, l, e, h => by
      have hh := h.uncons; clear h; obtain ⟨_, _, rfl, h, hs⟩ := hh
      have tell : (∃ y, x.wk = .str y ∧ joinS (x :: r) = (joinS r).bind fun z => some (y ++ z)) := by
        cases x <;> try (exact (no e).elim)
        · exact ⟨_, rfl, rfl⟩
        · exact ⟨_, rfl, rfl⟩
      obtain ⟨y, hy, hj⟩ := tell
      rw [hj] at e
      cases hq : joinS r with
      | none => rw [hq] at e; (first | exact (no e).elim | cases e)
      | some l' =>
        rw [hq] at e; (first | exact (no e).elim | cases e)
        have h := h.wk
        rw [hy] at h
        obtain ⟨_, rfl⟩ := h.inv
        obtain ⟨ys, g1, g2, g3⟩ := joinS_ok hq hs
        exact ⟨tx y :: ys, .cons _ _ g1, by rw [join_nil_cons, g2, tx_append], by rw [List.map_cons, List.sum_cons, g3, tx_len, List.length_append]⟩
theorem apS_ok {as : List MV} {v mv : MV} {va : Value} {vs : List Value} (e : apSv σ 13 as v = some (mv, σ')) (hv : RV G N ρ va v) (hs : RVs G N ρ vs as) (I : Inv G h₀ L m N ρ σ s.heap s.toks) :
    Wp G A h₀ L m (call (.builtin "str.join") (va :: vs)) σ' (VR G mv) N ρ s := by
  cases v <;> try (exact (no e).elim)
  rename_i x
  simp only [apSv, mStr] at e
  (first | obtain ⟨_, rfl⟩ := hv.inv | obtain rfl := hv.inv | cases hv)
  cases x with
  | cons _ _ => (first | exact (no e).elim | cases e)
  | nil =>
    · · obtain ⟨vb, b, rfl, hb, e⟩ := a1_ok e hs
        cases b <;> try (exact (no e).elim)
        rename_i i
        simp only [join1] at e
        obtain ⟨_, hi, rfl⟩ := hb.inv
        cases hq : at? σ i with
        | none => rw [hq] at e; (first | exact (no e).elim | cases e)
        | some mo =>
          rw [hq] at e
          cases mo <;> try (exact (no e).elim)
          rename_i xs
          simp only [joinR] at e
          cases hz : lenOk xs.length with
          | false => rw [hz] at e; (first | exact (no e).elim | cases e)
          | true =>
            rw [hz] at e
            cases hj : joinS xs with
            | none => rw [hj] at e; (first | exact (no e).elim | cases e)
            | some l =>
              rw [hj] at e
              simp only [Option.bind_some, cond_true] at e
              cases hz2 : lenOk l.length with
              | false => rw [hz2] at e; (first | exact (no e).elim | cases e)
              | true =>
                rw [hz2] at e; (first | exact (no e).elim | cases e)
                obtain ⟨ws, n, h1, h2, h3⟩ := list_at I hi hq
                obtain ⟨ys, g1, g2, g3⟩ := joinS_ok hj h2
                intro Q E q
                refine toksUp (PyProof.Rows.join_list (isList I h1) (by simpa using g1) ?_ fun t' k le => ?_)
                · have := lenOk_le hz2
                  rw [g3]
                  show l.length + ys.length * 0 ≤ _
                  omega
                · have e1 : Txt.join ⟨#[]⟩ ys = tx l := (beq_iff_eq.mp (join_plain_closes _ ys)).trans g2
                  show Q (.str (Txt.join ⟨#[]⟩ ys) t') _
                  rw [e1]
                  exact q _ s.heap k N ρ (I.grown le I.F I.W) (Ext.refl _ _ _) (.str _ _)
theorem without_filter (c : Nat) : ∀ l : List Nat, without c l = l.filter (· != c)
  | [] => rfl
  | d :: r => by
    show cond (Nat.beq d c) (without c r) (d :: without c r) = _
    rw [without_filter c r, List.filter_cons]
    cases h : Nat.beq d c with
    | true => have := Nat.eq_of_beq_eq_true h; subst this; simp
    | false => have := Nat.ne_of_beq_eq_false h; simp [this]
theorem cntN_cnt (c : Nat) : ∀ l : List Nat, ((cntN c l : Nat) : Int) = PyProof.Rows.cnt c l
  | [] => rfl
  | d :: r => by
    rw [PyProof.Rows.cnt_cons, ← cntN_cnt c r]
    show ((cond (Nat.beq d c) (cntN c r + 1) (cntN c r) : Nat) : Int) = _
    cases h : Nat.beq d c with
    | true => have := Nat.eq_of_beq_eq_true h; subst this; simp; omega
    | false => have := Nat.ne_of_beq_eq_false h; simp [this]
noncomputable def sname : Nat → String
  | 13 => "str.join"
  | 14 => "str.replace"
  | 15 => "str.index"
  | _ => "str.count"
theorem apStr_ok {a : Nat} {as : List MV} {v mv : MV} {va : Value} {vs : List Value} (ha : a = 13 ∨ a = 14 ∨ a = 15 ∨ a = 16) (e : apSv σ a as v = some (mv, σ')) (hv : RV G N ρ va v) (hs : RVs G N ρ vs as) (I : Inv G h₀ L m N ρ σ s.heap s.toks) :
    Wp G A h₀ L m (call (.builtin (sname a)) (va :: vs)) σ' (VR G mv) N ρ s := by
  rcases ha with rfl | rfl | rfl | rfl
  · exact apS_ok e hv hs I
  · cases v <;> try (exact (no e).elim)
    rename_i x
    obtain ⟨_, rfl⟩ := hv.inv
    simp only [apSv, mStr] at e
    · obtain ⟨vp, p, vq, q, rfl, hp, hq, e⟩ := a2_ok e hs
      unfold sRepl at e
      split at e
      · rename_i c
        cases hz : lenOk x.length with
        | false => rw [hz] at e; (first | exact (no e).elim | cases e)
        | true =>
          rw [hz] at e; (first | exact (no e).elim | cases e)
          obtain ⟨u, rfl, hu⟩ := hp.inv
          obtain ⟨w, rfl, hw⟩ := hq.inv
          have hb := I.bk
          have := lenOk_le hz
          intro Q E k
          refine toksUp (SC.replace (Nat.ne_of_gt (hb.c u hu).1) (Nat.ne_of_gt (hb.l w hw).1) (fun q => hb.d u hu (q ▸ hw)) (by rfl) (by rw [tx_len]; simp [Str.length]; omega) fun t' tk le => ?_)
          have key : Txt.replace (tx x) (tx [c]) (tx []) = tx (without c x) := by
            apply Str.ext'
            apply Array.toList_inj.mp
            rw [show (tx [c]) = (⟨#[c]⟩ : Str) from rfl, show (tx []) = (⟨#[]⟩ : Str) from rfl, replace_strikes]
            simp [without_filter]
          rw [key]
          exact k _ s.heap tk N ρ (I.grown le I.F I.W) (Ext.refl _ _ _) (.str _ _)
      · (first | exact (no e).elim | cases e)
  · cases v <;> exact (no e).elim
  · cases v <;> try (exact (no e).elim)
    rename_i x
    obtain ⟨_, rfl⟩ := hv.inv
    simp only [apSv, mStr] at e
    · obtain ⟨vp, p, rfl, hp, e⟩ := a1_ok e hs
      have hp := hp.wk
      unfold sCount at e
      split at e
      · rename_i y hy
        rw [hy] at hp
        obtain ⟨u, rfl⟩ := hp.inv
        cases ho : one y with
        | none => rw [ho] at e; (first | exact (no e).elim | cases e)
        | some c =>
          rw [ho] at e; (first | exact (no e).elim | cases e)
          have := one_ok ho; subst this
          have key : Txt.count (tx x) (tx [c]) = ((cntN c x : Nat) : Int) := by
            rw [cntN_cnt]
            exact count_is (tx x) c
          exact Wp.same I (.int _ s.toks) fun Q E q => SC.count (by rw [key]; exact q)
      · (first | exact (no e).elim | cases e)
end
end Mine

open PySem PySem.W PyProof.Rows PySem.Calls
namespace Mine
set_option autoImplicit false
set_option backward.match.sparseCases false
set_option linter.unusedVariables false
set_option maxRecDepth 20000

section
variable {G : St} {A : Around} {h₀ : Heap} {L : Addr} {m : Str → Option Value} {N : Led} {ρ : Rho} {σ σ' σ'' : List MO} {s : Shared} {env : Env} {ns : Names}

/-! ### the method that is meant -/
/-- what the choice of a method hands on: the callee and what stands ahead of the arguments -/
noncomputable def SelR (G : St) (sel : Sel) (a : Nat) (v : Value) (f : Value × List Value) : Prop := match sel with
  | .list => f = (.builtin (lname a), [v]) ∧ (a = 10 ∨ a = 11)
  | .dict => f = (.builtin "dict.get", [v]) ∧ a = 12
  | .str => f = (.builtin (sname a), [v]) ∧ (a = 13 ∨ a = 14 ∨ a = 15 ∨ a = 16)
  | .own k => f = (.ref (G.FA k), [v]) ∧ isFn G.K (.ref (G.FA k)) = true
theorem an10 : an 10 = "append" := rfl
theorem an11 : an 11 = "pop" := rfl
theorem an12 : an 12 = "get" := rfl
theorem an13 : an 13 = "join" := rfl
theorem mSel_ok {CT : List Cl} (hC : ClsAll G CT) {a : Nat} {sel : Sel} {x : MV} {v : Value} {pl : Sem Bool} (e : mSel CT σ a x = some sel) (hx : RV G N ρ v x) (I : Inv G h₀ L m N ρ σ s.heap s.toks) (X : G.K.In h₀) :
    ∃ f, SelR G sel a v f ∧ ∀ (Q : Value × List Value → Shared → Prop) (E : Value → Shared → Prop), Q f s → wpAny (model G.prog G.w) A (getMethod v (an a) pl) Q E s := by
  cases x <;> try (exact (no e).elim)
  · -- str
    simp only [mSel] at e
    cases hb : (Nat.ble 13 a && Nat.ble a 16) with
    | false => rw [hb] at e; (first | exact (no e).elim | cases e)
    | true =>
      rw [hb] at e; (first | exact (no e).elim | cases e)
      obtain ⟨hb1, hb2⟩ := Bool.and_eq_true_iff.mp hb
      have hb1 := Nat.le_of_ble_eq_true hb1
      have hb2 := Nat.le_of_ble_eq_true hb2
      obtain ⟨_, rfl⟩ := hx.inv
      have ha : a = 13 ∨ a = 14 ∨ a = 15 ∨ a = 16 := by omega
      refine ⟨_, ⟨rfl, ha⟩, ?_⟩
      rcases ha with rfl | rfl | rfl | rfl
      · exact fun Q E q => by rw [an13]; exact GM.join q
      · exact fun Q E q => by rw [show an 14 = "replace" from rfl]; exact GM.replace q
      · exact fun Q E q => by rw [show an 15 = "index" from rfl]; exact GM.index q
      · exact fun Q E q => by rw [show an 16 = "count" from rfl]; exact GM.count q
  · rename_i i
    simp only [mSel] at e
    obtain ⟨_, hi, rfl⟩ := hx.inv
    cases hq : at? σ i with
    | none => rw [hq] at e; (first | exact (no e).elim | cases e)
    | some mo =>
      rw [hq] at e
      cases mo <;> try (exact (no e).elim)
      · simp only [selR] at e
        obtain ⟨ws, n, h1, h2, h3⟩ := list_at I hi hq
        cases hb : (Nat.beq a 10 || Nat.beq a 11) with
        | false => rw [hb] at e; (first | exact (no e).elim | cases e)
        | true =>
          rw [hb] at e; (first | exact (no e).elim | cases e)
          rcases Bool.or_eq_true_iff.mp hb with hb | hb <;> (have := Nat.eq_of_beq_eq_true hb; subst this)
          · exact ⟨_, ⟨rfl, .inl rfl⟩, fun Q E q => by rw [an10]; exact kl_method I.W h1 slot_list_append PySem.F.type_list_append q⟩
          · exact ⟨_, ⟨rfl, .inr rfl⟩, fun Q E q => by rw [an11]; exact kl_method I.W h1 PySem.F.slot_list_pop PySem.F.type_list_pop q⟩
      · rename_i k ats
        simp only [selR] at e
        obtain ⟨es, n, h1, h2, h3⟩ := inst_at I hi hq
        cases ha : Nat.ble a 19 with
        | false => rw [ha] at e; (first | exact (no e).elim | cases e)
        | true =>
          rw [ha] at e
          have ha' := lt20 ha
          simp only [cond_true] at e
          cases hl : lkN a ats with
          | some _ => rw [hl] at e; (first | exact (no e).elim | cases e)
          | none =>
            rw [hl] at e
            simp only [selI] at e
            cases hc : at? CT k with
            | none => rw [hc] at e; (first | exact (no e).elim | cases e)
            | some c =>
              rw [hc] at e
              simp only [Option.bind_some, selC] at e
              cases hf : lkN a c.meths with
              | none => rw [hf] at e; (first | exact (no e).elim | cases e)
              | some f =>
                rw [hf] at e; (first | exact (no e).elim | cases e)
                have C := hC.ok k c hc
                obtain ⟨g1, g2⟩ := C.meth a ha' f hf
                exact ⟨_, ⟨rfl, g2⟩, fun Q E q => method_inst I.F X (instAt I h1 h2) (C.plainGet _) g1 g2 ((h3.get ha').2 hl) q⟩
      · simp only [selR] at e
        obtain ⟨o, es, h1, h2, h3, h4, h5⟩ := dict_at I hi hq
        cases hb : Nat.beq a 12 with
        | false => rw [hb] at e; (first | exact (no e).elim | cases e)
        | true =>
          rw [hb] at e; (first | exact (no e).elim | cases e)
          have := Nat.eq_of_beq_eq_true hb; subst this
          exact ⟨_, ⟨rfl, rfl⟩, fun Q E q => by rw [an12]; exact kdg_method I.W h1 h2 q⟩

/-! ### built-in functions -/
theorem bLen_ok {x mv : MV} {v : Value} (e : bLen σ x = some (mv, σ')) (hx : RV G N ρ v x) (I : Inv G h₀ L m N ρ σ s.heap s.toks) : Wp G A h₀ L m (call (.builtin "len") [v]) σ' (VR G mv) N ρ s := by
  cases x <;> try (exact (no e).elim)
  · rename_i l
    simp only [bLen] at e
    cases hz : lenOk l.length with
    | false => rw [hz] at e; (first | exact (no e).elim | cases e)
    | true =>
      rw [hz] at e; (first | exact (no e).elim | cases e)
      have := lenOk_le hz
      (first | obtain ⟨_, rfl⟩ := hx.inv | obtain rfl := hx.inv | cases hx)
      refine Wp.same I (.int _ (s.toks + 1)) fun Q E q => PyProof.Rows.len_str (by rw [tx_len]; omega) (by rw [tx_len]; exact q)
  · rename_i i
    simp only [bLen] at e
    obtain ⟨_, hi, rfl⟩ := hx.inv
    cases hq : at? σ i with
    | none => rw [hq] at e; (first | exact (no e).elim | cases e)
    | some mo =>
      rw [hq] at e
      cases mo <;> try (exact (no e).elim)
      rename_i xs
      simp only [lenR] at e
      cases hz : lenOk xs.length with
      | false => rw [hz] at e; (first | exact (no e).elim | cases e)
      | true =>
        rw [hz] at e; (first | exact (no e).elim | cases e)
        obtain ⟨ws, n, h1, h2, h3⟩ := list_at I hi hq
        have := lenOk_le hz
        have hl := h2.length
        exact Wp.same I (.int _ (s.toks + 1)) fun Q E q => PyProof.Rows.len_list (isList I h1) (by simp; omega) (by simpa [hl] using q)
theorem bRange_ok {x mv : MV} {v : Value} (e : bRange σ x = some (mv, σ')) (hx : RV G N ρ v x) (I : Inv G h₀ L m N ρ σ s.heap s.toks) : Wp G A h₀ L m (call (.type "range") [v]) σ' (VR G mv) N ρ s := by
  unfold bRange at e
  split at e
  · rename_i n
    cases hz : lenOk n with
    | false => rw [hz] at e; (first | exact (no e).elim | cases e)
    | true =>
      rw [hz] at e; (first | exact (no e).elim | cases e)
      (first | obtain ⟨_, rfl⟩ := hx.inv | obtain rfl := hx.inv | cases hx)
      intro Q E q
      refine toksUp (call_range_1 (fun le => ?_))
      rename_i tu
      obtain ⟨J, x⟩ := I.one (o := { cls := .type "range", data := .fields #[.int 0 s.toks, .int (Int.ofNat n) tu, .int 1 (s.toks + 1)] })
      refine q _ _ _ _ ρ (J.grown le J.F J.W) x (.rng (t := s.toks) (u := tu) (v := s.toks + 1) ?_ (I.off (I.fresh (Nat.le_refl _))).1)
      simp [rngO]
  · (first | exact (no e).elim | cases e)
theorem bIsi_ok {CT : List Cl} (hC : ClsAll G CT) {x y mv : MV} {v w : Value} (e : bIsi σ x y = some (mv, σ')) (hx : RV G N ρ v x) (hy : RV G N ρ w y) (I : Inv G h₀ L m N ρ σ s.heap s.toks) (X : G.K.In h₀) : Wp G A h₀ L m (call (.builtin "isinstance") [v, w]) σ' (VR G mv) N ρ s := by
  unfold bIsi at e
  split at e
  · rename_i i c
    obtain ⟨p, hi, rfl⟩ := hx.inv
    obtain rfl := hy.inv
    cases hq : at? σ i with
    | none => rw [hq] at e; exact (no e).elim
    | some mo =>
      rw [hq] at e
      cases mo <;> try (exact (no e).elim)
      rename_i k ats
      replace e : cond (Nat.ble k 3 && Nat.ble c 3) (some (MV.bool (Nat.beq k c), σ)) none = some (mv, σ') := e
      cases hb : (Nat.ble k 3 && Nat.ble c 3) with
      | false => rw [hb] at e; exact (no e).elim
      | true =>
        rw [hb] at e; cases e
        obtain ⟨hb1, hb2⟩ := Bool.and_eq_true_iff.mp hb
        obtain ⟨es, n, h1, h2, h3⟩ := inst_at I hi hq
        have IA := instAt I h1 h2
        by_cases hkc : k = c
        · subst hkc
          rw [Nat.beq_refl]
          exact Wp.same' I (.bool true) fun Q E q => isi_call_inst (X.keeps I.F.keep) IA q
        · have hb3 : Nat.beq k c = false := by rw [Bool.eq_false_iff]; exact fun h => hkc (Nat.eq_of_beq_eq_true h)
          rw [hb3]
          obtain ⟨g1, g2⟩ := hC.isi k c (Nat.le_of_ble_eq_true hb1) (Nat.le_of_ble_eq_true hb2) hkc
          exact Wp.same I (.bool false) fun Q E q => isn_call_inst (X.keeps I.F.keep) IA g1 g2 q
  · (first | exact (no e).elim | cases e); (first | obtain ⟨_, rfl⟩ := hx.inv | obtain rfl := hx.inv | cases hx); (first | obtain ⟨_, rfl⟩ := hy.inv | obtain rfl := hy.inv | cases hy)
    exact Wp.same I (.bool false) fun Q E q => IsiPair.int_tuple q
  · (first | exact (no e).elim | cases e); (first | obtain ⟨_, rfl⟩ := hx.inv | obtain rfl := hx.inv | cases hx); (first | obtain ⟨_, rfl⟩ := hy.inv | obtain rfl := hy.inv | cases hy)
    exact Wp.same I (.bool false) fun Q E q => IsiPair.str_tuple q
  · (first | exact (no e).elim | cases e)
theorem bRange2_ok {x y mv : MV} {v w : Value} (e : bRange2 σ x y = some (mv, σ')) (hx : RV G N ρ v x) (hy : RV G N ρ w y) (I : Inv G h₀ L m N ρ σ s.heap s.toks) : Wp G A h₀ L m (call (.type "range") [v, w]) σ' (VR G mv) N ρ s := by
  unfold bRange2 at e
  split at e
  · rename_i a b
    cases hz : (lenOk b && Nat.ble a b) with
    | false => rw [hz] at e; exact (no e).elim
    | true =>
      rw [hz] at e; cases e
      have hab := Nat.le_of_ble_eq_true (Bool.and_eq_true_iff.mp hz).2
      obtain ⟨t, rfl⟩ := hx.inv
      obtain ⟨u, rfl⟩ := hy.inv
      intro Q E q
      refine toksUp (call_range_2 fun le => ?_)
      obtain ⟨J, x⟩ := I.one (o := { cls := .type "range", data := .fields #[.int (Int.ofNat a) t, .int (Int.ofNat b) u, .int 1 s.toks] })
      refine q _ _ _ _ ρ (J.grown le J.F J.W) x (.rng (t := t) (u := u) (v := s.toks) ?_ (I.off (I.fresh (Nat.le_refl _))).1)
      have : Int.ofNat b = (a : Int) + ((b - a : Nat) : Int) := by show (b : Int) = _; omega
      rw [this]
      simp [rngO]
  · exact (no e).elim
theorem range12_ok {as : List MV} {mv : MV} {vs : List Value} (e : range12 σ as = some (mv, σ')) (hs : RVs G N ρ vs as) (I : Inv G h₀ L m N ρ σ s.heap s.toks) : Wp G A h₀ L m (call (.type "range") vs) σ' (VR G mv) N ρ s := by
  unfold range12 at e
  split at e
  · obtain ⟨_, _, rfl, h, hs⟩ := hs.uncons; rw [hs.nilv]; exact bRange_ok e h I
  · obtain ⟨_, _, rfl, h, hs⟩ := hs.uncons; obtain ⟨_, _, rfl, h2, hs⟩ := hs.uncons; rw [hs.nilv]; exact bRange2_ok e h h2 I
  · exact (no e).elim
theorem pairs_ok (I : Inv G h₀ L m N ρ σ s.heap s.toks) (X : G.K.In h₀) : ∀ {xs : List MV} {ws : List Value} {l : List (List Nat × MV)}, pairs xs = some l → RVs G N ρ ws xs → ∃ kvs : List (Str × Value), DR G N ρ kvs l ∧ ws.length = kvs.length ∧
    ∀ (i : Nat) (kv : Str × Value), kvs[i]? = some kv → ∃ a o n t, ws[i]? = some (Value.ref a) ∧ s.heap.get? a = some o ∧ o.cls = .type "tuple" ∧ o.data = .seq #[.str kv.1 t, kv.2] n
  | [], ws, l, h, hs => by cases h; rw [hs.nilv]; exact ⟨[], .nil, rfl, fun i kv e => by simp at e⟩
  | .tup [.str k, v] :: r, ws, l, h, hs => by
    cases hp : pairs r with
    | none => replace h : (pairs r).bind _ = some l := h; rw [hp] at h; cases h
    | some l' =>
      replace h : (pairs r).bind _ = some l := h
      rw [hp] at h; cases h
      obtain ⟨u, us, rfl, hu, hus⟩ := hs.uncons
      obtain ⟨t, us', rfl, ht, hr⟩ := rv_tup hu I X
      obtain ⟨uk, _, rfl, hk, hr⟩ := hr.uncons
      obtain ⟨uv, _, rfl, hv, hr⟩ := hr.uncons
      obtain rfl := hr.nilv
      obtain ⟨tk, rfl⟩ := hk.inv
      obtain ⟨kvs, g1, g2, g3⟩ := pairs_ok I X hp hus
      refine ⟨(⟨k.toArray⟩, uv) :: kvs, .cons hv g1, by simp [g2], fun i kv e => ?_⟩
      cases i with
      | zero =>
        simp only [List.getElem?_cons_zero, Option.some.injEq] at e
        subst e
        obtain ⟨o, q1, q2, n, q3⟩ := ht
        exact ⟨t, o, n, tk, rfl, q1, q2, q3⟩
      | succ i => simpa using g3 i kv (by simpa using e)
theorem distinct_ok {kvs : List (Str × Value)} {l : List (List Nat × MV)} (h : DR G N ρ kvs l) (d : distinct l = true) : (kvs.map (·.1)).Nodup := by
  induction h with
  | nil => exact List.nodup_nil
  | cons hv hs ih =>
    rename_i k v mv es kvs'
    unfold distinct at d
    obtain ⟨d1, d2⟩ := Bool.and_eq_true_iff.mp d
    rw [List.map_cons, List.nodup_cons]
    refine ⟨fun hm => ?_, ih d2⟩
    rw [Bool.not_eq_true', hs.keys k] at d1
    obtain ⟨kv, hkv, e⟩ := List.mem_map.mp hm
    have : es.any (fun kv => kv.1 = tx k) = true := List.any_eq_true.mpr ⟨kv, hkv, decide_eq_true e⟩
    rw [this] at d1; cases d1
theorem bDict_ok {x mv : MV} {v : Value} (e : bDict σ x = some (mv, σ')) (hx : RV G N ρ v x) (I : Inv G h₀ L m N ρ σ s.heap s.toks) (X : G.K.In h₀) (hh : A.handled = none) (hL : h₀.NoLimit) : Wp G A h₀ L m (call (.type "dict") [v]) σ' (VR G mv) N ρ s := by
  cases x <;> try (exact (no e).elim)
  rename_i i
  obtain ⟨p, hi, rfl⟩ := hx.inv
  simp only [bDict] at e
  cases hq : at? σ i with
  | none => rw [hq] at e; exact (no e).elim
  | some mo =>
    rw [hq] at e
    cases mo <;> try (exact (no e).elim)
    rename_i xs
    replace e : cond (Nat.ble xs.length 64) ((pairs xs).bind fun l => cond (distinct l) (some (MV.ref σ.length, σ ++ [.dict l])) none) none = some (mv, σ') := e
    cases hz : Nat.ble xs.length 64 with
    | false => rw [hz] at e; exact (no e).elim
    | true =>
      rw [hz] at e
      cases hp : pairs xs with
      | none => rw [hp] at e; exact (no e).elim
      | some l =>
        rw [hp] at e
        cases hd : distinct l with
        | false => replace e : cond (distinct l) _ none = _ := e; rw [hd] at e; exact (no e).elim
        | true =>
          replace e : cond (distinct l) _ none = _ := e
          rw [hd] at e; cases e
          obtain ⟨ws, n, h1, h2, h3⟩ := list_at I hi hq
          obtain ⟨kvs, g1, g2, g3⟩ := pairs_ok I X hp h2
          have hlen : kvs.length ≤ 64 := by rw [← g2, h2.length]; exact Nat.le_of_ble_eq_true hz
          intro Q E q
          refine toksUp (dict_pairs hh (I.W _ h1).1 rfl rfl rfl hlen (by simpa using g2) (distinct_ok g1 hd) (fun i kv e => by simpa using g3 i kv e) fun h' tk o' keep ho hd' le => ?_)
          have F' := I.F.keeps keep
          have hCL : s.heap.objs.size ≠ L := Nat.ne_of_gt I.F.ns.lt
          have hC0 : h₀.get? s.heap.objs.size = none := Heap.get?_none_of_le (Nat.le_trans I.F.above (Nat.le_of_lt I.F.ns.lt))
          have fr := I.fresh (Nat.le_refl s.heap.objs.size)
          have J := I.alloc le (new := [(s.heap.objs.size, o')]) (p := (s.heap.objs.size, s.heap.objs.size)) (mo := .dict l) F' (fun q hq => by
            rcases List.mem_cons.mp hq with rfl | hq
            · exact ⟨ho, hCL, hC0⟩
            · exact ⟨keep _ _ (I.W q hq).1, (I.W q hq).2⟩) (by simp) (by simpa using fr) fr fr (fun ρ' x' => .dict (List.mem_cons_self ..) hd' (I.F.notModules (modules_low hL)) (g1.mono x'))
          exact q _ h' tk _ _ J.1 J.2 (.ref (p := (s.heap.objs.size, s.heap.objs.size)) (by rw [← I.len]; simp [Rho.app]))
theorem bList_ok {x mv : MV} {v : Value} (e : bList σ x = some (mv, σ')) (hx : RV G N ρ v x) (I : Inv G h₀ L m N ρ σ s.heap s.toks) (X : G.K.In h₀) (hh : A.handled = none) : Wp G A h₀ L m (call (.type "list") [v]) σ' (VR G mv) N ρ s := by
  unfold bList at e
  split at e
  · (first | exact (no e).elim | cases e)
    obtain ⟨t, ws, rfl, ht, hr⟩ := rv_tup hx I X
    cases hr
    intro Q E q
    refine toksUp (list_copyKT I.F I.W ht (fun D c h' F' W' hlt le => ?_) (by simp))
    have fr : Fresh N D := .lt hlt
    have J := I.alloc le (new := [(D, listOf #[] c)]) (p := (D, D)) (mo := .list []) F' W' (by simp) (by simpa using fr) fr fr (fun ρ' x => .list (ws := []) (List.mem_cons_self ..) .nil)
    refine q _ h' _ _ _ J.1 J.2 ?_
    have : (ρ.add (D, D)).l[σ.length]? = some (D, D) := by rw [← I.len]; simp [Rho.app]
    exact .ref (p := (D, D)) this
  · (first | exact (no e).elim | cases e)
theorem bAbs_ok {x mv : MV} {v : Value} (e : bAbs σ x = some (mv, σ')) (hx : RV G N ρ v x) (I : Inv G h₀ L m N ρ σ s.heap s.toks) : Wp G A h₀ L m (call (.builtin "abs") [v]) σ' (VR G mv) N ρ s := by
  cases x <;> try (exact (no e).elim)
  · rename_i M r
    simp only [bAbs] at e
    (first | exact (no e).elim | cases e)
    obtain ⟨i, t, hxm, rfl⟩ := hx.inv
    intro Q E q
    refine toksUp (call_abs_int fun u tk le => ?_)
    have : (if i < 0 then -i else i) = (i.natAbs : Int) := by split <;> omega
    rw [this]
    exact q _ s.heap tk N ρ (I.grown le I.F I.W) (Ext.refl _ _ _) (.md hxm)
theorem bInt_ok {x mv : MV} {v : Value} (e : bInt σ x = some (mv, σ')) (hx : RV G N ρ v x) (I : Inv G h₀ L m N ρ σ s.heap s.toks) : Wp G A h₀ L m (call (.type "int") [v]) σ' (VR G mv) N ρ s := by
  unfold bInt at e
  split at e
  · (first | exact (no e).elim | cases e)
    obtain ⟨_, _, hxm, rfl⟩ := hx.inv
    exact Wp.same' I (.ab hxm) fun Q E q => call_int_int q
  · (first | exact (no e).elim | cases e)
theorem biCall_ok {CT : List Cl} (hC : ClsAll G CT) (hL : h₀.NoLimit) {b : Bi} {as : List MV} {mv : MV} {vs : List Value} (e : biCall b as σ = some (mv, σ')) (hs : RVs G N ρ vs as) (I : Inv G h₀ L m N ρ σ s.heap s.toks) (X : G.K.In h₀) (hh : A.handled = none) :
    Wp G A h₀ L m (call (biV b) vs) σ' (VR G mv) N ρ s := by
  cases b <;> try (exact (no e).elim)
  · obtain ⟨v, x, rfl, h, e'⟩ := a1_ok e hs; exact bLen_ok e' h I
  · obtain ⟨v, x, w, y, rfl, h, h', e'⟩ := a2_ok e hs; exact bIsi_ok hC e' h h' I X
  · exact range12_ok e hs I
  · obtain ⟨v, x, rfl, h, e'⟩ := a1_ok e hs; exact bList_ok e' h I X hh
  · obtain ⟨v, x, rfl, h, e'⟩ := a1_ok e hs; exact bAbs_ok e' h I
  · obtain ⟨v, x, rfl, h, e'⟩ := a1_ok e hs; exact bInt_ok e' h I
  · obtain ⟨v, x, rfl, h, e'⟩ := a1_ok e hs; exact bDict_ok e' h I X hh hL
end
end Mine

open PySem PySem.W PyProof.Rows PySem.Calls
namespace Mine
set_option autoImplicit false
set_option backward.match.sparseCases false
set_option linter.unusedVariables false

/-! ## where a piece of code stands -/
/-- what is told of a global name -/
noncomputable def GlbOk (G : St) (x : Str) (mv : MV) : Prop :=
  (∃ v, nsIn G.K mainGlobals x = some (some v) ∧ ∀ N ρ, RV G N ρ v mv) ∨ (nsIn G.K mainGlobals x = some none ∧ x ≠ "__name__" ∧ ∃ v, bootBuiltins x = some v ∧ ∀ N ρ, RV G N ρ v mv)
structure EnvOk (G : St) (A : Around) (env : Env) (h₀ : Heap) (L : Addr) (n : Nat) : Prop where
  kind : env.scope.kind = .function
  gl : env.globals = mainGlobals
  bi : env.builtins = builtinsNs
  fr : env.frame = some L
  X : G.K.In h₀
  T : ∃ p loose mean mg mb, Top p loose mean mg mb h₀
  hd : A.handled = none
  B : ∃ A₀ base outer fe, Below A₀ base outer h₀ ∧ A.frames = some (fe :: outer) ∧ fe.frame = some L ∧ fe.scope.kind = .function
  tabs : ∀ t ∈ G.TB, CodeHd h₀ t.c t.P
  bls : ∀ p ∈ G.BL, h₀.IsList p.1 p.2.toArray
  dep : A.depth + n < recursionLimit
  uni : A.units + 8 * n + 100 < cLine
theorem EnvOk.down {G : St} {A : Around} {env : Env} {h₀ : Heap} {L : Addr} {n : Nat} (H : EnvOk G A env h₀ L (n + 1)) : EnvOk G A env h₀ L n :=
  { H with dep := Nat.lt_of_le_of_lt (by omega) H.dep, uni := Nat.lt_of_le_of_lt (by omega) H.uni }
theorem EnvOk.le {G : St} {A : Around} {env : Env} {h₀ : Heap} {L : Addr} {n k : Nat} (H : EnvOk G A env h₀ L n) (h : k ≤ n) : EnvOk G A env h₀ L k :=
  { H with dep := Nat.lt_of_le_of_lt (by omega) H.dep, uni := Nat.lt_of_le_of_lt (by omega) H.uni }
theorem EnvOk.lim {G : St} {A : Around} {env : Env} {h₀ : Heap} {L : Addr} {n : Nat} (H : EnvOk G A env h₀ L n) : h₀.NoLimit := let ⟨_, _, _, _, _, T⟩ := H.T; T.nolimit
theorem EnvOk.u64 {G : St} {A : Around} {env : Env} {h₀ : Heap} {L : Addr} {n : Nat} (H : EnvOk G A env h₀ L n) : A.units + 64 < cLine := Nat.lt_of_le_of_lt (by omega) H.uni

/-- what is told of the place where a code within a code is made -/
noncomputable def NestOk (G : St) (env : Env) (ns : Names) (i k : Nat) (cs : List Nat) : Prop :=
  ∃ cn sc L a t cl, env = envX cn sc L a (.ref t.c) cl ∧ t ∈ G.TB ∧ t.pos = (cdAt k).pos ∧ t.qual = (cdAt k).qual ∧ qualnameIn env (cdAt k).name (cdAt k).name = (cdAt k).qual ∧ ns.at i = (cdAt k).name ∧
    (cdAt k).params.defaults = [] ∧ (cdAt k).params.kw_defaults = [] ∧ annTrees (cdAt k).params none env = [] ∧ frees (cdAt k).scope.names = cs.map ns.at ∧ cs.length ≤ 1 ∧
    ∀ f : Str → Addr, (∀ j ∈ cs, env.cells.lookup (ns.at j) = some (f (ns.at j))) → closureFor (cdAt k).scope env = pure (cs.map fun j => (ns.at j, f (ns.at j)))
inductive SlotOk (G : St) (L : Addr) (env : Env) (m : Str → Option Value) (N : Led) (ρ : Rho) (ns : Names) (i : Nat) : Slot → Prop
  | locS {mv : MV} {v : Value} : env.locals = L → env.kindOf (ns.at i) = some .local → m (ns.at i) = some v → RV G N ρ v mv → SlotOk G L env m N ρ ns i (.loc (some mv))
  | locN : env.locals = L → env.kindOf (ns.at i) = some .local → SlotOk G L env m N ρ ns i (.loc none)
  | glb {mv : MV} : env.kindOf (ns.at i) = some .globalImplicit → GlbOk G (ns.at i) mv → SlotOk G L env m N ρ ns i (.glb mv)
  | cel {k : Nat} {c : Addr} : env.kindOf (ns.at i) = some .cell → env.cells.lookup (ns.at i) = some c → ρ.l[k]? = some (c, c) → SlotOk G L env m N ρ ns i (.cel k)
  | fre {k : Nat} {c : Addr} : env.kindOf (ns.at i) = some .cell ∨ (env.kindOf (ns.at i) = some .free ∧ (ns.at i == ("__classdict__" : Str)) = false) → env.cells.lookup (ns.at i) = some c → ρ.l[k]? = some (c, c) → SlotOk G L env m N ρ ns i (.fre k)
  | comS {mv : MV} {v : Value} {o : Obj} {m' : Str → Option Value} : env.kindOf (ns.at i) = some .local → (env.locals, o) ∈ N → env.locals ∉ mts G ρ → NsOb o m' → m' (ns.at i) = some v → RV G N ρ v mv → SlotOk G L env m N ρ ns i (.loc (some mv))
  | comN : env.locals ≠ L → env.kindOf (ns.at i) = some .local → SlotOk G L env m N ρ ns i (.loc none)
  | nst {j k : Nat} {cs : List Nat} : NestOk G env ns j k cs → SlotOk G L env m N ρ ns i (.nst j k cs)
  | nid {w : Nat} : ns = nsAt w → SlotOk G L env m N ρ ns i (.nid w)
  | unk : SlotOk G L env m N ρ ns i .unk
structure Slots (G : St) (L : Addr) (env : Env) (ns : Names) (m : Str → Option Value) (N : Led) (ρ : Rho) (sl : List Slot) : Prop where
  len : sl.length = ns.length
  nd : (ns.map (·.1)).Nodup
  dbg : ∀ i < ns.length, (ns.at i == ("__debug__" : Str)) = false
  ok : ∀ i x, sl[i]? = some x → SlotOk G L env m N ρ ns i x

section
variable {G : St} {A : Around} {h₀ : Heap} {L : Addr} {m : Str → Option Value} {N N' : Led} {ρ ρ' : Rho} {σ σ' σ'' : List MO} {s : Shared} {env : Env} {ns : Names} {sl sl' : List Slot} {n : Nat}

theorem SlotOk.mono (x : Ext G N ρ N' ρ') {i : Nat} {a : Slot} : SlotOk G L env m N ρ ns i a → SlotOk G L env m N' ρ' ns i a
  | .locS h0 h1 h2 h3 => .locS h0 h1 h2 (h3.mono x)
  | .locN h0 h1 => .locN h0 h1
  | .glb h1 h2 => .glb h1 h2
  | .cel h1 h2 h3 => .cel h1 h2 (x.get h3)
  | .fre h1 h2 h3 => .fre h1 h2 (x.get h3)
  | .comS h1 h2 h3 h4 h5 h6 => .comS h1 (x.sub _ h2 h3) (x.off h2 h3) h4 h5 (h6.mono x)
  | .comN h1 h2 => .comN h1 h2
  | .nst h => .nst h
  | .nid h => .nid h
  | .unk => .unk
theorem Slots.mono (S : Slots G L env ns m N ρ sl) (x : Ext G N ρ N' ρ') : Slots G L env ns m N' ρ' sl := ⟨S.len, S.nd, S.dbg, fun i a e => (S.ok i a e).mono x⟩
theorem at_inj (nd : (ns.map (·.1)).Nodup) {i j : Nat} (hi : i < ns.length) (hj : j < ns.length) (h : ns.at i = ns.at j) : i = j := by
  unfold Names.at at h
  rw [List.getD_eq_getElem?_getD, List.getD_eq_getElem?_getD, List.getElem?_eq_getElem (by simpa using hi), List.getElem?_eq_getElem (by simpa using hj)] at h
  exact (List.getElem_inj nd).mp h

/-! ### names -/
theorem glb_ok {x : Str} {mv : MV} {pos : Pos} (g : GlbOk G x mv) (hk : env.kindOf x = some .globalImplicit) (hd : (x == ("__debug__" : Str)) = false) (H : EnvOk G A env h₀ L n) (I : Inv G h₀ L m N ρ σ s.heap s.toks) :
    Wp G A h₀ L m (eval (.Name x pos) env) σ (VR G mv) N ρ s := by
  obtain ⟨p, loose, mean, mg, mb, T⟩ := H.T
  have tg : s.heap.Ns env.globals mg := by rw [H.gl]; exact T.g.keeps I.F.keep
  have tb : s.heap.Ns env.builtins mb := by rw [H.bi]; exact T.b.keeps I.F.keep
  rcases g with ⟨v, h1, h2⟩ | ⟨h1, h3, v, h2, h4⟩
  · exact Wp.same' I (h2 N ρ) fun Q E q => Name_function_global H.kind hk (loadGlobal_global tg (mg_of H.X T.g h1) q) hd
  · exact Wp.same' I (h4 N ρ) fun Q E q => Name_function_global H.kind hk (loadGlobal_builtin tg (mg_none_of H.X T.g h1) tb ((T.builtins x h3).trans h2) q) hd
theorem cell_at {i : Nat} {c : Addr} {mv : Option MV} (I : Inv G h₀ L m N ρ σ s.heap s.toks) (hp : ρ.l[i]? = some (c, c)) (e : at? σ i = some (.cell mv)) : ∃ o v, (c, o) ∈ N ∧ o.data = .cell v ∧ CR G N ρ v mv := by
  rw [at?_eq] at e
  obtain ⟨p', hp', o⟩ := I.so i _ e
  rw [hp] at hp'; cases hp'
  cases o with
  | cell h1 h2 h3 => exact ⟨_, _, h1, h2, h3⟩
theorem load_ok {i : Nat} {mv : MV} {pos : Pos} (e : getS σ (at? sl i) = some (mv, σ')) (H : EnvOk G A env h₀ L n) (S : Slots G L env ns m N ρ sl) (I : Inv G h₀ L m N ρ σ s.heap s.toks) :
    Wp G A h₀ L m (loadName env (ns.at i)) σ' (VR G mv) N ρ s := by
  rw [at?_eq] at e
  cases hx : sl[i]? with
  | none => rw [hx] at e; (first | exact (no e).elim | cases e)
  | some x =>
    rw [hx] at e
    have hi : i < ns.length := S.len ▸ lenOk_of hx
    have ok := S.ok i x hx
    cases ok with
    | locS h0 h1 h2 h3 => (first | exact (no e).elim | cases e); exact Wp.same' I h3 fun Q E q => wpAny_loadName_local H.kind h1 (by rw [h0]; exact I.F.ns) h2 q
    | locN h0 h1 => (first | exact (no e).elim | cases e)
    | glb h1 h2 =>
      (first | exact (no e).elim | cases e)
      obtain ⟨p, loose, mean, mg, mb, T⟩ := H.T
      have tg : s.heap.Ns env.globals mg := by rw [H.gl]; exact T.g.keeps I.F.keep
      have tb : s.heap.Ns env.builtins mb := by rw [H.bi]; exact T.b.keeps I.F.keep
      rcases h2 with ⟨v, g1, g2⟩ | ⟨g1, g3, v, g2, g4⟩
      · exact Wp.same' I (g2 N ρ) fun Q E q => ks_loadName_global H.kind h1 (loadGlobal_global tg (mg_of H.X T.g g1) q)
      · exact Wp.same' I (g4 N ρ) fun Q E q => ks_loadName_global H.kind h1 (loadGlobal_builtin tg (mg_none_of H.X T.g g1) tb ((T.builtins _ g3).trans g2) q)
    | cel h1 h2 h3 =>
      simp only [getS] at e
      unfold cellR at e
      split at e
      · rename_i v hv
        (first | exact (no e).elim | cases e)
        obtain ⟨o, w, g1, g2, g3⟩ := cell_at I h3 hv
        cases g3 with | some g3 =>
        exact Wp.same' I g3 fun Q E q => wpAny_loadName_cell H.kind h1 h2 ⟨o, (I.W _ g1).1, g2⟩ q
      · (first | exact (no e).elim | cases e)
    | fre h1 h2 h3 =>
      simp only [getS] at e
      unfold cellR at e
      split at e
      · rename_i v hv
        (first | exact (no e).elim | cases e)
        obtain ⟨o, w, g1, g2, g3⟩ := cell_at I h3 hv
        cases g3 with | some g3 =>
        rcases h1 with h1 | ⟨h1, hn⟩
        · exact Wp.same' I g3 fun Q E q => wpAny_loadName_cell H.kind h1 h2 ⟨o, (I.W _ g1).1, g2⟩ q
        · exact Wp.same' I g3 fun Q E q => wpAny_loadName_free H.kind h1 h2 ⟨o, (I.W _ g1).1, g2⟩ q hn
      · (first | exact (no e).elim | cases e)
    | comS h1 h2 h3 h4 h5 h6 => (first | exact (no e).elim | cases e); exact Wp.same' I h6 fun Q E q => wpAny_loadName_local H.kind h1 (h4.ns (I.W _ h2).1) h5 q
    | comN h1 h2 => (first | exact (no e).elim | cases e)
    | nst h => (first | exact (no e).elim | cases e)
    | nid h => (first | exact (no e).elim | cases e)
    | unk => (first | exact (no e).elim | cases e)
theorem name_ok {i : Nat} {mv : MV} {pos : Pos} (e : getS σ (at? sl i) = some (mv, σ')) (H : EnvOk G A env h₀ L n) (S : Slots G L env ns m N ρ sl) (I : Inv G h₀ L m N ρ σ s.heap s.toks) :
    Wp G A h₀ L m (eval (.Name (ns.at i) pos) env) σ' (VR G mv) N ρ s := by
  have hi : i < ns.length := by
    rw [at?_eq] at e
    cases hx : sl[i]? with
    | none => rw [hx] at e; (first | exact (no e).elim | cases e)
    | some x => exact S.len ▸ lenOk_of hx
  intro Q E k
  exact wpAny_Name (load_ok (pos := pos) e H S I Q E k) (S.dbg i hi)
end

/-! ### the judgement for statements -/
section
variable (G : St)
noncomputable def WpS {α : Type} (A : Around) (h₀ : Heap) (L : Addr) (env : Env) (ns : Names) (m : Str → Option Value) (t : Sem α) (sl' : List Slot) (σ' : List MO) (R : α → Led → Rho → Prop) (N : Led) (ρ : Rho) (s : Shared) : Prop :=
  ∀ (Q : α → Shared → Prop) (E : Value → Shared → Prop),
    (∀ a h' tk N' ρ' m', Inv G h₀ L m' N' ρ' σ' h' tk → Ext G N ρ N' ρ' → Slots G L env ns m' N' ρ' sl' → R a N' ρ' → Q a { s with heap := h', toks := tk }) → wpAny (model G.prog G.w) A t Q E s
end
section
variable {G : St} {A : Around} {h₀ : Heap} {L : Addr} {m : Str → Option Value} {N N' : Led} {ρ ρ' : Rho} {σ σ' σ'' : List MO} {s : Shared} {env : Env} {ns : Names} {sl sl' sl'' : List Slot} {n : Nat}
theorem WpS.of {α : Type} {t : Sem α} {R : α → Led → Rho → Prop} (h : Wp G A h₀ L m t σ' R N ρ s) (S : Slots G L env ns m N ρ sl) : WpS G A h₀ L env ns m t sl σ' R N ρ s :=
  fun Q E k => h Q E fun a h' tk N' ρ' I x r => k a h' tk N' ρ' m I x (S.mono x) r
theorem WpS.pure {α : Type} {R : α → Led → Rho → Prop} {a : α} (I : Inv G h₀ L m N ρ σ s.heap s.toks) (S : Slots G L env ns m N ρ sl) (r : R a N ρ) : WpS G A h₀ L env ns m (pure a) sl σ R N ρ s := WpS.of (Wp.pure I r) S
theorem WpS.bind {α β : Type} {t : Sem α} {f : α → Sem β} {R : α → Led → Rho → Prop} {R' : β → Led → Rho → Prop} (ht : Wp G A h₀ L m t σ R N ρ s)
    (hf : ∀ a h₁ tk N₁ ρ₁, Inv G h₀ L m N₁ ρ₁ σ h₁ tk → Ext G N ρ N₁ ρ₁ → R a N₁ ρ₁ → WpS G A h₀ L env ns m (f a) sl' σ' R' N₁ ρ₁ { s with heap := h₁, toks := tk }) : WpS G A h₀ L env ns m (t >>= f) sl' σ' R' N ρ s :=
  fun Q E k => wpAny_bind (ht _ _ fun a h₁ tk N₁ ρ₁ I₁ x₁ r₁ => hf a h₁ tk N₁ ρ₁ I₁ x₁ r₁ Q E fun b h₂ tk₂ N₂ ρ₂ m₂ I₂ x₂ S₂ r₂ => k b h₂ tk₂ N₂ ρ₂ m₂ I₂ (x₁.trans x₂) S₂ r₂)
theorem WpS.bindS {α β : Type} {t : Sem α} {f : α → Sem β} {R : α → Led → Rho → Prop} {R' : β → Led → Rho → Prop} (ht : WpS G A h₀ L env ns m t sl σ R N ρ s)
    (hf : ∀ a h₁ tk N₁ ρ₁ m₁, Inv G h₀ L m₁ N₁ ρ₁ σ h₁ tk → Ext G N ρ N₁ ρ₁ → Slots G L env ns m₁ N₁ ρ₁ sl → R a N₁ ρ₁ → WpS G A h₀ L env ns m₁ (f a) sl' σ' R' N₁ ρ₁ { s with heap := h₁, toks := tk }) : WpS G A h₀ L env ns m (t >>= f) sl' σ' R' N ρ s :=
  fun Q E k => wpAny_bind (ht _ _ fun a h₁ tk N₁ ρ₁ m₁ I₁ x₁ S₁ r₁ => hf a h₁ tk N₁ ρ₁ m₁ I₁ x₁ S₁ r₁ Q E fun b h₂ tk₂ N₂ ρ₂ m₂ I₂ x₂ S₂ r₂ => k b h₂ tk₂ N₂ ρ₂ m₂ I₂ (x₁.trans x₂) S₂ r₂)
theorem WpS.mono {α : Type} {t : Sem α} {R R' : α → Led → Rho → Prop} (ht : WpS G A h₀ L env ns m t sl' σ' R N ρ s) (h : ∀ a N' ρ', Ext G N ρ N' ρ' → R a N' ρ' → R' a N' ρ') : WpS G A h₀ L env ns m t sl' σ' R' N ρ s :=
  fun Q E k => ht Q E fun a h' tk N' ρ' m' I x S r => k a h' tk N' ρ' m' I x S (h a N' ρ' x r)
theorem WpS.stand {α : Type} {p : Pos} {t : Sem α} {R : α → Led → Rho → Prop} (ht : WpS G A h₀ L env ns m t sl' σ' R N ρ s) : WpS G A h₀ L env ns m (standAt p >>= fun _ => t) sl' σ' R N ρ s :=
  fun Q E k => wpAny_bind (wpAny_standAt (ht Q E k))
theorem WpS.hold {α : Type} {vs : List Value} {t : Sem α} {R : α → Led → Rho → Prop} (ht : WpS G A h₀ L env ns m t sl' σ' R N ρ s) : WpS G A h₀ L env ns m (holding vs t) sl' σ' R N ρ s :=
  fun Q E k => wpAny_holding (ht Q E k)
theorem WpS.rel {α : Type} {vs ws : List Value} {t : Sem α} {R : α → Led → Rho → Prop} (ht : WpS G A h₀ L env ns m t sl' σ' R N ρ s) : WpS G A h₀ L env ns m (release vs ws >>= fun _ => t) sl' σ' R N ρ s :=
  fun Q E k => wpAny_bind (wpAny_release (ht Q E k))

/-! ### stores into names -/
theorem set_at {i j : Nat} {x y : Slot} (h : (setAt y sl i)[j]? = some x) : (j = i ∧ x = y) ∨ (j ≠ i ∧ sl[j]? = some x) := by
  rw [setAt_eq] at h
  by_cases e : j = i
  · subst e
    have hlt : j < sl.length := by have := lenOk_of h; simpa using this
    rw [List.getElem?_set_self hlt] at h
    exact .inl ⟨rfl, (Option.some.inj h).symm⟩
  · rw [List.getElem?_set_ne (Ne.symm e)] at h
    exact .inr ⟨e, h⟩
theorem notMod (H : EnvOk G A env h₀ L n) : (env.scope.kind == .class || (env.scope.kind == .module && env.locals != env.globals)) = false := by rw [H.kind]; rfl
theorem Slots.setLoc {i : Nat} {u : Value} {mv : MV} (I : Inv G h₀ L m N ρ σ s.heap s.toks) (S : Slots G L env ns m N ρ sl) (hL : env.locals = L) (hi : i < ns.length) (hk : env.kindOf (ns.at i) = some .local) (hu : RV G N ρ u mv) :
    Slots G L env ns (fun y => if y = ns.at i then some u else m y) N ρ (setAt (.loc (some mv)) sl i) := by
  refine ⟨by rw [setAt_eq]; simp [S.len], S.nd, S.dbg, fun j x e => ?_⟩
  rcases set_at e with ⟨rfl, rfl⟩ | ⟨hne, e⟩
  · exact .locS hL hk (if_pos rfl) hu
  · have hj : j < ns.length := S.len ▸ lenOk_of e
    cases S.ok j x e with
    | locS h0 h1 h2 h3 => exact .locS h0 h1 ((if_neg fun q => hne (at_inj S.nd hj hi q)).trans h2) h3
    | locN h0 h1 => exact .locN h0 h1
    | glb h1 h2 => exact .glb h1 h2
    | cel h1 h2 h3 => exact .cel h1 h2 h3
    | fre h1 h2 h3 => exact .fre h1 h2 h3
    | comS h1 h2 h3 h4 h5 h6 => exact absurd hL (I.W _ h2).2.1
    | comN h1 h2 => exact absurd hL h1
    | nst h => exact .nst h
    | nid h => exact .nid h
    | unk => exact .unk
theorem storeLoc_ok {i : Nat} {u : Value} {mv : MV} (H : EnvOk G A env h₀ L n) (S : Slots G L env ns m N ρ sl) (hL : env.locals = L) (hi : i < ns.length) (hk : env.kindOf (ns.at i) = some .local) (hu : RV G N ρ u mv) (I : Inv G h₀ L m N ρ σ s.heap s.toks) :
    WpS G A h₀ L env ns m (storeName env (ns.at i) u) (setAt (.loc (some mv)) sl i) σ UR N ρ s := by
  subst hL
  intro Q E k
  refine wpAny_storeName_local hk I.F.ns (fun h' hn hs => ?_) (notMod H)
  exact k () h' _ N ρ _ ⟨I.F.set hn hs, I.W.set hs, I.nd, I.len, I.ap, I.so, I.tb, I.bk.mono (Nat.le_succ _), I.fz⟩ (Ext.refl _ _ _) (S.setLoc I rfl hi hk hu) trivial
theorem store_ok {i : Nat} {u : Value} {mv : MV} (e : putSl i mv sl σ (at? sl i) = some (sl', σ')) (H : EnvOk G A env h₀ L n) (S : Slots G L env ns m N ρ sl) (hu : RV G N ρ u mv) (I : Inv G h₀ L m N ρ σ s.heap s.toks) (hfun : env.locals = L) :
    WpS G A h₀ L env ns m (storeName env (ns.at i) u) sl' σ' UR N ρ s := by
  rw [at?_eq] at e
  cases hx : sl[i]? with
  | none => rw [hx] at e; (first | exact (no e).elim | cases e)
  | some x =>
    rw [hx] at e
    have hi : i < ns.length := S.len ▸ lenOk_of hx
    cases S.ok i x hx with
    | locS h0 h1 h2 h3 => (first | exact (no e).elim | cases e); exact storeLoc_ok H S h0 hi h1 hu I
    | locN h0 h1 => (first | exact (no e).elim | cases e); exact storeLoc_ok H S h0 hi h1 hu I
    | glb h1 h2 => (first | exact (no e).elim | cases e)
    | fre h1 h2 h3 => (first | exact (no e).elim | cases e)
    | nst h => (first | exact (no e).elim | cases e)
    | nid h => (first | exact (no e).elim | cases e)
    | unk => (first | exact (no e).elim | cases e)
    | cel h1 h2 h3 =>
      rename_i k c
      simp only [putSl] at e
      cases hq : at? σ k with
      | none => rw [hq] at e; (first | exact (no e).elim | cases e)
      | some mo =>
        rw [hq] at e
        cases mo <;> try (exact (no e).elim)
        simp only [putCell] at e
        (first | exact (no e).elim | cases e)
        obtain ⟨o, w, g1, g2, g3⟩ := cell_at I h3 hq
        intro Q E q
        refine toksUp (wpAny_storeName_cell H.kind h1 h2 ⟨o, (I.W _ g1).1, g2⟩ fun h' hc sb le => ?_)
        obtain ⟨o', ho', hd'⟩ := hc
        obtain ⟨J, xx⟩ := I.turn le (mo := .cell (some mv)) (I.F.update I.W g1 sb) (I.W.update g1 sb ho') h3 (.inl rfl) g1 (fun ps e => by rw [e] at g2; cases g2) (fun xx => .cell (upd_self g1) hd' (.some (hu.mono xx)))
        exact q () h' _ _ ρ m J xx (S.mono xx) trivial
    | comS h1 h2 h3 h4 h5 h6 => exact absurd hfun (I.W _ h2).2.1
    | comN h1 h2 => exact absurd hfun h1
end
end Mine

open PySem PySem.W PyProof.Rows PySem.Calls
namespace Mine
set_option autoImplicit false
set_option backward.match.sparseCases false
set_option linter.unusedVariables false

section
variable {G : St} {A : Around} {h₀ : Heap} {L : Addr} {m : Str → Option Value} {N N' : Led} {ρ ρ' : Rho} {σ σ' σ'' : List MO} {s : Shared} {env : Env} {ns : Names} {sl sl' : List Slot} {n : Nat}

/-! ## iterators -/
noncomputable def itObj : It → Obj → Prop := fun _ _ => True
theorem pyIter_ok {v : MV} {u : Value} {it : It} (e : It.of σ v = some it) (hu : RV G N ρ u v) (I : Inv G h₀ L m N ρ σ s.heap s.toks) :
    ∀ (Q : Value → Shared → Prop) (E : Value → Shared → Prop), (∀ o, Inv G h₀ L m ((s.heap.objs.size, o) :: N) ρ σ (s.heap.push o) s.toks → Ext G N ρ ((s.heap.objs.size, o) :: N) ρ → IR ρ o it → Q (.ref s.heap.objs.size) { s with heap := s.heap.push o }) →
      wpAny (model G.prog G.w) A (pyIter u) Q E s := by
  cases v <;> try (simp [It.of] at e; done)
  · rename_i l
    simp only [It.of] at e; (first | exact (no e).elim | cases e)
    (first | obtain ⟨_, rfl⟩ := hu.inv | obtain rfl := hu.inv | cases hu)
    rename_i t
    intro Q E q
    have hd : l.drop 0 = l := rfl
    cases ha : (tx l).cps.all (· < 128) with
    | true =>
      refine wpAny_pyIter_ascii ha ?_
      obtain ⟨J, x⟩ := I.one (o := { cls := .type "str_ascii_iterator", data := .fields #[.str (tx l) t, .int 0 0] })
      exact q _ J x (.str (k := 0) (t := t) (by show _ = Value.type (if (tx l).cps.all (· < 128) = true then _ else _); rw [ha]; rfl) rfl)
    | false =>
      refine wpAny_pyIter_wide ha ?_
      obtain ⟨J, x⟩ := I.one (o := { cls := .type "str_iterator", data := .fields #[.str (tx l) t, .int 0 0] })
      exact q _ J x (.str (k := 0) (t := t) (by show _ = Value.type (if (tx l).cps.all (· < 128) = true then _ else _); rw [ha]; rfl) rfl)
  · rename_i i
    simp only [It.of] at e
    obtain ⟨_, hi, rfl⟩ := hu.inv
    cases hq : at? σ i with
    | none => rw [hq] at e; (first | exact (no e).elim | cases e)
    | some mo =>
      rw [hq] at e
      cases mo <;> try (exact (no e).elim)
      simp only [itR] at e; (first | exact (no e).elim | cases e)
      obtain ⟨ws, k, h1, h2, h3⟩ := list_at I hi hq
      intro Q E q
      refine wpAny_pyIter_list (isList I h1) ?_
      obtain ⟨J, x⟩ := I.one (o := { cls := .type "list_iterator", data := .fields #[.ref _, .int 0 0] })
      exact q _ J x (.lst hi rfl rfl)
  · rename_i a k
    simp only [It.of] at e
    cases hz : lenOk (a + k) with
    | false => rw [hz] at e; (first | exact (no e).elim | cases e)
    | true =>
      rw [hz] at e; (first | exact (no e).elim | cases e)
      have := lenOk_le hz
      obtain ⟨_, _, _, _, h1, h2, rfl⟩ := hu.inv
      rename_i r t u v
      intro Q E q
      have hsz : Builtin.Range.rangeSize (a : Int) ((a : Int) + k) 1 = (k : Int) := by rw [rangeSize_nat]; omega
      have hsm : Builtin.Range.small (a : Int) ((a : Int) + k) 1 = true := small_one (by omega) (by omega) (by omega) (by omega)
      refine wpAny_pyIter_range (I.W _ h1).1 hsm ?_
      rw [hsz]
      obtain ⟨J, x⟩ := I.one (o := { cls := .type "range_iterator", data := .fields #[rawInt (a : Int), rawInt (k : Int), rawInt 1] })
      exact q _ J x (.rng a k)
/-- a few rows turned that no value stands on -/
theorem turnX {a : Addr} {o o' : Obj} {h' : Heap} {tk : Nat} (I : Inv G h₀ L m N ρ σ s.heap s.toks) (le : s.toks ≤ tk) (hm : (a, o) ∈ N) (hn : a ∉ mts G ρ) (hb : ¬ Good o) (sb : Heap.SameBut a s.heap h') (ho' : h'.get? a = some o') :
    Inv G h₀ L m (upd a o' N) ρ σ h' tk ∧ ExtX G [a] N ρ (upd a o' N) ρ ∧ (∀ b ob, (b, ob) ∈ N → ∃ ox, (b, ox) ∈ upd a o' N) ∧ (a, o') ∈ upd a o' N := by
  have up : ∀ q ∈ N, q.1 ≠ a → q ∈ upd a o' N := fun q hq hne => upd_mem hq hne
  have x : ExtX G [a] N ρ (upd a o' N) ρ := ⟨fun q hq _ he => up q hq (by simpa using he), ⟨[], by simp⟩, Rho.le.refl _, fun b hb => .inl hb, fun b ob hb he => ⟨ob, up _ hb (by simpa using he)⟩⟩
  have bad : ∀ b ∈ [a], ∀ ob, (b, ob) ∈ N → ¬ Good ob := fun b hb' ob hob => by
    rw [List.mem_singleton.mp hb'] at hob
    rwa [nodup_row I.nd hob hm]
  have tr := x.tr bad
  refine ⟨⟨I.F.update I.W hm sb, I.W.update hm sb ho', by rw [upd_map]; exact I.nd, I.len, I.ap, fun i mo e => ?_, fun t ht => ?_, I.bk.mono le, fun b hb => let ⟨⟨u, v, h⟩, hn2⟩ := I.fz b hb; ⟨⟨u, v, up _ h fun e => hn (by rw [← e]; exact fz_mts G hb)⟩, hn2⟩⟩, x, fun b ob hob => ?_, upd_self hm⟩
  · obtain ⟨p, e', oo⟩ := I.so i mo e
    refine ⟨p, e', oo.keepT tr fun q hq hqp => up q hq fun he => hn ?_⟩
    rw [← he]
    have := mem_mts G e'
    rcases hqp with h | h <;> rw [h]
    · exact this.1
    · exact this.2
  · exact (I.tb t ht).keepT tr fun q hq hqt => up q hq fun he => hn (by rw [← he, hqt]; exact tab_mts G ht)
  · by_cases e : b = a
    · subst e; exact ⟨o', upd_self hm⟩
    · exact ⟨ob, up _ hob e⟩
/-- a row dropped that no value stands on -/
theorem dropX {a : Addr} {o : Obj} {h' : Heap} {tk : Nat} (I : Inv G h₀ L m N ρ σ s.heap s.toks) (le : s.toks ≤ tk) (hm : (a, o) ∈ N) (hn : a ∉ mts G ρ) (hb : ¬ Good o) (xb : Heap.ExtBut a s.heap h') :
    Inv G h₀ L m (N.filter fun q => q.1 != a) ρ σ h' tk ∧ ExtX G [a] N ρ (N.filter fun q => q.1 != a) ρ := by
  have up : ∀ q ∈ N, q.1 ≠ a → q ∈ (N.filter fun q => q.1 != a) := fun q hq hne => List.mem_filter.mpr ⟨hq, by simpa using hne⟩
  have x : ExtX G [a] N ρ (N.filter fun q => q.1 != a) ρ := ⟨fun q hq _ he => up q hq (by simpa using he), ⟨[], by simp⟩, Rho.le.refl _, fun b hb => .inl hb, fun b ob hb he => ⟨ob, up _ hb (by simpa using he)⟩⟩
  have bad : ∀ b ∈ [a], ∀ ob, (b, ob) ∈ N → ¬ Good ob := fun b hb' ob hob => by
    rw [List.mem_singleton.mp hb'] at hob
    rwa [nodup_row I.nd hob hm]
  have tr := x.tr bad
  have aL : a ≠ L := (I.W _ hm).2.1
  have a0 : h₀.get? a = none := (I.W _ hm).2.2
  refine ⟨⟨⟨I.F.ns.extBut xb aL.symm, fun b ob e => xb b ob (fun q => by rw [q, a0] at e; (first | exact (no e).elim | cases e)) (I.F.keep b ob e), I.F.above⟩, fun q hq => ?_, ?_, I.len, I.ap, fun i mo e => ?_, fun t ht => ?_, I.bk.mono le, fun b hb => let ⟨⟨u, v, h⟩, hn2⟩ := I.fz b hb; ⟨⟨u, v, up _ h fun e => hn (by rw [← e]; exact fz_mts G hb)⟩, hn2⟩⟩, x⟩
  · obtain ⟨h1, h2⟩ := List.mem_filter.mp hq
    exact ⟨xb _ _ (by simpa using h2) (I.W _ h1).1, (I.W _ h1).2⟩
  · exact (List.filter_sublist.map _).nodup I.nd
  · obtain ⟨p, e', oo⟩ := I.so i mo e
    refine ⟨p, e', oo.keepT tr fun q hq hqp => up q hq fun he => hn ?_⟩
    rw [← he]
    have := mem_mts G e'
    rcases hqp with h | h <;> rw [h]
    · exact this.1
    · exact this.2
  · exact (I.tb t ht).keepT tr fun q hq hqt => up q hq fun he => hn (by rw [← he, hqt]; exact tab_mts G ht)
theorem IR.bad {o : Obj} {it : It} (h : IR ρ o it) : ¬ Good o := by
  intro g
  cases h with
  | rng a n =>
    rcases g with ⟨_, _, h⟩ | ⟨_, h⟩ | ⟨h, _⟩ | ⟨_, _, _, h, h'⟩
    · (first | exact (no h).elim | cases h)
    · (first | exact (no h).elim | cases h)
    · simp at h
    · (first | exact (no h).elim | cases h); simp [rawInt] at h'
  | str h3 h4 =>
    rcases g with ⟨_, _, h⟩ | ⟨_, h⟩ | ⟨h, _⟩ | ⟨_, _, _, h, h'⟩
    · rw [h4] at h; (first | exact (no h).elim | cases h)
    · rw [h4] at h; (first | exact (no h).elim | cases h)
    · rw [h3] at h; unfold strIt at h; split at h <;> simp at h
    · rw [h4] at h; (first | exact (no h).elim | cases h); simp at h'
  | lst h3 h4 h5 =>
    rcases g with ⟨_, _, h⟩ | ⟨_, h⟩ | ⟨h, _⟩ | ⟨_, _, _, h, h'⟩
    · rw [h5] at h; (first | exact (no h).elim | cases h)
    · rw [h5] at h; (first | exact (no h).elim | cases h)
    · rw [h4] at h; simp at h
    · rw [h5] at h; (first | exact (no h).elim | cases h); simp at h'
/-- a few rows dropped that no value stands on -/
theorem dropXs {X : List Addr} {h' : Heap} {tk : Nat} (I : Inv G h₀ L m N ρ σ s.heap s.toks) (le : s.toks ≤ tk) (hX : ∀ c ∈ X, (∃ o, (c, o) ∈ N ∧ ¬ Good o) ∧ c ∉ mts G ρ) (xb : ∀ b o, b ∉ X → s.heap.get? b = some o → h'.get? b = some o) :
    Inv G h₀ L m (N.filter fun q => !X.contains q.1) ρ σ h' tk ∧ ExtX G X N ρ (N.filter fun q => !X.contains q.1) ρ := by
  have up : ∀ q ∈ N, q.1 ∉ X → q ∈ (N.filter fun q => !X.contains q.1) := fun q hq hne => List.mem_filter.mpr ⟨hq, by simpa using hne⟩
  have x : ExtX G X N ρ (N.filter fun q => !X.contains q.1) ρ := ⟨fun q hq _ he => up q hq he, ⟨[], by simp⟩, Rho.le.refl _, fun b hb => .inl hb, fun b ob hb he => ⟨ob, up _ hb he⟩⟩
  have bad : ∀ b ∈ X, ∀ ob, (b, ob) ∈ N → ¬ Good ob := fun b hb' ob hob => by
    obtain ⟨⟨o, h1, h2⟩, _⟩ := hX b hb'
    rwa [nodup_row I.nd hob h1]
  have tr := x.tr bad
  have off : ∀ b, (b = L ∨ ∃ o, h₀.get? b = some o) → b ∉ X := fun b hb hm => by
    obtain ⟨⟨o, h1, _⟩, _⟩ := hX b hm
    have w := I.W _ h1
    rcases hb with hb | ⟨ob, hb⟩
    · exact w.2.1 hb
    · have e := w.2.2
      rw [show ((b, o) : Addr × Obj).1 = b from rfl, hb] at e; (first | exact (no e).elim | cases e)
  obtain ⟨oL, a1, a2, hL, a3⟩ := I.F.ns
  refine ⟨⟨⟨⟨oL, a1, a2, xb _ _ (off _ (.inl rfl)) hL, a3⟩, fun b ob e => xb b ob (off b (.inr ⟨ob, e⟩)) (I.F.keep b ob e), I.F.above⟩, fun q hq => ?_, ?_, I.len, I.ap, fun i mo e => ?_, fun t ht => ?_, I.bk.mono le, fun b hb => let ⟨⟨u, v, h⟩, hn2⟩ := I.fz b hb; ⟨⟨u, v, up _ h fun e => (hX _ e).2 (fz_mts G hb)⟩, hn2⟩⟩, x⟩
  · obtain ⟨h1, h2⟩ := List.mem_filter.mp hq
    exact ⟨xb _ _ (by simpa using h2) (I.W _ h1).1, (I.W _ h1).2⟩
  · exact (List.filter_sublist.map _).nodup I.nd
  · obtain ⟨p, e', oo⟩ := I.so i mo e
    refine ⟨p, e', oo.keepT tr fun q hq hqp => up q hq fun he => (hX _ he).2 ?_⟩
    have := mem_mts G e'
    rcases hqp with h | h <;> rw [h]
    · exact this.1
    · exact this.2
  · exact (I.tb t ht).keepT tr fun q hq hqt => up q hq fun he => (hX _ he).2 (by rw [hqt]; exact tab_mts G ht)
/-- an iterator in the heap, with the rows that are its own -/
inductive ItOk (G : St) (N : Led) (ρ : Rho) : Addr → List Addr → It → Prop
  | one {a : Addr} {o : Obj} {it : It} : (a, o) ∈ N → a ∉ mts G ρ → IR ρ o it → ItOk G N ρ a [a] it
theorem ItOk.mono {a : Addr} {X : List Addr} {it : It} (x : Ext G N ρ N' ρ') (h : ItOk G N ρ a X it) : ItOk G N' ρ' a X it := by
  have k : ∀ {b : Addr} {o : Obj}, (b, o) ∈ N → b ∉ mts G ρ → (b, o) ∈ N' ∧ b ∉ mts G ρ' := fun h hn => ⟨x.sub _ h hn, x.off h hn⟩
  cases h with
  | one h1 h2 h3 => exact .one (k h1 h2).1 (k h1 h2).2 (h3.mono x)
theorem ItOk.rows {a : Addr} {X : List Addr} {it : It} (h : ItOk G N ρ a X it) : ∀ c ∈ X, (∃ o, (c, o) ∈ N ∧ ¬ Good o) ∧ c ∉ mts G ρ := by
  cases h with
  | one h1 h2 h3 => intro c hc; rw [List.mem_singleton.mp hc]; exact ⟨⟨_, h1, h3.bad⟩, h2⟩
theorem ItOk.bad {a : Addr} {X : List Addr} {it : It} (h : ItOk G N ρ a X it) (nd : (N.map (·.1)).Nodup) : ∀ c ∈ X, ∀ o, (c, o) ∈ N → ¬ Good o := fun c hc o ho => by
  obtain ⟨⟨o', h1, h2⟩, _⟩ := h.rows c hc
  rwa [nodup_row nd ho h1]
end
end Mine

open PySem PySem.W PyProof.Rows PySem.Calls
namespace Mine
set_option autoImplicit false
set_option backward.match.sparseCases false
set_option linter.unusedVariables false

section
variable {G : St} {A : Around} {h₀ : Heap} {L : Addr} {m : Str → Option Value} {N N' : Led} {ρ ρ' : Rho} {σ σ' σ'' : List MO} {s : Shared} {env : Env} {ns : Names} {sl sl' : List Slot} {n : Nat}

/-- the next one of an iterator -/
noncomputable def NextF (G : St) (h₀ : Heap) (L : Addr) (m : Str → Option Value) (σ : List MO) (a : Addr) (N : Led) (ρ : Rho) (s : Shared) (Q : Option Value → Shared → Prop) : Option (MV × It) → Prop
  | none => ∀ h' tk N', Inv G h₀ L m N' ρ σ h' tk → ExtX G [a] N ρ N' ρ → Q none { s with heap := h', toks := tk }
  | some p => ∀ h' tk N' o' u ts, Inv G h₀ L m N' (ρ.ups ts) σ h' tk → ExtX G [a] N ρ N' (ρ.ups ts) → (∀ b ob, (b, ob) ∈ N → ∃ ox, (b, ox) ∈ N') → (a, o') ∈ N' → IR (ρ.ups ts) o' p.2 → RV G N' (ρ.ups ts) u p.1 → Q (some u) { s with heap := h', toks := tk }
theorem nextS_lt {l : List Nat} {k : Nat} {c : Nat} {r : List Nat} (h : l.drop k = c :: r) : l[k]? = some c ∧ l.drop (k + 1) = r := by
  have h1 : (l.drop k)[0]? = some c := by rw [h]; rfl
  rw [List.getElem?_drop] at h1
  refine ⟨by simpa using h1, ?_⟩
  rw [show k + 1 = k + 1 from rfl, ← List.drop_drop, h]
  rfl
theorem nextF_ok {a : Addr} {o : Obj} {it : It} {r : Option (MV × It)} {Q : Option Value → Shared → Prop} {E : Value → Shared → Prop} (e : It.next σ it = some r) (hm : (a, o) ∈ N) (hn : a ∉ mts G ρ) (hr : IR ρ o it) (I : Inv G h₀ L m N ρ σ s.heap s.toks) (hh : A.handled = none)
    (q : NextF G h₀ L m σ a N ρ s Q r) : wpAny (model G.prog G.w) A (pyNext (.ref a)) Q E s := by
  have hb := hr.bad
  have hx := (I.W _ hm).1
  cases hr with
  | rng b k =>
    simp only [It.next, Option.some.injEq] at e
    cases k with
    | zero =>
      subst e
      refine wpAny_pyNext_range_end hh hx (by simp) fun h' xb => ?_
      obtain ⟨J, x⟩ := dropX I (Nat.le_refl _) hm hn hb xb
      exact q h' s.toks _ J x
    | succ k =>
      subst e
      refine wpAny_pyNext_range_item hx (by omega) fun h' hit sb => ?_
      obtain ⟨J, x, old, hm'⟩ := turnX I (Nat.le_add_right s.toks 1) hm hn hb sb hit
      have e2 : rawInt ((b : Int) + 1) = rawInt ((b + 1 : Nat) : Int) := by simp
      have e3 : rawInt (((k + 1 : Nat) : Int) - 1) = rawInt (k : Int) := by congr 1; omega
      rw [e2, e3] at hm' J x old
      exact q h' _ _ _ _ [] J x old hm' (.rng (b + 1) k) (.int _ _)
  | str h3 h4 =>
    rename_i l k t
    simp only [It.next, Option.some.injEq] at e
    cases hd : l.drop k with
    | nil =>
      rw [hd] at e
      simp only [nextS] at e
      subst e
      have hk : (tx l).cps[k]? = none := by
        show l.toArray[k]? = none
        have := List.drop_eq_nil_iff.mp hd
        simp; omega
      by_cases ha : l.toArray.all (· < 128) = true
      · have h3' : o.cls = .type "str_ascii_iterator" := by rw [h3]; unfold strIt; rw [if_pos ha]
        refine wpAny_pyNext_ascii_end hh ⟨_, hx, h3', h4⟩ hk fun h' xb => ?_
        obtain ⟨J, x⟩ := dropX I (Nat.le_refl _) hm hn hb xb
        exact q h' s.toks _ J x
      · have h3' : o.cls = .type "str_iterator" := by rw [h3]; unfold strIt; rw [if_neg ha]
        refine wpAny_pyNext_wide_end hh ⟨_, hx, h3', h4⟩ hk fun h' xb => ?_
        obtain ⟨J, x⟩ := dropX I (Nat.le_refl _) hm hn hb xb
        exact q h' s.toks _ J x
    | cons c r' =>
      rw [hd] at e
      simp only [nextS] at e
      subst e
      obtain ⟨g1, g2⟩ := nextS_lt hd
      have hk : (tx l).cps[k]? = some c := by show l.toArray[k]? = some c; simpa using g1
      by_cases ha : l.toArray.all (· < 128) = true
      · have h3' : o.cls = .type "str_ascii_iterator" := by rw [h3]; unfold strIt; rw [if_pos ha]
        refine wpAny_pyNext_ascii_item ⟨_, hx, h3', h4⟩ hk fun h' hit sb => ?_
        obtain ⟨o', ho', hc', hd'⟩ := hit
        obtain ⟨J, x, old, hm'⟩ := turnX I (Nat.le_refl _) hm hn hb sb ho'
        exact q h' _ _ o' _ [s.toks] J.sign.1 (x.trans old (J.sign.2.toX _)) old hm' (g2 ▸ .str (t := t) (by rw [hc']; unfold strIt; rw [if_pos ha]) (by simpa using hd')) (.chr (List.mem_cons_self ..))
      · have h3' : o.cls = .type "str_iterator" := by rw [h3]; unfold strIt; rw [if_neg ha]
        refine wpAny_pyNext_wide_item ⟨_, hx, h3', h4⟩ hk fun h' hit sb => ?_
        obtain ⟨o', ho', hc', hd'⟩ := hit
        obtain ⟨J, x, old, hm'⟩ := turnX I (Nat.le_refl _) hm hn hb sb ho'
        exact q h' _ _ o' _ [s.toks] J.sign.1 (x.trans old (J.sign.2.toX _)) old hm' (g2 ▸ .str (t := t) (by rw [hc']; unfold strIt; rw [if_neg ha]) (by simpa using hd')) (.chr (List.mem_cons_self ..))
  | lst h3 h4 h5 =>
    rename_i i k p
    simp only [It.next] at e
    cases hq : at? σ i with
    | none => rw [hq] at e; (first | exact (no e).elim | cases e)
    | some mo =>
      rw [hq] at e
      cases mo <;> try (exact (no e).elim)
      rename_i xs
      simp only [nextR] at e
      obtain ⟨ws, c, g1, g2, g3⟩ := list_at I h3 hq
      have hl := isList I g1
      cases hk : at? xs k with
      | none =>
        rw [hk] at e
        simp only [Option.some.injEq] at e
        subst e
        rw [at?_eq] at hk
        have hlen := g2.length
        have hk' : ws.toArray[k]? = none := by
          have := List.getElem?_eq_none_iff.mp hk
          simp; omega
        refine wpAny_pyNext_list_end hh ⟨_, hx, h4, h5⟩ hl hk' fun h' xb => ?_
        obtain ⟨J, x⟩ := dropX I (Nat.le_refl _) hm hn hb xb
        exact q h' s.toks _ J x
      | some v =>
        rw [hk] at e
        simp only [Option.some.injEq] at e
        subst e
        rw [at?_eq] at hk
        obtain ⟨u, hu, r⟩ := g2.at hk
        refine wpAny_pyNext_list_item (x := u) ⟨_, hx, h4, h5⟩ hl (by simpa using hu) fun h' hit sb => ?_
        obtain ⟨o', ho', hc', hd'⟩ := hit
        obtain ⟨J, x, old, hm'⟩ := turnX I (Nat.le_refl _) hm hn hb sb ho'
        have bad : ∀ b ∈ [a], ∀ ob, (b, ob) ∈ N → ¬ Good ob := fun b hb' ob hob => by
          rw [List.mem_singleton.mp hb'] at hob
          rwa [nodup_row I.nd hob hm]
        exact q h' s.toks _ o' u [] J x old hm' (.lst h3 hc' (by simpa using hd')) (r.monoT (x.tr bad))

/-! ## one turn of a loop -/
theorem while_step {test : Expr} {body : List Stmt} {R : Result → Shared → Prop}
    (h : wpAny (model G.prog G.w) A (isTrue test env (eval test env)) (fun b s₂ =>
        if b then wpAny (model G.prog G.w) A (execs body env) (fun f s₃ => match f with
            | .next | .cont => codeAny (model G.prog G.w) A (.whileLoop test body [] env) R s₃
            | .brk => R (.ok .next) s₃
            | .ret v => R (.ok (.ret v)) s₃) (notedBy (model G.prog G.w) A env fun e s' => R (.error e) s') s₂
        else R (.ok .next) s₂) (notedBy (model G.prog G.w) A env fun e s' => R (.error e) s') s) : codeAny (model G.prog G.w) A (.whileLoop test body [] env) R s := by
  refine codeAny_of_tree ?_
  show wpAny _ A ((whileTurn test body [] env).onRaise (fun x => do noteFrame x env; theTreesLotGoes x)) _ _ s
  refine wpAny_noted ?_
  simp only [whileTurn]
  refine wpAny_bind (wpAny_mono h (fun b s₂ h₂ => ?_) fun _ _ h' => h')
  cases b with
  | false =>
    simp only [Bool.false_eq_true, if_false] at h₂ ⊢
    exact wpAny_bind (wpAny_execs_nil (wpAny_pure h₂))
  | true =>
    simp only [if_true] at h₂ ⊢
    refine wpAny_bind (wpAny_mono h₂ (fun f s₃ h₃ => ?_) fun _ _ h' => h')
    cases f with
    | next => exact wpAny_pure ⟨rfl, h₃⟩
    | cont => exact wpAny_pure ⟨rfl, h₃⟩
    | brk => exact wpAny_pure h₃
    | ret v => exact wpAny_pure h₃
theorem for_step {target : Expr} {it : Value} {body : List Stmt} {R : Result → Shared → Prop}
    (h : wpAny (model G.prog G.w) A (pyNext it) (fun r s₁ => match r with
      | none => R (.ok .next) s₁
      | some v => wpAny (model G.prog G.w) A (letOwnedTupleGo target it v) (fun _ s₁' =>
          wpAny (model G.prog G.w) A (assign target env v) (fun _ s₂ => wpAny (model G.prog G.w) A (execs body env) (fun f s₃ => match f with
            | .next | .cont => codeAny (model G.prog G.w) A (.forLoop target it body [] env) R s₃
            | .brk => R (.ok .next) s₃
            | .ret v => R (.ok (.ret v)) s₃) (notedBy (model G.prog G.w) A env fun e s' => R (.error e) s') s₂) (notedBy (model G.prog G.w) A env fun e s' => R (.error e) s') s₁') (notedBy (model G.prog G.w) A env fun e s' => R (.error e) s') s₁) (notedBy (model G.prog G.w) A env fun e s' => R (.error e) s') s) :
    codeAny (model G.prog G.w) A (.forLoop target it body [] env) R s := by
  refine codeAny_of_tree ?_
  show wpAny _ A ((forTurn target it body [] env).onRaise (fun x => do noteFrame x env; theTreesLotGoes x)) _ _ s
  refine wpAny_noted ?_
  simp only [forTurn]
  refine wpAny_bind (wpAny_standAt (wpAny_bind (wpAny_onRaise (wpAny_mono h (fun r s₁ h₁ => ?_) fun _ _ h' => wpAny_standAt h'))))
  cases r with
  | none => exact wpAny_pure ⟨rfl, codeAny_block (wpAny_execs_nil h₁)⟩
  | some v =>
    refine wpAny_bind (wpAny_mono h₁ (fun _ s₁' h₁' => ?_) fun _ _ h' => h')
    refine wpAny_bind (wpAny_mono h₁' (fun _ s₂ h₂ => wpAny_bind (wpAny_mono h₂ (fun f s₃ h₃ => ?_) fun _ _ h' => h')) fun _ _ h' => h')
    cases f with
    | next => exact wpAny_pure ⟨rfl, h₃⟩
    | cont => exact wpAny_pure ⟨rfl, h₃⟩
    | brk => exact wpAny_pure h₃
    | ret v => exact wpAny_pure h₃
/-- a clause of a comprehension with none behind it -/
noncomputable def CompAt (elt : Expr) (gens : List Comprehension) (sc : Scope) (p : Pos) (d : Nat) (target iter : Expr) (ifs : List Expr) : Prop := ∀ (it acc : Value) (env : Env),
    compTurn (.ListComp elt gens sc p) d it acc env = (do
      standAt iter.pos
      match ← pyNext it with
      | none => pure (.done .next)
      | some v =>
        letOwnedTupleGo target it v
        assign target env v
        let mut ok := true
        for c in ifs do
          if ok then ok ← isTrue c env (eval c env)
        if ok then
          (do let _ ← call (.builtin "list.append") [acc, ← eval elt env])
        again (.compLoop (.ListComp elt gens sc p) d it acc env))
theorem compAt_one (elt target iter : Expr) (ifs : List Expr) (sc : Scope) (p : Pos) : CompAt elt [⟨target, iter, ifs, 0⟩] sc p 0 target iter ifs := fun it acc env => by rfl
theorem compAt_two (elt t1 i1 target iter : Expr) (ifs : List Expr) (sc : Scope) (p : Pos) : CompAt elt [⟨t1, i1, [], 0⟩, ⟨target, iter, ifs, 0⟩] sc p 1 target iter ifs := fun it acc env => by rfl
theorem compTurn_two (elt t1 i1 t2 i2 : Expr) (sc : Scope) (p : Pos) (it acc : Value) (env : Env) :
    compTurn (.ListComp elt [⟨t1, i1, [], 0⟩, ⟨t2, i2, [], 0⟩] sc p) 0 it acc env = (do
      standAt i1.pos
      match ← pyNext it with
      | none => pure (.done .next)
      | some v =>
        letOwnedTupleGo t1 it v
        assign t1 env v
        let x ← eval i2 env
        standAt i2.pos
        let x ← foldedSetIterable i2 env x
        let it2 ← holding [x] (pyIter x)
        let _ ← runOwn (.compStart (.ListComp elt [⟨t1, i1, [], 0⟩, ⟨t2, i2, [], 0⟩] sc p) 1 it2 acc env) env
        again (.compLoop (.ListComp elt [⟨t1, i1, [], 0⟩, ⟨t2, i2, [], 0⟩] sc p) 0 it acc env)) := by rfl
noncomputable abbrev NB (G : St) (A : Around) (env : Env) (R : Result → Shared → Prop) : Value → Shared → Prop := notedBy (model G.prog G.w) A env fun e s' => R (.error e) s'
/-- what the code behind a clause's own source is to do -/
noncomputable def InnerQ (G : St) (A : Around) (env : Env) (X : Expr) (it acc : Value) (R : Result → Shared → Prop) (r : Result) (s₅ : Shared) : Prop := match r with
  | .ok _ => codeAny (model G.prog G.w) A (.compLoop X 0 it acc env) R s₅
  | .error e => cameBackBy (model G.prog G.w) A env (NB G A env R) e s₅
noncomputable def CompQ2 (G : St) (A : Around) (env : Env) (elt t1 i1 t2 i2 : Expr) (sc : Scope) (p : Pos) (it acc : Value) (R : Result → Shared → Prop) : Option Value → Shared → Prop
  | none, s => R (.ok .next) s
  | some v, s => wpAny (model G.prog G.w) A (assign t1 env v) (fun _ s₂ => wpAny (model G.prog G.w) A (eval i2 env) (fun x s₃ => wpAny (model G.prog G.w) A (foldedSetIterable i2 env x) (fun x s₃ => wpAny (model G.prog G.w) A (pyIter x) (fun it2 s₄ =>
      codeAny (model G.prog G.w) A (.compStart (.ListComp elt [⟨t1, i1, [], 0⟩, ⟨t2, i2, [], 0⟩] sc p) 1 it2 acc env) (InnerQ G A env (.ListComp elt [⟨t1, i1, [], 0⟩, ⟨t2, i2, [], 0⟩] sc p) it acc R) s₄) (NB G A env R) s₃) (NB G A env R) s₃) (NB G A env R) s₂) (NB G A env R) s
theorem comp_step2 {elt t1 i1 t2 i2 : Expr} {sc : Scope} {p : Pos} {it acc : Value} {R : Result → Shared → Prop}
    (h : wpAny (model G.prog G.w) A (pyNext it) (fun r s₁ => match r with
      | none => CompQ2 G A env elt t1 i1 t2 i2 sc p it acc R none s₁
      | some v => wpAny (model G.prog G.w) A (letOwnedTupleGo t1 it v) (fun _ s₁' => CompQ2 G A env elt t1 i1 t2 i2 sc p it acc R (some v) s₁') (NB G A env R) s₁) (NB G A env R) s) :
    codeAny (model G.prog G.w) A (.compLoop (.ListComp elt [⟨t1, i1, [], 0⟩, ⟨t2, i2, [], 0⟩] sc p) 0 it acc env) R s := by
  refine codeAny_of_tree ?_
  show wpAny _ A ((compTurn (.ListComp elt [⟨t1, i1, [], 0⟩, ⟨t2, i2, [], 0⟩] sc p) 0 it acc env).onRaise (fun x => do noteFrame x env; theTreesLotGoes x)) _ _ s
  refine wpAny_noted ?_
  rw [compTurn_two]
  refine wpAny_bind (wpAny_standAt (wpAny_bind (wpAny_mono h (fun r s₁ h₁ => ?_) fun _ _ h' => h')))
  cases r with
  | none => exact wpAny_pure h₁
  | some v =>
    refine wpAny_bind (wpAny_mono h₁ (fun _ s₁' h₁' => ?_) fun _ _ h' => h')
    refine wpAny_bind (wpAny_mono h₁' (fun _ s₂ h₂ => wpAny_bind (wpAny_mono h₂ (fun x s₃ h₃ => ?_) fun _ _ h' => h')) fun _ _ h' => h')
    refine wpAny_bind (wpAny_standAt (wpAny_bind (wpAny_mono h₃ (fun x s₃' h₃' => ?_) fun _ _ h' => h')))
    refine wpAny_bind (wpAny_holding (wpAny_mono h₃' (fun it2 s₄ h₄ => ?_) fun _ _ h' => h'))
    refine wpAny_bind (wpAny_runOwn (codeAny_mono h₄ (fun r s₅ h₅ => ?_)))
    cases r with
    | ok f => exact wpAny_pure ⟨rfl, h₅⟩
    | error e => exact h₅
theorem compStart_two {elt t1 i1 t2 i2 : Expr} {sc : Scope} {p : Pos} {it acc : Value} {R : Result → Shared → Prop}
    (h0 : codeAny (model G.prog G.w) A (.compLoop (.ListComp elt [⟨t1, i1, [], 0⟩, ⟨t2, i2, [], 0⟩] sc p) 1 it acc env) R s)
    (h : wpAny (model G.prog G.w) A (pyIter it) (fun it' s' => codeAny (model G.prog G.w) A (.compLoop (.ListComp elt [⟨t1, i1, [], 0⟩, ⟨t2, i2, [], 0⟩] sc p) 1 it' acc env) R s') (NB G A env R) s) :
    codeAny (model G.prog G.w) A (.compStart (.ListComp elt [⟨t1, i1, [], 0⟩, ⟨t2, i2, [], 0⟩] sc p) 1 it acc env) R s := by
  refine codeAny_of_tree ?_
  show wpAny _ _ ((compStart (.ListComp elt [⟨t1, i1, [], 0⟩, ⟨t2, i2, [], 0⟩] sc p) 1 it acc env).onRaise (fun x => do noteFrame x env; standAt theWindowsPlace)) _ _ s
  refine wpAny_notedAt ?_
  unfold compStart
  show wpAny _ _ (ask >>= _) _ _ s
  refine wpAny_bind (wpAny_askSetting (wpAny_ite ?_))
  split
  · first
      | exact wpAny_bind (wpAny_pure (wpAny_pure (And.intro rfl h0)))
      | exact wpAny_pure (And.intro rfl h0)
  · refine wpAny_bind (wpAny_rule ?_)
    show wpAny _ _ (standAt i2.pos >>= _) _ _ s
    exact wpAny_bind (wpAny_standAt (wpAny_bind (wpAny_mono h (fun it' s' h' => wpAny_pure (And.intro rfl h')) fun _ _ x => x)))
theorem comp_step {elt target iter : Expr} {ifs : List Expr} {gens : List Comprehension} {d : Nat} {scope : Scope} {pos : Pos} {it acc : Value} {R : Result → Shared → Prop} (hc : CompAt elt gens scope pos d target iter ifs)
    (h : wpAny (model G.prog G.w) A (pyNext it) (fun r s₁ => match r with
      | none => R (.ok .next) s₁
      | some v => wpAny (model G.prog G.w) A (letOwnedTupleGo target it v) (fun _ s₁' =>
          wpAny (model G.prog G.w) A (assign target env v) (fun _ s₂ =>
          wpAny (model G.prog G.w) A (forIn ifs true fun c r => if r = true then do let ok ← isTrue c env (eval c env); pure (ForInStep.yield ok) else pure (ForInStep.yield r)) (fun ok s₃ =>
            if ok = true then wpAny (model G.prog G.w) A (eval elt env) (fun x s₄ =>
              wpAny (model G.prog G.w) A (call (.builtin "list.append") [acc, x]) (fun _ s₅ => codeAny (model G.prog G.w) A (.compLoop (.ListComp elt gens scope pos) d it acc env) R s₅) (notedBy (model G.prog G.w) A env fun e s' => R (.error e) s') s₄) (notedBy (model G.prog G.w) A env fun e s' => R (.error e) s') s₃
            else codeAny (model G.prog G.w) A (.compLoop (.ListComp elt gens scope pos) d it acc env) R s₃) (notedBy (model G.prog G.w) A env fun e s' => R (.error e) s') s₂) (notedBy (model G.prog G.w) A env fun e s' => R (.error e) s') s₁') (notedBy (model G.prog G.w) A env fun e s' => R (.error e) s') s₁) (notedBy (model G.prog G.w) A env fun e s' => R (.error e) s') s) : codeAny (model G.prog G.w) A (.compLoop (.ListComp elt gens scope pos) d it acc env) R s := by
  refine codeAny_of_tree ?_
  show wpAny _ A ((compTurn (.ListComp elt gens scope pos) d it acc env).onRaise (fun x => do noteFrame x env; theTreesLotGoes x)) _ _ s
  refine wpAny_noted ?_
  rw [hc]
  refine wpAny_bind (wpAny_standAt (wpAny_bind (wpAny_mono h (fun r s₁ h₁ => ?_) fun _ _ h' => h')))
  cases r with
  | none => exact wpAny_pure h₁
  | some v =>
    refine wpAny_bind (wpAny_mono h₁ (fun _ s₁' h₁' => ?_) fun _ _ h' => h')
    refine wpAny_bind (wpAny_mono h₁' (fun _ s₂ h₂ => wpAny_bind (wpAny_mono h₂ (fun ok s₃ h₃ => ?_) fun _ _ h' => h')) fun _ _ h' => h')
    cases ok with
    | false => exact wpAny_pure ⟨rfl, h₃⟩
    | true =>
      exact wpAny_bind (wpAny_bind (wpAny_mono h₃ (fun x s₄ h₄ => wpAny_bind (wpAny_mono h₄ (fun _ s₅ h₅ => wpAny_pure (wpAny_pure ⟨rfl, h₅⟩)) fun _ _ h' => h')) fun _ _ h' => h'))
end
end Mine

open PySem PySem.W PyProof.Rows PySem.Calls
namespace Mine
set_option autoImplicit false
set_option backward.match.sparseCases false
set_option linter.unusedVariables false

section
variable {G : St} {A : Around} {h₀ : Heap} {L : Addr} {m : Str → Option Value} {N N' : Led} {ρ ρ' : Rho} {σ σ' σ'' : List MO} {s : Shared} {env : Env} {ns : Names} {sl sl' : List Slot} {n : Nat}
noncomputable def NextQ (G : St) (h₀ : Heap) (L : Addr) (m : Str → Option Value) (σ : List MO) (a : Addr) (X : List Addr) (N : Led) (ρ : Rho) (s : Shared) (Q : Option Value → Shared → Prop) : Option (MV × It) → Prop
  | none => ∀ h' tk N', Inv G h₀ L m N' ρ σ h' tk → ExtX G X N ρ N' ρ → Q none { s with heap := h', toks := tk }
  | some p => ∀ h' tk N' u ts, Inv G h₀ L m N' (ρ.ups ts) σ h' tk → ExtX G X N ρ N' (ρ.ups ts) → (∀ b ob, (b, ob) ∈ N → ∃ ox, (b, ox) ∈ N') → ItOk G N' (ρ.ups ts) a X p.2 → RV G N' (ρ.ups ts) u p.1 → Q (some u) { s with heap := h', toks := tk }
noncomputable def TurnQ (G : St) (A : Around) (E : Value → Shared → Prop) (tgt : Expr) (a : Addr) (Q : Option Value → Shared → Prop) (r : Option Value) (s₁ : Shared) : Prop := match r with
  | none => Q none s₁
  | some v => wpAny (model G.prog G.w) A (letOwnedTupleGo tgt (.ref a) v) (fun _ s₂ => Q (some v) s₂) E s₁
/-- one turn of a loop: the next one, and the tuple that the iterator lent taken apart -/
theorem turn_ok {a : Addr} {X : List Addr} {it : It} {r : Option (MV × It)} {tgt : Expr} {Q : Option Value → Shared → Prop} {E : Value → Shared → Prop} (e : it.next σ = some r) (O : ItOk G N ρ a X it) (I : Inv G h₀ L m N ρ σ s.heap s.toks) (hh : A.handled = none)
    (hn : ∀ p, r = some p → ∀ w, letOwnedTupleGo tgt (.ref a) w = pure ()) (q : NextQ G h₀ L m σ a X N ρ s Q r) :
    wpAny (model G.prog G.w) A (pyNext (.ref a)) (TurnQ G A E tgt a Q) E s := by
  cases O with
  | one h1 h2 h3 =>
    refine nextF_ok e h1 h2 h3 I hh ?_
    cases r with
    | none => exact fun h' tk N' J x => q h' tk N' J x
    | some p =>
      intro h' tk N' o' u ts J x old hm hr hu
      exact wpAny_of_eq (hn p rfl u) (q h' tk N' u ts J x old (.one hm (x.off h1 h2) hr) hu)
noncomputable def ForQ (G : St) (A : Around) (env : Env) (target : Expr) (it : Value) (body : List Stmt) (R : Result → Shared → Prop) : Option Value → Shared → Prop
  | none, s => R (.ok .next) s
  | some v, s => wpAny (model G.prog G.w) A (assign target env v) (fun _ s₂ => wpAny (model G.prog G.w) A (execs body env) (fun f s₃ => match f with
            | .next | .cont => codeAny (model G.prog G.w) A (.forLoop target it body [] env) R s₃
            | .brk => R (.ok .next) s₃
            | .ret v => R (.ok (.ret v)) s₃) (notedBy (model G.prog G.w) A env fun e s' => R (.error e) s') s₂) (notedBy (model G.prog G.w) A env fun e s' => R (.error e) s') s
theorem for_turn {a : Addr} {X : List Addr} {it : It} {r : Option (MV × It)} {tgt : Expr} {body : List Stmt} {R : Result → Shared → Prop} (e : it.next σ = some r) (O : ItOk G N ρ a X it) (I : Inv G h₀ L m N ρ σ s.heap s.toks) (hh : A.handled = none)
    (hn : ∀ p, r = some p → ∀ w, letOwnedTupleGo tgt (.ref a) w = pure ()) (q : NextQ G h₀ L m σ a X N ρ s (ForQ G A env tgt (.ref a) body R) r) :
    codeAny (model G.prog G.w) A (.forLoop tgt (.ref a) body [] env) R s := by
  refine for_step (wpAny_mono (turn_ok (Q := ForQ G A env tgt (.ref a) body R) (E := notedBy (model G.prog G.w) A env fun e s' => R (.error e) s') e O I hh hn q) (fun r s₁ h => ?_) (fun _ _ h => h))
  cases r <;> exact h
noncomputable def CompQ (G : St) (A : Around) (env : Env) (elt target : Expr) (ifs : List Expr) (gens : List Comprehension) (d : Nat) (scope : Scope) (pos : Pos) (it acc : Value) (R : Result → Shared → Prop) : Option Value → Shared → Prop
  | none, s => R (.ok .next) s
  | some v, s => wpAny (model G.prog G.w) A (assign target env v) (fun _ s₂ =>
          wpAny (model G.prog G.w) A (forIn ifs true fun c r => if r = true then do let ok ← isTrue c env (eval c env); pure (ForInStep.yield ok) else pure (ForInStep.yield r)) (fun ok s₃ =>
            if ok = true then wpAny (model G.prog G.w) A (eval elt env) (fun x s₄ =>
              wpAny (model G.prog G.w) A (call (.builtin "list.append") [acc, x]) (fun _ s₅ => codeAny (model G.prog G.w) A (.compLoop (.ListComp elt gens scope pos) d it acc env) R s₅) (notedBy (model G.prog G.w) A env fun e s' => R (.error e) s') s₄) (notedBy (model G.prog G.w) A env fun e s' => R (.error e) s') s₃
            else codeAny (model G.prog G.w) A (.compLoop (.ListComp elt gens scope pos) d it acc env) R s₃) (notedBy (model G.prog G.w) A env fun e s' => R (.error e) s') s₂) (notedBy (model G.prog G.w) A env fun e s' => R (.error e) s') s
theorem comp_turn {a : Addr} {X : List Addr} {it : It} {r : Option (MV × It)} {elt tgt iter : Expr} {ifs : List Expr} {gens : List Comprehension} {d : Nat} {scope : Scope} {pos : Pos} {acc : Value} {R : Result → Shared → Prop} (e : it.next σ = some r) (O : ItOk G N ρ a X it) (I : Inv G h₀ L m N ρ σ s.heap s.toks) (hh : A.handled = none) (hc : CompAt elt gens scope pos d tgt iter ifs)
    (hn : ∀ p, r = some p → ∀ w, letOwnedTupleGo tgt (.ref a) w = pure ()) (q : NextQ G h₀ L m σ a X N ρ s (CompQ G A env elt tgt ifs gens d scope pos (.ref a) acc R) r) :
    codeAny (model G.prog G.w) A (.compLoop (.ListComp elt gens scope pos) d (.ref a) acc env) R s := by
  refine comp_step hc (wpAny_mono (turn_ok (Q := CompQ G A env elt tgt ifs gens d scope pos (.ref a) acc R) (E := notedBy (model G.prog G.w) A env fun e s' => R (.error e) s') e O I hh hn q) (fun r s₁ h => ?_) (fun _ _ h => h))
  cases r <;> exact h
theorem comp_turn2 {a : Addr} {X : List Addr} {it : It} {r : Option (MV × It)} {elt t1 i1 t2 i2 : Expr} {sc : Scope} {p : Pos} {acc : Value} {R : Result → Shared → Prop} (e : it.next σ = some r) (O : ItOk G N ρ a X it) (I : Inv G h₀ L m N ρ σ s.heap s.toks) (hh : A.handled = none)
    (hn : ∀ p, r = some p → ∀ w, letOwnedTupleGo t1 (.ref a) w = pure ()) (q : NextQ G h₀ L m σ a X N ρ s (CompQ2 G A env elt t1 i1 t2 i2 sc p (.ref a) acc R) r) :
    codeAny (model G.prog G.w) A (.compLoop (.ListComp elt [⟨t1, i1, [], 0⟩, ⟨t2, i2, [], 0⟩] sc p) 0 (.ref a) acc env) R s := by
  refine comp_step2 (wpAny_mono (turn_ok (Q := CompQ2 G A env elt t1 i1 t2 i2 sc p (.ref a) acc R) (E := NB G A env R) e O I hh hn q) (fun r s₁ h => ?_) (fun _ _ h => h))
  cases r <;> exact h
/-- rows that turn which are no iterator's own -/
theorem ItOk.keepX {a C : Addr} {X : List Addr} {it : It} (x : ExtX G [C] N ρ N' ρ') (hC : ∀ o, (C, o) ∈ N → ¬ Good o) (hX : C ∉ X) (h : ItOk G N ρ a X it) : ItOk G N' ρ' a X it := by
  have tr := x.tr fun b hb o ho => hC o (by rw [← List.mem_singleton.mp hb]; exact ho)
  have k : ∀ {b : Addr} {o : Obj}, (b, o) ∈ N → b ∉ mts G ρ → b ∈ X → (b, o) ∈ N' ∧ b ∉ mts G ρ' := fun h hn hb => ⟨x.sub _ h hn fun e => hX (by rw [← List.mem_singleton.mp e]; exact hb), x.off h hn⟩
  cases h with
  | one h1 h2 h3 => have k1 := k h1 h2 (by simp); exact .one k1.1 k1.2 (h3.monoT tr)
end
end Mine

open PySem PySem.W PyProof.Rows PySem.Calls
namespace Mine
set_option autoImplicit false
set_option backward.match.sparseCases false
set_option linter.unusedVariables false

/-- how a statement ends -/
noncomputable def FlR (G : St) : Fl → Flow → Led → Rho → Prop
  | .next, f, _, _ => f = .next
  | .brk, f, _, _ => f = .brk
  | .ret v, f, N, ρ => ∃ u, f = .ret u ∧ RV G N ρ u v
noncomputable abbrev testsOf (ifs : List Expr) (env : Env) : Sem Bool := forIn ifs true fun c r => if r = true then do let ok ← isTrue c env (eval c env); pure (ForInStep.yield ok) else pure (ForInStep.yield r)

/-- the loop of a comprehension does what is told -/
noncomputable def LoopOk (G : St) (n : Nat) (X : Expr) (d u : Nat) (ix : List Nat) (run : It → Nat → List Slot → List MO → Option (List MO)) : Prop :=
  ∀ {A : Around} {env : Env} {h₀ : Heap} {L : Addr} {m : Str → Option Value} {N : Led} {ρ : Rho} {s : Shared} {it : It} {ka : Nat} {sl : List Slot} {σ σ' : List MO} {a C D : Addr} {Y : List Addr} {oC : Obj} {mc : Str → Option Value}, EnvOk G A env h₀ L n → env.locals = C →
    C ≠ L → C ∉ Y → (∀ i ∈ ix, env.kindOf ((nmAt u).at i) = some .local ∧ i < (nmAt u).length) → Slots G L env (nmAt u) m N ρ sl → Inv G h₀ L m N ρ σ s.heap s.toks →
    ItOk G N ρ a Y it → (C, oC) ∈ N → C ∉ mts G ρ → NsOb oC mc → ρ.l[ka]? = some (D, D) → run it ka sl σ = some σ' →
    ∀ (P : Result → Shared → Prop), (∀ h' tk N' ρ' oC' mc', Inv G h₀ L m N' ρ' σ' h' tk → ExtX G (C :: Y) N ρ N' ρ' → (C, oC') ∈ N' → NsOb oC' mc' → P (.ok .next) { s with heap := h', toks := tk }) →
      codeAny (model G.prog G.w) A (.compLoop X d (.ref a) (.ref D) env) P s
structure Sound (G : St) (r : Rec) (n : Nat) : Prop where
  num : r.n = n
  nr : ∀ x sl σ, r.e (.raw x) sl σ = none
  e : ∀ {A : Around} {env : Env} {h₀ : Heap} {L : Addr} {ns : Names} {m : Str → Option Value} {N : Led} {ρ : Rho} {s : Shared} {e : E} {sl : List Slot} {σ σ' : List MO} {v : MV}, EnvOk G A env h₀ L n → Slots G L env ns m N ρ sl → Inv G h₀ L m N ρ σ s.heap s.toks →
    r.e e sl σ = some (v, σ') → Wp G A h₀ L m (eval (e.er ns) env) σ' (VR G v) N ρ s
  es : ∀ {A : Around} {env : Env} {h₀ : Heap} {L : Addr} {ns : Names} {m : Str → Option Value} {N : Led} {ρ : Rho} {s : Shared} {es : List E} {sl : List Slot} {σ σ' : List MO} {vs : List MV} {pos : Pos}, EnvOk G A env h₀ L n → Slots G L env ns m N ρ sl → Inv G h₀ L m N ρ σ s.heap s.toks →
    r.es es sl σ = some (vs, σ') → Wp G A h₀ L m (spliced (backTo pos (starEach (E.ers ns es) env))) σ' (VRs G vs) N ρ s
  esn : ∀ {env : Env} {ns : Names} {es : List E} {sl : List Slot} {σ : List MO} {y : List MV × List MO} {pos : Pos}, r.es es sl σ = some y → (backTo pos (starEach (E.ers ns es) env)).any (·.1) = false
  eo : ∀ {A : Around} {env : Env} {h₀ : Heap} {L : Addr} {ns : Names} {m : Str → Option Value} {N : Led} {ρ : Rho} {s : Shared} {e : Option E} {sl : List Slot} {σ σ' : List MO} {v : MV}, EnvOk G A env h₀ L n → Slots G L env ns m N ρ sl → Inv G h₀ L m N ρ σ s.heap s.toks →
    r.eo e sl σ = some (v, σ') → Wp G A h₀ L m (evalPart (E.ero ns e) env) σ' (VR G v) N ρ s
  t : ∀ {A : Around} {env : Env} {h₀ : Heap} {L : Addr} {ns : Names} {m : Str → Option Value} {N : Led} {ρ : Rho} {s : Shared} {e : E} {sl : List Slot} {σ σ' : List MO} {b : Bool}, EnvOk G A env h₀ L n → Slots G L env ns m N ρ sl → Inv G h₀ L m N ρ σ s.heap s.toks →
    r.t e sl σ = some (b, σ') → Wp G A h₀ L m (isTrue (e.er ns) env (eval (e.er ns) env)) σ' (BR b) N ρ s
  ts : ∀ {A : Around} {env : Env} {h₀ : Heap} {L : Addr} {ns : Names} {m : Str → Option Value} {N : Led} {ρ : Rho} {s : Shared} {op : BoolOp} {es : List E} {sl : List Slot} {σ σ' : List MO} {b : Bool}, EnvOk G A env h₀ L n → Slots G L env ns m N ρ sl → Inv G h₀ L m N ρ σ s.heap s.toks →
    r.ts op es sl σ = some (b, σ') → Wp G A h₀ L m (allTrue op (E.ers ns es) env) σ' (BR b) N ρ s
  tf : ∀ {A : Around} {env : Env} {h₀ : Heap} {L : Addr} {ns : Names} {m : Str → Option Value} {N : Led} {ρ : Rho} {s : Shared} {es : List E} {sl : List Slot} {σ σ' : List MO} {b : Bool}, EnvOk G A env h₀ L n → Slots G L env ns m N ρ sl → Inv G h₀ L m N ρ σ s.heap s.toks →
    r.ts .And es sl σ = some (b, σ') → Wp G A h₀ L m (testsOf (E.ers ns es) env) σ' (BR b) N ρ s
  a : ∀ {A : Around} {env : Env} {h₀ : Heap} {L : Addr} {ns : Names} {m : Str → Option Value} {N : Led} {ρ : Rho} {s : Shared} {t : T} {u : Value} {v : MV} {sl sl' : List Slot} {σ σ' : List MO}, EnvOk G A env h₀ L n → env.locals = L → Slots G L env ns m N ρ sl → Inv G h₀ L m N ρ σ s.heap s.toks → RV G N ρ u v →
    r.a t v sl σ = some (sl', σ') → WpS G A h₀ L env ns m (assign (t.er ns) env u) sl' σ' UR N ρ s
  as : ∀ {A : Around} {env : Env} {h₀ : Heap} {L : Addr} {ns : Names} {m : Str → Option Value} {N : Led} {ρ : Rho} {s : Shared} {ts : List T} {us : List Value} {vs : List MV} {sl sl' : List Slot} {σ σ' : List MO}, EnvOk G A env h₀ L n → env.locals = L → Slots G L env ns m N ρ sl → Inv G h₀ L m N ρ σ s.heap s.toks → RVs G N ρ us vs →
    r.as ts vs sl σ = some (sl', σ') → WpS G A h₀ L env ns m (assignInOrder ((assignEach (T.ers ns ts) env).map (·.2)) us) sl' σ' UR N ρ s
  s : ∀ {A : Around} {env : Env} {h₀ : Heap} {L : Addr} {ns : Names} {m : Str → Option Value} {N : Led} {ρ : Rho} {s : Shared} {st : S} {fl : Fl} {sl sl' : List Slot} {σ σ' : List MO}, EnvOk G A env h₀ L n → env.locals = L → Slots G L env ns m N ρ sl → Inv G h₀ L m N ρ σ s.heap s.toks →
    r.s st sl σ = some (fl, sl', σ') → WpS G A h₀ L env ns m (exec (st.er ns) env) sl' σ' (FlR G fl) N ρ s
  ss : ∀ {A : Around} {env : Env} {h₀ : Heap} {L : Addr} {ns : Names} {m : Str → Option Value} {N : Led} {ρ : Rho} {s : Shared} {ss : List S} {fl : Fl} {sl sl' : List Slot} {σ σ' : List MO}, EnvOk G A env h₀ L n → env.locals = L → Slots G L env ns m N ρ sl → Inv G h₀ L m N ρ σ s.heap s.toks →
    r.ss ss sl σ = some (fl, sl', σ') → WpS G A h₀ L env ns m (execs (S.ers ns ss) env) sl' σ' (FlR G fl) N ρ s
  wh : ∀ {A : Around} {env : Env} {h₀ : Heap} {L : Addr} {ns : Names} {m : Str → Option Value} {N : Led} {ρ : Rho} {s : Shared} {t : E} {b : List S} {fl : Fl} {sl sl' : List Slot} {σ σ' : List MO}, EnvOk G A env h₀ L n → env.locals = L → Slots G L env ns m N ρ sl → Inv G h₀ L m N ρ σ s.heap s.toks →
    r.wh t b sl σ = some (fl, sl', σ') → ∀ (P : Result → Shared → Prop), (∀ f h' tk N' ρ' m', Inv G h₀ L m' N' ρ' σ' h' tk → Ext G N ρ N' ρ' → Slots G L env ns m' N' ρ' sl' → FlR G fl f N' ρ' → P (.ok f) { s with heap := h', toks := tk }) →
      codeAny (model G.prog G.w) A (.whileLoop (t.er ns) (S.ers ns b) [] env) P s
  fr : ∀ {A : Around} {env : Env} {h₀ : Heap} {L : Addr} {ns : Names} {m : Str → Option Value} {N : Led} {ρ : Rho} {s : Shared} {t : T} {it : It} {b : List S} {fl : Fl} {sl sl' : List Slot} {σ σ' : List MO} {a : Addr} {X : List Addr}, EnvOk G A env h₀ L n → env.locals = L → Slots G L env ns m N ρ sl → Inv G h₀ L m N ρ σ s.heap s.toks →
    ItOk G N ρ a X it → r.fr t it b sl σ = some (fl, sl', σ') → ∀ (P : Result → Shared → Prop), (∀ f h' tk N' ρ' m', Inv G h₀ L m' N' ρ' σ' h' tk → ExtX G X N ρ N' ρ' → Slots G L env ns m' N' ρ' sl' → FlR G fl f N' ρ' → P (.ok f) { s with heap := h', toks := tk }) →
      codeAny (model G.prog G.w) A (.forLoop (t.er ns) (.ref a) (S.ers ns b) [] env) P s
  co : ∀ {elt : E} {ct : CTg} {u : Nat} {iter : Expr} {gens : List Comprehension} {sc : Scope} {p : Pos} {d : Nat} {ifs : List E}, CompAt (elt.er (nmAt u)) gens sc p d (ct.er (nmAt u)) iter (E.ers (nmAt u) ifs) → LoopOk G n (.ListComp (elt.er (nmAt u)) gens sc p) d u ct.ix (r.co elt ct ifs)
  co2 : ∀ {elt : E} {ct ct2 : CTg} {it2 : E} {u : Nat} {iter : Expr} {sc : Scope} {p : Pos}, LoopOk G n (.ListComp (elt.er (nmAt u)) [⟨ct.er (nmAt u), iter, [], 0⟩, ⟨ct2.er (nmAt u), it2.er (nmAt u), [], 0⟩] sc p) 0 u (ct.ix ++ ct2.ix) (r.co2 elt ct ct2 it2)
  keep : ∀ {A : Around} {env : Env} {h₀ : Heap} {L : Addr} {m : Str → Option Value} {N : Led} {ρ : Rho} {s : Shared} {f : MV} {as : List MV} {vf : Value} {σ σ' : List MO} {y : MV × List MO}, EnvOk G A env h₀ L n → Inv G h₀ L m N ρ σ' s.heap s.toks → RV G N ρ vf f → r.call f as σ = some y →
    ∃ k, (k = Keeper.frame ∨ k = Keeper.machine ∨ k = Keeper.boundFrame) ∧ Looks (model G.prog G.w) s.heap (keeperOf vf) k
  call : ∀ {A : Around} {env : Env} {h₀ : Heap} {L : Addr} {m : Str → Option Value} {N : Led} {ρ : Rho} {s : Shared} {f v : MV} {as : List MV} {vf : Value} {vs : List Value} {σ σ' : List MO}, EnvOk G A env h₀ L n → Inv G h₀ L m N ρ σ s.heap s.toks → RV G N ρ vf f → RVs G N ρ vs as →
    r.call f as σ = some (v, σ') → Wp G A h₀ L m (call vf vs) σ' (VR G v) N ρ s
  callF : ∀ {A : Around} {env : Env} {h₀ : Heap} {L : Addr} {m : Str → Option Value} {N : Led} {ρ : Rho} {s : Shared} {k : Nat} {v : MV} {as : List MV} {vs : List Value} {σ σ' : List MO}, EnvOk G A env h₀ L n → Inv G h₀ L m N ρ σ s.heap s.toks → RVs G N ρ vs as →
    r.call (.fn k) as σ = some (v, σ') → ∀ (P : Result → Shared → Prop), (∀ u h' tk N' ρ', Inv G h₀ L m N' ρ' σ' h' tk → Ext G N ρ N' ρ' → RV G N' ρ' u v → P (.ok (.ret u)) { s with heap := h', toks := tk }) →
      codeAny (model G.prog G.w) A (.call (.ref (G.FA k)) ⟨vs, []⟩) P s

theorem sound_nil (G : St) : Sound G .nil 0 where
  num := rfl
  nr _ _ _ := rfl
  e _ _ _ h := nomatch h
  es _ _ _ h := nomatch h
  esn h := nomatch h
  eo _ _ _ h := nomatch h
  t _ _ _ h := nomatch h
  ts _ _ _ h := nomatch h
  tf _ _ _ h := nomatch h
  a _ _ _ _ _ h := nomatch h
  as _ _ _ _ _ h := nomatch h
  s _ _ _ _ h := nomatch h
  ss _ _ _ _ h := nomatch h
  wh _ _ _ _ h := nomatch h
  fr _ _ _ _ _ h := nomatch h
  co _ := fun _ _ _ _ _ _ _ _ _ _ _ _ h => nomatch h
  co2 := fun _ _ _ _ _ _ _ _ _ _ _ _ h => nomatch h
  keep _ _ _ h := nomatch h
  call _ _ _ _ h := nomatch h
  callF _ _ _ h := nomatch h

theorem bind_some {α β : Type} {x : Option α} {f : α → Option β} {b : β} (h : x.bind f = some b) : ∃ a, x = some a ∧ f a = some b := by
  cases x with
  | none => (first | exact (no h).elim | cases h)
  | some a => exact ⟨a, rfl, h⟩
theorem cond_some {α : Type} {c : Bool} {x : Option α} {b : α} (h : cond c x none = some b) : c = true ∧ x = some b := by
  cases c with
  | false => (first | exact (no h).elim | cases h)
  | true => exact ⟨rfl, h⟩

section
variable {G : St} {CT : List Cl} {GV : List (Option MV)} {r : Rec} {n : Nat} (hs : Sound G r n) {A : Around} {env : Env} {h₀ : Heap} {L : Addr} {ns : Names} {m : Str → Option Value} {N : Led} {ρ : Rho} {s : Shared} {sl sl' : List Slot} {σ σ' : List MO} {v : MV}

include hs in
theorem Sound.NR {e : E} {y : MV × List MO} (h : r.e e sl σ = some y) : NR e := fun x hx => by subst hx; rw [hs.nr] at h; (first | exact (no h).elim | cases h)
theorem const_ok (c : Cst) {k : Nat} {p : Pos} (I : Inv G h₀ L m N ρ σ s.heap s.toks) : Wp G A h₀ L m (eval (.Constant c.er k p) env) σ (VR G c.mv) N ρ s := by
  cases c with
  | none => exact Wp.same' I .none fun Q E q => wpAny_Constant_none q
  | bool b => exact Wp.same' I (.bool b) fun Q E q => wpAny_Constant_bool q
  | int i => exact Wp.same I (.int i s.toks) fun Q E q => wpAny_Constant_int q
  | str l => exact Wp.same I (.str l s.toks) fun Q E q => Constant_str q
  | emp => exact Wp.lit I fun Q E q => Constant_str q
theorem marked_er {op : CmpOp} {e : E} (h : NR e) (t : Sem Value) : markedEach [op] [e.er ns] [t] = [t] := by
  show [markedBehindIn op (e.er ns) t] = [t]
  cases e <;> first | exact absurd rfl (h _) | rfl
theorem okBase_er {e : E} (h : okBase e = true) (a : Str) (t : Sem Value) : attributeBase (e.er ns) a env t = t := by
  cases e <;> first | ((first | exact (no h).elim | cases h); done) | rfl
end
end Mine

open PySem PySem.W PyProof.Rows PySem.Calls
namespace Mine
set_option autoImplicit false
set_option backward.match.sparseCases false
set_option linter.unusedVariables false
set_option maxRecDepth 20000

section
variable {G : St} {CT : List Cl} {GV : List (Option MV)} {r : Rec} {n : Nat} {A : Around} {env : Env} {h₀ : Heap} {L : Addr} {ns : Names} {m : Str → Option Value} {N : Led} {ρ : Rho} {s : Shared} {sl sl' : List Slot} {σ σ' : List MO} {v : MV}

theorem alloc1 {D : Addr} {o : Obj} {mo : MO} {h' : Heap} {tk : Nat} (I : Inv G h₀ L m N ρ σ s.heap s.toks) (le : s.toks ≤ tk) (F' : Fr h₀ L h' m) (W' : News h₀ L h' ((D, o) :: N)) (fr : Fresh N D) (ho : ∀ ρ', Ext G N ρ ((D, o) :: N) ρ' → OR G ((D, o) :: N) ρ' (D, D) mo) :
    Inv G h₀ L m ((D, o) :: N) (ρ.add (D, D)) (σ ++ [mo]) h' tk ∧ Ext G N ρ ((D, o) :: N) (ρ.add (D, D)) ∧ RV G ((D, o) :: N) (ρ.add (D, D)) (.ref D) (.ref σ.length) := by
  have J := I.alloc le (new := [(D, o)]) (p := (D, D)) (mo := mo) F' W' (by simp) (by simpa using fr) fr fr ho
  exact ⟨J.1, J.2, .ref (p := (D, D)) (by rw [← I.len]; simp [Rho.app])⟩

variable (hs : Sound G r n)
include hs
theorem cmp_ok {l rr : E} {op : CmpOp} {b : Bool} (H : EnvOk G A env h₀ L n) (S : Slots G L env ns m N ρ sl) (I : Inv G h₀ L m N ρ σ s.heap s.toks) (e : eCmp r l op rr sl σ = some (b, σ')) :
    NR rr ∧ ∀ {α : Type} (f : Value → Value → Sem α) (R : α → Led → Rho → Prop),
      (∀ va vb (h₂ : Heap) (tk₂ : Nat) N₂ ρ₂, Inv G h₀ L m N₂ ρ₂ σ' h₂ tk₂ → Ext G N ρ N₂ ρ₂ → (∀ (Q : Value → Shared → Prop) (E : Value → Shared → Prop), Q (.bool b) { s with heap := h₂, toks := tk₂ } → wpAny (model G.prog G.w) A (compareOp op va vb) Q E { s with heap := h₂, toks := tk₂ }) →
        Wp G A h₀ L m (f va vb) σ' R N₂ ρ₂ { s with heap := h₂, toks := tk₂ }) →
      Wp G A h₀ L m (eval (l.er ns) env >>= fun a => holding [a] (eval (rr.er ns) env) >>= f a) σ' R N ρ s := by
  unfold eCmp at e
  obtain ⟨x, e1, e⟩ := bind_some e
  obtain ⟨y, e2, e⟩ := bind_some e
  obtain ⟨c, e3, e⟩ := bind_some e
  (first | exact (no e).elim | cases e)
  refine ⟨hs.NR e2, fun f R k => ?_⟩
  refine (hs.e H S I e1).bind fun a h₁ tk N₁ ρ₁ I₁ x₁ r₁ => ?_
  refine ((hs.e H (S.mono x₁) I₁ e2).hold).bind fun b h₂ tk₂ N₂ ρ₂ I₂ x₂ r₂ => ?_
  exact k a b h₂ tk₂ N₂ ρ₂ I₂ (x₁.trans x₂) (cmpop_ok (s := { s with heap := h₂, toks := tk₂ }) e3 (r₁.mono x₂).wk r₂.wk I₂ H.X H.u64)

theorem st_e_cmp {l rr : E} {op : CmpOp} {p : Pos} (H : EnvOk G A env h₀ L n) (S : Slots G L env ns m N ρ sl) (I : Inv G h₀ L m N ρ σ s.heap s.toks) {x : Bool × List MO} (e : eCmp r l op rr sl σ = some x) :
    Wp G A h₀ L m (eval ((E.cmp l op rr p).er ns) env) x.2 (VR G (.bool x.1)) N ρ s := by
  obtain ⟨b, σ'⟩ := x
  obtain ⟨nr, k⟩ := cmp_ok hs H S I e
  show Wp G A h₀ L m (eval (.Compare (l.er ns) [op] [rr.er ns] p) env) _ _ _ _ _
  rw [arm_eval_Compare]
  show Wp G A h₀ L m (eval (l.er ns) env >>= fun a => compareChain p a [op] (markedEach [op] [rr.er ns] [eval (rr.er ns) env])) _ _ _ _ _
  rw [marked_er nr]
  refine k (fun a b => standAt p >>= fun _ => operate [a, b] (compareOp op a b)) _ fun va vb h₂ tk₂ N₂ ρ₂ I₂ x₂ c => ?_
  exact Wp.stand (Wp.oper (Wp.same' I₂ (.bool b) c))
theorem st_t_cmp {l rr : E} {op : CmpOp} {p : Pos} (H : EnvOk G A env h₀ L n) (S : Slots G L env ns m N ρ sl) (I : Inv G h₀ L m N ρ σ s.heap s.toks) {b : Bool} (e : eCmp r l op rr sl σ = some (b, σ')) :
    Wp G A h₀ L m (isTrue ((E.cmp l op rr p).er ns) env (eval ((E.cmp l op rr p).er ns) env)) σ' (BR b) N ρ s := by
  obtain ⟨nr, k⟩ := cmp_ok hs H S I e
  show Wp G A h₀ L m (isTrue (.Compare (l.er ns) [op] [rr.er ns] p) env _) _ _ _ _ _
  rw [arm_isTrue_Compare]
  show Wp G A h₀ L m (eval (l.er ns) env >>= fun a => testChain p a [op] (markedEach [op] [rr.er ns] [eval (rr.er ns) env])) _ _ _ _ _
  rw [marked_er nr]
  refine k (fun a b => standAt p >>= fun _ => operate [a, b] (compareOp op a b) >>= fun c => holding [c] (truthy c)) _ fun va vb h₂ tk₂ N₂ ρ₂ I₂ x₂ c => ?_
  refine Wp.stand (Wp.bind (Wp.oper (Wp.same' (R := fun v _ _ => v = .bool b) I₂ rfl c)) fun u h₃ tk₃ N₃ ρ₃ I₃ x₃ r₃ => ?_)
  subst r₃
  exact Wp.hold (Wp.same' I₃ rfl fun Q E q => wpAny_truthy_bool q)
theorem st_sub {e i : E} {p : Pos} (H : EnvOk G A env h₀ L n) (S : Slots G L env ns m N ρ sl) (I : Inv G h₀ L m N ρ σ s.heap s.toks) (h : eSub r e i sl σ = some (v, σ')) :
    Wp G A h₀ L m (eval ((E.sub e i p).er ns) env) σ' (VR G v) N ρ s := by
  unfold eSub at h
  obtain ⟨x, e1, h⟩ := bind_some h
  obtain ⟨y, e2, h⟩ := bind_some h
  obtain ⟨w, e3, h⟩ := bind_some h
  (first | exact (no h).elim | cases h)
  intro Q E k
  refine Subscript_ ((hs.e H S I e1) _ _ fun a h₁ tk N₁ ρ₁ I₁ x₁ r₁ => ?_)
  refine (hs.e H (S.mono x₁) I₁ e2) _ _ fun b h₂ tk₂ N₂ ρ₂ I₂ x₂ r₂ => ?_
  exact subs_ok (s := { s with heap := h₂, toks := tk₂ }) e3 (r₁.mono x₂).wk r₂.wk I₂ H.X (subscripted_er (hs.NR e2) _ _) Q E fun c h₃ tk₃ N₃ ρ₃ I₃ x₃ r₃ => k c h₃ tk₃ N₃ ρ₃ I₃ ((x₁.trans x₂).trans x₃) r₃
omit hs in
theorem revE_ok {x y mv : MV} {va vb : Value} {value slice : Expr} {ops : List Value} (e : revE σ y x = some (mv, σ')) (ha : RV G N ρ va x) (hb : RV G N ρ vb y) (I : Inv G h₀ L m N ρ σ s.heap s.toks)
    (hsub : subscripted slice false va (.ref s.heap.objs.size) = operate ops (getItem va (.ref s.heap.objs.size))) :
    ∀ (Q : Value → Shared → Prop) (E : Value → Shared → Prop), (∀ a h' tk N' ρ', Inv G h₀ L m N' ρ' σ' h' tk → Ext G N ρ N' ρ' → RV G N' ρ' a mv → Q a { s with heap := h', toks := tk }) →
      wpAny (model G.prog G.w) A (subscriptTail value slice va (.ref s.heap.objs.size)) Q E { s with heap := s.heap.push { cls := .type "slice", data := .fields #[.none, .none, vb] } } := by
  intro Q E k
  unfold revE at e
  split at e
  · rename_i l
    split at e
    · cases hz : lenOk l.length with
      | false => rw [hz] at e; (first | exact (no e).elim | cases e)
      | true =>
        rw [hz] at e; (first | exact (no e).elim | cases e)
        obtain ⟨_, rfl⟩ := ha.inv
        obtain ⟨u, rfl⟩ := hb.inv
        refine toksUp ?_
        have hsz : (tx l).length ≤ sizeLine := by rw [tx_len]; exact lenOk_line hz
        refine tail_any (typeIs_str _ _ _) F.slot_str_getitem.lookup (wpAny_getItem_str_slice (l := none) (u := none) (st := some (Int.negSucc 0, u)) ⟨_, Heap.get?_push_size _ rfl, rfl, rfl⟩ (by rfl) (post_val_or_str ⟨Nat.le_trans (Txt.sliceBy_le (tx l) none none (Int.negSucc 0, u) (by simp)) hsz, fun t' c => fun le => ?_⟩)) hsub
        have F' := I.F.push { cls := .type "slice", data := .fields #[.none, .none, .int (Int.negSucc 0) u] }
        have W' := I.W.pushKeep { cls := .type "slice", data := .fields #[.none, .none, .int (Int.negSucc 0) u] }
        have key : Txt.sliceBy (tx l) none none (Int.negSucc 0, u) = tx l.reverse := by
          apply Str.ext'
          apply Array.toList_inj.mp
          rw [show (Int.negSucc 0 : Int) = -1 from rfl, step_rev_list]
          apply List.ext_getElem
          · simp [Str.length]
          · intro i h1 h2
            simp [Str.length] at h1 h2 ⊢
            rw [List.getElem?_eq_getElem (by omega)]; rfl
        show Q (.str (Txt.sliceBy (tx l) none none (Int.negSucc 0, u)) t') _
        rw [key]
        exact k _ _ c N ρ (I.grown le F' W') (Ext.refl _ _ _) (.str _ _)
    · (first | exact (no e).elim | cases e)
  · (first | exact (no e).elim | cases e)
theorem st_slc {e : E} {lo hi st : Option E} {sp p : Pos} (H : EnvOk G A env h₀ L n) (S : Slots G L env ns m N ρ sl) (I : Inv G h₀ L m N ρ σ s.heap s.toks) (h : eSlc r e lo hi st sl σ = some (v, σ')) :
    Wp G A h₀ L m (eval ((E.slc e lo hi st sp p).er ns) env) σ' (VR G v) N ρ s := by
  cases st with
  | some e2 =>
    cases lo with
    | some _ => (first | exact (no h).elim | cases h)
    | none =>
    cases hi with
    | some _ => (first | exact (no h).elim | cases h)
    | none =>
      unfold eSlc at h
      obtain ⟨x, e1, h⟩ := bind_some h
      obtain ⟨y, e2, h⟩ := bind_some h
      intro Q E k
      refine Subscript_ ((hs.e H S I e1) _ _ fun a h₁ tk N₁ ρ₁ I₁ x₁ r₁ => ?_)
      refine wpAny_Slice (evalPart_none_step (evalPart_none_step ?_))
      refine evalPart_some_step ((hs.e H (S.mono x₁) I₁ e2) _ _ fun b h₂ tk₂ N₂ ρ₂ I₂ x₂ r₂ => ?_)
      exact revE_ok (s := { s with heap := h₂, toks := tk₂ }) h (r₁.mono x₂).wk r₂ I₂ rfl Q E fun d h₄ tk₄ N₄ ρ₄ I₄ x₄ r₄ => k d h₄ tk₄ N₄ ρ₄ I₄ ((x₁.trans x₂).trans x₄) r₄
  | none =>
    unfold eSlc at h
    obtain ⟨x, e1, h⟩ := bind_some h
    obtain ⟨y, e2, h⟩ := bind_some h
    obtain ⟨z, e3, h⟩ := bind_some h
    intro Q E k
    refine Subscript_ ((hs.e H S I e1) _ _ fun a h₁ tk N₁ ρ₁ I₁ x₁ r₁ => ?_)
    refine wpAny_Slice ((hs.eo H (S.mono x₁) I₁ e2) _ _ fun b h₂ tk₂ N₂ ρ₂ I₂ x₂ r₂ => ?_)
    refine (hs.eo H (S.mono (x₁.trans x₂)) I₂ e3) _ _ fun c h₃ tk₃ N₃ ρ₃ I₃ x₃ r₃ => ?_
    refine evalPart_none_step ?_
    exact cutE_ok (lo := none) (hi := none) (s := { s with heap := h₃, toks := tk₃ }) h (r₁.mono (x₂.trans x₃)).wk (r₂.mono x₃) r₃ I₃ H.bls rfl Q E fun d h₄ tk₄ N₄ ρ₄ I₄ x₄ r₄ => k d h₄ tk₄ N₄ ρ₄ I₄ (((x₁.trans x₂).trans x₃).trans x₄) r₄
theorem st_bin {l rr : E} {op : Operator} {p : Pos} (H : EnvOk G A env h₀ L n) (S : Slots G L env ns m N ρ sl) (I : Inv G h₀ L m N ρ σ s.heap s.toks) (h : eBin r l op rr sl σ = some (v, σ')) :
    Wp G A h₀ L m (eval ((E.bin l op rr p).er ns) env) σ' (VR G v) N ρ s := by
  unfold eBin at h
  obtain ⟨x, e1, h⟩ := bind_some h
  obtain ⟨y, e2, h⟩ := bind_some h
  show Wp G A h₀ L m (eval (.BinOp (l.er ns) op (rr.er ns) p) env) _ _ _ _ _
  rw [arm_eval_BinOp]
  refine (hs.e H S I e1).bind fun a h₁ tk N₁ ρ₁ I₁ x₁ r₁ => ?_
  refine ((hs.e H (S.mono x₁) I₁ e2).hold).bind fun b h₂ tk₂ N₂ ρ₂ I₂ x₂ r₂ => ?_
  exact Wp.stand (Wp.oper (binop_ok h (r₁.mono x₂).wk r₂.wk I₂ H.lim))
theorem st_neg {e : E} {p : Pos} (H : EnvOk G A env h₀ L n) (S : Slots G L env ns m N ρ sl) (I : Inv G h₀ L m N ρ σ s.heap s.toks) (h : (r.e e sl σ).bind negE = some (v, σ')) :
    Wp G A h₀ L m (eval ((E.neg e p).er ns) env) σ' (VR G v) N ρ s := by
  obtain ⟨x, e1, h⟩ := bind_some h
  obtain ⟨w, σ₁⟩ := x
  cases w <;> try ((first | exact (no h).elim | cases h); done)
  (first | exact (no h).elim | cases h)
  show Wp G A h₀ L m (eval (.UnaryOp .USub (e.er ns) p) env) _ _ _ _ _
  rw [arm_eval_UnaryOp]
  refine (hs.e H S I e1).bind fun a h₁ tk N₁ ρ₁ I₁ x₁ r₁ => ?_
  exact Wp.stand (Wp.hold (neg_ok r₁ I₁))
theorem st_ite {t b o : E} {p : Pos} (H : EnvOk G A env h₀ L n) (S : Slots G L env ns m N ρ sl) (I : Inv G h₀ L m N ρ σ s.heap s.toks) (h : ((r.t t sl σ).bind fun x => cond x.1 (r.e b sl x.2) (r.e o sl x.2)) = some (v, σ')) :
    Wp G A h₀ L m (eval ((E.ite t b o p).er ns) env) σ' (VR G v) N ρ s := by
  obtain ⟨x, e1, h⟩ := bind_some h
  obtain ⟨c, σ₁⟩ := x
  show Wp G A h₀ L m (eval (.IfExp (t.er ns) (b.er ns) (o.er ns) p) env) _ _ _ _ _
  rw [arm_eval_IfExp]
  refine (hs.t H S I e1).bind fun a h₁ tk N₁ ρ₁ I₁ x₁ r₁ => ?_
  rw [show a = c from r₁]
  cases c with
  | true => exact hs.e H (S.mono x₁) I₁ h
  | false => exact hs.e H (S.mono x₁) I₁ h
theorem st_tup {es : List E} {k : Nat} {p : Pos} (H : EnvOk G A env h₀ L n) (S : Slots G L env ns m N ρ sl) (I : Inv G h₀ L m N ρ σ s.heap s.toks) (h : ((r.es es sl σ).bind fun x => cond (lenOk x.1.length) (some (MV.tup (x.1.map MV.wk), x.2)) none) = some (v, σ')) :
    Wp G A h₀ L m (eval ((E.tup es k p).er ns) env) σ' (VR G v) N ρ s := by
  obtain ⟨x, e1, h⟩ := bind_some h
  obtain ⟨hz, h⟩ := cond_some h
  (first | exact (no h).elim | cases h)
  show Wp G A h₀ L m (eval (.Tuple (E.ers ns es) k p) env) _ _ _ _ _
  rw [arm_eval_Tuple]
  refine Wp.stand ((hs.es H S I e1).bind fun vs h₁ tk N₁ ρ₁ I₁ x₁ r₁ => ?_)
  intro Q E q
  refine newTuple_N (s := { s with heap := h₁, toks := tk }) I₁.F I₁.W (fun h' F' W' => ?_) (by rw [r₁.length]; exact lenOk_line hz)
  have fr := I₁.fresh (Nat.le_refl h₁.objs.size)
  obtain ⟨J, x⟩ := I₁.more (Nat.le_refl _) (new := [(h₁.objs.size, tupO vs 0)]) F' W' (by simp) (by simpa using fr)
  exact q _ h' tk _ ρ₁ J x (.tup (n := 0) (List.mem_cons_self ..) (I₁.off fr).1 (r₁.mono x).wk)
theorem st_list {es : List E} {p : Pos} (H : EnvOk G A env h₀ L n) (S : Slots G L env ns m N ρ sl) (I : Inv G h₀ L m N ρ σ s.heap s.toks) (h : ((r.es es sl σ).bind fun x => newL x.2 (x.1.map MV.wk)) = some (v, σ')) :
    Wp G A h₀ L m (eval ((E.list es p).er ns) env) σ' (VR G v) N ρ s := by
  obtain ⟨x, e1, h⟩ := bind_some h
  show Wp G A h₀ L m (eval (.List (E.ers ns es) p) env) _ _ _ _ _
  rw [arm_eval_List]
  refine Wp.stand ((hs.es H S I e1).bind fun vs h₁ tk N₁ ρ₁ I₁ x₁ r₁ => ?_)
  refine newL_ok (s := { s with heap := h₁, toks := tk }) h r₁.wk I₁ fun hz Q E q => ?_
  exact newList_K I₁.F I₁.W (fun D h' F' W' hlt => q D h' tk F' W' hlt) (by rw [sizeLine_eq]; omega)
omit hs in
theorem st_dict {p : Pos} (H : EnvOk G A env h₀ L n) (I : Inv G h₀ L m N ρ σ s.heap s.toks) :
    Wp G A h₀ L m (eval ((E.dict0 p).er ns) env) (σ ++ [.dict []]) (VR G (.ref σ.length)) N ρ s := by
  intro Q E q
  refine newDict_K I.F I.W H.lim fun d h' o F' W' hlt lo hd _ _ _ => ?_
  obtain ⟨J, x, rv⟩ := alloc1 (mo := .dict []) I (Nat.le_refl _) F' W' (.lt hlt) (fun ρ' x => .dict (es := []) (List.mem_cons_self ..) hd lo .nil)
  exact q _ h' s.toks _ _ J x rv
theorem st_attr (hC : ClsAll G CT) {e : E} {a : Nat} {p : Pos} (H : EnvOk G A env h₀ L n) (S : Slots G L env ns m N ρ sl) (I : Inv G h₀ L m N ρ σ s.heap s.toks) (h : cond (okBase e) ((r.e e sl σ).bind fun x => attrE CT x.2 a x.1) none = some (v, σ')) :
    Wp G A h₀ L m (eval ((E.attr e a p).er ns) env) σ' (VR G v) N ρ s := by
  obtain ⟨hb, h⟩ := cond_some h
  obtain ⟨x, e1, h⟩ := bind_some h
  show Wp G A h₀ L m (eval (.Attribute (e.er ns) (an a) p) env) _ _ _ _ _
  rw [arm_eval_Attribute, okBase_er hb]
  refine (hs.e H S I e1).bind fun b h₁ tk N₁ ρ₁ I₁ x₁ r₁ => ?_
  refine Wp.stand (Wp.bind (Wp.hold (attrE_ok (s := { s with heap := h₁, toks := tk }) hC h r₁ I₁ H.X)) fun c h₂ tk₂ N₂ ρ₂ I₂ x₂ r₂ => ?_)
  exact fun Q E q => wpAny_bind (wpAny_letTemporaryGo (wpAny_pure (q c h₂ tk₂ N₂ ρ₂ I₂ (Ext.refl _ _ _) r₂)))
end
end Mine

open PySem PySem.W PyProof.Rows PySem.Calls
namespace Mine
set_option autoImplicit false
set_option backward.match.sparseCases false
set_option linter.unusedVariables false
set_option maxRecDepth 20000

section
variable {G : St} {CT : List Cl} {GV : List (Option MV)} {r : Rec} {n : Nat} {A : Around} {env : Env} {h₀ : Heap} {L : Addr} {ns : Names} {m : Str → Option Value} {N : Led} {ρ : Rho} {s : Shared} {sl sl' : List Slot} {σ σ' : List MO} {v : MV}

theorem evalArgs_spl {M : Model} {E : Value → Shared → Prop} {f : Value} {args : List (Bool × Sem Value)} {Q : Args → Shared → Prop} (hp : args.any (·.1) = false) (h : wpAny M A (spliced args) (fun vs s' => Q ⟨vs, []⟩ s') E s) : wpAny M A (evalArgs f true args []) Q E s := by
  cases args with
  | nil =>
    unfold evalArgs
    show wpAny M A (spliced [] >>= _) Q E s
    refine wpAny_bind (wpAny_mono h (fun vs s' h' => wpAny_bind (wpAny_pure (wpAny_holding ?_))) fun _ _ x => x)
    exact wpAny_bind (wpAny_pure (wpAny_bind (wpAny_pure (wpAny_pure h'))))
  | cons a rest =>
    obtain ⟨b, x⟩ := a
    have : b = false := by
      rw [List.any_cons] at hp
      exact (Bool.or_eq_false_iff.mp hp).1
    subst this
    exact evalArgs_plain h
theorem machine_looks (f : Value) (h : Heap) (hf : ∀ a, f ≠ .ref a) : ∃ k, (k = Keeper.frame ∨ k = Keeper.machine ∨ k = Keeper.boundFrame) ∧ Looks (model G.prog G.w) h (keeperOf f) k := by
  refine ⟨.machine, .inr (.inl rfl), Looks.of_pure ?_⟩
  cases f <;> first | rfl | exact absurd rfl (hf _)
/-- a call, its callee and its arguments being at hand -/
theorem callWith_ok {args : List (Bool × Sem Value)} {p : Pos} {f : Value} {first : List Value} {as : List MV} {R : Value → Led → Rho → Prop} {σ₁ : List MO} (hp : args.any (·.1) = false) (ha : Wp G A h₀ L m (spliced args) σ₁ (VRs G as) N ρ s)
    (hk : ∀ (h : Heap) (tk : Nat) N' ρ', Inv G h₀ L m N' ρ' σ₁ h tk → Ext G N ρ N' ρ' → ∃ k, (k = Keeper.frame ∨ k = Keeper.machine ∨ k = Keeper.boundFrame) ∧ Looks (model G.prog G.w) h (keeperOf f) k)
    (hc : ∀ vs (h : Heap) (tk : Nat) N' ρ', Inv G h₀ L m N' ρ' σ₁ h tk → Ext G N ρ N' ρ' → RVs G N' ρ' vs as → Wp G A h₀ L m (call f (first ++ vs)) σ' R N' ρ' { s with heap := h, toks := tk }) :
    Wp G A h₀ L m (callWith p f first args []) σ' R N ρ s := by
  intro Q E q
  refine callWith_of (P := fun h => ∃ k, (k = Keeper.frame ∨ k = Keeper.machine ∨ k = Keeper.boundFrame) ∧ Looks (model G.prog G.w) h (keeperOf f) k) (by simpa using hp) (fun _ h => h) ?_
  refine evalArgs_spl hp (ha _ _ fun vs h₁ tk N₁ ρ₁ I₁ x₁ r₁ => ⟨hk h₁ tk N₁ ρ₁ I₁ x₁, ?_⟩)
  exact hc vs h₁ tk N₁ ρ₁ I₁ x₁ r₁ Q E fun u h₂ tk₂ N₂ ρ₂ I₂ x₂ r₂ => q u h₂ tk₂ N₂ ρ₂ I₂ (x₁.trans x₂) r₂

variable (hs : Sound G r n)
include hs
theorem call_ok {f : MV} {as : List MV} {vf : Value} {vs : List Value} (H : EnvOk G A env h₀ L n) (I : Inv G h₀ L m N ρ σ s.heap s.toks) (hf : RV G N ρ vf f) (ha : RVs G N ρ vs as) (e : r.call f as σ = some (v, σ')) : Wp G A h₀ L m (call vf vs) σ' (VR G v) N ρ s :=
  hs.call H I hf ha e
theorem st_call {i : Nat} {np p : Pos} {as : List E} (H : EnvOk G A env h₀ L n) (S : Slots G L env ns m N ρ sl) (I : Inv G h₀ L m N ρ σ s.heap s.toks) (h : eCall r i as sl σ = some (v, σ')) :
    Wp G A h₀ L m (eval ((E.call i np as p).er ns) env) σ' (VR G v) N ρ s := by
  unfold eCall at h
  obtain ⟨x, e1, h⟩ := bind_some h
  obtain ⟨y, e2, h⟩ := bind_some h
  show Wp G A h₀ L m (eval (.Name (ns.at i) np) env >>= fun f => callWith p f [] (backTo p (starEach (E.ers ns as) env)) []) _ _ _ _ _
  refine (name_ok e1 H S I).bind fun f h₁ tk N₁ ρ₁ I₁ x₁ r₁ => ?_
  have ha := hs.es (s := { s with heap := h₁, toks := tk }) (pos := p) H (S.mono x₁) I₁ e2
  have hp := hs.esn (env := env) (ns := ns) (pos := p) e2
  refine callWith_ok hp ha (fun h₂ tk₂ N₂ ρ₂ I₂ x₂ => hs.keep (s := { s with heap := h₂, toks := tk₂ }) H I₂ (r₁.mono x₂) h) fun vs h₂ tk₂ N₂ ρ₂ I₂ x₂ r₂ => ?_
  exact call_ok hs H I₂ (r₁.mono x₂) r₂.wk h
theorem st_meth (hC : ClsAll G CT) {o : E} {a : Nat} {as : List E} {ap p : Pos} (hl : ap.endLine = p.line) (H : EnvOk G A env h₀ L n) (S : Slots G L env ns m N ρ sl) (I : Inv G h₀ L m N ρ σ s.heap s.toks)
    (h : cond (okBase o && Nat.ble as.length 20) (eMeth CT r o a as sl σ) none = some (v, σ')) :
    Wp G A h₀ L m (eval ((E.meth o a as ap p hl).er ns) env) σ' (VR G v) N ρ s := by
  obtain ⟨hb, h⟩ := cond_some h
  obtain ⟨hb, hz⟩ := Bool.and_eq_true_iff.mp hb
  have hz := Nat.le_of_ble_eq_true hz
  unfold eMeth at h
  obtain ⟨x, e1, h⟩ := bind_some h
  obtain ⟨sel, e2, h⟩ := bind_some h
  obtain ⟨y, e3, h⟩ := bind_some h
  show Wp G A h₀ L m (eval (.Call (.Attribute (o.er ns) (an a) ap) (E.ers ns as) [] p) env) _ _ _ _ _
  rw [arm_eval_Call, okBase_er hb]
  refine (hs.e H S I e1).bind fun ov h₁ tk N₁ ρ₁ I₁ x₁ r₁ => ?_
  refine Wp.stand ?_
  have hp := hs.esn (env := env) (ns := ns) (pos := p) e3
  have hlen : ∀ es : List E, (E.ers ns es).length = es.length := fun es => by
    induction es with
    | nil => rfl
    | cons e es ih => show (E.ers ns es).length + 1 = _; rw [ih]; rfl
  have few : methodCallForm ((E.ers ns as).length + ([] : List Keyword).length) (backTo p (starEach (E.ers ns as) env)) (backToKw p (keywordEach [] env)) = true := by
    unfold methodCallForm
    have h1 : (backTo p (starEach (E.ers ns as) env)).all (fun x => !x.1) = true := by
      rw [List.all_eq_not_any_not]
      simp only [Bool.not_not]
      rw [hp]; rfl
    rw [h1, hlen]
    simp [backToKw, keywordEach]
    omega
  show Wp G A h₀ L m (methodCall (o.er ns) (an a) ap p env ov _ _ _) _ _ _ _ _
  unfold methodCall
  rw [few]
  obtain ⟨f, hf, hg⟩ := mSel_ok (A := A) (s := { s with heap := h₁, toks := tk }) (pl := do return (← importBound (o.er ns) env).getD true) hC e2 r₁.wk I₁ H.X
  refine Wp.bind (R := fun g _ _ => g = f) (Wp.hold (Wp.same' I₁ rfl hg)) fun g h₂ tk₂ N₂ ρ₂ I₂ x₂ r₂ => ?_
  subst r₂
  have pos : methodCallPos true (o.er ns) env ap p = pure p := by
    unfold methodCallPos
    rw [if_pos (by simp [hl])]
  have key : ∀ (f : Value), g = (f, [ov]) → (∀ (h : Heap) (tk : Nat) N' ρ', Inv G h₀ L m N' ρ' y.2 h tk → Ext G N₁ ρ₁ N' ρ' → ∃ k, (k = Keeper.frame ∨ k = Keeper.machine ∨ k = Keeper.boundFrame) ∧ Looks (model G.prog G.w) h (keeperOf f) k) →
      (∀ vs (h : Heap) (tk : Nat) N' ρ', Inv G h₀ L m N' ρ' y.2 h tk → Ext G N₁ ρ₁ N' ρ' → RVs G N' ρ' vs y.1 → Wp G A h₀ L m (call f ([ov] ++ vs)) σ' (VR G v) N' ρ' { s with heap := h, toks := tk }) →
      Wp G A h₀ L m (methodCallPos true (o.er ns) env ap p >>= fun cp => callWith cp g.1 g.2 (backTo p (starEach (E.ers ns as) env)) (backToKw p (keywordEach [] env))) σ' (VR G v) N₂ ρ₂ { s with heap := h₂, toks := tk₂ } := by
    intro f e hk hc
    subst e
    rw [pos]
    refine Wp.bind (R := fun c _ _ => c = p) (Wp.pure I₂ rfl) fun cp h₃ tk₃ N₃ ρ₃ I₃ x₃ r₃ => ?_
    subst r₃
    have ha' := hs.es (s := { s with heap := h₃, toks := tk₃ }) (pos := cp) H (S.mono (x₁.trans (x₂.trans x₃))) I₃ e3
    exact callWith_ok hp ha' (fun h₄ tk₄ N₄ ρ₄ I₄ x₄ => hk h₄ tk₄ N₄ ρ₄ I₄ ((x₂.trans x₃).trans x₄)) fun vs h₄ tk₄ N₄ ρ₄ I₄ x₄ r₄ => hc vs h₄ tk₄ N₄ ρ₄ I₄ ((x₂.trans x₃).trans x₄) r₄
  cases sel with
  | list =>
    obtain ⟨q1, q2⟩ := hf
    exact key _ q1 (fun h tk N' ρ' I' x' => machine_looks _ h (by simp)) fun vs h₄ tk₄ N₄ ρ₄ I₄ x₄ r₄ => apL_ok q2 h (r₁.mono x₄).wk r₄.wk I₄
  | dict =>
    obtain ⟨q1, q2⟩ := hf
    subst q2
    exact key _ q1 (fun h tk N' ρ' I' x' => machine_looks _ h (by simp)) fun vs h₄ tk₄ N₄ ρ₄ I₄ x₄ r₄ => apD_ok h (r₁.mono x₄).wk r₄.wk I₄
  | str =>
    obtain ⟨q1, q2⟩ := hf
    exact key _ q1 (fun h tk N' ρ' I' x' => machine_looks _ h (by simp)) fun vs h₄ tk₄ N₄ ρ₄ I₄ x₄ r₄ => apStr_ok q2 h (r₁.mono x₄).wk r₄ I₄
  | own k =>
    obtain ⟨q1, q2⟩ := hf
    refine key _ q1 (fun h' tk N' ρ' I' x' => hs.keep (s := { s with heap := h', toks := tk }) H I' (.fn k) h) fun vs h₄ tk₄ N₄ ρ₄ I₄ x₄ r₄ => ?_
    exact call_ok hs H I₄ (.fn k) (.cons (r₁.mono x₄).wk r₄.wk) h
omit hs in
theorem star_er {e : E} {es : List E} (hn : NR e) : starEach (E.ers ns (e :: es)) env = (false, eval (e.er ns) env) :: starEach (E.ers ns es) env := by
  show starEach (e.er ns :: E.ers ns es) env = _
  cases e <;> first | exact absurd rfl (hn _) | rfl
/-- the arguments of a call -/
theorem st_es {es : List E} {vs : List MV} {pos : Pos} (H : EnvOk G A env h₀ L n) (S : Slots G L env ns m N ρ sl) (I : Inv G h₀ L m N ρ σ s.heap s.toks) (h : stepEs r es sl σ = some (vs, σ')) :
    Wp G A h₀ L m (spliced (backTo pos (starEach (E.ers ns es) env))) σ' (VRs G vs) N ρ s := by
  cases es with
  | nil => (first | exact (no h).elim | cases h); exact Wp.same' I .nil fun Q E q => spliced_nil q
  | cons e es =>
    unfold stepEs at h
    obtain ⟨x, e1, h⟩ := bind_some h
    obtain ⟨y, e2, h⟩ := bind_some h
    (first | exact (no h).elim | cases h)
    rw [star_er (hs.NR e1)]
    show Wp G A h₀ L m (spliced ((false, eval (e.er ns) env) :: backTo pos (starEach (E.ers ns es) env))) _ _ _ _ _
    exact fun Q E q => spliced_cons ((hs.e H S I e1) _ _ fun a h₁ tk N₁ ρ₁ I₁ x₁ r₁ =>
      (hs.es H (S.mono x₁) I₁ e2) _ _ fun us h₂ tk₂ N₂ ρ₂ I₂ x₂ r₂ => q _ h₂ tk₂ N₂ ρ₂ I₂ (x₁.trans x₂) (.cons (r₁.mono x₂) r₂))
theorem st_esn {es : List E} {y : List MV × List MO} {pos : Pos} (h : stepEs r es sl σ = some y) : (backTo pos (starEach (E.ers ns es) env)).any (·.1) = false := by
  cases es with
  | nil => rfl
  | cons e es =>
    unfold stepEs at h
    obtain ⟨x, e1, h⟩ := bind_some h
    obtain ⟨y, e2, h⟩ := bind_some h
    rw [star_er (hs.NR e1)]
    show (false || (backTo pos (starEach (E.ers ns es) env)).any (·.1)) = false
    rw [hs.esn e2]; rfl
theorem st_eo {e : Option E} (H : EnvOk G A env h₀ L n) (S : Slots G L env ns m N ρ sl) (I : Inv G h₀ L m N ρ σ s.heap s.toks) (h : stepEo r e sl σ = some (v, σ')) :
    Wp G A h₀ L m (evalPart (E.ero ns e) env) σ' (VR G v) N ρ s := by
  cases e with
  | none => (first | exact (no h).elim | cases h); exact Wp.same' I .none fun Q E q => evalPart_none_step q
  | some e => exact fun Q E q => evalPart_some_step (hs.e H S I h Q E q)
/-! ### tests -/
theorem st_t {e : E} {b : Bool} (H : EnvOk G A env h₀ L n) (S : Slots G L env ns m N ρ sl) (I : Inv G h₀ L m N ρ σ s.heap s.toks) (h : stepT r e sl σ = some (b, σ')) :
    Wp G A h₀ L m (isTrue (e.er ns) env (eval (e.er ns) env)) σ' (BR b) N ρ s := by
  have gen : ∀ (p : Pos), ((r.e e sl σ).bind truth = some (b, σ')) → Wp G A h₀ L m (eval (e.er ns) env >>= fun v => standAt p >>= fun _ => holding [v] (truthy v)) σ' (BR b) N ρ s := fun p h => by
    obtain ⟨x, e1, h⟩ := bind_some h
    obtain ⟨w, σ₁⟩ := x
    cases w <;> try ((first | exact (no h).elim | cases h); done)
    (first | exact (no h).elim | cases h)
    refine (hs.e H S I e1).bind fun a h₁ tk N₁ ρ₁ I₁ x₁ r₁ => ?_
    cases r₁
    exact Wp.stand (Wp.hold (Wp.same' I₁ rfl fun Q E q => wpAny_truthy_bool q))
  cases e with
  | not e p =>
    unfold stepT at h
    obtain ⟨x, e1, h⟩ := bind_some h
    (first | exact (no h).elim | cases h)
    show Wp G A h₀ L m (isTrue (.UnaryOp .Not (e.er ns) p) env _) _ _ _ _ _
    rw [arm_isTrue_UnaryOp]
    refine (hs.t H S I e1).bind fun a h₁ tk N₁ ρ₁ I₁ x₁ r₁ => ?_
    rw [show a = x.1 from r₁]
    exact Wp.pure I₁ rfl
  | boo op es p =>
    show Wp G A h₀ L m (isTrue (.BoolOp op (E.ers ns es) p) env _) _ _ _ _ _
    rw [arm_isTrue_BoolOp]
    exact hs.ts H S I h
  | cmp l op rr p => exact st_t_cmp hs H S I h
  | ite _ _ _ _ => (first | exact (no h).elim | cases h)
  | name i p => exact gen _ h
  | cst c k p => exact gen _ h
  | tup es k p => exact gen _ h
  | list es p => exact gen _ h
  | dict0 p => exact gen _ h
  | sub e i p => exact gen _ h
  | slc e lo hi st sp p => exact gen _ h
  | attr e a p => exact gen _ h
  | bin l op r p => exact gen _ h
  | neg e p => exact gen _ h
  | call i np as p => exact gen _ h
  | comp2 elt ct it ct2 it2 u w jn cs sc hh p => exact gen _ h
  | meth o a as ap p hl => exact gen _ h
  | comp elt ct it ifs u w jn cs sc hh p => exact gen _ h
  | raw e => obtain ⟨x, e1, _⟩ := bind_some h; rw [hs.nr] at e1; cases e1
theorem st_ts {op : BoolOp} {es : List E} {b : Bool} (H : EnvOk G A env h₀ L n) (S : Slots G L env ns m N ρ sl) (I : Inv G h₀ L m N ρ σ s.heap s.toks) (h : stepTs r op es sl σ = some (b, σ')) :
    Wp G A h₀ L m (allTrue op (E.ers ns es) env) σ' (BR b) N ρ s := by
  cases es with
  | nil =>
    (first | exact (no h).elim | cases h)
    show Wp G A h₀ L m (allTrue op [] env) _ _ _ _ _
    rw [arm_allTrue_nil]
    exact Wp.pure I (by cases op <;> rfl)
  | cons e es =>
    unfold stepTs at h
    obtain ⟨x, e1, h⟩ := bind_some h
    show Wp G A h₀ L m (allTrue op (e.er ns :: E.ers ns es) env) _ _ _ _ _
    rw [arm_allTrue_cons]
    refine (hs.t H S I e1).bind fun a h₁ tk N₁ ρ₁ I₁ x₁ r₁ => ?_
    rw [show a = x.1 from r₁]
    obtain ⟨c, σ₁⟩ := x
    cases op <;> cases c
    · (first | exact (no h).elim | cases h); exact Wp.pure I₁ rfl
    · exact hs.ts H (S.mono x₁) I₁ h
    · exact hs.ts H (S.mono x₁) I₁ h
    · (first | exact (no h).elim | cases h); exact Wp.pure I₁ rfl
omit hs in
theorem tests_false {ifs : List Expr} {M : Model} {E : Value → Shared → Prop} {Q : Bool → Shared → Prop} (h : Q false s) :
    wpAny M A (forIn ifs false fun c r => if r = true then do let ok ← isTrue c env (eval c env); pure (ForInStep.yield ok) else pure (ForInStep.yield r)) Q E s := by
  induction ifs with
  | nil => exact wpAny_pure h
  | cons c cs ih =>
    simp only [List.forIn_cons, Bool.false_eq_true, if_false]
    exact wpAny_bind (wpAny_pure ih)
theorem st_tf {es : List E} {b : Bool} (H : EnvOk G A env h₀ L n) (S : Slots G L env ns m N ρ sl) (I : Inv G h₀ L m N ρ σ s.heap s.toks) (h : stepTs r .And es sl σ = some (b, σ')) :
    Wp G A h₀ L m (testsOf (E.ers ns es) env) σ' (BR b) N ρ s := by
  cases es with
  | nil =>
    (first | exact (no h).elim | cases h)
    exact Wp.same' I rfl fun Q E q => wpAny_tests_nil q
  | cons e es =>
    unfold stepTs at h
    obtain ⟨x, e1, h⟩ := bind_some h
    intro Q E' q
    show wpAny _ A (forIn (e.er ns :: E.ers ns es) true _) _ _ _
    simp only [List.forIn_cons, if_true]
    refine wpAny_bind (wpAny_bind ((hs.t H S I e1) _ _ fun a h₁ tk N₁ ρ₁ I₁ x₁ r₁ => wpAny_pure ?_))
    rw [show a = x.1 from r₁]
    obtain ⟨c, σ₁⟩ := x
    cases c
    · (first | exact (no h).elim | cases h); exact tests_false (q false h₁ tk N₁ ρ₁ I₁ x₁ rfl)
    · exact (hs.tf H (S.mono x₁) I₁ h) _ _ fun d h₂ tk₂ N₂ ρ₂ I₂ x₂ r₂ => q d h₂ tk₂ N₂ ρ₂ I₂ (x₁.trans x₂) r₂
end
end Mine

open PySem PySem.W PyProof.Rows PySem.Calls
namespace Mine
set_option autoImplicit false
set_option backward.match.sparseCases false
set_option linter.unusedVariables false
set_option maxRecDepth 20000

section
variable {G : St} {CT : List Cl} {GV : List (Option MV)} {r : Rec} {n : Nat} {A : Around} {env : Env} {h₀ : Heap} {L : Addr} {ns : Names} {m : Str → Option Value} {N : Led} {ρ : Rho} {s : Shared} {sl sl' : List Slot} {σ σ' : List MO} {v : MV}

theorem Slots.monoL {N' : Led} {ρ' : Rho} (S : Slots G L env ns m N ρ sl) (hL : env.locals = L) (I : Inv G h₀ L m N ρ σ s.heap s.toks) (x : Tr G N ρ N' ρ') : Slots G L env ns m N' ρ' sl :=
  ⟨S.len, S.nd, S.dbg, fun i a e => by
    cases S.ok i a e with
    | locS h0 h1 h2 h3 => exact .locS h0 h1 h2 (h3.monoT x)
    | locN h0 h1 => exact .locN h0 h1
    | comS h1 h2 h3 h4 h5 h6 => exact absurd hL (I.W _ h2).2.1
    | comN h1 h2 => exact absurd hL h1
    | glb h1 h2 => exact .glb h1 h2
    | cel h1 h2 h3 => exact .cel h1 h2 (x.get h3)
    | fre h1 h2 h3 => exact .fre h1 h2 (x.get h3)
    | nst h => exact .nst h
    | nid h => exact .nid h
    | unk => exact .unk⟩
theorem assignEach_T (t : T) (ts : List T) : assignEach (T.ers ns (t :: ts)) env = (false, assign (t.er ns) env) :: assignEach (T.ers ns ts) env := by
  show assignEach (t.er ns :: T.ers ns ts) env = _
  cases t <;> rfl
theorem assignEach_len : ∀ ts : List T, (assignEach (T.ers ns ts) env).length = ts.length
  | [] => rfl
  | t :: ts => by rw [assignEach_T, List.length_cons, assignEach_len ts, List.length_cons]
theorem assignEach_star : ∀ ts : List T, (assignEach (T.ers ns ts) env).findIdx? (·.1) = none
  | [] => rfl
  | t :: ts => by rw [assignEach_T, List.findIdx?_cons, assignEach_star ts]; rfl
variable (hs : Sound G r n)
include hs
theorem st_as {ts : List T} {us : List Value} {vs : List MV} (H : EnvOk G A env h₀ L n) (hL : env.locals = L) (S : Slots G L env ns m N ρ sl) (I : Inv G h₀ L m N ρ σ s.heap s.toks) (hu : RVs G N ρ us vs) (h : stepAs r ts vs sl σ = some (sl', σ')) :
    WpS G A h₀ L env ns m (assignInOrder ((assignEach (T.ers ns ts) env).map (·.2)) us) sl' σ' UR N ρ s := by
  cases ts with
  | nil =>
    cases vs with
    | cons _ _ => (first | exact (no h).elim | cases h)
    | nil =>
      (first | obtain ⟨_, rfl⟩ := hu.inv | obtain rfl := hu.inv | cases hu); (first | exact (no h).elim | cases h)
      exact WpS.of (Wp.same' (R := UR) I trivial fun Q E q => assignInOrder_nil q) S
  | cons t ts =>
    cases vs with
    | nil => (first | exact (no h).elim | cases h)
    | cons v vs =>
      have hh := hu.uncons; clear hu; obtain ⟨_, _, rfl, hv, hu⟩ := hh
      unfold stepAs at h
      obtain ⟨x, e1, h⟩ := bind_some h
      rw [assignEach_T]
      intro Q E q
      refine assignInOrder_cons ((hs.a H hL S I hv e1) _ _ fun _ h₁ tk N₁ ρ₁ m₁ I₁ x₁ S₁ _ => ?_)
      exact (hs.as H hL S₁ I₁ (hu.mono x₁) h) _ _ fun _ h₂ tk₂ N₂ ρ₂ m₂ I₂ x₂ S₂ _ => q _ h₂ tk₂ N₂ ρ₂ m₂ I₂ (x₁.trans x₂) S₂ trivial
end

section
variable {G : St} {CT : List Cl} {GV : List (Option MV)} {r : Rec} {n : Nat} {A : Around} {env : Env} {h₀ : Heap} {L : Addr} {ns : Names} {m : Str → Option Value} {N : Led} {ρ : Rho} {s : Shared} {sl sl' : List Slot} {σ σ' : List MO} {v : MV}
variable (hs : Sound G r n)
include hs
/-- the length told by a run of assignments is the one there is -/
theorem st_a (hC : ClsAll G CT) {t : T} {u : Value} (H : EnvOk G A env h₀ L n) (hL : env.locals = L) (S : Slots G L env ns m N ρ sl) (I : Inv G h₀ L m N ρ σ s.heap s.toks) (hu : RV G N ρ u v) (h : stepA CT r t v sl σ = some (sl', σ')) :
    WpS G A h₀ L env ns m (assign (t.er ns) env u) sl' σ' UR N ρ s := by
  cases t with
  | name i p =>
    show WpS G A h₀ L env ns m (assign (.Name (ns.at i) p) env u) _ _ _ _ _ _
    rw [arm_assign_Name]
    exact WpS.stand fun Q E q => wpAny_bindName (store_ok h H S hu I hL Q E q)
  | tup ts k p =>
    show WpS G A h₀ L env ns m (assign (.Tuple (T.ers ns ts) k p) env u) _ _ _ _ _ _
    unfold stepA at h
    replace h : asTup r ts sl σ v = some (sl', σ') := h
    unfold asTup at h
    cases v <;> try ((first | exact (no h).elim | cases h); done)
    rename_i vs
    obtain ⟨hz, h⟩ := cond_some h
    have hz := Nat.eq_of_beq_eq_true hz
    obtain ⟨t, ws, rfl, ht, hr⟩ := rv_tup hu I H.X
    intro Q E q
    refine unpackN_ I.F I.W ht H.hd (by rw [assignEach_len, hz, ← hr.length]; simp) (assignEach_star ts) fun h' F' W' => ?_
    have I' := I.grown (Nat.le_refl _) F' W'
    have := hs.as (s := { s with heap := h' }) H hL S I' hr h
    exact this Q E fun a h₁ tk N₁ ρ₁ m₁ I₁ x₁ S₁ r₁ => q a h₁ tk N₁ ρ₁ m₁ I₁ x₁ S₁ r₁
  | attr o a p =>
    unfold stepA at h
    obtain ⟨x, e1, h⟩ := bind_some h
    obtain ⟨w, e2, h⟩ := bind_some h
    (first | exact (no h).elim | cases h)
    show WpS G A h₀ L env ns m (assign (.Attribute (o.er ns) (an a) p) env u) _ _ _ _ _ _
    rw [arm_assign_Attribute]
    refine WpS.bind (hs.e H S I e1).hold fun b h₁ tk N₁ ρ₁ I₁ x₁ r₁ => ?_
    refine WpS.stand (WpS.bind (Wp.hold (putA_ok (s := { s with heap := h₁, toks := tk }) hC e2 r₁ (hu.mono x₁).wk I₁ H.X)) fun _ h₂ tk₂ N₂ ρ₂ I₂ x₂ _ => ?_)
    exact fun Q E q => wpAny_release (q () h₂ tk₂ N₂ ρ₂ m I₂ (Ext.refl _ _ _) (S.mono (x₁.trans x₂)) trivial)
  | sub o i p =>
    unfold stepA at h
    obtain ⟨x, e1, h⟩ := bind_some h
    obtain ⟨y, e2, h⟩ := bind_some h
    obtain ⟨w, e3, h⟩ := bind_some h
    (first | exact (no h).elim | cases h)
    show WpS G A h₀ L env ns m (assign (.Subscript (o.er ns) (i.er ns) p) env u) _ _ _ _ _ _
    rw [arm_assign_Subscript]
    refine WpS.bind (hs.e H S I e1).hold fun b h₁ tk N₁ ρ₁ I₁ x₁ r₁ => ?_
    refine WpS.bind (hs.e H (S.mono x₁) I₁ e2).hold fun c h₂ tk₂ N₂ ρ₂ I₂ x₂ r₂ => ?_
    refine WpS.stand (WpS.bind (Wp.hold (putI_ok (s := { s with heap := h₂, toks := tk₂ }) e3 (r₁.mono x₂) r₂.wk (hu.mono (x₁.trans x₂)).wk I₂)) fun _ h₃ tk₃ N₃ ρ₃ I₃ x₃ _ => ?_)
    exact fun Q E q => wpAny_release (q () h₃ tk₃ N₃ ρ₃ m I₃ (Ext.refl _ _ _) (S.mono ((x₁.trans x₂).trans x₃)) trivial)
theorem st_ss {ss : List S} {fl : Fl} (H : EnvOk G A env h₀ L n) (hL : env.locals = L) (S : Slots G L env ns m N ρ sl) (I : Inv G h₀ L m N ρ σ s.heap s.toks) (h : stepSs r ss sl σ = some (fl, sl', σ')) :
    WpS G A h₀ L env ns m (execs (Mine.S.ers ns ss) env) sl' σ' (FlR G fl) N ρ s := by
  cases ss with
  | nil => (first | exact (no h).elim | cases h); exact WpS.of (Wp.same' (R := FlR G .next) I rfl fun Q E q => wpAny_execs_nil q) S
  | cons st ss =>
    unfold stepSs at h
    obtain ⟨x, e1, h⟩ := bind_some h
    obtain ⟨f1, sl₁, σ₁⟩ := x
    intro Q E q
    refine wpAny_execs_cons ((hs.s H hL S I e1) _ _ fun f h₁ tk N₁ ρ₁ m₁ I₁ x₁ S₁ r₁ => ?_)
    unfold ssN at h
    cases f1 with
    | next =>
      rw [show f = .next from r₁]
      exact (hs.ss H hL S₁ I₁ h) _ _ fun g h₂ tk₂ N₂ ρ₂ m₂ I₂ x₂ S₂ r₂ => q g h₂ tk₂ N₂ ρ₂ m₂ I₂ (x₁.trans x₂) S₂ r₂
    | brk =>
      (first | exact (no h).elim | cases h)
      rw [show f = .brk from r₁]
      exact q _ h₁ tk N₁ ρ₁ m₁ I₁ x₁ S₁ rfl
    | ret w =>
      (first | exact (no h).elim | cases h)
      obtain ⟨u, rfl, ru⟩ := r₁
      exact q _ h₁ tk N₁ ρ₁ m₁ I₁ x₁ S₁ ⟨u, rfl, ru⟩
theorem st_wh {t : E} {b : List S} {fl : Fl} (H : EnvOk G A env h₀ L n) (hL : env.locals = L) (S : Slots G L env ns m N ρ sl) (I : Inv G h₀ L m N ρ σ s.heap s.toks) (h : stepWh r t b sl σ = some (fl, sl', σ')) (P : Result → Shared → Prop)
    (k : ∀ f h' tk N' ρ' m', Inv G h₀ L m' N' ρ' σ' h' tk → Ext G N ρ N' ρ' → Slots G L env ns m' N' ρ' sl' → FlR G fl f N' ρ' → P (.ok f) { s with heap := h', toks := tk }) :
    codeAny (model G.prog G.w) A (.whileLoop (t.er ns) (Mine.S.ers ns b) [] env) P s := by
  unfold stepWh at h
  obtain ⟨x, e1, h⟩ := bind_some h
  obtain ⟨c, σ₁⟩ := x
  refine while_step ((hs.t H S I e1) _ _ fun d h₁ tk N₁ ρ₁ I₁ x₁ r₁ => ?_)
  rw [show d = c from r₁]
  cases c with
  | false =>
    (first | exact (no h).elim | cases h)
    exact k _ h₁ tk N₁ ρ₁ m I₁ x₁ (S.mono x₁) rfl
  | true =>
    obtain ⟨y, e2, h⟩ := bind_some h
    obtain ⟨f1, sl₁, σ₂⟩ := y
    simp only [if_true]
    refine (hs.ss (s := { s with heap := h₁, toks := tk }) H hL (S.mono x₁) I₁ e2) _ _ fun f h₂ tk₂ N₂ ρ₂ m₂ I₂ x₂ S₂ r₂ => ?_
    unfold whN at h
    cases f1 with
    | next =>
      rw [show f = .next from r₂]
      exact hs.wh H hL S₂ I₂ h P fun g h₃ tk₃ N₃ ρ₃ m₃ I₃ x₃ S₃ r₃ => k g h₃ tk₃ N₃ ρ₃ m₃ I₃ ((x₁.trans x₂).trans x₃) S₃ r₃
    | brk =>
      (first | exact (no h).elim | cases h)
      rw [show f = .brk from r₂]
      exact k _ h₂ tk₂ N₂ ρ₂ m₂ I₂ (x₁.trans x₂) S₂ rfl
    | ret w =>
      (first | exact (no h).elim | cases h)
      obtain ⟨u, rfl, ru⟩ := r₂
      exact k _ h₂ tk₂ N₂ ρ₂ m₂ I₂ (x₁.trans x₂) S₂ ⟨u, rfl, ru⟩
theorem st_fr {t : T} {it : It} {b : List S} {fl : Fl} {a : Addr} {X : List Addr} (H : EnvOk G A env h₀ L n) (hL : env.locals = L) (S : Slots G L env ns m N ρ sl) (I : Inv G h₀ L m N ρ σ s.heap s.toks) (O : ItOk G N ρ a X it)
    (h : stepFr r t it b sl σ = some (fl, sl', σ')) (P : Result → Shared → Prop)
    (k : ∀ f h' tk N' ρ' m', Inv G h₀ L m' N' ρ' σ' h' tk → ExtX G X N ρ N' ρ' → Slots G L env ns m' N' ρ' sl' → FlR G fl f N' ρ' → P (.ok f) { s with heap := h', toks := tk }) :
    codeAny (model G.prog G.w) A (.forLoop (t.er ns) (.ref a) (Mine.S.ers ns b) [] env) P s := by
  unfold stepFr at h
  obtain ⟨nx, e1, h⟩ := bind_some h
  have bad := O.bad I.nd
  refine for_turn e1 O I H.hd (fun p hr w => ?_) ?_
  · subst hr
    simp only [frG] at h
    obtain ⟨hc, _⟩ := cond_some h
    cases t <;> first | rfl | exact absurd hc Bool.false_ne_true
  cases nx with
  | none =>
    (first | exact (no h).elim | cases h)
    intro h' tk N' I' x'
    exact k _ h' tk N' ρ m I' x' (S.monoL hL I (x'.tr bad)) rfl
  | some p =>
    intro h' tk N₁ u ts I₁ x₁ old O₁ hu
    simp only [frG] at h
    obtain ⟨_, h⟩ := cond_some h
    obtain ⟨y, e2, h⟩ := bind_some h
    obtain ⟨z, e3, h⟩ := bind_some h
    obtain ⟨f1, sl₂, σ₂⟩ := z
    have S₁ := S.monoL hL I (x₁.tr bad)
    refine (hs.a (s := { s with heap := h', toks := tk }) H hL S₁ I₁ hu e2) _ _ fun _ h₂ tk₂ N₂ ρ₂ m₂ I₂ x₂ S₂ _ => ?_
    refine (hs.ss (s := { s with heap := h₂, toks := tk₂ }) H hL S₂ I₂ e3) _ _ fun f h₃ tk₃ N₃ ρ₃ m₃ I₃ x₃ S₃ r₃ => ?_
    have x23 := x₂.trans x₃
    have x13 : ExtX G X N ρ N₃ ρ₃ := x₁.trans old (x23.toX X)
    have old3 : ∀ c ob, (c, ob) ∈ N → ∃ ox, (c, ox) ∈ N₃ := fun c ob hc => let ⟨ox, ho⟩ := old c ob hc; x23.old c ox ho
    unfold frN at h
    cases f1 with
    | next =>
      rw [show f = .next from r₃]
      exact hs.fr (s := { s with heap := h₃, toks := tk₃ }) H hL S₃ I₃ (O₁.mono x23) h P fun g h₄ tk₄ N₄ ρ₄ m₄ I₄ x₄ S₄ r₄ => k g h₄ tk₄ N₄ ρ₄ m₄ I₄ (x13.trans old3 x₄) S₄ r₄
    | brk =>
      (first | exact (no h).elim | cases h)
      rw [show f = .brk from r₃]
      exact k _ h₃ tk₃ N₃ ρ₃ m₃ I₃ x13 S₃ rfl
    | ret w =>
      (first | exact (no h).elim | cases h)
      obtain ⟨u, rfl, ru⟩ := r₃
      exact k _ h₃ tk₃ N₃ ρ₃ m₃ I₃ x13 S₃ ⟨u, rfl, ru⟩
end
end Mine

open PySem PySem.W PyProof.Rows PySem.Calls
namespace Mine
set_option autoImplicit false
set_option linter.unusedVariables false
set_option maxRecDepth 20000

section
variable {G : St} {CT : List Cl} {GV : List (Option MV)} {r : Rec} {n : Nat} {A : Around} {env : Env} {h₀ : Heap} {L : Addr} {ns : Names} {m : Str → Option Value} {N : Led} {ρ : Rho} {s : Shared} {sl sl' : List Slot} {σ σ' : List MO} {v : MV}

theorem swapsNo {t : T} {e : E} {l : Nat} (hn : NR e) (h : asgB sl t e = true) : swapsWithSole [t.er ns] (e.er ns) l env = pure false := by
  cases e <;> first | exact absurd rfl (hn _) | rfl | (exfalso; cases t <;> (first | exact (no h).elim | cases h))
theorem isCst_ers : ∀ {es : List E}, es.all isCst = true → (E.ers ns es).all (foldedForSure 8) = true
  | [], _ => rfl
  | e :: es, h => by
    rw [List.all_cons] at h
    obtain ⟨h1, h2⟩ := Bool.and_eq_true_iff.mp h
    show (foldedForSure 8 (e.er ns) && (E.ers ns es).all (foldedForSure 8)) = true
    rw [isCst_ers h2, Bool.and_true]
    cases e <;> first | (cases h1; done) | rfl
theorem ersT_len : ∀ ts : List T, (T.ers ns ts).length = ts.length
  | [] => rfl
  | t :: ts => by show (T.ers ns ts).length + 1 = _; rw [ersT_len ts]; rfl
theorem notLoc_few {sl : List Slot} (S : Slots G L env ns m N ρ sl) (ln : Nat) : ∀ ts : List T, ts.any (notLoc sl) = true →
    ((T.ers ns ts).filterMap (fun | .Name id pos => if (env.kindOf id == some .local && pos.line == ln) = true then some id else none | _ => none)).length < ts.length
  | [], h => by (first | exact (no h).elim | cases h)
  | t :: ts, h => by
    have le : ∀ (f : Expr → Option Str), ((T.ers ns ts).filterMap f).length ≤ ts.length := fun f => by rw [← ersT_len (ns := ns) ts]; exact List.length_filterMap_le ..
    rw [List.any_cons] at h
    rw [List.length_cons]
    show (List.filterMap _ (t.er ns :: T.ers ns ts)).length < _
    rw [List.filterMap_cons]
    cases hq : notLoc sl t with
    | false =>
      rw [hq, Bool.false_or] at h
      have ih := notLoc_few S ln ts h
      split
      · exact Nat.lt_succ_of_lt ih
      · exact Nat.succ_lt_succ ih
    | true =>
      have : (match t.er ns with | .Name id pos => if (env.kindOf id == some .local && pos.line == ln) = true then some id else none | _ => none) = none := by
        cases t with
        | sub o i p => rfl
        | name i p =>
          have hq' : isCel (at? sl i) = true := hq
          rw [at?_eq] at hq'
          cases hx : sl[i]? with
          | none => rw [hx] at hq'; cases hq'
          | some x =>
            rw [hx] at hq'
            cases x <;> try (cases hq'; done)
            cases S.ok _ _ hx with | cel h1 =>
            show (if (env.kindOf (ns.at i) == some .local && _) = true then some (ns.at i) else none) = none
            rw [h1]; rfl
        | _ => cases hq
      rw [this]
      exact Nat.lt_succ_of_le (le _)
theorem storesNo {t : T} {e : E} {sl : List Slot} (S : Slots G L env ns m N ρ sl) (hn : NR e) (h : asgB sl t e = true) : swappedStores [t.er ns] (e.er ns) env = pure none := by
  by_cases ht : ∃ ts k p, t = .tup ts k p
  · obtain ⟨ts, k, p, rfl⟩ := ht
    by_cases he : ∃ es k p, e = .tup es k p
    · obtain ⟨es, k', p', rfl⟩ := he
      show swappedStores [.Tuple (T.ers ns ts) k p] (.Tuple (E.ers ns es) k' p') env = pure none
      rcases Bool.or_eq_true_iff.mp h with h | h
      · have hc := isCst_ers (ns := ns) (show es.all isCst = true from h)
        unfold swappedStores
        simp only [hc]
        repeat (first | rfl | split)
      · unfold swappedStores
        dsimp only
        generalize hnm : List.filterMap (β := Str) _ (T.ers ns ts) = nm
        have c : (nm.length != (T.ers ns ts).length) = true := by
          rw [← hnm, ersT_len]
          have := notLoc_few S (((T.ers ns ts).head?.map (·.pos.line)).getD 0) ts h
          exact bne_iff_ne.mpr (Nat.ne_of_lt this)
        simp only [c, Bool.true_or, if_true]
        repeat (first | rfl | split)
    · cases e <;> first | exact absurd rfl (hn _) | rfl | exact absurd ⟨_, _, _, rfl⟩ he
  · cases t <;> first | exact absurd ⟨_, _, _, rfl⟩ ht | rfl
theorem assignEach1 (t : T) (u : Value) : assignAll u ((assignEach [t.er ns] env).map (·.2)) = assign (t.er ns) env u := by
  have : assignEach [t.er ns] env = [(false, assign (t.er ns) env)] := by cases t <;> rfl
  rw [this]; rfl
theorem capt_ok : ∀ {cs : List Nat} {c : List Nat}, capt sl cs = some c → c.length = cs.length ∧ ∀ (i j : Nat), cs[i]? = some j → ∃ k x, c[i]? = some k ∧ sl[j]? = some x ∧ celOf x = some k
  | [], c, h => by (first | exact (no h).elim | cases h); exact ⟨rfl, fun i j e => by simp at e⟩
  | j :: js, c, h => by
    unfold capt at h
    obtain ⟨x, e1, h⟩ := bind_some h
    obtain ⟨k, e2, h⟩ := bind_some h
    obtain ⟨y, e3, h⟩ := bind_some h
    (first | exact (no h).elim | cases h)
    obtain ⟨g1, g2⟩ := capt_ok e3
    refine ⟨by simp [g1], fun i j' e => ?_⟩
    cases i with
    | zero =>
      simp only [List.getElem?_cons_zero, Option.some.injEq] at e
      subst e
      rw [at?_eq] at e1
      exact ⟨k, x, rfl, e1, e2⟩
    | succ i => simpa using g2 i j' (by simpa using e)
theorem celOf_ok {x : Slot} {k i : Nat} (h : celOf x = some k) (ok : SlotOk G L env m N ρ ns i x) : ∃ c, env.cells.lookup (ns.at i) = some c ∧ ρ.l[k]? = some (c, c) := by
  cases ok <;> first | ((first | exact (no h).elim | cases h); done) | ((first | exact (no h).elim | cases h); exact ⟨_, by assumption, by assumption⟩)
theorem st_fdef {i j k : Nat} {fl : Fl} (hT : (G.TB.map (·.P)).Nodup) (H : EnvOk G A env h₀ L n) (hL : env.locals = L) (S : Slots G L env ns m N ρ sl) (I : Inv G h₀ L m N ρ σ s.heap s.toks) (h : sFdef i k sl σ (at? sl j) = some (fl, sl', σ')) :
    WpS G A h₀ L env ns m (exec ((Mine.S.fdef i j k).er ns) env) sl' σ' (FlR G fl) N ρ s := by
  rw [at?_eq] at h
  cases hx : sl[j]? with
  | none => rw [hx] at h; (first | exact (no h).elim | cases h)
  | some x =>
    rw [hx] at h
    cases x <;> try ((first | exact (no h).elim | cases h); done)
    rename_i i' k' cs
    simp only [sFdef] at h
    obtain ⟨hb, h5⟩ := cond_some h
    obtain ⟨hb1, hb2⟩ := Bool.and_eq_true_iff.mp hb
    clear h hb
    obtain rfl := Nat.eq_of_beq_eq_true hb1
    obtain rfl := Nat.eq_of_beq_eq_true hb2
    obtain ⟨c, e1, h6⟩ := bind_some h5
    obtain ⟨y, e2, h7⟩ := bind_some h6
    cases h7
    clear h5 h6
    obtain ⟨hcl, hcap⟩ := capt_ok e1
    cases S.ok j _ hx with | nst hN =>
    obtain ⟨cn, sc, L', a, t, cl, he, ht, hp, hq, hqn, hnm, hd0, hk0, ha, hfr, hlen, hclo⟩ := hN
    show WpS G A h₀ L env ns m (exec (.FunctionDef (cdAt k).name (cdAt k).params (cdAt k).body [] none [] (cdAt k).scope none (cdAt k).name (cdAt k).pos) env) _ _ _ _ _ _
    obtain ⟨p, loose, mean, mg, mb, T⟩ := H.T
    -- the captured cells
    obtain ⟨clos, hclos, hcl1, hcl2, hcl3⟩ : ∃ clos : List (Str × Addr), closureFor (cdAt k).scope env = pure clos ∧ clos.length = c.length ∧ clos.map (·.1) = frees (cdAt k).scope.names ∧
        ∀ (i : Nat) (q : Str × Addr), clos[i]? = some q → ∃ k, c[i]? = some k ∧ ρ.l[k]? = some (q.2, q.2) := by
      match cs, hlen, hcap, hcl, hclo, hfr with
      | [], _, hcap, hcl, hclo, hfr =>
        refine ⟨[], hclo (fun _ => 0) (fun j hj => nomatch hj), by simp [hcl], by rw [hfr]; rfl, fun i q e => by simp at e⟩
      | [j'], _, hcap, hcl, hclo, hfr =>
        obtain ⟨kk, x, g1, g2, g3⟩ := hcap 0 j' rfl
        obtain ⟨cc, q1, q2⟩ := celOf_ok g3 (S.ok j' x g2)
        refine ⟨[(ns.at j', cc)], hclo (fun _ => cc) (fun j hj => by rw [List.mem_singleton.mp hj]; exact q1), by simp [hcl], by rw [hfr]; rfl, fun i q e => ?_⟩
        cases i with
        | zero =>
          simp only [List.getElem?_cons_zero, Option.some.injEq] at e
          subst e
          exact ⟨kk, g1, q2⟩
        | succ i => simp at e
      | _ :: _ :: _, hlen, _, _, _, _ => exact absurd hlen (by simp)
    intro Q E q
    refine nestDef_K hd0 hk0 ha ?_
    rw [hqn]
    have store : ∀ (f : Addr) (h' : Heap) (tk : Nat) N' , Inv G h₀ L m N' ρ σ h' tk → Ext G N ρ N' ρ → RV G N' ρ (.ref f) (.clo k c) → wpAny (model G.prog G.w) A (storeName env (cdAt k).name (.ref f)) (fun _ s'' => Q .next s'') E { s with heap := h', toks := tk } := by
      intro f h' tk N' I' x' rv
      rw [← hnm]
      exact (store_ok (s := { s with heap := h', toks := tk }) e2 H (S.mono x') rv I' hL) _ _ fun _ h₂ tk₂ N₂ ρ₂ m₂ I₂ x₂ S₂ _ => q _ h₂ tk₂ N₂ ρ₂ m₂ I₂ (x'.trans x₂) S₂ rfl
    obtain ⟨ps, hrow, hps⟩ := I.tb t ht
    subst he
    obtain rfl : L' = L := hL
    rcases hps with rfl | ⟨c', oc, vs, u, rfl, g1, g2, g3, g4⟩
    · refine toksUp (nest_K (c := t.c) (P := t.P) (ps := #[]) I.F I.W T (H.tabs t ht) rfl (upd_UpdF I.nd hrow) trivial rfl hclos fun f c' oc vs tt ctv doc h' tk F' W' hd hv l1 l2 le => ?_)
      have fr1 : Fresh N c' := .lt l1
      have fr2 : Fresh N f := .lt fun q hq => Nat.lt_trans (l1 q hq) l2
      obtain ⟨J, x⟩ := I.tabs le (new := [(f, fnMade (cdAt k).name (cdAt k).qual (cdAt k).params (cdAt k).body (cdAt k).scope clos doc ((mg "__name__").getD .none) c' ctv), (c', oc)]) (ps' := #[rawInt (cdAt k).pos.line, rawInt (cdAt k).pos.col, .ref c']) hT ht hrow F' (by simpa using W')
        (by simp; exact Nat.ne_of_gt l2) (fun q hq => by
          rcases List.mem_cons.mp hq with rfl | hq
          · exact fr2
          · rw [List.mem_singleton.mp hq]; exact fr1) ⟨c', oc, vs, tt, by rw [hp], by simp, hd, by rw [hq]; exact hv⟩
      refine store f h' tk _ J x ?_
      refine .clo (oc := oc) (vs := vs) (t := tt) (clos := clos) (List.mem_append_left _ (List.mem_cons_self ..)) (I.off fr2).1 (List.mem_append_left _ (by simp)) (I.off fr1).1 hd hv hcl1 hcl2 hcl3
    · refine toksUp (nestHit_K (c := t.c) (P := t.P) (ps := #[rawInt t.pos.line, rawInt t.pos.col, .ref c']) (c' := c') I.F I.W T (H.tabs t ht) rfl hrow (by simp [TriplesOk, rawInt]) (by simp [codeAmong, rawInt, hp]) hclos fun f ctv doc h' tk F' W' l1 le => ?_)
      have fr2 : Fresh N f := .lt l1
      obtain ⟨J, x⟩ := I.more le (new := [(f, fnMade (cdAt k).name (cdAt k).qual (cdAt k).params (cdAt k).body (cdAt k).scope clos doc ((mg "__name__").getD .none) c' ctv)]) F' W' (by simp) (by simpa using fr2)
      refine store f h' tk _ J x ?_
      refine .clo (oc := oc) (vs := vs) (t := u) (clos := clos) (List.mem_append_left _ (List.mem_cons_self ..)) (I.off fr2).1 (List.mem_append_right _ g1) g2 g3 (hq ▸ g4) hcl1 hcl2 hcl3
end
end Mine

open PySem PySem.W PyProof.Rows PySem.Calls
namespace Mine
set_option autoImplicit false
set_option backward.match.sparseCases false
set_option linter.unusedVariables false
set_option maxRecDepth 20000
theorem force_eq {α : Type} : ∀ (l : List MO) (k : List MO → α), force l k = k l
  | [], k => rfl
  | a :: l, k => force_eq l fun l => k (a :: l)
theorem takeN_eq : ∀ (l : List MO) (n : Nat), takeN l n = l.take n
  | [], n => by rw [List.take_nil]; rfl
  | a :: l, 0 => rfl
  | a :: l, n + 1 => by rw [List.take_succ_cons, ← takeN_eq l n]; rfl
theorem gcK_some {α : Type} {n : Nat} {z : MV × List MO} {k : MV → List MO → Option α} {b : α} (h : gcK n z k = some b) : ∃ v s, k v s = some b ∧ ((v = z.1 ∧ s = z.2) ∨ (gcT z.1 = true ∧ v = weak z.1 ∧ s = z.2.take n ∧ s.all (closedO n) = true)) := by
  unfold gcK at h
  cases hg : gcT z.1 with
  | false => rw [hg] at h; exact ⟨_, _, h, .inl ⟨rfl, rfl⟩⟩
  | true =>
    rw [hg, force_eq, takeN_eq] at h
    cases hc : (z.2.take n).all (closedO n) with
    | false => rw [hc] at h; exact ⟨_, _, h, .inl ⟨rfl, rfl⟩⟩
    | true => rw [hc] at h; exact ⟨_, _, h, .inr ⟨rfl, rfl, rfl, hc⟩⟩
/-- the ledger with the last objects of the store forgotten -/
noncomputable def Rho.cut (ρ : Rho) (n : Nat) : Rho := ⟨ρ.l.take n, ρ.cs, ρ.ls, ρ.fz⟩
section
variable {G : St} {h₀ h : Heap} {L : Addr} {m : Str → Option Value} {N N' : Led} {ρ ρ' : Rho} {σ : List MO} {tk n : Nat}
theorem mts_cut {a : Addr} (h : a ∈ mts G (ρ.cut n)) : a ∈ mts G ρ := by
  unfold mts at h ⊢
  rcases List.mem_append.mp h with h | h
  · exact List.mem_append_left _ h
  · obtain ⟨p, hp, ha⟩ := List.mem_flatMap.mp h
    exact List.mem_append_right _ (List.mem_flatMap.mpr ⟨p, List.mem_of_mem_take hp, ha⟩)
theorem cut_at {i : Nat} {p : Addr × Addr} (h : ltB n i = true) (e : ρ.l[i]? = some p) : (ρ.cut n).l[i]? = some p := by
  show (ρ.l.take n)[i]? = some p
  rw [List.getElem?_take_of_lt (Nat.blt_eq.mp h)]; exact e
theorem cut_all {f : Nat} (hv : ∀ {v : Value} {mv : MV}, closedV n f mv = true → RV G N ρ v mv → RV G N (ρ.cut n) v mv) : ∀ {ms : List MV} {vs : List Value}, ms.all (closedV n f) = true → RVs G N ρ vs ms → RVs G N (ρ.cut n) vs ms
  | [], vs, _, h => by rw [h.nilv]; exact .nil
  | x :: ms, vs, hp, h => by
    obtain ⟨_, _, rfl, h, hs⟩ := h.uncons
    rw [List.all_cons] at hp
    obtain ⟨h1, h2⟩ := Bool.and_eq_true_iff.mp hp
    exact .cons (hv h1 h) (cut_all hv h2 hs)
theorem RV.cut : ∀ (f : Nat) {v : Value} {mv : MV}, closedV n f mv = true → RV G N ρ v mv → RV G N (ρ.cut n) v mv
  | 0, v, mv, h, _ => by cases h
  | f + 1, v, mv, h, r => by
    cases r with
    | none => exact .none
    | bool b => exact .bool b
    | int i t => exact .int i t
    | str l t => exact .str l t
    | tup h1 h2 h3 => exact .tup h1 (fun hm => h2 (mts_cut hm)) (cut_all (fun a b => RV.cut f a b) h h3)
    | ktup h1 h2 => exact .ktup h1 (cut_all (fun a b => RV.cut f a b) h h2)
    | ref e => exact .ref (cut_at h e)
    | fn k => exact .fn k
    | cls k => exact .cls k
    | bi b => exact .bi b
    | rng h1 h2 => exact .rng h1 fun hm => h2 (mts_cut hm)
    | clo h1 h2 h3 h4 h5 h6 h7 h9 h8 =>
      refine .clo h1 (fun hm => h2 (mts_cut hm)) h3 (fun hm => h4 (mts_cut hm)) h5 h6 h7 h9 fun i c e => ?_
      obtain ⟨k', e1, e2⟩ := h8 i c e
      exact ⟨k', e1, cut_at (List.all_eq_true.mp h k' (List.mem_of_getElem? e1)) e2⟩
    | bl h1 h2 => cases h
    | ab h1 => exact .ab h1
    | md h1 => exact .md h1
    | chr h1 => exact .chr h1
    | emp h1 => exact .emp h1
    | any v => exact .any v
theorem AR.cut {f : Nat} {es : List DictEntry} {ats : List (Nat × MV)} (h : AR G N ρ es ats) (c : (ats.all fun p => closedV n f p.2) = true) : AR G N (ρ.cut n) es ats := by
  induction h with
  | nil => exact .nil
  | cons h1 h2 h3 ih =>
    rw [List.all_cons] at c
    obtain ⟨c1, c2⟩ := Bool.and_eq_true_iff.mp c
    exact .cons h1 (h2.cut f c1) (ih c2)
theorem DR.cut {f : Nat} {es : List (Str × Value)} {kvs : List (List Nat × MV)} (h : DR G N ρ es kvs) (c : (kvs.all fun p => closedV n f p.2) = true) : DR G N (ρ.cut n) es kvs := by
  induction h with
  | nil => exact .nil
  | cons h2 h3 ih =>
    rw [List.all_cons] at c
    obtain ⟨c1, c2⟩ := Bool.and_eq_true_iff.mp c
    exact .cons (h2.cut f c1) (ih c2)
theorem OR.cut {p : Addr × Addr} {mo : MO} (h : OR G N ρ p mo) (c : closedO n mo = true) : OR G N (ρ.cut n) p mo := by
  cases h with
  | list h1 h2 => exact .list h1 (cut_all (fun a b => RV.cut 30 a b) c h2)
  | inst h1 h2 h3 => exact .inst h1 h2 (h3.cut c)
  | dict h1 h2 h0 h3 => exact .dict h1 h2 h0 (h3.cut c)
  | cell h1 h2 h3 =>
    refine .cell h1 h2 ?_
    cases h3 with
    | none => exact .none
    | some h => exact .some (h.cut 30 c)
theorem Inv.cut (I : Inv G h₀ L m N ρ σ h tk) (c : (σ.take n).all (closedO n) = true) : Inv G h₀ L m N (ρ.cut n) (σ.take n) h tk where
  F := I.F
  W := I.W
  nd := I.nd
  len := by show (ρ.l.take n).length = _; rw [List.length_take, List.length_take, I.len]
  ap := I.ap.sublist (List.take_sublist n ρ.l)
  so i mo e := by
    have hi : i < n := by
      have := (List.getElem?_eq_some_iff.mp e).1
      rw [List.length_take] at this; omega
    have e' := e
    rw [List.getElem?_take_of_lt hi] at e'
    obtain ⟨p, e1, o⟩ := I.so i mo e'
    exact ⟨p, cut_at (Nat.blt_eq.mpr hi) e1, o.cut (List.all_eq_true.mp c mo (List.mem_of_getElem? e))⟩
  tb t ht := by
    obtain ⟨ps, h1, h2⟩ := I.tb t ht
    refine ⟨ps, h1, h2.imp id ?_⟩
    rintro ⟨c', oc, vs, u, e, g1, g2, g3, g4⟩
    exact ⟨c', oc, vs, u, e, g1, fun hm => g2 (mts_cut hm), g3, g4⟩
  bk := ⟨I.bk.pos, I.bk.c, I.bk.l, I.bk.d⟩
  fz a ha := ⟨(I.fz a ha).1, fun hm => by
    obtain ⟨p, hp, hq⟩ := List.mem_flatMap.mp hm
    exact (I.fz a ha).2 (List.mem_flatMap.mpr ⟨p, List.mem_of_mem_take hp, hq⟩)⟩
theorem Ext.cut (x : Ext G N ρ N' ρ') (hn : ρ.l.length = n) : Ext G N ρ N' (ρ'.cut n) := by
  refine ⟨x.sub, ⟨[], ?_⟩, ⟨x.bb.c, x.bb.l, x.bb.f⟩, fun a ha => x.fr a (mts_cut ha), x.old⟩
  obtain ⟨t, e⟩ := x.pre
  show ρ'.l.take n = ρ.l ++ []
  rw [e, List.append_nil, ← hn, List.take_left']
  rfl
theorem weakL_ok : ∀ {vs : List MV} {us : List Value}, RVs G N ρ us vs → RVs G N (ρ.cut n) us (weakL vs)
  | [], us, h => by rw [h.nilv]; exact .nil
  | v :: vs, us, h => by
    obtain ⟨u, us, rfl, h, hs⟩ := h.uncons
    refine .cons ?_ (weakL_ok hs)
    cases v <;> first | exact .any _ | (obtain ⟨t, rfl⟩ := h.inv; exact .int _ _)
theorem weak_ok {v : MV} {u : Value} (g : gcT v = true) (h : RV G N ρ u v) : RV G N (ρ.cut n) u (weak v) := by
  cases v <;> try (cases g; done)
  · obtain rfl := h.inv; exact .none
  · cases h with
    | tup h1 h2 h3 => exact .tup h1 (fun hm => h2 (mts_cut hm)) (weakL_ok h3)
    | ktup h1 h2 => exact .ktup h1 (weakL_ok h2)
theorem gc_ok {N₀ : Led} {ρ₀ : Rho} {z : MV × List MO} {v : MV} {s : List MO} {u : Value} (hn : ρ₀.l.length = n) (I : Inv G h₀ L m N ρ z.2 h tk) (x : Ext G N₀ ρ₀ N ρ) (r : RV G N ρ u z.1)
    (g : (v = z.1 ∧ s = z.2) ∨ (gcT z.1 = true ∧ v = weak z.1 ∧ s = z.2.take n ∧ s.all (closedO n) = true)) : ∃ ρ', Inv G h₀ L m N ρ' s h tk ∧ Ext G N₀ ρ₀ N ρ' ∧ RV G N ρ' u v := by
  rcases g with ⟨rfl, rfl⟩ | ⟨g0, rfl, rfl, c⟩
  · exact ⟨ρ, I, x, r⟩
  · exact ⟨ρ.cut n, I.cut c, x.cut hn, weak_ok g0 r⟩
end
end Mine

open PySem PySem.W PyProof.Rows PySem.Calls
namespace Mine
set_option autoImplicit false
set_option backward.match.sparseCases false
set_option linter.unusedVariables false
set_option maxRecDepth 20000

/-! ## comprehensions -/
theorem ndB2_ok : ∀ {l : List Str}, ndB2 l = true → l.Nodup
  | [], _ => List.nodup_nil
  | x :: xs, h => by
    simp only [ndB2, Bool.and_eq_true, Bool.not_eq_true'] at h
    refine List.nodup_cons.mpr ⟨fun hm => ?_, ndB2_ok h.2⟩
    have := List.contains_iff_mem.mpr hm
    rw [h.1] at this; cases this
theorem csB_ok {ns : Names} : ∀ {nm : Names} {cs : List CS}, csB ns nm cs = true → cs.length = nm.length ∧ ∀ (i : Nat) (c : CS), cs[i]? = some c → ∃ p, nm[i]? = some p ∧ csOne ns p.1 p.2 c = true
  | [], [], _ => ⟨rfl, fun i c e => by simp at e⟩
  | [], _ :: _, h => by (first | exact (no h).elim | cases h)
  | _ :: _, [], h => by (first | exact (no h).elim | cases h)
  | p :: nm, c :: cs, h => by
    simp only [csB, Bool.and_eq_true] at h
    obtain ⟨h1, h2⟩ := csB_ok h.2
    refine ⟨by simp [h1], fun i d e => ?_⟩
    cases i with
    | zero => simp only [List.getElem?_cons_zero, Option.some.injEq] at e; subst e; exact ⟨p, rfl, h.1⟩
    | succ i => simpa using h2 i d (by simpa using e)
theorem lookup_at : ∀ {nm : Names} {i : Nat} {p : Str × NameKind}, (nm.map (·.1)).Nodup → nm[i]? = some p → nm.lookup p.1 = some p.2
  | [], i, p, _, e => by simp at e
  | q :: nm, i, p, nd, e => by
    rw [List.map_cons, List.nodup_cons] at nd
    cases i with
    | zero => simp only [List.getElem?_cons_zero, Option.some.injEq] at e; subst e; rw [List.lookup_cons, beq_self_eq_true]
    | succ i =>
      have e' : nm[i]? = some p := by simpa using e
      have : (p.1 == q.1) = false := by
        rw [beq_eq_false_iff_ne]
        intro h
        exact nd.1 (h ▸ List.mem_map_of_mem (List.mem_of_getElem? e'))
      rw [List.lookup_cons, this]
      exact lookup_at nd.2 e'
theorem at_of {nm : Names} {i : Nat} {p : Str × NameKind} (e : nm[i]? = some p) : nm.at i = p.1 := by
  unfold Names.at
  rw [List.getD_eq_getElem?_getD, List.getElem?_map, e]; rfl
theorem closureFor_free {scope : Scope} {env : Env} {f : Str → Addr} : (∀ p ∈ scope.names, p.2 = .free → env.cells.lookup p.1 = some (f p.1)) → closureFor scope env = pure (((frees scope.names).map fun x => (x, f x)).reverse) := by
  intro h
  have key : ∀ (names : Names) (acc : List (Str × Addr)), (∀ p ∈ names, p.2 = .free → env.cells.lookup p.1 = some (f p.1)) →
      (forIn names acc fun x cs => match x with
        | (name, kind) => if (kind == NameKind.free) = true then (do let c ← cellOf env name; pure (ForInStep.yield ((name, c) :: cs))) else pure (ForInStep.yield cs) : Sem (List (Str × Addr))) = pure (((frees names).map fun x => (x, f x)).reverse ++ acc) := by
    intro names
    induction names with
    | nil => intro acc _; rfl
    | cons p names ih =>
      intro acc hh
      obtain ⟨x, k⟩ := p
      rw [List.forIn_cons]
      by_cases hk : k = .free
      · subst hk
        have hl := hh (x, .free) (List.mem_cons_self ..) rfl
        have : cellOf env x = pure (f x) := by unfold cellOf; rw [hl]
        simp only [beq_self_eq_true, if_true, this, pure_bind]
        rw [ih _ fun p hp => hh p (List.mem_cons_of_mem _ hp)]
        simp [frees]
      · have : (k == NameKind.free) = false := by simpa using hk
        simp only [this, Bool.false_eq_true, if_false, pure_bind]
        rw [ih _ fun p hp => hh p (List.mem_cons_of_mem _ hp)]
        simp [frees, this]
  unfold closureFor
  have := key scope.names [] h
  simp only [List.append_nil] at this
  exact (congrArg (fun t => t >>= fun s => pure s) this).trans (pure_bind _ _)

section
variable {G : St} {CT : List Cl} {GV : List (Option MV)} {r : Rec} {n : Nat} {A : Around} {env : Env} {h₀ : Heap} {L : Addr} {ns : Names} {m : Str → Option Value} {N : Led} {ρ : Rho} {s : Shared} {sl sl' : List Slot} {σ σ' : List MO} {v : MV}

theorem iterSelf {a : Addr} {X : List Addr} {it : It} (O : ItOk G N ρ a X it) (I : Inv G h₀ L m N ρ σ s.heap s.toks) :
    ∀ (Q : Value → Shared → Prop) (E : Value → Shared → Prop), Q (.ref a) s → wpAny (model G.prog G.w) A (pyIter (.ref a)) Q E s := by
  intro Q E q
  cases O with
  | one hm hn hr =>
    have hx := (I.W _ hm).1
    cases hr with
    | rng b k => exact wpAny_pyIter_rangeiter hx q
    | str h3 h4 =>
      rename_i l k t
      by_cases ha : l.toArray.all (· < 128) = true
      · exact wpAny_pyIter_striter_ascii ⟨_, hx, by rw [h3]; unfold strIt; rw [if_pos ha], h4⟩ q
      · exact wpAny_pyIter_striter_wide ⟨_, hx, by rw [h3]; unfold strIt; rw [if_neg ha], h4⟩ q
    | lst h3 h4 h5 => exact wpAny_pyIter_listiter ⟨_, hx, h4, h5⟩ q
theorem NsOb.bad {o : Obj} {mc : Str → Option Value} (h : NsOb o mc) : ¬ Good o := by
  obtain ⟨es, ep, e, _⟩ := h
  rintro (⟨_, _, g⟩ | ⟨_, g⟩ | ⟨_, _, g⟩ | ⟨_, _, _, g, _⟩)
  · rw [e] at g; cases g
  · rw [e] at g; cases g
  · rw [e] at g; cases g
  · rw [e] at g; cases g
theorem NsOb.same {o : Obj} {m₁ m₂ : Str → Option Value} (h₁ : NsOb o m₁) (h₂ : NsOb o m₂) (x : Str) : m₁ x = m₂ x := by
  obtain ⟨es, ep, e, _, f⟩ := h₁
  obtain ⟨es', ep', e', _, f'⟩ := h₂
  rw [e] at e'
  (first | exact (no e').elim | cases e')
  rw [← f x, f' x]

/-- a name of a comprehension is set -/
theorem com_store {C : Addr} {oC : Obj} {mc : Str → Option Value} {i : Nat} {p : Pos} {u : Value} {Q : Unit → Shared → Prop} {E : Value → Shared → Prop} (H : EnvOk G A env h₀ L n) (hC : env.locals = C) (hCL : C ≠ L) (hk : env.kindOf (ns.at i) = some .local) (hi : i < ns.length)
    (S : Slots G L env ns m N ρ sl) (I : Inv G h₀ L m N ρ σ s.heap s.toks) (hmC : (C, oC) ∈ N) (hnC : C ∉ mts G ρ) (hoC : NsOb oC mc) (hu : RV G N ρ u v)
    (q : ∀ h' tk N' oC' mc', Inv G h₀ L m N' ρ σ h' tk → ExtX G [C] N ρ N' ρ → (∀ b ob, (b, ob) ∈ N → ∃ ox, (b, ox) ∈ N') → (C, oC') ∈ N' → NsOb oC' mc' → Slots G L env ns m N' ρ (setAt (.loc (some v)) sl i) → Q () { s with heap := h', toks := tk }) :
    wpAny (model G.prog G.w) A (assign (.Name (ns.at i) p) env u) Q E s := by
  subst hC
  refine wpAny_assign_Name (wpAny_storeName_local hk (hoC.ns (I.W _ hmC).1) (fun h₂ hn₂ sb₂ => ?_) (notMod H))
  obtain ⟨oC₂, hg₂, hoC₂⟩ := ns_ob hn₂
  obtain ⟨I₂, x₂, old₂, hmC₂⟩ := turnX I (Nat.le_add_right s.toks 1) hmC hnC hoC.bad sb₂ hg₂
  have bad₂ : ∀ c ∈ [env.locals], ∀ ob, (c, ob) ∈ N → ¬ Good ob := fun c hc ob hob => by
    rw [List.mem_singleton.mp hc] at hob
    rw [nodup_row I.nd hob hmC]; exact hoC.bad
  have t12 := x₂.tr bad₂
  refine q h₂ _ _ oC₂ _ I₂ x₂ old₂ hmC₂ hoC₂ ⟨by rw [setAt_eq]; simp [S.len], S.nd, S.dbg, fun j z e => ?_⟩
  rcases set_at e with ⟨rfl, rfl⟩ | ⟨hne, e⟩
  · exact .comS hk hmC₂ hnC hoC₂ (if_pos rfl) (hu.monoT t12)
  · have hj : j < ns.length := S.len ▸ lenOk_of e
    cases S.ok j z e with
    | locS h0 h1 h2 h3 => exact absurd h0 hCL
    | locN h0 h1 => exact .comN hCL h1
    | comS h1 h2 h3 h4 h5 h6 =>
      have : _ = oC := nodup_row I.nd h2 hmC
      subst this
      refine .comS h1 hmC₂ hnC hoC₂ ((if_neg fun z => hne (at_inj S.nd hj hi z)).trans ?_) (h6.monoT t12)
      rw [hoC.same h4]; exact h5
    | comN h1 h2 => exact .comN h1 h2
    | glb h1 h2 => exact .glb h1 h2
    | cel h1 h2 h3 => exact .cel h1 h2 h3
    | fre h1 h2 h3 => exact .fre h1 h2 h3
    | nst h => exact .nst h
    | nid h => exact .nid h
    | unk => exact .unk
/-- the slots after a step of an iterator whose rows no slot stands on -/
theorem slots_com {C : Addr} {oC : Obj} {X : List Addr} {N' : Led} {ρ' : Rho} (hC : env.locals = C) (hCL : C ≠ L) (hCX : C ∉ X) (S : Slots G L env ns m N ρ sl) (x : ExtX G X N ρ N' ρ') (t : Tr G N ρ N' ρ') (hmC : (C, oC) ∈ N) (hnC : C ∉ mts G ρ) (nd : (N.map (·.1)).Nodup) : Slots G L env ns m N' ρ' sl := by
  subst hC
  refine ⟨S.len, S.nd, S.dbg, fun j z e => ?_⟩
  cases S.ok j z e with
  | locS h0 h1 h2 h3 => exact absurd h0 hCL
  | locN h0 h1 => exact .comN hCL h1
  | comS h1 h2 h3 h4 h5 h6 => exact .comS h1 (x.sub _ h2 h3 hCX) (x.off h2 h3) h4 h5 (h6.monoT t)
  | comN h1 h2 => exact .comN h1 h2
  | glb h1 h2 => exact .glb h1 h2
  | cel h1 h2 h3 => exact .cel h1 h2 (t.get h3)
  | fre h1 h2 h3 => exact .fre h1 h2 (t.get h3)
  | nst h => exact .nst h
  | nid h => exact .nid h
  | unk => exact .unk
variable (hs : Sound G r n)
include hs
theorem st_co {elt : E} {ct : CTg} {u : Nat} {iter : Expr} {gens : List Comprehension} {sc : Scope} {p : Pos} {d : Nat} {ifs : List E} (hc : CompAt (elt.er (nmAt u)) gens sc p d (ct.er (nmAt u)) iter (E.ers (nmAt u) ifs)) :
    LoopOk G n (.ListComp (elt.er (nmAt u)) gens sc p) d u ct.ix (stepCo r elt ct ifs) := by
  intro A env h₀ L m N ρ s it ka sl σ σ' a C D X oC mc H hC hCL haC hk S I O hmC hnC hoC hD h P k
  unfold stepCo at h
  obtain ⟨nx, e1, h⟩ := bind_some h
  have bad := O.bad I.nd
  have wide : ∀ {N₁ : Led} {ρ₁ : Rho}, ExtX G X N ρ N₁ ρ₁ → ExtX G (C :: X) N ρ N₁ ρ₁ := fun x =>
    ⟨fun q hq hn he => x.sub q hq hn fun h' => he (List.mem_cons_of_mem _ h'), x.pre, x.bb, x.fr, fun b ob hb he => x.old b ob hb fun h' => he (List.mem_cons_of_mem _ h')⟩
  obtain ⟨ci, cp⟩ := ct
  obtain ⟨k1, k2⟩ := hk ci (List.mem_singleton.mpr rfl)
  refine comp_turn e1 O I H.hd hc (fun _ _ w => rfl) ?_
  cases nx with
  | none =>
    (first | exact (no h).elim | cases h)
    intro h' tk N' I' x'
    exact k h' tk N' ρ oC mc I' (wide x') (x'.sub _ hmC hnC haC) hoC
  | some q =>
    intro h' tk N₁ w ts I₁ x₁ old O₁ hw
    simp only [coG] at h
    obtain ⟨y, e2, h⟩ := bind_some h
    generalize hsl : ctSet q.1 sl (.one ci cp) = sl₂ at h e2
    have hmC₁ : (C, oC) ∈ N₁ := x₁.sub _ hmC hnC haC
    have hnC₁ : C ∉ mts G (ρ.ups ts) := hnC
    have S₁ := slots_com hC hCL haC S x₁ (x₁.tr bad) hmC hnC I.nd
    refine com_store (s := { s with heap := h', toks := tk }) H hC hCL k1 k2 S₁ I₁ hmC₁ hnC₁ hoC hw fun h₂ tk₂ N₂ oC₂ mc₂ I₂ x₂ old₂ hmC₂ hoC₂ S₂ => ?_
    replace S₂ : Slots G L env (nmAt u) m N₂ (ρ.ups ts) sl₂ := hsl ▸ S₂
    have badC : ∀ o, (C, o) ∈ N₁ → ¬ Good o := fun o ho => by rw [nodup_row I₁.nd ho hmC₁]; exact hoC.bad
    have O₂ := O₁.keepX x₂ badC haC
    have x02 : ExtX G (C :: X) N ρ N₂ (ρ.ups ts) :=
      ⟨fun z hz hzn he => x₂.sub z (x₁.sub z hz hzn fun h' => he (List.mem_cons_of_mem _ h')) hzn fun h' => he (by rw [List.mem_singleton.mp h']; simp), x₁.pre, x₁.bb, fun b hb => .inl hb, fun b ob hb he => let ⟨ox, ho⟩ := old b ob hb; old₂ b ox ho⟩
    have old02 : ∀ b ob, (b, ob) ∈ N → ∃ ox, (b, ox) ∈ N₂ := fun b ob hb => let ⟨ox, ho⟩ := old b ob hb; old₂ b ox ho
    refine (hs.tf (s := { s with heap := h₂, toks := tk₂ }) H S₂ I₂ e2) _ _ fun c h₃ tk₃ N₃ ρ₃ I₃ x₃ r₃ => ?_
    rw [show c = y.1 from r₃]
    obtain ⟨b, σ₁⟩ := y
    have go : ∀ {σ₂ : List MO} {h₄ : Heap} {tk₄ : Nat} {N₄ : Led} {ρ₄ : Rho}, Inv G h₀ L m N₄ ρ₄ σ₂ h₄ tk₄ → Ext G N₂ (ρ.ups ts) N₄ ρ₄ → r.co elt (.one ci cp) ifs q.2 ka sl₂ σ₂ = some σ' →
        codeAny (model G.prog G.w) A (.compLoop (.ListComp (elt.er (nmAt u)) gens sc p) d (.ref a) (.ref D) env) P { s with heap := h₄, toks := tk₄ } := by
      intro σ₂ h₄ tk₄ N₄ ρ₄ I₄ x₄ e4
      have hmC₄ := x₄.sub _ hmC₂ hnC₁
      exact hs.co (ct := .one ci cp) hc (s := { s with heap := h₄, toks := tk₄ }) H hC hCL haC hk (S₂.mono x₄) I₄ (O₂.mono x₄) hmC₄ (x₄.off hmC₂ hnC₁) hoC₂ (x₄.get hD) e4 P
        fun h₅ tk₅ N₅ ρ₅ oC₅ mc₅ I₅ x₅ hm₅ ho₅ => k h₅ tk₅ N₅ ρ₅ oC₅ mc₅ I₅ ((x02.trans old02 (x₄.toX _)).trans (fun b ob hb => let ⟨ox, ho⟩ := old02 b ob hb; x₄.old b ox ho) x₅) hm₅ ho₅
    unfold coE at h
    cases b with
    | false => exact go I₃ x₃ h
    | true =>
      obtain ⟨z, e3, h5⟩ := bind_some h
      obtain ⟨zv, zs, h6, hg⟩ := gcK_some h5
      obtain ⟨σ₃, e4, h7⟩ := bind_some h6
      clear h h5 h6
      simp only [if_true]
      refine (hs.e (s := { s with heap := h₃, toks := tk₃ }) H (S₂.mono x₃) I₃ e3) _ _ fun w' h₄ tk₄ N₄ ρ₄' I₄' x₄' r₄' => ?_
      obtain ⟨ρ₄, I₄, x₄, r₄⟩ := gc_ok (n := σ₁.length) I₃.len I₄' x₄' r₄' hg
      have x34 := x₃.trans x₄
      have hap : apLv zs 10 [zv] (.ref ka) = some (.none, σ₃) := by
        unfold apnd at e4
        show apL zs ka 10 [zv] (at? zs ka) = _
        cases hq : at? zs ka with
        | none => rw [hq] at e4; cases e4
        | some mo =>
          rw [hq] at e4
          cases mo <;> try (cases e4; done)
          rename_i xs
          simp only at e4
          obtain ⟨hz, e4⟩ := cond_some e4
          cases e4
          show (cond (lenOk xs.length) _ none) = _
          rw [hz]; rfl
      have hDv : RV G N₄ ρ₄ (.ref D) (.ref ka) := .ref (p := (D, D)) (x34.get hD)
      exact (apL_ok (A := A) (s := { s with heap := h₄, toks := tk₄ }) (.inl rfl) hap hDv (.cons r₄ .nil) I₄) _ _ fun _ h₅ tk₅ N₅ ρ₅ I₅ x₅ _ => go I₅ (x34.trans x₅) h7
end
end Mine

open PySem PySem.W PyProof.Rows PySem.Calls
namespace Mine
set_option autoImplicit false
set_option backward.match.sparseCases false
set_option linter.unusedVariables false
set_option maxRecDepth 20000

section
variable {G : St} {CT : List Cl} {GV : List (Option MV)} {r : Rec} {n : Nat} {A : Around} {env : Env} {h₀ : Heap} {L : Addr} {ns : Names} {m : Str → Option Value} {N N₀ N' : Led} {ρ ρ' : Rho} {s : Shared} {sl sl' : List Slot} {σ σ' : List MO} {v : MV}

noncomputable abbrev Olds (N₀ N : Led) : Prop := ∀ b ob, (b, ob) ∈ N₀ → ∃ ox, (b, ox) ∈ N
theorem fresh_old {c : Addr} (o : Olds N₀ N) (f : Fresh N c) : Fresh N₀ c := fun q hq e => let ⟨ox, h⟩ := o q.1 q.2 hq; f _ h e
/-- a value that a loop is to walk over -/
noncomputable def SrcR (G : St) (σ : List MO) (it : It) (v : Value) (N : Led) (ρ : Rho) : Prop := ∃ mv, It.of σ mv = some it ∧ RV G N ρ v mv
theorem srcIter {it : It} {u : Value} (h : SrcR G σ it u N ρ) (o : Olds N₀ N) (I : Inv G h₀ L m N ρ σ s.heap s.toks) : ∀ (Q : Value → Shared → Prop) (E : Value → Shared → Prop),
    (∀ a X h' N', Inv G h₀ L m N' ρ σ h' s.toks → Ext G N ρ N' ρ → ItOk G N' ρ a X it → (∀ c ∈ X, Fresh N₀ c) → Q (.ref a) { s with heap := h' }) → wpAny (model G.prog G.w) A (pyIter u) Q E s := by
  intro Q E q
  obtain ⟨mv, e, hu⟩ := h
  refine pyIter_ok e hu I Q E fun oI I' x hr => ?_
  have fr := I.fresh (Nat.le_refl s.heap.objs.size)
  exact q _ [s.heap.objs.size] _ _ I' x (.one (List.mem_cons_self ..) (I.off fr).1 hr) fun c hc => by rw [List.mem_singleton.mp hc]; exact fresh_old o fr
variable (hs : Sound G r n)
include hs
theorem src_g {e : E} {it : It} (H : EnvOk G A env h₀ L n) (S : Slots G L env ns m N ρ sl) (I : Inv G h₀ L m N ρ σ s.heap s.toks) (h : srcG r e sl σ = some (it, σ')) :
    NR e ∧ Wp G A h₀ L m (eval (e.er ns) env) σ' (SrcR G σ' it) N ρ s := by
  unfold srcG at h
  obtain ⟨x, e1, h⟩ := bind_some h
  obtain ⟨t, e2, h⟩ := bind_some h
  (first | exact (no h).elim | cases h)
  exact ⟨hs.NR e1, fun Q E q => (hs.e H S I e1) Q E fun u h' tk N' ρ' I' x' r' => q u h' tk N' ρ' I' x' ⟨_, e2, r'.wk⟩⟩
end
end Mine

open PySem PySem.W PyProof.Rows PySem.Calls
namespace Mine
set_option autoImplicit false
set_option backward.match.sparseCases false
set_option linter.unusedVariables false
set_option maxRecDepth 20000
section
variable {G : St} {CT : List Cl} {GV : List (Option MV)} {r : Rec} {n : Nat} {A : Around} {env : Env} {h₀ : Heap} {L : Addr} {ns : Names} {m : Str → Option Value} {N : Led} {ρ : Rho} {s : Shared} {sl sl' : List Slot} {σ σ' : List MO} {v : MV}
theorem slots_no (hn : noLocB sl = true) (S : Slots G L env ns m N ρ sl) {N' : Led} {ρ' : Rho} (x : ∀ {i : Nat} {p : Addr × Addr}, ρ.l[i]? = some p → ρ'.l[i]? = some p) : Slots G L env ns m N' ρ' sl := by
  refine ⟨S.len, S.nd, S.dbg, fun j z e => ?_⟩
  have hz := List.all_eq_true.mp hn z (List.mem_of_getElem? e)
  cases S.ok j z e with
  | locS h0 h1 h2 h3 => cases hz
  | locN h0 h1 => exact .locN h0 h1
  | comS h1 h2 h3 h4 h5 h6 => cases hz
  | comN h1 h2 => exact .comN h1 h2
  | glb h1 h2 => exact .glb h1 h2
  | cel h1 h2 h3 => exact .cel h1 h2 (x h3)
  | fre h1 h2 h3 => exact .fre h1 h2 (x h3)
  | nst h => exact .nst h
  | nid h => exact .nid h
  | unk => exact .unk
variable (hs : Sound G r n)
include hs
theorem st_co2 {elt : E} {ct ct2 : CTg} {it2 : E} {u : Nat} {iter : Expr} {sc : Scope} {p : Pos} :
    LoopOk G n (.ListComp (elt.er (nmAt u)) [⟨ct.er (nmAt u), iter, [], 0⟩, ⟨ct2.er (nmAt u), it2.er (nmAt u), [], 0⟩] sc p) 0 u (ct.ix ++ ct2.ix) (stepCo2 r elt ct ct2 it2) := by
  intro A env h₀ L m N ρ s it ka sl σ σ' a C D X oC mc H hC hCL haC hk S I O hmC hnC hoC hD h P k
  unfold stepCo2 at h
  obtain ⟨hnl, h⟩ := cond_some h
  obtain ⟨nx, e1, h⟩ := bind_some h
  have bad := O.bad I.nd
  have wide : ∀ {N₁ : Led} {ρ₁ : Rho}, ExtX G X N ρ N₁ ρ₁ → ExtX G (C :: X) N ρ N₁ ρ₁ := fun x =>
    ⟨fun q hq hn he => x.sub q hq hn fun h' => he (List.mem_cons_of_mem _ h'), x.pre, x.bb, x.fr, fun b ob hb he => x.old b ob hb fun h' => he (List.mem_cons_of_mem _ h')⟩
  obtain ⟨ci, cp⟩ := ct
  obtain ⟨k1, k2⟩ := hk ci (List.mem_cons_self ..)
  refine comp_turn2 e1 O I H.hd (fun _ _ w => rfl) ?_
  cases nx with
  | none =>
    (first | exact (no h).elim | cases h)
    intro h' tk N' I' x'
    exact k h' tk N' ρ oC mc I' (wide x') (x'.sub _ hmC hnC haC) hoC
  | some q =>
    intro h' tk N₁ w ts I₁ x₁ old O₁ hw
    simp only [co2G] at h
    obtain ⟨x2, e2, h5⟩ := bind_some h
    obtain ⟨s2, e3, h6⟩ := bind_some h5
    clear h h5
    generalize hsl : ctSet q.1 sl (.one ci cp) = sl₂ at e2 e3
    have hmC₁ : (C, oC) ∈ N₁ := x₁.sub _ hmC hnC haC
    have hnC₁ : C ∉ mts G (ρ.ups ts) := hnC
    have S₁ := slots_com hC hCL haC S x₁ (x₁.tr bad) hmC hnC I.nd
    refine com_store (s := { s with heap := h', toks := tk }) H hC hCL k1 k2 S₁ I₁ hmC₁ hnC₁ hoC hw fun h₂ tk₂ N₂ oC₂ mc₂ I₂ x₂ old₂ hmC₂ hoC₂ S₂ => ?_
    replace S₂ : Slots G L env (nmAt u) m N₂ (ρ.ups ts) sl₂ := hsl ▸ S₂
    have badC : ∀ o, (C, o) ∈ N₁ → ¬ Good o := fun o ho => by rw [nodup_row I₁.nd ho hmC₁]; exact hoC.bad
    have O₂ := O₁.keepX x₂ badC haC
    have x02 : ExtX G (C :: X) N ρ N₂ (ρ.ups ts) :=
      ⟨fun z hz hzn he => x₂.sub z (x₁.sub z hz hzn fun h' => he (List.mem_cons_of_mem _ h')) hzn fun h' => he (by rw [List.mem_singleton.mp h']; simp), x₁.pre, x₁.bb, fun b hb => .inl hb, fun b ob hb he => let ⟨ox, ho⟩ := old b ob hb; old₂ b ox ho⟩
    have old02 : ∀ b ob, (b, ob) ∈ N → ∃ ox, (b, ox) ∈ N₂ := fun b ob hb => let ⟨ox, ho⟩ := old b ob hb; old₂ b ox ho
    obtain ⟨t2, σ₁⟩ := x2
    obtain ⟨nr, src⟩ := src_g hs (s := { s with heap := h₂, toks := tk₂ }) H S₂ I₂ e2
    have hset : ∀ z, foldedSetIterable (it2.er (nmAt u)) env z = pure z := fun z => by
      cases it2 <;> first | exact absurd rfl (nr _) | rfl
    refine src _ _ fun xv h₃ tk₃ N₃ ρ₃ I₃ x₃ r₃ => ?_
    refine wpAny_of_eq (hset xv) ?_
    refine srcIter (s := { s with heap := h₃, toks := tk₃ }) r₃ x₃.old I₃ _ _ fun aI Y h₄ N₄ I₄ x₄ hO hX => ?_
    have x24 := x₃.trans x₄
    have hmC₄ := x24.sub _ hmC₂ hnC₁
    have hnC₄ := x24.off hmC₂ hnC₁
    have hCY : C ∉ Y := fun e => hX C e _ hmC₂ rfl
    have S₄ := S₂.mono x24
    have hk2 : ∀ i ∈ ct2.ix, env.kindOf ((nmAt u).at i) = some .local ∧ i < (nmAt u).length := fun i hi => hk i (List.mem_append_right _ hi)
    have loop : codeAny (model G.prog G.w) A (.compLoop (.ListComp (elt.er (nmAt u)) [⟨(CTg.one ci cp).er (nmAt u), iter, [], 0⟩, ⟨ct2.er (nmAt u), it2.er (nmAt u), [], 0⟩] sc p) 1 (.ref aI) (.ref D) env) (InnerQ G A env (.ListComp (elt.er (nmAt u)) [⟨(CTg.one ci cp).er (nmAt u), iter, [], 0⟩, ⟨ct2.er (nmAt u), it2.er (nmAt u), [], 0⟩] sc p) (.ref a) (.ref D) P) { s with heap := h₄, toks := tk₃ } := by
      refine hs.co (ifs := []) (compAt_two _ _ _ _ _ _ _ _) (s := { s with heap := h₄, toks := tk₃ }) H hC hCL hCY hk2 S₄ I₄ hO hmC₄ hnC₄ hoC₂ (x24.get hD) e3 _ fun h₅ tk₅ N₅ ρ₅ oC₅ mc₅ I₅ x₅ hm₅ ho₅ => ?_
      have x25 : ExtX G [C] N₂ (ρ.ups ts) N₅ ρ₅ := by
        refine ⟨fun z hz hzn he => x₅.sub z (x24.sub z hz hzn) (x24.off (a := z.1) (o := z.2) hz hzn) fun h' => ?_, ?_, x24.bb.trans x₅.bb, fun b hb => ?_, fun b ob hb he => ?_⟩
        · rcases List.mem_cons.mp h' with h' | h'
          · exact he (List.mem_singleton.mpr h')
          · exact hX _ h' z hz rfl
        · obtain ⟨y1, q1⟩ := x24.pre
          obtain ⟨y2, q2⟩ := x₅.pre
          exact ⟨y1 ++ y2, by rw [q2, q1, List.append_assoc]⟩
        · rcases x₅.fr b hb with h' | h'
          · exact x24.fr b h'
          · refine .inr fun o ho => ?_
            obtain ⟨o', h''⟩ := x24.old b o ho
            exact h' o' h''
        · obtain ⟨o', h''⟩ := x24.old b ob hb
          refine x₅.old b o' h'' fun h' => ?_
          rcases List.mem_cons.mp h' with h' | h'
          · exact he (List.mem_singleton.mpr h')
          · exact hX _ h' (b, ob) hb rfl
      have old25 : ∀ b ob, (b, ob) ∈ N₂ → ∃ ox, (b, ox) ∈ N₅ := fun b ob hb => by
        by_cases e : b = C
        · subst e; exact ⟨_, hm₅⟩
        · exact x25.old b ob hb fun h' => e (List.mem_singleton.mp h')
      have badC₂ : ∀ o, (C, o) ∈ N₂ → ¬ Good o := fun o ho => by rw [nodup_row I₂.nd ho hmC₂]; exact hoC₂.bad
      have tr25 := x25.tr fun b hb o ho => badC₂ o (by rw [← List.mem_singleton.mp hb]; exact ho)
      have S₅ : Slots G L env (nmAt u) m N₅ ρ₅ sl := slots_no hnl S₁ fun e => tr25.get e
      refine hs.co2 (ct := .one ci cp) (s := { s with heap := h₅, toks := tk₅ }) H hC hCL haC hk S₅ I₅ (O₂.keepX x25 badC₂ haC) hm₅ (x25.off hmC₂ hnC₁) ho₅ (tr25.get hD) h6 P fun h₆ tk₆ N₆ ρ₆ oC₆ mc₆ I₆ x₆ hm₆ ho₆ => ?_
      have x25' : ExtX G (C :: X) N₂ (ρ.ups ts) N₅ ρ₅ := ⟨fun z hz hzn he => x25.sub z hz hzn fun h' => he (by rw [List.mem_singleton.mp h']; simp), x25.pre, x25.bb, x25.fr, fun b ob hb he => old25 b ob hb⟩
      exact k h₆ tk₆ N₆ ρ₆ oC₆ mc₆ I₆ ((x02.trans old02 x25').trans (fun b ob hb => let ⟨ox, ho⟩ := old02 b ob hb; old25 b ox ho) x₆) hm₆ ho₆
    exact compStart_two loop (iterSelf (s := { s with heap := h₄, toks := tk₃ }) hO I₄ _ _ loop)
end
end Mine

open PySem PySem.W PyProof.Rows PySem.Calls
namespace Mine
set_option autoImplicit false
set_option backward.match.sparseCases false
set_option linter.unusedVariables false
set_option maxRecDepth 20000

section
variable {G : St} {CT : List Cl} {GV : List (Option MV)} {r : Rec} {n : Nat} {A : Around} {env : Env} {h₀ : Heap} {L : Addr} {ns : Names} {m : Str → Option Value} {N : Led} {ρ : Rho} {s : Shared} {sl sl' : List Slot} {σ σ' : List MO} {v : MV}

/-- the global names of comprehensions -/
noncomputable def GvOk (G : St) (GV : List (Option MV)) : Prop := ∀ g x v, gnL[g]? = some x → at? GV g = some (some v) → GlbOk G x v
theorem csl_ok : ∀ {cs : List CS} {c : List Slot}, csl GV sl cs = some c → c.length = cs.length ∧ ∀ (i : Nat) (d : CS), cs[i]? = some d → ∃ x, c[i]? = some x ∧ cs1 GV sl d = some x
  | [], c, h => by (first | exact (no h).elim | cases h); exact ⟨rfl, fun i d e => by simp at e⟩
  | d :: cs, c, h => by
    unfold csl at h
    obtain ⟨x, e1, h⟩ := bind_some h
    obtain ⟨y, e2, h⟩ := bind_some h
    (first | exact (no h).elim | cases h)
    obtain ⟨g1, g2⟩ := csl_ok e2
    refine ⟨by simp [g1], fun i d' e => ?_⟩
    cases i with
    | zero => simp only [List.getElem?_cons_zero, Option.some.injEq] at e; subst e; exact ⟨x, rfl, e1⟩
    | succ i => simpa using g2 i d' (by simpa using e)
theorem relabel_at {scope : Scope} {i : Nat} {p : Str × NameKind} (nd : (scope.names.map (·.1)).Nodup) (e : scope.names[i]? = some p) :
    (relabel scope env).names.lookup p.1 = some (if (p.2 == .free && env.scope.kind == .function && env.kindOf p.1 == some .cell) then .cell else p.2) := by
  have nd' : ((relabel scope env).names.map (·.1)).Nodup := by
    have : (relabel scope env).names.map (·.1) = scope.names.map (·.1) := by
      show (scope.names.map _).map _ = _
      rw [List.map_map]
      apply List.map_congr_left
      intro q _
      show (if _ then _ else _ : Str × NameKind).1 = _
      split <;> rfl
    rw [this]; exact nd
  have e' : (relabel scope env).names[i]? = some (if (p.2 == .free && env.scope.kind == .function && env.kindOf p.1 == some .cell) then (p.1, .cell) else (p.1, p.2)) := by
    show (scope.names.map _)[i]? = _
    rw [List.getElem?_map, e]; rfl
  have := lookup_at nd' e'
  split at this <;> rename_i hc
  · rw [if_pos hc]; exact this
  · rw [if_neg hc]; exact this
/-- the slots of a comprehension -/
theorem compSlots {u w jn : Nat} {ct : CTg} {cs : List CS} {sc : Scope} {c : List Slot} {C : Addr} {f : Str → Addr} (hG : GvOk G GV) (hb : csOkB u w ct cs = true) (hsc : sc.names = nmAt u) (hw : isNid w (at? sl jn) = true) (hc : csl GV sl cs = some c)
    (hfun : env.scope.kind = .function) (S : Slots G L env ns m N ρ sl) (hCL : C ≠ L) (hf : ∀ p ∈ sc.names, p.2 = .free → env.cells.lookup p.1 = some (f p.1)) :
    Slots G L (compEnvC sc (((frees sc.names).map fun x => (x, f x)).reverse) C env) (nmAt u) m N ρ c ∧ ∀ i ∈ ct.ix, (compEnvC sc (((frees sc.names).map fun x => (x, f x)).reverse) C env).kindOf ((nmAt u).at i) = some .local ∧ i < (nmAt u).length := by
  unfold csOkB at hb
  simp only [Bool.and_eq_true] at hb
  obtain ⟨⟨⟨h1, h2⟩, h3⟩, h4⟩ := hb
  have nd := ndB2_ok h2
  obtain ⟨hl, hat⟩ := csB_ok h1
  obtain ⟨hl2, hat2⟩ := csl_ok hc
  have hns : ns = nsAt w := by
    rw [at?_eq] at hw
    cases hx : sl[jn]? with
    | none => rw [hx] at hw; cases hw
    | some x =>
      rw [hx] at hw
      cases x <;> try (cases hw; done)
      cases S.ok jn _ hx with | nid h => 
      rw [h]
      rw [Nat.eq_of_beq_eq_true hw]
  have kind : ∀ {j : Nat} {p : Str × NameKind}, (nmAt u)[j]? = some p → (compEnvC sc (((frees sc.names).map fun x => (x, f x)).reverse) C env).kindOf p.1 = some (if (p.2 == .free && env.scope.kind == .function && env.kindOf p.1 == some .cell) then .cell else p.2) :=
    fun e => relabel_at (by rw [hsc]; exact nd) (by rw [hsc]; exact e)
  have h4' : ∀ i ∈ ct.ix, cs[i]? = some .loc := fun i hi => by
    cases ct with
    | one a p =>
      rw [List.mem_singleton.mp hi]
      exact beq_iff_eq.mp h4
  refine ⟨⟨by rw [hl2, hl], nd, fun j hj => ?_, fun j x e => ?_⟩, fun i hi => ?_⟩
  · have e := List.getElem?_eq_getElem hj
    have := List.all_eq_true.mp h3 _ (List.getElem_mem hj)
    rw [at_of e]
    simp only [Bool.and_eq_true, Bool.not_eq_true'] at this
    exact this.1
  · have hj : j < cs.length := by rw [← hl2]; exact lenOk_of e
    have ed := List.getElem?_eq_getElem hj
    obtain ⟨x', q1, q2⟩ := hat2 j _ ed
    rw [e] at q1; cases q1
    obtain ⟨p, hp, ho⟩ := hat j _ ed
    have hk := kind hp
    have hmem := List.mem_of_getElem? hp
    generalize cs[j] = d at q2 ho
    cases d with
    | loc =>
      cases q2
      have hk2 : p.2 = .local := by simpa [csOne] using ho
      refine .comN hCL ?_
      rw [at_of hp, hk, hk2]; rfl
    | out j' =>
      simp only [cs1] at q2
      obtain ⟨y, e1, q2⟩ := bind_some q2
      obtain ⟨kk, e2, q2⟩ := bind_some q2
      cases q2
      simp only [csOne, Bool.and_eq_true, beq_iff_eq] at ho
      rw [at?_eq] at e1
      obtain ⟨cc, g1, g2⟩ := celOf_ok e2 (S.ok j' y e1)
      have hfx := hf p (by rw [hsc]; exact hmem) ho.1
      have hcc : f p.1 = cc := by
        rw [ho.2, ← hns, g1] at hfx
        rw [ho.2, ← hns]
        exact (Option.some.inj hfx).symm
      have hall := List.all_eq_true.mp h3 _ hmem
      simp only [Bool.and_eq_true, Bool.not_eq_true'] at hall
      refine .fre (c := cc) ?_ ?_ g2
      · rw [at_of hp, hk]
        split
        · exact .inl rfl
        · exact .inr ⟨by rw [ho.1], hall.2⟩
      · rw [at_of hp]
        show (((frees sc.names).map fun x => (x, f x)).reverse).lookup p.1 = some cc
        have hfm : p.1 ∈ frees sc.names := by
          unfold frees
          exact List.mem_map.mpr ⟨p, List.mem_filter.mpr ⟨by rw [hsc]; exact hmem, by rw [ho.1]; rfl⟩, rfl⟩
        have ndf : (frees sc.names).Nodup := by
          unfold frees
          rw [hsc]
          exact (List.filter_sublist.map _).nodup nd
        refine lookup_of_mem_nodup ?_ ?_
        · rw [List.map_reverse, List.map_map]
          have : (frees sc.names).map ((fun x : Str × Addr => x.1) ∘ fun x => (x, f x)) = frees sc.names := by
            conv => rhs; rw [← List.map_id (frees sc.names)]
            rfl
          rw [this]
          exact (List.reverse_perm _).nodup_iff.mpr ndf
        · exact List.mem_reverse.mpr (List.mem_map.mpr ⟨p.1, hfm, by rw [hcc]⟩)
    | glb g =>
      simp only [cs1] at q2
      obtain ⟨y, e1, q2⟩ := bind_some q2
      obtain ⟨w', e2, q2⟩ := bind_some q2
      cases q2
      cases y with
      | none => cases e2
      | some v' =>
        cases e2
        simp only [csOne, Bool.and_eq_true, beq_iff_eq] at ho
        refine .glb ?_ ?_
        · rw [at_of hp, hk, ho.1]; rfl
        · rw [at_of hp]; exact hG g _ _ ho.2 e1
  · obtain ⟨pi, hpi, hoi⟩ := hat i _ (h4' i hi)
    have hki : pi.2 = .local := by simpa [csOne] using hoi
    exact ⟨by rw [at_of hpi, kind hpi, hki]; rfl, lenOk_of hpi⟩

/-- what a comprehension leaves -/
noncomputable def CompK (G : St) (A : Around) (h₀ : Heap) (L : Addr) (m : Str → Option Value) (v : MV) (σ' : List MO) (N : Led) (ρ : Rho) (s : Shared) (E : Value → Shared → Prop) (use : Option (Value → Sem Unit)) (Q : Value → Shared → Prop) : Prop :=
  ∀ D C h₃ tk N₃ ρ₃ oC mc, Inv G h₀ L m N₃ ρ₃ σ' h₃ tk → ExtX G [C] N ρ N₃ ρ₃ → (∀ b ob, (b, ob) ∈ N → ∃ ox, (b, ox) ∈ N₃) → (C, oC) ∈ N₃ → C ∉ mts G ρ₃ → NsOb oC mc → Fresh N C → RV G N₃ ρ₃ (.ref D) v → compPost (model G.prog G.w) A E use Q (.ref D) C (.ok .next) { s with heap := h₃, toks := tk }
variable (hs : Sound G r n)
include hs
theorem comp_core {gens : List Comprehension} {elt' : Expr} {tgt : Expr} {ifs : List Expr} {run : It → Nat → List Slot → List MO → Option (List MO)} {ix : List Nat} {it : E} {u w jn : Nat} {cs : List CS} {sc : Scope} {p pos : Pos} {use : Option (Value → Sem Unit)} {Q : Value → Shared → Prop} {E : Value → Shared → Prop} (hG : GvOk G GV)
    {ct : CTg} (hh : csOkB u w ct cs = true ∧ sc.names = nmAt u ∧ sc.kind = .function) (hix : ∀ i ∈ ix, ∃ ct' : CTg, i ∈ ct'.ix ∧ csOkB u w ct' cs = true) (hrun : LoopOk G n (.ListComp elt' (⟨tgt, it.er ns, ifs, 0⟩ :: gens) sc p) 0 u ix run)
    (H : EnvOk G A env h₀ L n) (S : Slots G L env ns m N ρ sl) (I : Inv G h₀ L m N ρ σ s.heap s.toks) (h : eCompG GV r run it w jn cs sl σ = some (v, σ'))
    (k : CompK G A h₀ L m v σ' N ρ s E use Q) :
    wpAny (model G.prog G.w) A (comprehension (.ListComp elt' (⟨tgt, it.er ns, ifs, 0⟩ :: gens) sc p) sc env pos (newList []) false (eval (it.er ns) env) use) Q E s := by
  unfold eCompG at h
  obtain ⟨hw, h⟩ := cond_some h
  obtain ⟨x, e1, h⟩ := bind_some h
  obtain ⟨c, e3, h⟩ := bind_some h
  obtain ⟨y, e4, h⟩ := bind_some h
  (first | exact (no h).elim | cases h)
  obtain ⟨hb, hsc, hkind⟩ := hh
  have nd : (sc.names.map (·.1)).Nodup := by
    rw [hsc]
    unfold csOkB at hb
    simp only [Bool.and_eq_true] at hb
    exact ndB2_ok hb.1.1.2
  have hnc : ∀ q ∈ sc.names, q.2 ≠ .cell := fun q hq => by
    rw [hsc] at hq
    unfold csOkB at hb
    simp only [Bool.and_eq_true] at hb
    obtain ⟨hl, hat⟩ := csB_ok hb.1.1.1
    obtain ⟨j, hj⟩ := List.mem_iff_getElem?.mp hq
    have hj' : j < cs.length := by rw [hl]; exact lenOk_of hj
    obtain ⟨p', g1, g2⟩ := hat j _ (List.getElem?_eq_getElem hj')
    rw [hj] at g1; cases g1
    intro hc
    generalize cs[j] = d at g2
    cases d <;> simp [csOne, hc] at g2
  -- the cells of the free names
  obtain ⟨f, hf⟩ : ∃ f : Str → Addr, ∀ q ∈ sc.names, q.2 = .free → env.cells.lookup q.1 = some (f q.1) := by
    refine ⟨fun z => (env.cells.lookup z).getD 0, fun q hq hqf => ?_⟩
    rw [hsc] at hq
    have hb' := hb
    unfold csOkB at hb'
    simp only [Bool.and_eq_true] at hb'
    obtain ⟨hl, hat⟩ := csB_ok hb'.1.1.1
    obtain ⟨hl2, hat2⟩ := csl_ok e3
    obtain ⟨j, hj⟩ := List.mem_iff_getElem?.mp hq
    have hj' : j < cs.length := by rw [hl]; exact lenOk_of hj
    have ed := List.getElem?_eq_getElem hj'
    obtain ⟨p', g1, g2⟩ := hat j _ ed
    rw [hj] at g1; cases g1
    obtain ⟨z, q1, q2⟩ := hat2 j _ ed
    generalize cs[j] = d at g2 q2
    have hns : ns = nsAt w := by
      rw [at?_eq] at hw
      cases hx : sl[jn]? with
      | none => rw [hx] at hw; cases hw
      | some x =>
        rw [hx] at hw
        cases x <;> try (cases hw; done)
        cases S.ok jn _ hx with | nid h =>
        rw [h, Nat.eq_of_beq_eq_true hw]
    cases d with
    | loc => simp [csOne, hqf] at g2
    | glb g => simp [csOne, hqf] at g2
    | out j' =>
      simp only [cs1] at q2
      obtain ⟨y', r1, q2⟩ := bind_some q2
      obtain ⟨kk, r2, q2⟩ := bind_some q2
      simp only [csOne, Bool.and_eq_true, beq_iff_eq] at g2
      rw [at?_eq] at r1
      obtain ⟨cc, w1, w2⟩ := celOf_ok r2 (S.ok j' y' r1)
      rw [g2.2, ← hns]
      show _ = some ((env.cells.lookup (ns.at j')).getD 0)
      rw [w1]; rfl
  obtain ⟨t, σx⟩ := x
  obtain ⟨nr, src⟩ := src_g hs H S I e1
  have hset : ∀ z, foldedSetIterable (it.er ns) env z = pure z := fun z => by
    cases it <;> first | exact absurd rfl (nr _) | rfl
  refine wpAny_comprehension_free rfl hset (closureFor_free hf) hkind (fun q hq hl => ?_) ?_
  · obtain ⟨j, hj⟩ := List.mem_iff_getElem?.mp hq
    rw [← hl]; exact lookup_at nd hj
  refine src _ _ fun xv h₁ tk₁ N₁ ρ₁ I₁ x₁ r₁ => ?_
  refine srcIter (s := { s with heap := h₁, toks := tk₁ }) r₁ x₁.old I₁ _ _ fun aI Y h₂ N₂ I₂ x₂ hO hX => ?_
  refine newList_K (s := { s with heap := h₂, toks := tk₁ }) I₂.F I₂.W (fun D h₃ F₃ W₃ hlt => ?_)
  obtain ⟨I₃, x₃, rD⟩ := alloc1 (s := { s with heap := h₂, toks := tk₁ }) (mo := .list []) I₂ (Nat.le_refl _) F₃ W₃ (.lt hlt) (fun ρ' x => .list (ws := []) (List.mem_cons_self ..) .nil)
  refine wpAny_newFunctionEnv (s := { s with heap := h₃, toks := tk₁ }) hnc (by intro q hq; simp at hq) (fun h₄ hns₄ sb₄ => ?_) hkind
  -- the name space of the comprehension
  have hCge : h₃.objs.size ≤ h₃.objs.size := Nat.le_refl _
  have frC := I₃.fresh hCge
  obtain ⟨oC, hgC, hoC⟩ := ns_ob hns₄
  have keep₄ : ∀ b o, h₃.get? b = some o → h₄.get? b = some o := fun b o e => sb₄.extBut b o (Nat.ne_of_lt (Heap.lt_size e)) (Heap.get?_push_of_some _ e)
  have hCL : h₃.objs.size ≠ L := Nat.ne_of_gt I₃.F.ns.lt
  have hC0 : h₀.get? h₃.objs.size = none := Heap.get?_none_of_le (Nat.le_trans I₃.F.above (Nat.le_of_lt I₃.F.ns.lt))
  obtain ⟨I₄, x₄⟩ := I₃.more (Nat.le_refl _) (h' := h₄) (new := [(h₃.objs.size, oC)]) (I₃.F.keeps keep₄) (fun q hq => by
      rcases List.mem_cons.mp hq with rfl | hq
      · exact ⟨hgC, hCL, hC0⟩
      · exact ⟨keep₄ _ _ (I₃.W q hq).1, (I₃.W q hq).2⟩) (by simp) (by simpa using frC)
  have x14 := (x₁.trans (x₂.trans x₃)).trans x₄
  obtain ⟨S₄, _⟩ := compSlots (C := h₃.objs.size) hG hb hsc hw e3 H.kind (S.mono x14) hCL hf
  have hk := fun i (hi : i ∈ ix) => let ⟨ct2, q1, q2⟩ := hix i hi; (compSlots (C := h₃.objs.size) hG q2 hsc hw e3 H.kind (S.mono x14) hCL hf).2 i q1
  have H' : EnvOk G A (compEnvC sc (((frees sc.names).map fun x => (x, f x)).reverse) h₃.objs.size env) h₀ L n := { H with kind := hkind, gl := H.gl, bi := H.bi, fr := H.fr }
  have x24 := x₃.trans x₄
  have hO₄ := hO.mono x24
  have haC : h₃.objs.size ∉ Y := fun e => by
    obtain ⟨⟨o, ho, _⟩, _⟩ := hO.rows _ e
    exact frC _ (List.mem_cons_of_mem _ ho) rfl
  have hnC : h₃.objs.size ∉ mts G (ρ₁.add (D, D)) := (I₃.off frC).1
  have hDat : (ρ₁.add (D, D)).l[σx.length]? = some (D, D) := by rw [← I₂.len]; simp [Rho.app]
  have loop : ∀ tk, tk₁ ≤ tk → codeAny (model G.prog G.w) A (.compLoop (.ListComp elt' (⟨tgt, it.er ns, ifs, 0⟩ :: gens) sc p) 0 (.ref aI) (.ref D) (compEnvC sc (((frees sc.names).map fun x => (x, f x)).reverse) h₃.objs.size env))
      (compPost (model G.prog G.w) A E use Q (.ref D) h₃.objs.size) { s with heap := h₄, toks := tk } := fun tk le => by
    refine hrun (s := { s with heap := h₄, toks := tk }) H' rfl hCL haC hk S₄ (I₄.grown le I₄.F I₄.W) hO₄ (List.mem_cons_self ..) hnC hoC hDat e4 _ fun h₅ tk₅ N₅ ρ₅ oC₅ mc₅ I₅ x₅ hm₅ ho₅ => ?_
    have x05 : ExtX G [h₃.objs.size] N ρ N₅ ρ₅ := by
      refine ⟨fun q hq hn he => ?_, ?_, x14.bb.trans x₅.bb, fun b hb => ?_, fun b ob hb he => ?_⟩
      · refine x₅.sub q (x14.sub q hq hn) (x14.off (a := q.1) (o := q.2) hq hn) fun h' => ?_
        rcases List.mem_cons.mp h' with h' | h'
        · exact he (List.mem_singleton.mpr h')
        · exact hX _ h' q hq rfl
      · obtain ⟨t1, q1⟩ := x14.pre
        obtain ⟨t2, q2⟩ := x₅.pre
        exact ⟨t1 ++ t2, by rw [q2, q1]; simp⟩
      · rcases x₅.fr b hb with h' | h'
        · exact x14.fr b h'
        · refine .inr fun o ho => ?_
          obtain ⟨o', h''⟩ := x14.old b o ho
          exact h' o' h''
      · obtain ⟨o', h''⟩ := x14.old b ob hb
        refine x₅.old b o' h'' fun h' => ?_
        rcases List.mem_cons.mp h' with h' | h'
        · exact he (List.mem_singleton.mpr h')
        · exact hX _ h' (b, ob) hb rfl
    have frN : Fresh N h₃.objs.size := fun q hq e => by
      obtain ⟨o', ho'⟩ := (x₁.trans (x₂.trans x₃)).old q.1 q.2 hq
      exact frC (q.1, o') ho' e
    refine k D h₃.objs.size h₅ tk₅ N₅ ρ₅ oC₅ mc₅ I₅ x05 (fun b ob hb => x05.old b ob hb fun h' => frN (b, ob) hb (List.mem_singleton.mp h')) hm₅ (x₅.off (List.mem_cons_self ..) hnC) ho₅ frN ?_
    obtain ⟨t2, q2⟩ := x₅.pre
    refine .ref (p := (D, D)) ?_
    rw [q2, List.getElem?_append_left (by simp [I₂.len, Rho.app])]
    exact hDat
  exact codeAny_compStart_list (loop _ (Nat.le_refl _)) (iterSelf (s := { s with heap := h₄, toks := tk₁ + 0 }) hO₄ I₄ _ _ (loop _ (Nat.le_refl _)))
end
end Mine

open PySem PySem.W PyProof.Rows PySem.Calls
namespace Mine
set_option autoImplicit false
set_option backward.match.sparseCases false
set_option linter.unusedVariables false
set_option maxRecDepth 20000

section
variable {G : St} {CT : List Cl} {GV : List (Option MV)} {r : Rec} {n : Nat} {A : Around} {env : Env} {h₀ : Heap} {L : Addr} {ns : Names} {m : Str → Option Value} {N : Led} {ρ : Rho} {s : Shared} {sl sl' : List Slot} {σ σ' : List MO} {v : MV}

theorem ext_drop {N₃ : Led} {ρ₃ : Rho} {C : Addr} (x : ExtX G [C] N ρ N₃ ρ₃) (f : Fresh N C) : Ext G N ρ (N₃.filter fun q => q.1 != C) ρ₃ := by
  have ne : ∀ q ∈ N, q.1 ∉ [C] := fun q hq h => f q hq (List.mem_singleton.mp h)
  refine ⟨fun q hq hn => List.mem_filter.mpr ⟨x.sub q hq hn (ne q hq), by simpa using f q hq⟩, x.pre, x.bb, x.fr, fun b ob hb => ?_⟩
  obtain ⟨o', h'⟩ := x.old b ob hb (ne (b, ob) hb)
  exact ⟨o', List.mem_filter.mpr ⟨h', by simpa using f (b, ob) hb⟩⟩
theorem tr_fresh {N₃ : Led} {ρ₃ : Rho} {C : Addr} (x : ExtX G [C] N ρ N₃ ρ₃) (f : Fresh N C) : Tr G N ρ N₃ ρ₃ :=
  x.tr fun a ha ob hob _ => f _ hob (List.mem_singleton.mp ha)
theorem drop_tr {N₃ : Led} {ρ₃ : Rho} {C : Addr} {oC : Obj} {mc : Str → Option Value} {tk : Nat} (I : Inv G h₀ L m N₃ ρ₃ σ s.heap s.toks) (le : s.toks ≤ tk) (hm : (C, oC) ∈ N₃) (hn : C ∉ mts G ρ₃) (ho : NsOb oC mc) {h' : Heap} (sb : Heap.SameBut C s.heap h') :
    Inv G h₀ L m (N₃.filter fun q => q.1 != C) ρ₃ σ h' tk ∧ Tr G N₃ ρ₃ (N₃.filter fun q => q.1 != C) ρ₃ := by
  obtain ⟨J, x⟩ := dropX I le hm hn ho.bad sb.extBut
  exact ⟨J, x.tr fun a ha ob hob => by rw [List.mem_singleton.mp ha] at hob; rw [nodup_row I.nd hob hm]; exact ho.bad⟩
variable (hs : Sound G r n)
include hs
theorem st_comp {elt : E} {ct : CTg} {it : E} {ifs : List E} {u w jn : Nat} {cs : List CS} {sc : Scope} {p : Pos} (hG : GvOk G GV) (hh : csOkB u w ct cs = true ∧ sc.names = nmAt u ∧ sc.kind = .function)
    (H : EnvOk G A env h₀ L n) (S : Slots G L env ns m N ρ sl) (I : Inv G h₀ L m N ρ σ s.heap s.toks) (h : eCompG GV r (r.co elt ct ifs) it w jn cs sl σ = some (v, σ')) :
    Wp G A h₀ L m (eval ((E.comp elt ct it ifs u w jn cs sc hh p).er ns) env) σ' (VR G v) N ρ s := by
  intro Q X q
  show wpAny _ A (eval (.ListComp (elt.er (nmAt u)) [⟨ct.er (nmAt u), it.er ns, Mine.E.ers (nmAt u) ifs, 0⟩] sc p) env) _ _ _
  rw [arm_eval_ListComp]
  refine comp_core hs hG hh (fun i hi => ⟨ct, hi, hh.1⟩) (hs.co (compAt_one _ _ _ _ _ _)) H S I h fun D C h₃ tk N₃ ρ₃ oC mc I₃ x₃ old hm hn ho f rv => ?_
  refine ⟨mc, ho.ns (I₃.W _ hm).1, fun h' sb => ?_⟩
  obtain ⟨J, tr⟩ := drop_tr (s := { s with heap := h₃, toks := tk }) I₃ (Nat.le_refl _) hm hn ho sb
  exact q _ h' tk _ ρ₃ J (ext_drop x₃ f) (rv.monoT tr)
theorem st_comp2 {elt : E} {ct ct2 : CTg} {it it2 : E} {u w jn : Nat} {cs : List CS} {sc : Scope} {p : Pos} (hG : GvOk G GV) (hh : csOkB u w ct cs = true ∧ csOkB u w ct2 cs = true ∧ sc.names = nmAt u ∧ sc.kind = .function)
    (H : EnvOk G A env h₀ L n) (S : Slots G L env ns m N ρ sl) (I : Inv G h₀ L m N ρ σ s.heap s.toks) (h : eCompG GV r (r.co2 elt ct ct2 it2) it w jn cs sl σ = some (v, σ')) :
    Wp G A h₀ L m (eval ((E.comp2 elt ct it ct2 it2 u w jn cs sc hh p).er ns) env) σ' (VR G v) N ρ s := by
  intro Q X q
  show wpAny _ A (eval (.ListComp (elt.er (nmAt u)) [⟨ct.er (nmAt u), it.er ns, [], 0⟩, ⟨ct2.er (nmAt u), it2.er (nmAt u), [], 0⟩] sc p) env) _ _ _
  rw [arm_eval_ListComp]
  refine comp_core hs hG (ct := ct) ⟨hh.1, hh.2.2⟩ (fun i hi => (List.mem_append.mp hi).elim (fun hi => ⟨ct, hi, hh.1⟩) fun hi => ⟨ct2, hi, hh.2.1⟩) hs.co2 H S I h fun D C h₃ tk N₃ ρ₃ oC mc I₃ x₃ old hm hn ho f rv => ?_
  refine ⟨mc, ho.ns (I₃.W _ hm).1, fun h' sb => ?_⟩
  obtain ⟨J, tr⟩ := drop_tr (s := { s with heap := h₃, toks := tk }) I₃ (Nat.le_refl _) hm hn ho sb
  exact q _ h' tk _ ρ₃ J (ext_drop x₃ f) (rv.monoT tr)
omit hs in
theorem putLoc_ok {i : Nat} {u : Value} (e : putLoc i v sl (at? sl i) = some sl') (H : EnvOk G A env h₀ L n) (S : Slots G L env ns m N ρ sl) (hu : RV G N ρ u v) (I : Inv G h₀ L m N ρ σ s.heap s.toks) (hL : env.locals = L) :
    WpS G A h₀ L env ns m (storeName env (ns.at i) u) sl' σ UR N ρ s := by
  have : putSl i v sl σ (at? sl i) = some (sl', σ) := by
    cases hq : at? sl i with
    | none => rw [hq] at e; (first | exact (no e).elim | cases e)
    | some x =>
      rw [hq] at e
      cases x <;> try ((first | exact (no e).elim | cases e); done)
      (first | exact (no e).elim | cases e); rfl
  exact store_ok this H S hu I hL
theorem st_asgC {i : Nat} {np p : Pos} {e : E} {fl : Fl} (hG : GvOk G GV) (H : EnvOk G A env h₀ L n) (hL : env.locals = L) (S : Slots G L env ns m N ρ sl) (I : Inv G h₀ L m N ρ σ s.heap s.toks) (h : sAsgC GV r i e sl σ = some (fl, sl', σ')) :
    WpS G A h₀ L env ns m (exec ((Mine.S.asgC i np e p).er ns) env) sl' σ' (FlR G fl) N ρ s := by
  cases e <;> try ((first | exact (no h).elim | cases h); done)
  rename_i elt ct it ifs u w jn cs sc hh pp
  simp only [sAsgC] at h
  obtain ⟨x, e1, h⟩ := bind_some h
  obtain ⟨y, e2, h⟩ := bind_some h
  (first | exact (no h).elim | cases h)
  intro Q X q
  show wpAny _ A (exec (.Assign [.Name (ns.at i) np] (.ListComp (elt.er (nmAt u)) [⟨ct.er (nmAt u), it.er ns, Mine.E.ers (nmAt u) ifs, 0⟩] sc pp) p) env) _ _ _
  rw [arm_exec_Assign]
  refine wpAny_bind (wpAny_standAt ?_)
  obtain ⟨b, hb⟩ : ∃ b, swapsWithSole [.Name (ns.at i) np] (.ListComp (elt.er (nmAt u)) [⟨ct.er (nmAt u), it.er ns, Mine.E.ers (nmAt u) ifs, 0⟩] sc pp) p.line env = pure b := ⟨_, rfl⟩
  rw [hb]
  refine wpAny_bind (wpAny_pure ?_)
  cases b with
  | true =>
    simp only [if_true]
    refine wpAny_bind ?_
    show wpAny _ A (do let _ ← comprehension (.ListComp (elt.er (nmAt u)) [⟨ct.er (nmAt u), it.er ns, Mine.E.ers (nmAt u) ifs, 0⟩] sc pp) sc env _ (newList []) false (eval (it.er ns) env) (some fun v => assign (.Name (ns.at i) np) env v)) _ _ _
    refine wpAny_bind (wpAny_mono (comp_core (Q := fun _ s' => Q .next s') (E := X) hs hG hh (fun i hi => ⟨ct, hi, hh.1⟩) (hs.co (compAt_one _ _ _ _ _ _)) H S I e1 fun D C h₃ tk N₃ ρ₃ oC mc I₃ x₃ old hm hn ho f rv => ?_) (fun _ s' hq => wpAny_pure (wpAny_pure hq)) fun _ _ e => e)
    show wpAny _ A (assign (.Name (ns.at i) np) env (.ref D)) _ _ _
    rw [arm_assign_Name]
    refine wpAny_bind (wpAny_standAt (wpAny_bindName ?_))
    have S₃ := S.monoL hL I (tr_fresh x₃ f)
    refine (putLoc_ok (s := { s with heap := h₃, toks := tk }) e2 H S₃ rv I₃ hL) _ _ fun _ h₄ tk₄ N₄ ρ₄ m₄ I₄ x₄ S₄ _ => ?_
    have hm₄ := x₄.sub _ hm hn
    refine ⟨mc, ho.ns (I₄.W _ hm₄).1, fun h' sb => ?_⟩
    obtain ⟨J, tr⟩ := drop_tr (s := { s with heap := h₄, toks := tk₄ }) I₄ (Nat.le_refl _) hm₄ (x₄.off hm hn) ho sb
    exact q .next h' tk₄ _ ρ₄ m₄ J (ext_drop (x₃.trans old (x₄.toX _)) f) (S₄.monoL (s := { s with heap := h₄, toks := tk₄ }) hL I₄ tr) rfl
  | false =>
    simp only [Bool.false_eq_true, if_false]
    refine wpAny_bind ((st_comp hs hG hh H S I e1) _ _ fun uv h₃ tk N₃ ρ₃ I₃ x₃ rv => ?_)
    show wpAny _ A (swappedStores _ _ env >>= fun sw => assignStores env uv sw ((assignEach [.Name (ns.at i) np] env).map (·.2))) _ _ _
    have hsw : swappedStores [.Name (ns.at i) np] (.ListComp (elt.er (nmAt u)) [⟨ct.er (nmAt u), it.er ns, Mine.E.ers (nmAt u) ifs, 0⟩] sc pp) env = pure none := rfl
    rw [hsw]
    refine wpAny_bind (wpAny_pure ?_)
    show wpAny _ A (assign (.Name (ns.at i) np) env uv >>= fun _ => pure Flow.next) _ _ _
    rw [arm_assign_Name]
    refine wpAny_bind (wpAny_bind (wpAny_standAt (wpAny_bindName ?_)))
    exact (putLoc_ok (s := { s with heap := h₃, toks := tk }) e2 H (S.mono x₃) rv I₃ hL) _ _ fun _ h₄ tk₄ N₄ ρ₄ m₄ I₄ x₄ S₄ _ => wpAny_pure (q .next h₄ tk₄ N₄ ρ₄ m₄ I₄ (x₃.trans x₄) S₄ rfl)
end
end Mine

open PySem PySem.W PyProof.Rows PySem.Calls
namespace Mine
set_option autoImplicit false
set_option backward.match.sparseCases false
set_option linter.unusedVariables false
set_option maxRecDepth 20000

section
variable {G : St} {CT : List Cl} {GV : List (Option MV)} {r : Rec} {n : Nat} {A : Around} {env : Env} {h₀ : Heap} {L : Addr} {ns : Names} {m : Str → Option Value} {N : Led} {ρ : Rho} {s : Shared} {sl sl' : List Slot} {σ σ' : List MO} {v : MV}

theorem mark_none (A : Around) : A.mark none = A := by
  cases A; rfl
theorem dropNone (e : Expr) (p : Pos) : dropValue e p .none = pure .next := by cases e <;> rfl
theorem notInter (H : EnvOk G A env h₀ L n) : interactive env = false := by unfold interactive; rw [H.kind]; rfl
theorem swapsEx {e : E} {l : Nat} (hn : NR e) (h : exB e = true) : swapsWith (e.er ns) none l env = pure false := by
  cases e <;> first | exact absurd rfl (hn _) | rfl | ((first | exact (no h).elim | cases h); done)
variable (hs : Sound G r n)
include hs
theorem st_asg {t : T} {e : E} {p : Pos} {fl : Fl} (H : EnvOk G A env h₀ L n) (hL : env.locals = L) (S : Slots G L env ns m N ρ sl) (I : Inv G h₀ L m N ρ σ s.heap s.toks)
    (h : cond (asgB sl t e) ((r.e e sl σ).bind fun x => (r.a t x.1 sl x.2).bind fun y => some (Fl.next, y)) none = some (fl, sl', σ')) :
    WpS G A h₀ L env ns m (exec ((Mine.S.asg t e p).er ns) env) sl' σ' (FlR G fl) N ρ s := by
  obtain ⟨hb, h⟩ := cond_some h
  obtain ⟨x, e1, h⟩ := bind_some h
  obtain ⟨y, e2, h⟩ := bind_some h
  (first | exact (no h).elim | cases h)
  have nr := hs.NR e1
  show WpS G A h₀ L env ns m (exec (.Assign [t.er ns] (e.er ns) p) env) _ _ _ _ _ _
  rw [arm_exec_Assign]
  refine WpS.stand ?_
  rw [swapsNo nr hb]
  refine WpS.bind (R := fun b _ _ => b = false) (Wp.pure I rfl) fun b h₁ tk N₁ ρ₁ I₁ x₁ r₁ => ?_
  subst r₁
  simp only [Bool.false_eq_true, if_false]
  refine WpS.bind (hs.e (s := { s with heap := h₁, toks := tk }) H (S.mono x₁) I₁ e1) fun u h₂ tk₂ N₂ ρ₂ I₂ x₂ r₂ => ?_
  rw [storesNo S nr hb]
  refine WpS.bind (R := fun b _ _ => b = none) (Wp.pure I₂ rfl) fun b h₃ tk₃ N₃ ρ₃ I₃ x₃ r₃ => ?_
  subst r₃
  show WpS G A h₀ L env ns m (assignAll u ((assignEach [t.er ns] env).map (·.2)) >>= fun _ => pure Flow.next) _ _ _ _ _ _
  rw [assignEach1]
  refine WpS.bindS (hs.a (s := { s with heap := h₃, toks := tk₃ }) H hL (S.mono ((x₁.trans x₂).trans x₃)) I₃ (r₂.mono x₃) e2) fun _ h₄ tk₄ N₄ ρ₄ m₄ I₄ x₄ S₄ _ => ?_
  exact WpS.pure I₄ S₄ rfl
theorem st_aug {i : Nat} {np p : Pos} {op : Operator} {e : E} {fl : Fl} (H : EnvOk G A env h₀ L n) (hL : env.locals = L) (S : Slots G L env ns m N ρ sl) (I : Inv G h₀ L m N ρ σ s.heap s.toks) (h : sAug r i op e sl σ = some (fl, sl', σ')) :
    WpS G A h₀ L env ns m (exec ((Mine.S.aug i np op e p).er ns) env) sl' σ' (FlR G fl) N ρ s := by
  unfold sAug at h
  obtain ⟨x, e1, h⟩ := bind_some h
  obtain ⟨y, e2, h⟩ := bind_some h
  obtain ⟨w, e3, h⟩ := bind_some h
  obtain ⟨z, e4, h⟩ := bind_some h
  (first | exact (no h).elim | cases h)
  show WpS G A h₀ L env ns m (exec (.AugAssign (.Name (ns.at i) np) op (e.er ns) p) env) _ _ _ _ _ _
  rw [arm_exec_AugAssign]
  refine WpS.stand (WpS.bind (load_ok (pos := np) e1 H S I) fun u h₁ tk N₁ ρ₁ I₁ x₁ r₁ => ?_)
  refine WpS.bind (Wp.hold (hs.e (s := { s with heap := h₁, toks := tk }) H (S.mono x₁) I₁ e2)) fun u₂ h₂ tk₂ N₂ ρ₂ I₂ x₂ r₂ => ?_
  refine WpS.stand (WpS.bind (Wp.oper (iop_ok (s := { s with heap := h₂, toks := tk₂ }) e3 (r₁.mono x₂) r₂ I₂)) fun u₃ h₃ tk₃ N₃ ρ₃ I₃ x₃ r₃ => ?_)
  refine WpS.stand ?_
  have x03 := (x₁.trans x₂).trans x₃
  have st := store_ok (s := { s with heap := h₃, toks := tk₃ }) e4 H (S.mono x03) r₃ I₃ hL
  have bn : WpS G A h₀ L env ns m (bindName env (ns.at i) u₃) sl' σ' UR N₃ ρ₃ { s with heap := h₃, toks := tk₃ } := fun Q E q => wpAny_bindName (st Q E q)
  exact WpS.bindS bn fun _ h₄ tk₄ N₄ ρ₄ m₄ I₄ x₄ S₄ _ => WpS.pure I₄ S₄ rfl
theorem st_augA (hC : ClsAll G CT) {o : E} {a : Nat} {tp p : Pos} {op : Operator} {e : E} {fl : Fl} (H : EnvOk G A env h₀ L n) (hL : env.locals = L) (S : Slots G L env ns m N ρ sl) (I : Inv G h₀ L m N ρ σ s.heap s.toks) (h : sAugA CT r o a op e sl σ = some (fl, sl', σ')) :
    WpS G A h₀ L env ns m (exec ((Mine.S.augA o a tp op e p).er ns) env) sl' σ' (FlR G fl) N ρ s := by
  unfold sAugA at h
  obtain ⟨x, e1, h⟩ := bind_some h
  obtain ⟨w, e2, h⟩ := bind_some h
  obtain ⟨y, e3, h⟩ := bind_some h
  obtain ⟨z, e4, h⟩ := bind_some h
  obtain ⟨σ₅, e5, h⟩ := bind_some h
  (first | exact (no h).elim | cases h)
  show WpS G A h₀ L env ns m (exec (.AugAssign (.Attribute (o.er ns) (an a) tp) op (e.er ns) p) env) _ _ _ _ _ _
  rw [arm_exec_AugAssign_2]
  refine WpS.stand (WpS.bind (hs.e H S I e1) fun ov h₁ tk N₁ ρ₁ I₁ x₁ r₁ => ?_)
  have mid : Wp G A h₀ L m (holding [ov] do
      standAt tp.atName
      let old ← getAttr ov (an a) true
      let v ← holding [old] (eval (e.er ns) env)
      standAt p
      operate [old, v] (inplaceOp op old v)) y.2 (VR G z) N₁ ρ₁ { s with heap := h₁, toks := tk } := by
    refine Wp.hold (Wp.stand (Wp.bind (attrE_ok (s := { s with heap := h₁, toks := tk }) hC e2 r₁ I₁ H.X) fun old h₂ tk₂ N₂ ρ₂ I₂ x₂ r₂ => ?_))
    refine Wp.bind (Wp.hold (hs.e (s := { s with heap := h₂, toks := tk₂ }) H (S.mono (x₁.trans x₂)) I₂ e3)) fun u₃ h₃ tk₃ N₃ ρ₃ I₃ x₃ r₃ => ?_
    exact Wp.stand (Wp.oper (iop_ok e4 (r₂.mono x₃) r₃ I₃))
  refine WpS.bind mid fun nw h₄ tk₄ N₄ ρ₄ I₄ x₄ r₄ => ?_
  refine WpS.stand (WpS.bind (Wp.hold (putA_ok (s := { s with heap := h₄, toks := tk₄ }) hC e5 (r₁.mono x₄) r₄ I₄ H.X)) fun _ h₅ tk₅ N₅ ρ₅ I₅ x₅ _ => ?_)
  exact WpS.rel (WpS.pure I₅ (S.mono ((x₁.trans x₄).trans x₅)) rfl)
theorem st_iff {t : E} {b o : List S} {p : Pos} {fl : Fl} (H : EnvOk G A env h₀ L n) (hL : env.locals = L) (S : Slots G L env ns m N ρ sl) (I : Inv G h₀ L m N ρ σ s.heap s.toks)
    (h : ((r.t t sl σ).bind fun x => cond x.1 (r.ss b sl x.2) (r.ss o sl x.2)) = some (fl, sl', σ')) :
    WpS G A h₀ L env ns m (exec ((Mine.S.iff t b o p).er ns) env) sl' σ' (FlR G fl) N ρ s := by
  obtain ⟨x, e1, h⟩ := bind_some h
  obtain ⟨c, σ₁⟩ := x
  show WpS G A h₀ L env ns m (exec (.If (t.er ns) (Mine.S.ers ns b) (Mine.S.ers ns o) p) env) _ _ _ _ _ _
  rw [arm_exec_If]
  refine WpS.stand (WpS.bind (hs.t H S I e1) fun a h₁ tk N₁ ρ₁ I₁ x₁ r₁ => ?_)
  rw [show a = c from r₁]
  cases c with
  | true => exact hs.ss H hL (S.mono x₁) I₁ h
  | false => exact hs.ss H hL (S.mono x₁) I₁ h
theorem st_ret {e : E} {p : Pos} {fl : Fl} (H : EnvOk G A env h₀ L n) (S : Slots G L env ns m N ρ sl) (I : Inv G h₀ L m N ρ σ s.heap s.toks) (h : ((r.e e sl σ).bind fun x => some (Fl.ret x.1, sl, x.2)) = some (fl, sl', σ')) :
    WpS G A h₀ L env ns m (exec ((Mine.S.ret e p).er ns) env) sl' σ' (FlR G fl) N ρ s := by
  obtain ⟨x, e1, h⟩ := bind_some h
  (first | exact (no h).elim | cases h)
  show WpS G A h₀ L env ns m (standAt p >>= fun _ => eval (e.er ns) env >>= fun v => pure (Flow.ret v)) _ _ _ _ _ _
  exact WpS.stand (WpS.bind (hs.e H S I e1) fun u h₁ tk N₁ ρ₁ I₁ x₁ r₁ => WpS.pure I₁ (S.mono x₁) ⟨u, rfl, r₁⟩)
theorem st_ex {e : E} {p : Pos} {fl : Fl} (H : EnvOk G A env h₀ L n) (S : Slots G L env ns m N ρ sl) (I : Inv G h₀ L m N ρ σ s.heap s.toks) (h : cond (exB e) ((r.e e sl σ).bind (sEx sl)) none = some (fl, sl', σ')) :
    WpS G A h₀ L env ns m (exec ((Mine.S.ex e p).er ns) env) sl' σ' (FlR G fl) N ρ s := by
  obtain ⟨hb, h⟩ := cond_some h
  obtain ⟨x, e1, h⟩ := bind_some h
  obtain ⟨w, σ₁⟩ := x
  unfold sEx at h
  cases w <;> try ((first | exact (no h).elim | cases h); done)
  (first | exact (no h).elim | cases h)
  show WpS G A h₀ L env ns m (exec (.Expr (e.er ns) p) env) _ _ _ _ _ _
  rw [arm_exec_Expr, notInter H, swapsEx (hs.NR e1) hb]
  simp only [Bool.false_eq_true, if_false]
  refine WpS.stand (WpS.bind (R := fun b _ _ => b = false) (Wp.pure I rfl) fun b h₁ tk N₁ ρ₁ I₁ x₁ r₁ => ?_)
  subst r₁
  simp only [Bool.false_eq_true, if_false]
  refine WpS.bind (hs.e (s := { s with heap := h₁, toks := tk }) H (S.mono x₁) I₁ e1) fun u h₂ tk₂ N₂ ρ₂ I₂ x₂ r₂ => ?_
  (first | obtain ⟨_, rfl⟩ := r₂.inv | obtain rfl := r₂.inv | cases r₂)
  rw [dropNone]
  exact WpS.pure I₂ (S.mono (x₁.trans x₂)) rfl
theorem st_whl {t : E} {b : List S} {p : Pos} {fl : Fl} (H : EnvOk G A env h₀ L n) (hL : env.locals = L) (S : Slots G L env ns m N ρ sl) (I : Inv G h₀ L m N ρ σ s.heap s.toks) (h : r.wh t b sl σ = some (fl, sl', σ')) :
    WpS G A h₀ L env ns m (exec ((Mine.S.whl t b p).er ns) env) sl' σ' (FlR G fl) N ρ s := by
  show WpS G A h₀ L env ns m (exec (.While (t.er ns) (Mine.S.ers ns b) [] p) env) _ _ _ _ _ _
  rw [arm_exec_While]
  refine WpS.stand fun Q E q => wpAny_runOwn (h := none) ?_ (by intro x; cases x)
  rw [mark_none]
  exact hs.wh H hL S I h _ fun f h' tk N' ρ' m' I' x' S' r' => q f h' tk N' ρ' m' I' x' S' r'
theorem st_for {t : T} {it : E} {b : List S} {p : Pos} {fl : Fl} (H : EnvOk G A env h₀ L n) (hL : env.locals = L) (S : Slots G L env ns m N ρ sl) (I : Inv G h₀ L m N ρ σ s.heap s.toks)
    (h : ((srcG r it sl σ).bind fun x => r.fr t x.1 b sl x.2) = some (fl, sl', σ')) :
    WpS G A h₀ L env ns m (exec ((Mine.S.fr t it b p).er ns) env) sl' σ' (FlR G fl) N ρ s := by
  obtain ⟨x, e1, h⟩ := bind_some h
  obtain ⟨nr, src⟩ := src_g hs H S I (show srcG r it sl σ = some (x.1, x.2) from e1)
  have hset : ∀ z, foldedSetIterable (it.er ns) env z = pure z := fun z => by
    cases it <;> first | exact absurd rfl (nr _) | rfl
  show WpS G A h₀ L env ns m (exec (.For (t.er ns) (it.er ns) (Mine.S.ers ns b) [] p) env) _ _ _ _ _ _
  rw [arm_exec_For]
  intro Q E q
  refine wpAny_bind (wpAny_standAt (wpAny_bind (src _ _ fun u h₁ tk N₁ ρ₁ I₁ x₁ r₁ => ?_)))
  rw [hset]
  refine wpAny_bind (wpAny_pure (wpAny_bind (wpAny_standAt ?_)))
  refine wpAny_bind (wpAny_holding (srcIter (s := { s with heap := h₁, toks := tk }) r₁ x₁.old I₁ _ _ fun aI X h₃ N₃ I₃ x₃ hO hX => ?_))
  refine wpAny_runOwn (h := none) ?_ (by intro x; cases x)
  rw [mark_none]
  have x13 := x₁.trans x₃
  refine hs.fr (s := { s with heap := h₃, toks := tk }) H hL (S.mono x13) I₃ hO h _ fun f h' tk' N' ρ' m' I' x' S' r' => ?_
  refine q f h' tk' N' ρ' m' I' ⟨fun z hz hn => x'.sub z (x13.sub z hz hn) (x13.off (a := z.1) (o := z.2) hz hn) fun he => hX _ he z hz rfl, ?_, x13.bb.trans x'.bb, fun a ha => ?_, fun a o ho => ?_⟩ S' r'
  · obtain ⟨t1, q1⟩ := x13.pre
    obtain ⟨t2, q2⟩ := x'.pre
    exact ⟨t1 ++ t2, by rw [q2, q1]; simp⟩
  · rcases x'.fr a ha with h1 | h1
    · exact x13.fr a h1
    · exact .inr fun o ho => let ⟨ox, h⟩ := x13.old a o ho; h1 ox h
  · obtain ⟨ox, h⟩ := x13.old a o ho
    exact x'.old a ox h fun he => hX _ he (a, o) ho rfl
end
end Mine

open PySem PySem.W PyProof.Rows PySem.Calls
namespace Mine
set_option autoImplicit false
set_option linter.unusedVariables false
set_option maxRecDepth 20000

section
variable {G : St} {CT : List Cl} {GV : List (Option MV)} {r : Rec} {n : Nat} {A : Around} {env : Env} {h₀ : Heap} {L : Addr} {ns : Names} {m : Str → Option Value} {N : Led} {ρ : Rho} {s : Shared} {sl sl' : List Slot} {σ σ' : List MO} {v : MV}

/-! ### tuples of stores, exchanged -/
theorem ers_all (f : Expr → Bool) : ∀ es : List E, (E.ers ns es).all f = es.all fun e => f (e.er ns)
  | [] => rfl
  | e :: es => by show (f (e.er ns) && (E.ers ns es).all f) = _; rw [ers_all f es]; rfl
theorem ers_len : ∀ es : List E, (E.ers ns es).length = es.length
  | [] => rfl
  | e :: es => by show (E.ers ns es).length + 1 = _; rw [ers_len es]; rfl
theorem ncst_er : ∀ (k : Nat) (e : E), ncst k e = true → constantsAlone k (e.er ns) = false ∧ foldedForSure k (e.er ns) = false
  | 0, e, h => by (first | exact (no h).elim | cases h)
  | k + 1, e, h => by
    cases e <;> try ((first | exact (no h).elim | cases h); done)
    · rename_i es kk p
      have h' : es.any (ncst k) = true := h
      obtain ⟨e, he, h1⟩ := List.any_eq_true.mp h'
      obtain ⟨g1, g2⟩ := ncst_er k e h1
      show (E.ers ns es).all (constantsAlone k) = false ∧ (E.ers ns es).all (foldedForSure k) = false
      rw [ers_all, ers_all]
      exact ⟨List.all_eq_false.mpr ⟨e, he, by rw [g1]; simp⟩, List.all_eq_false.mpr ⟨e, he, by rw [g2]; simp⟩⟩
    · exact ⟨rfl, rfl⟩
    · rename_i e lo hi st sp p
      refine ⟨?_, rfl⟩
      show (constantsAlone k (e.er ns) && constantsAlone k (.Slice (E.ero ns lo) (E.ero ns hi) (E.ero ns st) sp)) = false
      have : constantsAlone k (.Slice (E.ero ns lo) (E.ero ns hi) (E.ero ns st) sp) = false := by cases k <;> rfl
      rw [this, Bool.and_false]
    · exact ⟨rfl, rfl⟩
    · exact ⟨rfl, rfl⟩
theorem nmB_er (S : Slots G L env ns m N ρ sl) : ∀ (k : Nat) (e : E), nmB sl k e = true → constantsAlone k (e.er ns) = false ∧ foldedForSure k (e.er ns) = false
  | 0, e, h => by cases h
  | k + 1, e, h => by
    cases e <;> try (cases h; done)
    · rename_i i p
      replace h : (at? sl i).isSome = true := h
      obtain ⟨x, hx⟩ := Option.isSome_iff_exists.mp h
      rw [at?_eq] at hx
      exact ⟨S.dbg i (S.len ▸ lenOk_of hx), rfl⟩
    · rename_i e i p
      refine ⟨?_, rfl⟩
      show (constantsAlone k (e.er ns) && constantsAlone k (i.er ns)) = false
      rw [(nmB_er S k e h).1, Bool.false_and]
theorem star_no {pos : Pos} : ∀ {vs : List Expr}, (backTo pos (starEach vs env)).any (·.1) = false → (vs.any fun | .Starred .. => true | _ => false) = false
  | [], _ => rfl
  | v :: vs, h => by
    rw [List.any_cons]
    cases v with
    | Starred a b => exact absurd h (by show ¬ ((true || _) = false); simp)
    | _ => 
      first
        | (have h2 : (backTo pos (starEach vs env)).any (·.1) = false := (Bool.or_eq_false_iff.mp (show (false || (backTo pos (starEach vs env)).any (·.1)) = false from h)).2
           rw [star_no h2]; rfl)
theorem nodup_dups {α : Type} [BEq α] [LawfulBEq α] : ∀ {l : List α}, l.Nodup → l.eraseDups = l
  | [], _ => rfl
  | a :: l, h => by
    rw [List.nodup_cons] at h
    rw [List.eraseDups_cons]
    have : l.filter (fun b => !b == a) = l := by
      rw [List.filter_eq_self]
      intro b hb
      have : b ≠ a := fun e => h.1 (e ▸ hb)
      simpa using this
    rw [this, nodup_dups h.2]
theorem swp_names {is : List (Nat × Pos)} {es : List E} {tk : Nat} {tp : Pos} {ek : Nat} {ep pos : Pos} (H : EnvOk G A env h₀ L n) (S : Slots G L env ns m N ρ sl) (I : Inv G h₀ L m N ρ σ s.heap s.toks) (hL : env.locals = L)
    (hst : (backTo pos (starEach (E.ers ns es) env)).any (·.1) = false) (hb : swpB sl is es = true) (hl : allLoc sl is = true) :
    swappedStores [.Tuple (swpTs ns is) tk tp] (.Tuple (E.ers ns es) ek ep) env = pure (some (is.map fun p => ns.at p.1)) := by
  unfold swpB at hb
  simp only [Bool.and_eq_true] at hb
  obtain ⟨⟨⟨⟨h1, h2⟩, h3⟩, h4⟩, h5⟩ := hb
  have hlen : es.length = is.length := Nat.eq_of_beq_eq_true h2
  obtain ⟨e, he, g1, g2⟩ : ∃ e ∈ es, constantsAlone 8 (e.er ns) = false ∧ foldedForSure 8 (e.er ns) = false := by
    rcases Bool.or_eq_true_iff.mp h3 with h3 | h3
    · obtain ⟨e, he, hc⟩ := List.any_eq_true.mp h3
      exact ⟨e, he, ncst_er (ns := ns) 8 e hc⟩
    · obtain ⟨e, he, hc⟩ := List.any_eq_true.mp h3
      exact ⟨e, he, nmB_er S 8 e hc⟩
  have c1 : (E.ers ns es).all (foldedForSure 8) = false := by rw [ers_all]; exact List.all_eq_false.mpr ⟨e, he, by rw [g2]; simp⟩
  have c2 : (E.ers ns es).all (constantsAlone 8) = false := by rw [ers_all]; exact List.all_eq_false.mpr ⟨e, he, by rw [g1]; simp⟩
  have c3 := star_no hst
  have bk : env.blockKind = .function := by unfold Env.blockKind; rw [H.kind]; rfl
  have loc : ∀ p ∈ is, p.1 < ns.length ∧ env.kindOf (ns.at p.1) = some .local := fun p hp => by
    have := List.all_eq_true.mp hl p hp
    rw [at?_eq] at this
    cases hx : sl[p.1]? with
    | none => rw [hx] at this; cases this
    | some x =>
      rw [hx] at this
      refine ⟨S.len ▸ lenOk_of hx, ?_⟩
      cases x <;> try (cases this; done)
      cases S.ok _ _ hx with
      | locS h0 h1 => exact h1
      | locN h0 h1 => exact h1
      | comS h1 => exact h1
      | comN h0 h1 => exact h1
  have line : ∀ p ∈ is, p.2.line = lineOf is := fun p hp => Nat.eq_of_beq_eq_true (List.all_eq_true.mp h4 p hp)
  have key : ∀ l : List (Nat × Pos), (∀ p ∈ l, p ∈ is) → (swpTs ns l).filterMap (fun | .Name id pos => if (env.kindOf id == some .local && pos.line == lineOf is) = true then some id else none | _ => none) = l.map fun p => ns.at p.1 := by
    intro l
    induction l with
    | nil => intro _; rfl
    | cons p l ih =>
      intro hp
      have hp0 := hp p (List.mem_cons_self ..)
      show List.filterMap _ (.Name (ns.at p.1) p.2 :: swpTs ns l) = _
      rw [List.filterMap_cons]
      simp only [(loc p hp0).2, line p hp0, beq_self_eq_true, Bool.and_self, if_true]
      rw [ih fun q hq => hp q (List.mem_cons_of_mem _ hq)]; rfl
  have head : ((swpTs ns is).head?.map (·.pos.line)).getD 0 = lineOf is := by
    cases is with
    | nil => rfl
    | cons p ps => rfl
  have slen : (swpTs ns is).length = is.length := by
    clear key head line loc hl h1 h2 h3 h4 h5 hlen
    induction is with
    | nil => rfl
    | cons p ps ih => show (swpTs ns ps).length + 1 = _; rw [ih]; rfl
  have ed : (is.map fun p => ns.at p.1).eraseDups.length = is.length := by
    have nd : (is.map fun p => ns.at p.1).Nodup := by
      have : ∀ l : List (Nat × Pos), (∀ p ∈ l, p ∈ is) → ndB l = true → (l.map fun p => ns.at p.1).Nodup := by
        intro l
        induction l with
        | nil => intro _ _; exact List.nodup_nil
        | cons p l ih =>
          intro hp hn
          simp only [ndB, Bool.and_eq_true] at hn
          rw [List.map_cons, List.nodup_cons]
          refine ⟨fun hm => ?_, ih (fun q hq => hp q (List.mem_cons_of_mem _ hq)) hn.2⟩
          obtain ⟨q, hq, e⟩ := List.mem_map.mp hm
          have := at_inj S.nd (loc q (hp q (List.mem_cons_of_mem _ hq))).1 (loc p (hp p (List.mem_cons_self ..))).1 e
          have h7 := List.all_eq_true.mp hn.1 q hq
          rw [this] at h7
          simp at h7
      exact this is (fun _ h => h) h5
    rw [nodup_dups nd, List.length_map]
  unfold swappedStores
  simp only [slen, ers_len, hlen, bk, c1, c2, head]
  generalize hnm : List.filterMap _ (swpTs ns is) = nm
  have hnm' : nm = is.map fun p => ns.at p.1 := hnm.symm.trans (key is fun _ h => h)
  subst hnm'
  generalize hany : (E.ers ns es).any _ = st
  have hany' : st = false := hany.symm.trans c3
  subst hany'
  simp only [List.length_map, ed]
  rcases Bool.or_eq_true_iff.mp h1 with h1 | h1 <;> (rw [Nat.eq_of_beq_eq_true h1]; rfl)
theorem putLocs_ok : ∀ {is : List (Nat × Pos)} {us : List Value} {vs : List MV} {m : Str → Option Value} {N : Led} {ρ : Rho} {s : Shared} {sl sl' : List Slot}, putLocs is vs sl = some sl' → EnvOk G A env h₀ L n → env.locals = L → Slots G L env ns m N ρ sl → Inv G h₀ L m N ρ σ s.heap s.toks → RVs G N ρ us vs →
    WpS G A h₀ L env ns m (assignInOrder (is.map fun p => bindName env (ns.at p.1)) us) sl' σ UR N ρ s
  | [], us, vs, m, N, ρ, s, sl, sl', e, H, hL, S, I, hu => by
    cases vs with
    | cons _ _ => (first | exact (no e).elim | cases e)
    | nil => (first | exact (no e).elim | cases e); (first | obtain ⟨_, rfl⟩ := hu.inv | obtain rfl := hu.inv | cases hu); exact WpS.of (Wp.same' (R := UR) I trivial fun Q E q => assignInOrder_nil q) S
  | p :: is, us, vs, m, N, ρ, s, sl, sl', e, H, hL, S, I, hu => by
    cases vs with
    | nil => (first | exact (no e).elim | cases e)
    | cons v vs =>
      have hh := hu.uncons; clear hu; obtain ⟨_, _, rfl, hv, hu⟩ := hh
      unfold putLocs at e
      obtain ⟨x, e1, e⟩ := bind_some e
      intro Q E q
      rw [List.map_cons]
      refine assignInOrder_cons (wpAny_bindName ((putLoc_ok e1 H S hv I hL) _ _ fun _ h₁ tk N₁ ρ₁ m₁ I₁ x₁ S₁ _ => ?_))
      exact (putLocs_ok (s := { s with heap := h₁, toks := tk }) e H hL S₁ I₁ (hu.mono x₁)) _ _ fun _ h₂ tk₂ N₂ ρ₂ m₂ I₂ x₂ S₂ _ => q _ h₂ tk₂ N₂ ρ₂ m₂ I₂ (x₁.trans x₂) S₂ trivial
theorem RVs.reverse {ws : List Value} {xs : List MV} (h : RVs G N ρ ws xs) : RVs G N ρ ws.reverse xs.reverse := by
  induction xs generalizing ws with
  | nil => rw [h.nilv]; exact .nil
  | cons w xs ih =>
    obtain ⟨_, _, rfl, h, hs⟩ := h.uncons
    rw [List.reverse_cons, List.reverse_cons]
    exact (ih hs).append (.cons h .nil)
theorem putLocs_len : ∀ {is : List (Nat × Pos)} {vs : List MV} {sl sl' : List Slot}, putLocs is vs sl = some sl' → vs.length = is.length
  | [], vs, sl, sl', e => by
    cases vs with
    | nil => rfl
    | cons _ _ => (first | exact (no e).elim | cases e)
  | p :: is, vs, sl, sl', e => by
    cases vs with
    | nil => (first | exact (no e).elim | cases e)
    | cons v vs =>
      unfold putLocs at e
      obtain ⟨x, e1, e⟩ := bind_some e
      rw [List.length_cons, putLocs_len e, List.length_cons]
theorem assignStores_some (v : Value) (names : List Str) (stores : List (Value → Sem Unit)) : assignStores env v (some names) stores = (do
    rule "assign.swapped-stores"
    let items ← unpackItems v names.length none
    assignInOrder (names.reverse.map fun n => bindName env n) items.reverse
    pure .next) := rfl
variable (hs : Sound G r n)
include hs
theorem st_swp {is : List (Nat × Pos)} {tk : Nat} {tp : Pos} {es : List E} {ek : Nat} {ep p : Pos} {fl : Fl} (H : EnvOk G A env h₀ L n) (hL : env.locals = L) (S : Slots G L env ns m N ρ sl) (I : Inv G h₀ L m N ρ σ s.heap s.toks)
    (h : cond (swpB sl is es && allLoc sl is) (sSwp r is es sl σ) none = some (fl, sl', σ')) :
    WpS G A h₀ L env ns m (exec ((Mine.S.swp is tk tp es ek ep p).er ns) env) sl' σ' (FlR G fl) N ρ s := by
  obtain ⟨hb, h⟩ := cond_some h
  obtain ⟨hb, hl⟩ := Bool.and_eq_true_iff.mp hb
  unfold sSwp at h
  obtain ⟨x, e1, h⟩ := bind_some h
  obtain ⟨y, e2, h⟩ := bind_some h
  (first | exact (no h).elim | cases h)
  have sw := swp_names (tk := tk) (tp := tp) (ek := ek) (ep := ep) (pos := p) H S I hL (hs.esn e1) hb hl
  show WpS G A h₀ L env ns m (exec (.Assign [.Tuple (swpTs ns is) tk tp] (.Tuple (E.ers ns es) ek ep) p) env) _ _ _ _ _ _
  rw [arm_exec_Assign]
  refine WpS.stand ?_
  have h0 : swapsWithSole [.Tuple (swpTs ns is) tk tp] (.Tuple (E.ers ns es) ek ep) p.line env = pure false := rfl
  rw [h0, sw]
  refine WpS.bind (R := fun b _ _ => b = false) (Wp.pure I rfl) fun b h₁ tk₁ N₁ ρ₁ I₁ x₁ r₁ => ?_
  subst r₁
  simp only [Bool.false_eq_true, if_false]
  have hlen : x.1.length = is.length := by have := putLocs_len e2; simpa using this
  have hz : is.length ≤ 3 := by
    unfold swpB at hb
    simp only [Bool.and_eq_true] at hb
    rcases Bool.or_eq_true_iff.mp hb.1.1.1.1 with h | h <;> (rw [Nat.eq_of_beq_eq_true h]; decide)
  have tup : Wp G A h₀ L m (eval (.Tuple (E.ers ns es) ek ep) env) x.2 (VR G (.tup (x.1.map MV.wk))) N₁ ρ₁ { s with heap := h₁, toks := tk₁ } := by
    refine st_tup (k := ek) (p := ep) hs H (S.mono x₁) I₁ ?_
    rw [e1]
    show cond (lenOk x.1.length) (some (MV.tup (x.1.map MV.wk), x.2)) none = _
    have : lenOk x.1.length = true := by rw [hlen]; exact Nat.ble_eq_true_of_le (Nat.le_trans hz (by decide))
    rw [this]; rfl
  refine WpS.bind tup fun u h₂ tk₂ N₂ ρ₂ I₂ x₂ r₂ => ?_
  refine WpS.bind (R := fun b _ _ => b = some (is.map fun p => ns.at p.1)) (Wp.pure I₂ rfl) fun b h₃ tk₃ N₃ ρ₃ I₃ x₃ r₃ => ?_
  subst r₃
  obtain ⟨t, ws, rfl, ht, hr⟩ := rv_tup (s := { s with heap := h₃, toks := tk₃ }) (r₂.mono x₃) I₃ H.X
  have hws : ws.length = is.length := by rw [hr.length, List.length_map, hlen]
  intro Q X q
  rw [assignStores_some]
  refine wpAny_bind (wpAny_rule (wpAny_bind ?_))
  have hn : (is.map fun p => ns.at p.1).length = ws.toArray.size := by simp [hws]
  rw [hn]
  refine unpackItems_tuple (s := { s with heap := h₃, toks := tk₃ }) H.hd ht fun h₄ xb => ?_
  have F₄ := I₃.F.extBut xb (Nat.le_refl _)
  have W₄ := I₃.W.extBut xb (Nat.le_refl _)
  have I₄ := I₃.grown (Nat.le_refl _) F₄ W₄
  have e3 : (is.map fun p => ns.at p.1).reverse.map (fun n => bindName env n) = is.reverse.map fun p => bindName env (ns.at p.1) := by
    rw [← List.map_reverse, List.map_map]; rfl
  rw [e3]
  refine wpAny_bind ((putLocs_ok (s := { s with heap := h₄, toks := tk₃ }) e2 H hL (S.mono ((x₁.trans x₂).trans x₃)) I₄ hr.reverse) _ _ fun _ h₅ tk₅ N₅ ρ₅ m₅ I₅ x₅ S₅ _ => ?_)
  exact wpAny_pure (q .next h₅ tk₅ N₅ ρ₅ m₅ I₅ x₅ S₅ rfl)
end
end Mine

open PySem PySem.W PyProof.Rows PySem.Calls
namespace Mine
set_option autoImplicit false
set_option backward.match.sparseCases false
set_option linter.unusedVariables false
set_option maxRecDepth 20000

/-! ## calls of the program's own functions -/
noncomputable def FsOk (G : St) (cd : Cd) (ns : Names) (i : Nat) : FS → Prop
  | .loc => cd.scope.names.lookup (ns.at i) = some .local
  | .cel => cd.scope.names.lookup (ns.at i) = some .cell
  | .glb v => cd.scope.names.lookup (ns.at i) = some .globalImplicit ∧ GlbOk G (ns.at i) v
  | .fre j => cd.scope.names.lookup (ns.at i) = some .free ∧ (ns.at i == ("__classdict__" : Str)) = false ∧ (frees cd.scope.names)[j]? = some (ns.at i)
  | .nst _ _ _ => True
  | .nid w => ns = nsAt w
  | .unk => True
structure FnOk (G : St) (cd : Cd) (ns : Names) (fn : Fn) : Prop where
  body : S.ers ns fn.body = cd.body
  kind : cd.scope.kind = .function
  co : cd.scope.isCoroutine = false
  gen : cd.scope.isGenerator = false
  nd : (ns.map (·.1)).Nodup
  ndc : (cd.scope.names.map (·.1)).Nodup
  dbg : ∀ i < ns.length, (ns.at i == ("__debug__" : Str)) = false
  len : fn.slots.length = ns.length
  slots : ∀ i f, fn.slots[i]? = some f → FsOk G cd ns i f
  cells : (∀ x ∈ cd.scope.names, x.2 ≠ .cell) ∨ ∃ j, j < fn.np ∧ fn.slots[j]? = some .cel ∧ (∀ i, fn.slots[i]? = some .cel → i = j) ∧ ∀ n, cellsFrom n cd.scope.names [] = [(ns.at j, n)]
  bind : ∀ (cl : List (Str × Addr)) (doc pm : Value) (an : Option Addr) (cdv ct : Value) (vals : List Value), vals.length = fn.np →
    bindArgs (fnX cd.name cd.qual cd.params cd.body cd.scope cl .none .none doc pm an cdv ct) ⟨vals, []⟩ = pure (((ns.take fn.np).map (·.1)).zip vals)
/-- the slot that stands for one as a function is entered -/
noncomputable def SlR (as : List MV) (cs : List Nat) (np i : Nat) (f : FS) (x : Slot) : Prop :=
  if i < np then f = .loc ∧ ∃ v, as[i]? = some v ∧ x = .loc (some v) else match f with
    | .loc => x = .loc none
    | .cel => False
    | .glb v => x = .glb v
    | .fre j => ∃ k, cs[j]? = some k ∧ x = .fre k
    | .nst i k js => x = .nst i k js
    | .nid w => x = .nid w
    | .unk => x = .unk
theorem mkSl_ok : ∀ {fs : List FS} {np : Nat} {as : List MV} {cs : List Nat} {σ σ' : List MO} {sl : List Slot}, (∀ f ∈ fs, f ≠ .cel) → mkSl np fs as cs σ = some (sl, σ') →
    σ' = σ ∧ sl.length = fs.length ∧ as.length = np ∧ np ≤ fs.length ∧ ∀ i f, fs[i]? = some f → ∃ x, sl[i]? = some x ∧ SlR as cs np i f x
  | [], np, as, cs, σ, σ', sl, hc, h => by
    cases np with
    | succ n => (first | exact (no h).elim | cases h)
    | zero =>
      cases as with
      | cons _ _ => (first | exact (no h).elim | cases h)
      | nil => (first | exact (no h).elim | cases h); exact ⟨rfl, rfl, rfl, Nat.le_refl _, fun i f e => by simp at e⟩
  | f :: fs, np, as, cs, σ, σ', sl, hc, h => by
    have hc' : ∀ g ∈ fs, g ≠ .cel := fun g hg => hc g (List.mem_cons_of_mem _ hg)
    have tail : ∀ {x : Slot} {np : Nat} {as : List MV}, ((mkSl np fs as cs σ).bind (con x)) = some (sl, σ') → ∃ sl₁, sl = x :: sl₁ ∧ mkSl np fs as cs σ = some (sl₁, σ') := fun h => by
      obtain ⟨y, e1, h⟩ := bind_some h
      (first | exact (no h).elim | cases h)
      exact ⟨y.1, rfl, e1⟩
    cases np with
    | succ n =>
      cases as with
      | nil => cases f <;> (first | exact (no h).elim | cases h)
      | cons v vs =>
        cases f with
        | loc =>
          obtain ⟨sl₁, rfl, e⟩ := tail h
          obtain ⟨g1, g2, g3, g4, g5⟩ := mkSl_ok hc' e
          refine ⟨g1, by simp [g2], by simp [g3], by simp; exact g4, fun i f e => ?_⟩
          cases i with
          | zero =>
            simp only [List.getElem?_cons_zero, Option.some.injEq] at e; subst e
            refine ⟨_, rfl, ?_⟩
            unfold SlR; rw [if_pos (Nat.succ_pos _)]; exact ⟨rfl, v, rfl, rfl⟩
          | succ i =>
            obtain ⟨x, q1, q2⟩ := g5 i f (by simpa using e)
            refine ⟨x, by simpa using q1, ?_⟩
            unfold SlR at q2 ⊢
            by_cases hi : i < n
            · rw [if_pos hi] at q2; rw [if_pos (Nat.succ_lt_succ hi)]
              obtain ⟨a, v', b, c⟩ := q2
              exact ⟨a, v', by simpa using b, c⟩
            · rw [if_neg hi] at q2; rw [if_neg (fun h => hi (Nat.lt_of_succ_lt_succ h))]; exact q2
        | _ => first | exact absurd rfl (hc _ (List.mem_cons_self ..)) | (first | exact (no h).elim | cases h)
    | zero =>
      have done : ∀ {x : Slot} {sl₁ : List Slot}, sl = x :: sl₁ → mkSl 0 fs as cs σ = some (sl₁, σ') → SlR as cs 0 0 f x → σ' = σ ∧ sl.length = (f :: fs).length ∧ as.length = 0 ∧ 0 ≤ (f :: fs).length ∧ ∀ i g, (f :: fs)[i]? = some g → ∃ x, sl[i]? = some x ∧ SlR as cs 0 i g x := by
        intro x sl₁ e e1 hx
        subst e
        obtain ⟨g1, g2, g3, g4, g5⟩ := mkSl_ok hc' e1
        refine ⟨g1, by simp [g2], g3, Nat.zero_le _, fun i g e => ?_⟩
        cases i with
        | zero => simp only [List.getElem?_cons_zero, Option.some.injEq] at e; subst e; exact ⟨_, rfl, hx⟩
        | succ i =>
          obtain ⟨x, q1, q2⟩ := g5 i g (by simpa using e)
          exact ⟨x, by simpa using q1, q2⟩
      cases f with
      | loc => obtain ⟨sl₁, e, e1⟩ := tail h; exact done e e1 rfl
      | cel => exact absurd rfl (hc _ (List.mem_cons_self ..))
      | glb v => obtain ⟨sl₁, e, e1⟩ := tail h; exact done e e1 rfl
      | fre j =>
        obtain ⟨k, e0, h⟩ := bind_some h
        obtain ⟨sl₁, e, e1⟩ := tail h
        rw [at?_eq] at e0
        exact done e e1 ⟨k, e0, rfl⟩
      | nst i k js => obtain ⟨sl₁, e, e1⟩ := tail h; exact done e e1 rfl
      | nid w => obtain ⟨sl₁, e, e1⟩ := tail h; exact done e e1 rfl
      | unk => obtain ⟨sl₁, e, e1⟩ := tail h; exact done e e1 rfl
theorem mkSl_one : ∀ {fs : List FS} {np j : Nat} {as : List MV} {cs : List Nat} {σ σ' : List MO} {sl : List Slot}, j < np → fs[j]? = some .cel → (∀ i, fs[i]? = some .cel → i = j) → mkSl np fs as cs σ = some (sl, σ') →
    ∃ sl₀ v, as[j]? = some v ∧ mkSl np (fs.set j .loc) as cs (σ ++ [.cell (some v)]) = some (sl₀, σ') ∧ sl = sl₀.set j (.cel σ.length)
  | [], np, j, as, cs, σ, σ', sl, hj, e, u, h => by simp at e
  | f :: fs, 0, j, as, cs, σ, σ', sl, hj, e, u, h => absurd hj (Nat.not_lt_zero _)
  | f :: fs, n + 1, j, [], cs, σ, σ', sl, hj, e, u, h => by cases f <;> (first | exact (no h).elim | cases h)
  | f :: fs, n + 1, 0, v :: vs, cs, σ, σ', sl, hj, e, u, h => by
    simp only [List.getElem?_cons_zero, Option.some.injEq] at e; subst e
    obtain ⟨y, e1, h⟩ := bind_some (show (mkSl n fs vs cs (σ ++ [.cell (some v)])).bind (con (.cel σ.length)) = _ from h)
    (first | exact (no h).elim | cases h)
    exact ⟨.loc (some v) :: y.1, v, rfl, by show (mkSl n fs vs cs _).bind (con (.loc (some v))) = _; rw [e1]; rfl, rfl⟩
  | f :: fs, n + 1, j + 1, v :: vs, cs, σ, σ', sl, hj, e, u, h => by
    cases f with
    | loc =>
      obtain ⟨y, e1, h⟩ := bind_some (show (mkSl n fs vs cs σ).bind (con (.loc (some v))) = _ from h)
      (first | exact (no h).elim | cases h)
      obtain ⟨sl₀, v', h1, h2, h3⟩ := mkSl_one (Nat.lt_of_succ_lt_succ hj) (by simpa using e) (fun i hi => Nat.succ_inj.mp (u (i + 1) (by simpa using hi))) (show mkSl n fs vs cs σ = some (y.1, y.2) from e1)
      exact ⟨.loc (some v) :: sl₀, v', by simpa using h1, by show (mkSl n (fs.set j .loc) vs cs _).bind (con (.loc (some v))) = _; rw [h2]; rfl, by show _ :: y.1 = _; rw [h3]; rfl⟩
    | cel => exact absurd (u 0 rfl) (Nat.succ_ne_zero _).symm
    | _ => (first | exact (no h).elim | cases h)
theorem bindL_keep {kindOf : Str → Option NameKind} : ∀ {bs : List (Str × Value)} {m : Str → Option Value} {x : Str}, (∀ b ∈ bs, b.1 ≠ x) → bindL kindOf bs m x = m x
  | [], m, x, h => rfl
  | (y, w) :: bs, m, x, h => by
    unfold bindL
    rw [bindL_keep fun b hb => h b (List.mem_cons_of_mem _ hb)]
    split
    · exact if_neg fun e => h (y, w) (List.mem_cons_self ..) e.symm
    · rfl
theorem bindL_at {kindOf : Str → Option NameKind} : ∀ {bs : List (Str × Value)} {m : Str → Option Value} {x : Str} {v : Value}, (bs.map (·.1)).Nodup → (x, v) ∈ bs → kindOf x = some .local → bindL kindOf bs m x = some v
  | [], _, _, _, _, h, _ => nomatch h
  | (y, w) :: bs, m, x, v, nd, h, hk => by
    rw [List.map_cons, List.nodup_cons] at nd
    unfold bindL
    rcases List.mem_cons.mp h with e | h
    · (first | exact (no e).elim | cases e)
      rw [bindL_keep fun b hb e => nd.1 (by rw [← e]; exact List.mem_map_of_mem (f := (·.1)) hb), if_pos hk]
      exact if_pos rfl
    · exact bindL_at nd.2 h hk
theorem bindC_keep {kindOf : Str → Option NameKind} : ∀ {bs : List (Str × Value)} {m : Str → Option Value} {x : Str}, (∀ b ∈ bs, b.1 ≠ x) → bindC kindOf bs m x = m x
  | [], m, x, h => rfl
  | (y, w) :: bs, m, x, h => by
    unfold bindC
    rw [bindC_keep fun b hb => h b (List.mem_cons_of_mem _ hb)]
    split
    · rfl
    · exact if_neg fun e => h (y, w) (List.mem_cons_self ..) e.symm
theorem bindC_at {kindOf : Str → Option NameKind} : ∀ {bs : List (Str × Value)} {m : Str → Option Value} {x : Str} {v : Value}, (bs.map (·.1)).Nodup → (x, v) ∈ bs → kindOf x = some .cell → bindC kindOf bs m x = some v
  | [], _, _, _, _, h, _ => nomatch h
  | (y, w) :: bs, m, x, v, nd, h, hk => by
    rw [List.map_cons, List.nodup_cons] at nd
    unfold bindC
    rcases List.mem_cons.mp h with e | h
    · (first | exact (no e).elim | cases e)
      rw [bindC_keep fun b hb e => nd.1 (by rw [← e]; exact List.mem_map_of_mem (f := (·.1)) hb), if_neg (by rw [hk]; simp)]
      exact if_pos rfl
    · exact bindC_at nd.2 h hk
theorem lookup_gen {β : Type} : ∀ {l : List (Str × β)} {x : Str} {b : β}, (l.map (·.1)).Nodup → (x, b) ∈ l → l.lookup x = some b
  | [], _, _, _, h => nomatch h
  | (y, c) :: l, x, b, nd, h => by
    rw [List.map_cons, List.nodup_cons] at nd
    rcases List.mem_cons.mp h with e | h
    · (first | exact (no e).elim | cases e); rw [List.lookup_cons, beq_self_eq_true]
    · have : (x == y) = false := by
        rw [beq_eq_false_iff_ne]
        intro e
        exact nd.1 (e ▸ List.mem_map_of_mem (f := (·.1)) h)
      rw [List.lookup_cons, this]
      exact lookup_gen nd.2 h

section
variable {G : St} {CT : List Cl} {GV : List (Option MV)} {r : Rec} {n : Nat} {A : Around} {env : Env} {h₀ : Heap} {L : Addr} {ns : Names} {m : Str → Option Value} {N : Led} {ρ : Rho} {s : Shared} {sl sl' : List Slot} {σ σ' : List MO} {v : MV}

theorem callFn_ok (hs : Sound G r n) {cd : Cd} {fn : Fn} (F : FnOk G cd ns fn) (nocel : ∀ g ∈ fn.slots, g ≠ .cel) (cells : ∀ x ∈ cd.scope.names, x.2 ≠ .cell) {as : List MV} {cs : List Nat} {vs : List Value} {f : Addr} {fo : Obj} {cl : List (Str × Addr)} {doc pm cdv ct : Value} {an : Option Addr}
    (H : EnvOk G A env h₀ L (n + 1)) (I : Inv G h₀ L m N ρ σ s.heap s.toks) (ho : s.heap.get? f = some fo) (hd : fo.data = .func (fnX cd.name cd.qual cd.params cd.body cd.scope cl .none .none doc pm an cdv ct)) (hcd : s.heap.CodeRec cdv cd.qual)
    (hcl : ∀ (i : Nat) (c : Str × Addr), cl[i]? = some c → ∃ k, cs[i]? = some k ∧ ρ.l[k]? = some (c.2, c.2)) (hcn : cl.map (·.1) = frees cd.scope.names ∨ ∀ j, FS.fre j ∉ fn.slots)
    (nest : ∀ i k js, FS.nst i k js ∈ fn.slots → ∀ L', NestOk G (envX cd.qual cd.scope L' f cdv cl) ns i k js) (hvs : RVs G N ρ vs as) (h : callFn r fn as cs σ = some (v, σ')) (P : Result → Shared → Prop)
    (k : ∀ u h' tk N' ρ', Inv G h₀ L m N' ρ' σ' h' tk → Ext G N ρ N' ρ' → RV G N' ρ' u v → P (.ok (.ret u)) { s with heap := h', toks := tk }) :
    codeAny (model G.prog G.w) A (.call (.ref f) ⟨vs, []⟩) P s := by
  unfold callFn at h
  obtain ⟨x, e1, h⟩ := bind_some h
  obtain ⟨y, e2, h⟩ := bind_some h
  obtain ⟨sl, σ₁⟩ := x
  obtain ⟨f1, sl₂, σ₂⟩ := y
  obtain ⟨q1, q2, q3, q4, q5⟩ := mkSl_ok nocel e1
  subst q1
  obtain ⟨A₀, base, outer, fe, B, hA, hf, hke⟩ := H.B
  have hlen : vs.length = fn.np := by rw [hvs.length, q3]
  have hnd : (((ns.take fn.np).map (·.1)).zip vs |>.map (·.1)).Nodup := by
    rw [List.map_fst_zip (by simp [hlen]; exact Nat.min_le_left _ _)]
    rw [List.map_take]
    exact (List.take_sublist _ _).nodup F.nd
  have mem : ∀ i u, i < fn.np → vs[i]? = some u → (ns.at i, u) ∈ ((ns.take fn.np).map (·.1)).zip vs := fun i u hi hu => by
    refine List.mem_of_getElem? (i := i) ?_
    have hin : i < ns.length := by rw [← F.len]; omega
    rw [List.getElem?_zip_eq_some]
    refine ⟨?_, hu⟩
    rw [List.map_take, List.getElem?_take, if_pos hi]
    unfold Names.at
    rw [List.getD_eq_getElem?_getD, List.getElem?_eq_getElem (by simpa using hin)]; rfl
  refine callX_plain (cl := cl) B I.F I.W H.lim hA hf hke ho hd hcd (Nat.lt_of_le_of_lt (by omega) H.dep) (BindsTo.of_eq (F.bind cl doc pm an cdv ct vs hlen)) (fun z hz => ?_) (fun g L' h₁ FG F' W' B' st lt => ?_) cells F.co F.gen F.kind
  · obtain ⟨i, hi⟩ := List.mem_iff_getElem?.mp hz
    rw [List.getElem?_zip_eq_some] at hi
    obtain ⟨hi1, hi2⟩ := hi
    have hin : i < fn.np := by rw [← hlen]; exact lenOk_of hi2
    have hin2 : i < fn.slots.length := by omega
    obtain ⟨x, w1, w2⟩ := q5 i _ (List.getElem?_eq_getElem hin2)
    unfold SlR at w2
    rw [if_pos hin] at w2
    have fs := F.slots i _ (List.getElem?_eq_getElem hin2)
    rw [w2.1] at fs
    have : ns.at i = z.1 := by
      unfold Names.at
      rw [List.map_take, List.getElem?_take, if_pos hin] at hi1
      rw [List.getD_eq_getElem?_getD, hi1]; rfl
    rw [← this]; exact fs
  · have T' : ∃ p loose mean mg mb, Top p loose mean mg mb g := let ⟨p, loose, mean, mg, mb, T⟩ := H.T; ⟨p, loose, mean, mg, mb, T.keeps st⟩
    have H' : EnvOk G (A.deeper (envX cd.qual cd.scope L' f cdv cl)) (envX cd.qual cd.scope L' f cdv cl) g L' n :=
      { kind := F.kind, gl := rfl, bi := rfl, fr := rfl, X := H.X.keeps st, T := T', hd := H.hd,
        B := ⟨A, base, fe :: outer, envX cd.qual cd.scope L' f cdv cl, B', Around.frames_deeper B'.stack, rfl, F.kind⟩,
        tabs := fun t ht => (H.tabs t ht).keeps st,
        bls := fun p hp => let ⟨o, ho, r⟩ := H.bls p hp; ⟨o, st _ _ ho, r⟩,
        dep := by have := H.dep; show A.depth + 1 + n < _; omega,
        uni := by have := H.uni; show A.units + 3 + 8 * n + 100 < _; omega }
    have I' : Inv G g L' (fun y => (((ns.take fn.np).map (·.1)).zip vs).reverse.lookup y) N ρ σ₁ h₁ (s.toks + (((ns.take fn.np).map (·.1)).zip vs).length) := ⟨F', W', I.nd, I.len, I.ap, I.so, I.tb, I.bk.mono (Nat.le_add_right _ _), I.fz⟩
    have S' : Slots G L' (envX cd.qual cd.scope L' f cdv cl) ns (fun y => (((ns.take fn.np).map (·.1)).zip vs).reverse.lookup y) N ρ sl := by
      refine ⟨by rw [q2, F.len], F.nd, F.dbg, fun i x e => ?_⟩
      have hi : i < fn.slots.length := by rw [← q2]; exact lenOk_of e
      obtain ⟨x', w1, w2⟩ := q5 i _ (List.getElem?_eq_getElem hi)
      rw [e] at w1; cases w1
      have fs := F.slots i _ (List.getElem?_eq_getElem hi)
      have hmem := List.getElem_mem hi
      generalize fn.slots[i] = d at w2 fs hmem
      unfold SlR at w2
      by_cases hin : i < fn.np
      · rw [if_pos hin] at w2
        obtain ⟨rfl, u, hu, rfl⟩ := w2
        obtain ⟨uv, hv, rv⟩ := hvs.at hu
        refine .locS rfl fs ?_ rv
        refine lookup_gen ?_ (List.mem_reverse.mpr (mem i uv hin hv))
        rw [List.map_reverse]
        exact (List.reverse_perm _).nodup_iff.mpr hnd
      · rw [if_neg hin] at w2
        cases d with
        | loc => subst w2; exact .locN rfl fs
        | cel => exact w2.elim
        | glb w => subst w2; exact .glb fs.1 fs.2
        | fre j =>
          obtain ⟨kk, hk, rfl⟩ := w2
          obtain ⟨f1, f2, f3⟩ := fs
          rcases hcn with hcn | hcn
          · rw [← hcn, List.getElem?_map] at f3
            cases hj : cl[j]? with
            | none => rw [hj] at f3; cases f3
            | some c =>
              rw [hj] at f3
              have hc1 : c.1 = ns.at i := Option.some.inj f3
              obtain ⟨k', g1, g2⟩ := hcl j c hj
              rw [hk] at g1; cases g1
              refine .fre (c := c.2) (.inr ⟨f1, f2⟩) ?_ g2
              have ndc : (cl.map (·.1)).Nodup := by
                rw [hcn]; unfold frees
                exact (List.filter_sublist.map _).nodup F.ndc
              exact lookup_gen ndc (by rw [← hc1]; exact List.mem_of_getElem? hj)
          · exact absurd hmem (hcn j)
        | nst i' k' js => subst w2; exact .nst (nest i' k' js hmem L')
        | nid w => subst w2; exact .nid fs
        | unk => subst w2; exact .unk
    have run := hs.ss (s := { s with heap := h₁, toks := s.toks + (((ns.take fn.np).map (·.1)).zip vs).length }) H' rfl S' I' e2
    rw [F.body] at run
    refine run _ _ fun fl h₂ tk₂ N₂ ρ₂ m₂ I₂ x₂ S₂ r₂ => ?_
    have fin : ∀ u, RV G N₂ ρ₂ u v → σ₂ = σ' → LeaveK h₀ L m g P u { s with heap := h₂, toks := tk₂ } := fun u ru e => by
      subst e
      exact leaveK_ I₂.F I₂.W fun F₃ W₃ => k u h₂ tk₂ N₂ ρ₂ ⟨F₃, W₃, I₂.nd, I₂.len, I₂.ap, I₂.so, I₂.tb, I₂.bk, I₂.fz⟩ x₂ ru
    unfold retN at h
    cases f1 with
    | next =>
      (first | exact (no h).elim | cases h)
      rw [show fl = .next from r₂]
      exact fin _ .none rfl
    | brk => (first | exact (no h).elim | cases h)
    | ret w =>
      (first | exact (no h).elim | cases h)
      obtain ⟨u, rfl, ru⟩ := r₂
      exact fin u ru rfl
/-- a call of one whose parameter is a cell -/
theorem callFn_okC (hs : Sound G r n) {cd : Cd} {fn : Fn} (F : FnOk G cd ns fn) {j : Nat} (hj : j < fn.np) (hjc : fn.slots[j]? = some .cel) (hju : ∀ i, fn.slots[i]? = some .cel → i = j) (hcf : ∀ n, cellsFrom n cd.scope.names [] = [(ns.at j, n)])
    {as : List MV} {vs : List Value} {f : Addr} {fo : Obj} {doc pm cdv ct : Value} {an : Option Addr}
    (H : EnvOk G A env h₀ L (n + 1)) (I : Inv G h₀ L m N ρ σ s.heap s.toks) (ho : s.heap.get? f = some fo) (hd : fo.data = .func (fnX cd.name cd.qual cd.params cd.body cd.scope [] .none .none doc pm an cdv ct)) (hcd : s.heap.CodeRec cdv cd.qual)
    (hcn : ∀ j, FS.fre j ∉ fn.slots)
    (nest : ∀ i k js, FS.nst i k js ∈ fn.slots → ∀ L', NestOk G (envOfC cd.qual cd.scope L' f cdv) ns i k js) (hvs : RVs G N ρ vs as) (h : callFn r fn as [] σ = some (v, σ')) (P : Result → Shared → Prop)
    (k : ∀ u h' tk N' ρ', Inv G h₀ L m N' ρ' σ' h' tk → Ext G N ρ N' ρ' → RV G N' ρ' u v → P (.ok (.ret u)) { s with heap := h', toks := tk }) :
    codeAny (model G.prog G.w) A (.call (.ref f) ⟨vs, []⟩) P s := by
  unfold callFn at h
  obtain ⟨x, e1, h⟩ := bind_some h
  obtain ⟨y, e2, h⟩ := bind_some h
  obtain ⟨sl, σ₁⟩ := x
  obtain ⟨f1, sl₂, σ₂⟩ := y
  obtain ⟨sl₀, cv, ej, e0, rfl⟩ := mkSl_one hj hjc hju e1
  have nocel : ∀ g ∈ fn.slots.set j .loc, g ≠ .cel := fun g hg e => by
    subst e
    obtain ⟨i, hi⟩ := List.mem_iff_getElem?.mp hg
    rw [List.getElem?_set] at hi
    split at hi
    · split at hi <;> cases hi
    · rename_i hne
      exact hne (hju i hi).symm
  obtain ⟨q1, q2, q3, q4, q5⟩ := mkSl_ok nocel e0
  subst q1
  rw [List.length_set] at q2 q4
  obtain ⟨A₀, base, outer, fe, B, hA, hf, hke⟩ := H.B
  have hlen : vs.length = fn.np := by rw [hvs.length, q3]
  have hnd : (((ns.take fn.np).map (·.1)).zip vs |>.map (·.1)).Nodup := by
    rw [List.map_fst_zip (by simp [hlen]; exact Nat.min_le_left _ _)]
    rw [List.map_take]
    exact (List.take_sublist _ _).nodup F.nd
  have mem : ∀ i u, i < fn.np → vs[i]? = some u → (ns.at i, u) ∈ ((ns.take fn.np).map (·.1)).zip vs := fun i u hi hu => by
    refine List.mem_of_getElem? (i := i) ?_
    have hin : i < ns.length := by rw [← F.len]; omega
    rw [List.getElem?_zip_eq_some]
    refine ⟨?_, hu⟩
    rw [List.map_take, List.getElem?_take, if_pos hi]
    unfold Names.at
    rw [List.getD_eq_getElem?_getD, List.getElem?_eq_getElem (by simpa using hin)]; rfl
  have inb : ∀ z ∈ ((ns.take fn.np).map (·.1)).zip vs, ∃ i, i < fn.np ∧ z.1 = ns.at i := fun z hz => by
    obtain ⟨i, hi⟩ := List.mem_iff_getElem?.mp hz
    rw [List.getElem?_zip_eq_some] at hi
    obtain ⟨hi1, hi2⟩ := hi
    have hin : i < fn.np := by rw [← hlen]; exact lenOk_of hi2
    refine ⟨i, hin, ?_⟩
    unfold Names.at
    rw [List.map_take, List.getElem?_take, if_pos hin] at hi1
    rw [List.getD_eq_getElem?_getD, hi1]; rfl
  have hcell : cd.scope.names.lookup (ns.at j) = some .cell := F.slots j _ hjc
  have hloc : ∀ i, i < fn.np → i ≠ j → cd.scope.names.lookup (ns.at i) = some .local := fun i hi hne => by
    have hin2 : i < (fn.slots.set j .loc).length := by rw [List.length_set]; omega
    obtain ⟨x, w1, w2⟩ := q5 i _ (List.getElem?_eq_getElem hin2)
    unfold SlR at w2
    rw [if_pos hi] at w2
    have hin3 : i < fn.slots.length := by omega
    have e : fn.slots[i]? = some .loc := by
      have := w2.1
      rw [List.getElem_set_ne hne.symm] at this
      rw [List.getElem?_eq_getElem hin3, this]
    exact F.slots i _ e
  obtain ⟨FG, BG, st, lv⟩ := groundX (R := P) B I.F I.W hA hf hke
  refine codeAny_call_function (Nat.lt_of_le_of_lt (by omega) H.dep) ho hd F.co F.gen rfl hcd (BindsTo.of_eq (F.bind [] doc pm an cdv ct vs hlen) _ _ _ _ ?_)
  refine toksUp (wpAny_newFunctionEnv_cells F.kind (fun z hz => ?_) fun env' he s' x le => ?_)
  · obtain ⟨i, hi, e⟩ := inb z hz
    rw [e]
    by_cases hij : i = j
    · subst hij
      refine .inr ⟨hcell, ?_⟩
      rw [hcf, List.lookup_cons, beq_self_eq_true]; rfl
    · exact .inl (hloc i hi hij)
  subst he
  refine ⟨(H.lim.keeps I.F.keep).keeps x.toInCall.keep, codeAny_func ?_⟩
  obtain ⟨h₁, tk, rfl, _⟩ := x.done
  have hk₁ := x.toInCall.keep
  have hcs : cellsFrom (s.heap.objs.size + 1) cd.scope.names [] = [(ns.at j, s.heap.objs.size + 1)] := hcf _
  obtain ⟨cells, NC, Y⟩ := Cl.news (h₀ := s.heap) (Nat.le_refl _) (cs := cellsFrom (s.heap.objs.size + 1) cd.scope.names []) fun n c hm => by
    rw [hcs] at hm
    have hm := List.mem_singleton.mp hm
    cases hm
    exact ⟨x.cell _ _ (by show (cellsFrom (s.heap.objs.size + 1) cd.scope.names []).lookup _ = _; rw [hcs, List.lookup_cons, beq_self_eq_true]), Nat.lt_succ_self _⟩
  rw [hcs] at Y
  obtain ⟨o, rfl, hod⟩ := Y.one
  have kd : ∀ y, (envOfC cd.qual cd.scope s.heap.objs.size f cdv).kindOf y = cd.scope.names.lookup y := fun y => rfl
  have cl : (envOfC cd.qual cd.scope s.heap.objs.size f cdv).cells = [(ns.at j, s.heap.objs.size + 1)] := hcs
  obtain ⟨cu, hcu, rcu⟩ := hvs.at ej
  have hodv : o.data = .cell (some cu) := by rw [hod]; exact congrArg _ (bindC_at hnd (mem j cu hj hcu) ((kd _).trans hcell))
  have FrL : Fr (hideAll s.heap (N.map (·.1))) s.heap.objs.size h₁ (bindL (envOfC cd.qual cd.scope s.heap.objs.size f cdv).kindOf (((ns.take fn.np).map (·.1)).zip vs) fun _ => none) :=
    ⟨x.toInCall.ns, fun b o e => hk₁ b o (of_hideAll _ e), Nat.le_of_eq (hideAll_size _ _)⟩
  have WN : News (hideAll s.heap (N.map (·.1))) s.heap.objs.size h₁ N := fun p hp => ⟨hk₁ _ _ (I.W p hp).1, Nat.ne_of_lt (Heap.lt_size (I.W p hp).1), hideAll_none _ (List.mem_map_of_mem hp)⟩
  have WC : News (hideAll s.heap (N.map (·.1))) s.heap.objs.size h₁ ((s.heap.objs.size + 1, o) :: N) := fun p hp => by
    rcases List.mem_cons.mp hp with rfl | hp
    · have c := NC (s.heap.objs.size + 1, o) (List.mem_singleton.mpr rfl)
      refine ⟨c.1, c.2.1, ?_⟩
      cases q : (hideAll s.heap (N.map (·.1))).get? (s.heap.objs.size + 1) with
      | none => rfl
      | some o => have := of_hideAll _ q; rw [c.2.2] at this; cases this
    · exact WN p hp
  have I₀ : Inv G (hideAll s.heap (N.map (·.1))) s.heap.objs.size (bindL (envOfC cd.qual cd.scope s.heap.objs.size f cdv).kindOf (((ns.take fn.np).map (·.1)).zip vs) fun _ => none) N ρ σ h₁ tk :=
    ⟨FrL, WN, I.nd, I.len, I.ap, I.so, I.tb, I.bk.mono le, I.fz⟩
  have fr : Fresh N (s.heap.objs.size + 1) := fun p hp e => by
    have := Heap.lt_size (I.W p hp).1
    rw [e] at this
    exact Nat.lt_irrefl _ (Nat.lt_of_succ_lt this)
  obtain ⟨I', x₁, rc⟩ := alloc1 (s := { s with heap := h₁, toks := tk }) (mo := .cell (some cv)) I₀ (Nat.le_refl _) FrL WC fr (fun ρ' x => .cell (List.mem_cons_self ..) hodv (.some (rcu.mono x)))
  have T' : ∃ p loose mean mg mb, Top p loose mean mg mb (hideAll s.heap (N.map (·.1))) := let ⟨p, loose, mean, mg, mb, T⟩ := H.T; ⟨p, loose, mean, mg, mb, T.keeps st⟩
  have H' : EnvOk G (A.deeper (envOfC cd.qual cd.scope s.heap.objs.size f cdv)) (envOfC cd.qual cd.scope s.heap.objs.size f cdv) (hideAll s.heap (N.map (·.1))) s.heap.objs.size n :=
    { kind := F.kind, gl := rfl, bi := rfl, fr := rfl, X := H.X.keeps st, T := T', hd := H.hd,
      B := ⟨A, base, fe :: outer, envOfC cd.qual cd.scope s.heap.objs.size f cdv, BG, Around.frames_deeper BG.stack, rfl, F.kind⟩,
      tabs := fun t ht => (H.tabs t ht).keeps st,
      bls := fun p hp => let ⟨o, ho, r⟩ := H.bls p hp; ⟨o, st _ _ ho, r⟩,
      dep := by have := H.dep; show A.depth + 1 + n < _; omega,
      uni := by have := H.uni; show A.units + 3 + 8 * n + 100 < _; omega }
  have S' : Slots G s.heap.objs.size (envOfC cd.qual cd.scope s.heap.objs.size f cdv) ns (bindL (envOfC cd.qual cd.scope s.heap.objs.size f cdv).kindOf (((ns.take fn.np).map (·.1)).zip vs) fun _ => none) ((s.heap.objs.size + 1, o) :: N) (ρ.add (s.heap.objs.size + 1, s.heap.objs.size + 1)) (sl₀.set j (.cel σ.length)) := by
    refine ⟨by rw [List.length_set, q2, F.len], F.nd, F.dbg, fun i x e => ?_⟩
    rw [List.getElem?_set] at e
    split at e
    · rename_i hij
      subst hij
      split at e
      · (first | exact (no e).elim | cases e)
        refine .cel (c := s.heap.objs.size + 1) ((kd _).trans hcell) (by rw [cl, List.lookup_cons, beq_self_eq_true]) ?_
        rw [← I.len]; simp [Rho.app]
      · (first | exact (no e).elim | cases e)
    · rename_i hij
      have hi : i < fn.slots.length := by rw [← q2]; exact lenOk_of e
      obtain ⟨x', w1, w2⟩ := q5 i fn.slots[i] (by rw [List.getElem?_set_ne hij, List.getElem?_eq_getElem hi])
      rw [e] at w1; cases w1
      have fs := F.slots i _ (List.getElem?_eq_getElem hi)
      have hmem := List.getElem_mem hi
      generalize fn.slots[i] = d at w2 fs hmem
      unfold SlR at w2
      by_cases hin : i < fn.np
      · rw [if_pos hin] at w2
        obtain ⟨rfl, u, hu, rfl⟩ := w2
        obtain ⟨uv, hv, rv⟩ := hvs.at hu
        exact .locS rfl ((kd _).trans fs) (bindL_at hnd (mem i uv hin hv) ((kd _).trans fs)) (rv.mono x₁)
      · rw [if_neg hin] at w2
        cases d with
        | loc => subst w2; exact .locN rfl ((kd _).trans fs)
        | cel => exact w2.elim
        | glb w => subst w2; exact .glb ((kd _).trans fs.1) fs.2
        | fre j => exact absurd hmem (hcn j)
        | nst i' k' js => subst w2; exact .nst (nest i' k' js hmem _)
        | nid w => subst w2; exact .nid fs
        | unk => subst w2; exact .unk
  have run := hs.ss (s := { s with heap := h₁, toks := tk }) H' rfl S' I' e2
  rw [F.body] at run
  refine wpAny_mono (run _ _ fun fl h₂ tk₂ N₂ ρ₂ m₂ I₂ x₂ S₂ r₂ => ?_) (fun fl s' hl => lv _ _ hl) fun _ _ y => y
  have fin : ∀ u, RV G N₂ ρ₂ u v → σ₂ = σ' → LeaveK h₀ L m (hideAll s.heap (N.map (·.1))) P u { s with heap := h₂, toks := tk₂ } := fun u ru e => by
    subst e
    exact leaveK_ I₂.F I₂.W fun F₃ W₃ => k u h₂ tk₂ N₂ ρ₂ ⟨F₃, W₃, I₂.nd, I₂.len, I₂.ap, I₂.so, I₂.tb, I₂.bk, I₂.fz⟩ (x₁.trans x₂) ru
  unfold retN at h
  cases f1 with
  | next =>
    (first | exact (no h).elim | cases h)
    rw [show fl = .next from r₂]
    exact fin _ .none rfl
  | brk => (first | exact (no h).elim | cases h)
  | ret w =>
    (first | exact (no h).elim | cases h)
    obtain ⟨u, rfl, ru⟩ := r₂
    exact fin u ru rfl
end
end Mine

open PySem PySem.W PyProof.Rows PySem.Calls
namespace Mine
set_option autoImplicit false
set_option backward.match.sparseCases false
set_option linter.unusedVariables false
set_option maxRecDepth 20000

/-- answers that were had before -/
noncomputable def MemoOk (G : St) (mm : Nat → List MV → List MO → Option ((MV × List MO) × Nat)) : Prop := ∀ k as σ p, mm k as σ = some p → keepIn G.K (.ref (G.FA k)) = true ∧
  ∀ {A : Around} {env : Env} {h₀ : Heap} {L : Addr} {m : Str → Option Value} {N : Led} {ρ : Rho} {s : Shared} {vs : List Value}, EnvOk G A env h₀ L p.2 → Inv G h₀ L m N ρ σ s.heap s.toks → RVs G N ρ vs as →
    ∀ (P : Result → Shared → Prop), (∀ u h' tk N' ρ', Inv G h₀ L m N' ρ' p.1.2 h' tk → Ext G N ρ N' ρ' → RV G N' ρ' u p.1.1 → P (.ok (.ret u)) { s with heap := h', toks := tk }) → codeAny (model G.prog G.w) A (.call (.ref (G.FA k)) ⟨vs, []⟩) P s
structure FnAt1 (G : St) (k : Nat) (fn : Fn) (cd : Cd) (ns : Names) (oc : Value) (od : Option Addr) (osl : Array (Option Value)) (doc pm : Value) (an : Option Addr) (cdv ct : Value) : Prop where
  ok : FnOk G cd ns fn
  at_ : G.K.lookup (G.FA k) = some ⟨oc, od, .func (fnX cd.name cd.qual cd.params cd.body cd.scope [] .none .none doc pm an cdv ct), osl⟩
  code : codeIn G.K cdv cd.qual = true
  fre : ∀ j, FS.fre j ∉ fn.slots
  nst : ∀ i k' js, FS.nst i k' js ∈ fn.slots → ∀ L', NestOk G (envX cd.qual cd.scope L' (G.FA k) cdv (cellsFrom (L' + 1) cd.scope.names [])) ns i k' js
  keep : keepIn G.K (.ref (G.FA k)) = true
structure Static (G : St) (FT NF : List Fn) (CT : List Cl) (GV : List (Option MV)) : Prop where
  hT : (G.TB.map (·.P)).Nodup
  hC : ClsAll G CT
  hG : GvOk G GV
  fn : ∀ k fn, at? FT k = some fn → ∃ cd ns oc od osl doc pm an cdv ct, FnAt1 G k fn cd ns oc od osl doc pm an cdv ct
  nf : ∀ k fn, at? NF k = some fn → (∃ ns, FnOk G (cdAt k) ns fn) ∧ (∀ i k' js, FS.nst i k' js ∉ fn.slots) ∧ (∀ g ∈ fn.slots, g ≠ .cel) ∧ ∀ x ∈ (cdAt k).scope.names, x.2 ≠ .cell
  cls : ∀ k c, at? CT k = some c → keepIn G.K (.ref (G.CA k)) = true

section
variable {G : St} {FT NF : List Fn} {CT : List Cl} {GV : List (Option MV)} {mm : Nat → List MV → List MO → Option ((MV × List MO) × Nat)} {r : Rec} {n : Nat} {A : Around} {env : Env} {h₀ : Heap} {L : Addr} {ns : Names} {m : Str → Option Value} {N : Led} {ρ : Rho} {s : Shared} {sl sl' : List Slot} {σ σ' : List MO} {v : MV}

theorem cellsFrom_none : ∀ {names : Names} {n : Nat}, (∀ x ∈ names, x.2 ≠ .cell) → cellsFrom n names [] = []
  | [], n, h => rfl
  | (x, k) :: names, n, h => by
    unfold cellsFrom
    rw [if_neg (by have := h (x, k) (List.mem_cons_self ..); simpa using this)]
    exact cellsFrom_none fun y hy => h y (List.mem_cons_of_mem _ hy)
theorem st_callF (Z : Static G FT NF CT GV) (hM : MemoOk G mm) (hs : Sound G r n) {k : Nat} {as : List MV} {vs : List Value} (H : EnvOk G A env h₀ L (n + 1)) (I : Inv G h₀ L m N ρ σ s.heap s.toks) (hvs : RVs G N ρ vs as) (h : callK FT r k as σ (mm k as σ) = some (v, σ')) (P : Result → Shared → Prop)
    (q : ∀ u h' tk N' ρ', Inv G h₀ L m N' ρ' σ' h' tk → Ext G N ρ N' ρ' → RV G N' ρ' u v → P (.ok (.ret u)) { s with heap := h', toks := tk }) : codeAny (model G.prog G.w) A (.call (.ref (G.FA k)) ⟨vs, []⟩) P s := by
  cases hm : mm k as σ with
  | some p =>
    rw [hm] at h
    simp only [callK, memoN] at h
    obtain ⟨hb, h⟩ := cond_some h
    obtain ⟨⟨pv, pσ⟩, pn⟩ := p
    (first | exact (no h).elim | cases h)
    have hb := Nat.le_of_ble_eq_true hb
    rw [hs.num] at hb
    exact (hM k as σ _ hm).2 (H.le (Nat.le_succ_of_le hb)) I hvs P q
  | none =>
    rw [hm] at h
    simp only [callK] at h
    obtain ⟨fn, e1, h⟩ := bind_some h
    obtain ⟨cd, ns, oc, od, osl, doc, pm, an, cdv, ct, F⟩ := Z.fn k fn e1
    have ho := I.F.keep _ _ (H.X _ _ F.at_)
    rcases F.ok.cells with hc | ⟨j, c1, c2, c3, c4⟩
    · refine callFn_ok (cl := []) hs F.ok (fun g hg e => ?_) hc H I ho rfl ((codeRec_of H.X F.code).keeps I.F.keep) (fun i c e => by simp at e) (.inr F.fre) (fun i k' js hm L' => ?_) hvs h P q
      · subst e
        obtain ⟨i, hi⟩ := List.mem_iff_getElem?.mp hg
        have := mem_of_lookup (F.ok.slots i _ hi)
        exact hc _ this rfl
      · have := F.nst i k' js hm L'
        rwa [cellsFrom_none hc] at this
    · exact callFn_okC hs F.ok c1 c2 c3 c4 H I ho rfl ((codeRec_of H.X F.code).keeps I.F.keep) F.fre F.nst hvs h P q
theorem st_call1 (Z : Static G FT NF CT GV) (hM : MemoOk G mm) (hs : Sound G r n) {f : MV} {as : List MV} {vf : Value} {vs : List Value} (H : EnvOk G A env h₀ L (n + 1)) (I : Inv G h₀ L m N ρ σ s.heap s.toks) (hf : RV G N ρ vf f) (hvs : RVs G N ρ vs as) (h : stepCall FT NF CT mm r f as σ = some (v, σ')) :
    Wp G A h₀ L m (call vf vs) σ' (VR G v) N ρ s := by
  cases f <;> try ((first | exact (no h).elim | cases h); done)
  · -- fn
    (first | obtain ⟨_, rfl⟩ := hf.inv | obtain rfl := hf.inv | cases hf)
    exact fun Q E q => wpAny_call (st_callF Z hM hs H I hvs h _ fun u h' tk N' ρ' I' x' r' => q u h' tk N' ρ' I' x' r')
  · -- cls
    rename_i k
    (first | obtain ⟨_, rfl⟩ := hf.inv | obtain rfl := hf.inv | cases hf)
    simp only [stepCall] at h
    obtain ⟨c, e1, h⟩ := bind_some h
    unfold callCl at h
    obtain ⟨fi, e2, h⟩ := bind_some h
    obtain ⟨y, e3, h⟩ := bind_some h
    have C := Z.hC.ok k c e1
    obtain ⟨g1, g2, g3⟩ := C.make fi e2
    intro Q E q
    refine wpAny_call (make_K I.F I.W (H.X.keeps I.F.keep) g1 g2 g3 fun x dx h' F' W' lt1 lt2 => ?_)
    have fr1 : Fresh N dx := .lt lt1
    have fr2 : Fresh N x := .lt fun z hz => Nat.lt_trans (lt1 z hz) lt2
    have J := I.alloc (Nat.le_refl _) (new := [(x, instObj (G.CA k) dx), (dx, emptyDict)]) (p := (x, dx)) (mo := .inst k []) F' (by simpa using W') (by simp; exact Nat.ne_of_gt lt2) (fun z hz => by
      rcases List.mem_cons.mp hz with rfl | hz
      · exact fr2
      · rw [List.mem_singleton.mp hz]; exact fr1) fr2 fr1 (fun ρ' x' => .inst (n := 0) (by simp) (List.mem_append_left _ (List.mem_cons_of_mem _ (List.mem_singleton.mpr rfl))) .nil)
    have H' : EnvOk G (A.under (.builtin "type.__call__" ⟨.ref (G.CA k) :: vs, []⟩)) env h₀ L n :=
      { kind := H.kind, gl := H.gl, bi := H.bi, fr := H.fr, X := H.X, T := H.T, hd := H.hd, B := H.B, tabs := H.tabs, bls := H.bls,
        dep := by have := H.dep; show A.depth + 1 + n < _; omega,
        uni := by have := H.uni; show A.units + 1 + 8 * n + 100 < _; omega }
    refine hs.callF (s := { s with heap := h' }) H' J.1 (.cons (.ref (p := (x, dx)) (by rw [← I.len]; simp [Rho.app])) (hvs.mono J.2)) e3 _ fun u h₂ tk₂ N₂ ρ₂ I₂ x₂ r₂ => ?_
    unfold iniN at h
    split at h
    · rename_i hn
      (first | exact (no h).elim | cases h)
      rw [hn] at r₂
      (first | obtain ⟨_, rfl⟩ := r₂.inv | obtain rfl := r₂.inv | cases r₂)
      refine ⟨rfl, q _ h₂ tk₂ N₂ ρ₂ I₂ (J.2.trans x₂) (.ref (p := (x, dx)) (x₂.get (by rw [← I.len]; simp [Rho.app])))⟩
    · (first | exact (no h).elim | cases h)
  · -- bi
    rename_i b
    have : vf = biV b := by (first | obtain ⟨_, rfl⟩ := hf.inv | obtain rfl := hf.inv | cases hf); rfl
    subst this
    exact biCall_ok Z.hC H.lim h hvs I H.X H.hd
  · -- clo
    rename_i k cs
    simp only [stepCall] at h
    obtain ⟨fn, e1, h⟩ := bind_some h
    obtain ⟨⟨ns, F⟩, hnst, hnc, hcl⟩ := Z.nf k fn e1
    cases hf with | clo h1 h2 h3 h4 h5 h6 h7 h9 h8 =>
    exact fun Q E q => wpAny_call (callFn_ok hs F hnc hcl H I (I.W _ h1).1 rfl (codeRec_news I.W h3 h5 h6) h8 (.inl h9) (fun i k' js hm => absurd hm (hnst i k' js)) hvs h _ fun u h' tk N' ρ' I' x' r' => q u h' tk N' ρ' I' x' r')
theorem st_keep (Z : Static G FT NF CT GV) (hM : MemoOk G mm) {f : MV} {as : List MV} {vf : Value} {y : MV × List MO} (H : EnvOk G A env h₀ L n) (I : Inv G h₀ L m N ρ σ' s.heap s.toks) (hf : RV G N ρ vf f) (h : stepCall FT NF CT mm r f as σ = some y) :
    ∃ k, (k = Keeper.frame ∨ k = Keeper.machine ∨ k = Keeper.boundFrame) ∧ Looks (model G.prog G.w) s.heap (keeperOf vf) k := by
  have X := H.X.keeps I.F.keep
  cases f <;> try ((first | exact (no h).elim | cases h); done)
  · rename_i k
    (first | obtain ⟨_, rfl⟩ := hf.inv | obtain rfl := hf.inv | cases hf)
    simp only [stepCall] at h
    cases hm : mm k as σ with
    | some p => exact keeps_K (hM k as σ p hm).1 _ X
    | none =>
      rw [hm] at h
      simp only [callK] at h
      obtain ⟨fn, e1, h⟩ := bind_some h
      obtain ⟨cd, ns, oc, od, osl, doc, pm, an, cdv, ct, F⟩ := Z.fn k fn e1
      exact keeps_K F.keep _ X
  · rename_i k
    (first | obtain ⟨_, rfl⟩ := hf.inv | obtain rfl := hf.inv | cases hf)
    simp only [stepCall] at h
    obtain ⟨c, e1, h⟩ := bind_some h
    exact keeps_K (Z.cls k c e1) _ X
  · rename_i b
    have : vf = biV b := by (first | obtain ⟨_, rfl⟩ := hf.inv | obtain rfl := hf.inv | cases hf); rfl
    subst this
    exact machine_looks _ _ (by cases b <;> simp [biV])
  · cases hf with | clo h1 h2 =>
    exact keeps_F _ (FnAt.of I.W h1)
/-- the interpreter tells what the program does -/
theorem sound_step (Z : Static G FT NF CT GV) (hM : MemoOk G mm) (hs : Sound G r n) : Sound G (step FT NF CT GV mm r) (n + 1) where
  num := by show r.n + 1 = _; rw [hs.num]
  nr _ _ _ := rfl
  e {A env h₀ L ns m N ρ s e sl σ σ' v} H S I h := by
    have H' := H.down
    cases e with
    | name i p => exact name_ok h H S I
    | cst c k p => (first | exact (no h).elim | cases h); exact const_ok c I
    | tup es k p => exact st_tup hs H' S I h
    | list es p => exact st_list hs H' S I h
    | dict0 p => (first | exact (no h).elim | cases h); exact st_dict H' I
    | sub e i p => exact st_sub hs H' S I h
    | slc e lo hi st sp p => exact st_slc hs H' S I h
    | attr e a p => exact st_attr hs Z.hC H' S I h
    | bin l op rr p => exact st_bin hs H' S I h
    | neg e p => exact st_neg hs H' S I h
    | not e p => (first | exact (no h).elim | cases h)
    | boo op es p => (first | exact (no h).elim | cases h)
    | cmp l op rr p =>
      obtain ⟨x, e1, h⟩ := bind_some h
      (first | exact (no h).elim | cases h)
      exact st_e_cmp hs H' S I e1
    | ite t b o p => exact st_ite hs H' S I h
    | call i np as p => exact st_call hs H' S I h
    | meth o a as ap p hl => exact st_meth hs Z.hC hl H' S I h
    | comp elt ct it ifs u w jn cs sc hh p => exact st_comp hs Z.hG hh H' S I h
    | comp2 elt ct it ct2 it2 u w jn cs sc hh p => exact st_comp2 hs Z.hG hh H' S I h
    | raw e => (first | exact (no h).elim | cases h)
  es H S I h := st_es hs H.down S I h
  esn h := st_esn hs h
  eo H S I h := st_eo hs H.down S I h
  t H S I h := st_t hs H.down S I h
  ts H S I h := st_ts hs H.down S I h
  tf H S I h := st_tf hs H.down S I h
  a H hL S I hu h := st_a hs Z.hC H.down hL S I hu h
  as H hL S I hu h := st_as hs H.down hL S I hu h
  s {A env h₀ L ns m N ρ s st fl sl sl' σ σ'} H hL S I h := by
    have H' := H.down
    cases st with
    | asg t e p => exact st_asg hs H' hL S I h
    | asgC i np e p => exact st_asgC hs Z.hG H' hL S I h
    | swp is tk tp es ek ep p => exact st_swp hs H' hL S I h
    | fdef i j k => exact st_fdef Z.hT H' hL S I h
    | aug i np op e p => exact st_aug hs H' hL S I h
    | augA o a tp op e p => exact st_augA hs Z.hC H' hL S I h
    | iff t b o p => exact st_iff hs H' hL S I h
    | whl t b p => exact st_whl hs H' hL S I h
    | fr t it b p => exact st_for hs H' hL S I h
    | ret e p => exact st_ret hs H' S I h
    | brk p =>
      (first | exact (no h).elim | cases h)
      show WpS G A h₀ L env ns m (exec (.Break p) env) _ _ _ _ _ _
      rw [arm_exec_Break]
      exact WpS.stand (WpS.pure I S rfl)
    | ex e p => exact st_ex hs H' S I h
    | raw st => (first | exact (no h).elim | cases h)
  ss H hL S I h := st_ss hs H.down hL S I h
  wh H hL S I h := st_wh hs H.down hL S I h
  fr H hL S I O h := st_fr hs H.down hL S I O h
  co hc := fun H => st_co hs hc H.down
  co2 := fun H => st_co2 hs H.down
  keep H I hf h := st_keep Z hM H.down I hf h
  call H I hf hvs h := st_call1 Z hM hs H I hf hvs h
  callF H I hvs h := st_callF Z hM hs H I hvs h
theorem sound_run (Z : Static G FT NF CT GV) (hM : MemoOk G mm) : ∀ n, Sound G (run FT NF CT GV mm n) n
  | 0 => sound_nil G
  | n + 1 => sound_step Z hM (sound_run Z hM n)
end
end Mine

open PySem PySem.W PyProof.Rows PySem.Calls
namespace Mine
set_option autoImplicit false
set_option backward.match.sparseCases false
set_option linter.unusedVariables false
set_option maxRecDepth 20000

/-! ## static facts by evaluation -/
noncomputable def strIs (l : List Nat) : Value → Bool
  | .str s _ => s == ⟨l.toArray⟩
  | _ => false
noncomputable def strsAre : List MV → List Value → Bool
  | [], [] => true
  | .str l :: ms, v :: vs => strIs l v && strsAre ms vs
  | _, _ => false
noncomputable def tupIs (K : Frag) (ms : List MV) : Value → Bool
  | .ref a => (match K.lookup a with
    | some ⟨.type "tuple", none, .seq vs _, sl⟩ => sl.isEmpty && strsAre ms vs.toList
    | _ => false)
  | _ => false
noncomputable def gValB (K : Frag) (FA CA : Nat → Addr) (v : Value) : MV → Bool
  | .fn k => v == .ref (FA k)
  | .cls k => v == .ref (CA k)
  | .str l => strIs l v
  | .tup ms => tupIs K ms v
  | _ => false
noncomputable def gB (K : Frag) (FA CA : Nat → Addr) (x : Str) (mv : MV) : Bool := match mv with
  | .bi b => nsIn K mainGlobals x == some none && !(x == ("__name__" : Str)) && bootBuiltins x == some (biV b)
  | mv => (match nsIn K mainGlobals x with
    | some (some v) => gValB K FA CA v mv
    | _ => false)
theorem strIs_ok {l : List Nat} {v : Value} (h : strIs l v = true) : ∃ t, v = .str ⟨l.toArray⟩ t := by
  unfold strIs at h
  split at h
  · exact ⟨_, by rw [beq_iff_eq.mp h]⟩
  · (first | exact (no h).elim | cases h)
theorem strsAre_ok {G : St} {N : Led} {ρ : Rho} : ∀ {ms : List MV} {vs : List Value}, strsAre ms vs = true → RVs G N ρ vs ms
  | [], [], _ => .nil
  | [], _ :: _, h => by (first | exact (no h).elim | cases h)
  | m :: ms, [], h => by cases m <;> (first | exact (no h).elim | cases h)
  | m :: ms, v :: vs, h => by
    cases m <;> try ((first | exact (no h).elim | cases h); done)
    simp only [strsAre, Bool.and_eq_true] at h
    obtain ⟨t, rfl⟩ := strIs_ok h.1
    exact .cons (.str _ _) (strsAre_ok h.2)
theorem gValB_ok {G : St} {v : Value} {mv : MV} (h : gValB G.K G.FA G.CA v mv = true) (N : Led) (ρ : Rho) : RV G N ρ v mv := by
  cases mv <;> try ((first | exact (no h).elim | cases h); done)
  · obtain ⟨t, rfl⟩ := strIs_ok h
    exact .str _ _
  · rename_i ms
    replace h : tupIs G.K ms v = true := h
    unfold tupIs at h
    split at h
    · split at h
      · rename_i vs n sl hl
        simp only [Bool.and_eq_true, Array.isEmpty_iff] at h
        obtain ⟨rfl, h2⟩ := h
        exact .ktup (n := n) (ws := vs.toList) hl (strsAre_ok h2)
      · (first | exact (no h).elim | cases h)
    · (first | exact (no h).elim | cases h)
  · have h' := beq_iff_eq.mp (show (v == .ref (G.FA _)) = true from h); subst h'; exact .fn _
  · have h' := beq_iff_eq.mp (show (v == .ref (G.CA _)) = true from h); subst h'; exact .cls _
theorem gB_ok {G : St} {x : Str} {mv : MV} (h : gB G.K G.FA G.CA x mv = true) : GlbOk G x mv := by
  by_cases hb : ∃ b, mv = .bi b
  · obtain ⟨b, rfl⟩ := hb
    simp only [gB, Bool.and_eq_true, beq_iff_eq, Bool.not_eq_true'] at h
    exact .inr ⟨h.1.1, by simpa using h.1.2, _, h.2, fun N ρ => .bi _⟩
  · have h' : (match nsIn G.K mainGlobals x with
      | some (some v) => gValB G.K G.FA G.CA v mv
      | _ => false) = true := by
      cases mv <;> first | exact absurd ⟨_, rfl⟩ hb | exact h
    cases hv : nsIn G.K mainGlobals x with
    | none => rw [hv] at h'; cases h'
    | some o =>
      cases o with
      | none => rw [hv] at h'; cases h'
      | some v => rw [hv] at h'; exact .inl ⟨v, hv, gValB_ok h'⟩
/-- the function object at an address -/
noncomputable def objAt (K : Frag) (a : Addr) : Obj := (K.lookup a).getD { cls := .none, data := .plain }
noncomputable def fdOf (o : Obj) : FuncData := match o.data with
  | .func fd => fd
  | _ => fnX "" "" { posonlyargs := [], args := [], vararg := none, kwonlyargs := [], kw_defaults := [], kwarg := none, defaults := [] } [] { kind := .function, names := [], isGenerator := false, isCoroutine := false } [] .none .none .none .none none .none .none
noncomputable def stmtsOf : FuncBody → List Stmt
  | .stmts b => b
  | .expr _ => []
noncomputable def cdOf (fd : FuncData) : Cd := ⟨fd.name, fd.qualname, fd.params, stmtsOf fd.body, fd.scope, ⟨0, 0, 0, 0⟩⟩
noncomputable def nsEq : Names → Names → Bool
  | [], [] => true
  | p :: a, q :: b => p.1 == q.1 && p.2 == q.2 && nsEq a b
  | _, _ => false
theorem nsEq_ok : ∀ {a b : Names}, nsEq a b = true → a = b
  | [], [], _ => rfl
  | [], _ :: _, h => nomatch h
  | _ :: _, [], h => nomatch h
  | p :: a, q :: b, h => by
    simp only [nsEq, Bool.and_eq_true, beq_iff_eq] at h
    rw [Prod.ext h.1.1 h.1.2, nsEq_ok h.2]
noncomputable def fsB (K : Frag) (FA CA : Nat → Addr) (names ns : Names) (i : Nat) : FS → Bool
  | .loc => names.lookup (ns.at i) == some .local
  | .cel => names.lookup (ns.at i) == some .cell
  | .glb v => names.lookup (ns.at i) == some .globalImplicit && gB K FA CA (ns.at i) v
  | .fre j => names.lookup (ns.at i) == some .free && !(ns.at i == ("__classdict__" : Str)) && (frees names)[j]? == some (ns.at i)
  | .nst _ _ _ => true
  | .nid w => nsEq ns (nsAt w)
  | .unk => true
noncomputable def fsAll (K : Frag) (FA CA : Nat → Addr) (names ns : Names) : Nat → List FS → Bool
  | _, [] => true
  | i, f :: fs => fsB K FA CA names ns i f && fsAll K FA CA names ns (i + 1) fs
noncomputable def isFre : FS → Bool
  | .fre _ => true
  | _ => false
noncomputable def isNst : FS → Bool
  | .nst _ _ _ => true
  | _ => false
noncomputable def dbgB (ns : Names) : Bool := ns.all fun p => !(p.1 == ("__debug__" : Str))
noncomputable def isCelF : FS → Bool
  | .cel => true
  | _ => false
/-- the places of the cells -/
noncomputable def celAt : Nat → List FS → List Nat
  | _, [] => []
  | i, f :: fs => cond (isCelF f) (i :: celAt (i + 1) fs) (celAt (i + 1) fs)
noncomputable def celN (names : Names) : List Str := (names.filter fun x => x.2 == .cell).map (·.1)
noncomputable def celB (names ns : Names) (fn : Fn) : Bool := match celAt 0 fn.slots with
  | [] => names.all (fun x => !(x.2 == .cell))
  | [j] => Nat.blt j fn.np && celN names == [ns.at j]
  | _ => false
noncomputable def fnB (K : Frag) (FA CA : Nat → Addr) (cd : Cd) (ns : Names) (fn : Fn) : Bool :=
  cd.scope.kind == .function && !cd.scope.isCoroutine && !cd.scope.isGenerator && ndB2 (ns.map (·.1)) && ndB2 (cd.scope.names.map (·.1)) && dbgB ns && fn.slots.length == ns.length &&
    fsAll K FA CA cd.scope.names ns 0 fn.slots && celB cd.scope.names ns fn
theorem fsAll_ok {K : Frag} {FA CA : Nat → Addr} {names ns : Names} : ∀ {fs : List FS} {i : Nat}, fsAll K FA CA names ns i fs = true → ∀ j f, fs[j]? = some f → fsB K FA CA names ns (i + j) f = true
  | [], _, _, j, f, e => by simp at e
  | g :: fs, i, h, j, f, e => by
    simp only [fsAll, Bool.and_eq_true] at h
    cases j with
    | zero => simp only [List.getElem?_cons_zero, Option.some.injEq] at e; subst e; exact h.1
    | succ j =>
      have := fsAll_ok h.2 j f (by simpa using e)
      rwa [show i + 1 + j = i + (j + 1) by omega] at this
theorem celAt_ok : ∀ {fs : List FS} {i j : Nat}, i + j ∈ celAt i fs ↔ fs[j]? = some .cel
  | [], i, j => by simp [celAt]
  | f :: fs, i, j => by
    have low : ∀ {fs : List FS} {i k : Nat}, k ∈ celAt i fs → i ≤ k := by
      intro fs
      induction fs with
      | nil => intro i k h; (first | exact (no h).elim | cases h)
      | cons f fs ih =>
        intro i k h
        unfold celAt at h
        cases hf : isCelF f with
        | true =>
          rw [hf] at h
          rcases List.mem_cons.mp h with h | h
          · omega
          · exact Nat.le_of_succ_le (ih h)
        | false => rw [hf] at h; exact Nat.le_of_succ_le (ih h)
    have nl : ¬ i ∈ celAt (i + 1) fs := fun h => absurd (low h) (Nat.not_succ_le_self i)
    cases j with
    | zero =>
      unfold celAt
      cases f <;> simp [isCelF, nl]
    | succ j =>
      have ih := celAt_ok (fs := fs) (i := i + 1) (j := j)
      rw [show i + 1 + j = i + (j + 1) by omega] at ih
      rw [List.getElem?_cons_succ, ← ih]
      have e2 : celAt i (f :: fs) = cond (isCelF f) (i :: celAt (i + 1) fs) (celAt (i + 1) fs) := rfl
      rw [e2]
      cases isCelF f with
      | true =>
        show _ ∈ i :: _ ↔ _
        rw [List.mem_cons]
        exact ⟨fun h => h.resolve_left (by omega), .inr⟩
      | false => exact Iff.rfl
/-- the cells that a scope asks for, one at most -/
theorem cellsFrom_n : ∀ (names : Names) (n : Nat) (acc : List (Str × Addr)), match celN names with
    | [] => cellsFrom n names acc = acc
    | [x] => cellsFrom n names acc = (x, n) :: acc
    | _ => True
  | [], n, acc => rfl
  | (x, k) :: names, n, acc => by
    unfold cellsFrom
    by_cases hk : (k == .cell) = true
    · have e : celN ((x, k) :: names) = x :: celN names := by unfold celN; rw [List.filter_cons_of_pos (by simpa using hk)]; rfl
      rw [e, if_pos hk]
      have := cellsFrom_n names (n + 1) ((x, n) :: acc)
      generalize celN names = l at this
      cases l with
      | nil => exact this
      | cons y l => trivial
    · have e : celN ((x, k) :: names) = celN names := by unfold celN; rw [List.filter_cons_of_neg (by simpa using hk)]
      rw [e, if_neg hk]
      exact cellsFrom_n names n acc
theorem fnB_ok {G : St} {cd : Cd} {ns : Names} {fn : Fn} (h : fnB G.K G.FA G.CA cd ns fn = true) (hb : S.ers ns fn.body = cd.body)
    (bind : ∀ (cl : List (Str × Addr)) (doc pm : Value) (an : Option Addr) (cdv ct : Value) (vals : List Value), vals.length = fn.np →
      bindArgs (fnX cd.name cd.qual cd.params cd.body cd.scope cl .none .none doc pm an cdv ct) ⟨vals, []⟩ = pure (((ns.take fn.np).map (·.1)).zip vals)) : FnOk G cd ns fn := by
  unfold fnB at h
  simp only [Bool.and_eq_true, beq_iff_eq, Bool.not_eq_true'] at h
  obtain ⟨⟨⟨⟨⟨⟨⟨⟨h1, h2⟩, h3⟩, h4⟩, h5⟩, h6⟩, h7⟩, h8⟩, h9⟩ := h
  refine { body := hb, kind := h1, co := h2, gen := h3, nd := ndB2_ok h4, ndc := ndB2_ok h5, dbg := fun i hi => ?_, len := h7, slots := fun i f e => ?_, cells := ?_, bind := bind }
  · have e := List.getElem?_eq_getElem hi
    have := List.all_eq_true.mp h6 _ (List.getElem_mem hi)
    rw [at_of e]
    simpa using this
  · have := fsAll_ok h8 i f e
    rw [Nat.zero_add] at this
    cases f with
    | loc => exact beq_iff_eq.mp this
    | cel => exact beq_iff_eq.mp this
    | glb v =>
      simp only [fsB, Bool.and_eq_true, beq_iff_eq] at this
      exact ⟨this.1, gB_ok this.2⟩
    | fre j =>
      simp only [fsB, Bool.and_eq_true, beq_iff_eq, Bool.not_eq_true'] at this
      exact ⟨this.1.1, this.1.2, this.2⟩
    | nst _ _ _ => trivial
    | nid w => exact nsEq_ok this
    | unk => trivial
  · unfold celB at h9
    split at h9
    · refine .inl fun x hx hc => ?_
      have := List.all_eq_true.mp h9 x hx
      rw [hc] at this
      simp at this
    · rename_i j hj
      simp only [Bool.and_eq_true, beq_iff_eq] at h9
      have e : ∀ i, fn.slots[i]? = some .cel ↔ i = j := fun i => by
        have := celAt_ok (fs := fn.slots) (i := 0) (j := i)
        rw [hj, Nat.zero_add, List.mem_singleton] at this
        exact this.symm
      refine .inr ⟨j, Nat.blt_eq.mp h9.1 , (e j).mpr rfl, fun i hi => (e i).mp hi, fun n => ?_⟩
      have := cellsFrom_n cd.scope.names n []
      rw [h9.2] at this
      exact this
    · cases h9
noncomputable def noFre (fn : Fn) : Bool := fn.slots.all fun f => !isFre f
noncomputable def noNst (fn : Fn) : Bool := fn.slots.all fun f => !isNst f
theorem noFre_ok {fn : Fn} (h : noFre fn = true) (j : Nat) : FS.fre j ∉ fn.slots := fun hm => by
  have := List.all_eq_true.mp h _ hm; cases this
theorem noNst_ok {fn : Fn} (h : noNst fn = true) (i k : Nat) (js : List Nat) : FS.nst i k js ∉ fn.slots := fun hm => by
  have := List.all_eq_true.mp h _ hm; cases this
/-- a class by evaluation -/
noncomputable def allN (f : Nat → Bool) : Nat → Bool
  | 0 => true
  | n + 1 => f n && allN f n
theorem allN_ok {f : Nat → Bool} : ∀ {n : Nat}, allN f n = true → ∀ a < n, f a = true
  | 0, _, a, h => absurd h (Nat.not_lt_zero _)
  | n + 1, h, a, ha => by
    simp only [allN, Bool.and_eq_true] at h
    rcases Nat.lt_succ_iff_lt_or_eq.mp ha with h1 | rfl
    · exact allN_ok h.2 a h1
    · exact h.1
noncomputable def clsB1 (K : Frag) (FA CA : Nat → Addr) (k : Nat) (c : Cl) (a : Nat) : Bool := match lkN a c.meths with
  | none => findIn K (.ref (CA k)) (an a) == some none
  | some f => findIn K (.ref (CA k)) (an a) == some (some (.ref (FA f))) && isFn K (.ref (FA f)) && specialIn K (.ref (FA f)) "__get__" == some (some (.builtin "function.__get__")) && takesIn K (.ref (FA f)) == some false
noncomputable def clsIni (K : Frag) (FA CA : Nat → Addr) (k : Nat) (c : Cl) : Bool := match c.ini with
  | none => true
  | some f => makesIn K (CA k) && findIn K (.ref (CA k)) "__init__" == some (some (.ref (FA f))) && typeIn K (.ref (FA f)) == some (.type "function")
noncomputable def clsB (K : Frag) (FA CA : Nat → Addr) (k : Nat) (c : Cl) : Bool :=
  hasDictIn K (CA k) && plainOver K (CA k) && findIn K (.ref (CA k)) "__getattribute__" == some (some (.builtin "object.__getattribute__")) && findIn K (.ref (CA k)) "__getattr__" == some none &&
    findIn K (.ref (CA k)) "__setattr__" == some (some (.builtin "object.__setattr__")) && allN (clsB1 K FA CA k c) 20 && clsIni K FA CA k c && c.meths.all (fun p => Nat.ble p.1 19)
theorem lkN_mem {α : Type} {a : Nat} {f : α} : ∀ {l : List (Nat × α)}, lkN a l = some f → ∃ p ∈ l, p.1 = a
  | [], h => by (first | exact (no h).elim | cases h)
  | p :: l, h => by
    rw [lkN_cons] at h
    split at h
    · rename_i hb; exact ⟨p, List.mem_cons_self .., Nat.eq_of_beq_eq_true hb⟩
    · obtain ⟨q, hq, e⟩ := lkN_mem h; exact ⟨q, List.mem_cons_of_mem _ hq, e⟩
theorem clsB_ok {G : St} {k : Nat} {c : Cl} (h : clsB G.K G.FA G.CA k c = true) : ClsOk G k c ∧ ∀ a f, lkN a c.meths = some f → specialIn G.K (.ref (G.FA f)) "__get__" = some (some (.builtin "function.__get__")) ∧ takesIn G.K (.ref (G.FA f)) = some false := by
  unfold clsB at h
  simp only [Bool.and_eq_true, beq_iff_eq] at h
  obtain ⟨⟨⟨⟨⟨⟨⟨h1, h2⟩, h3⟩, h4⟩, h5⟩, h6⟩, h7⟩, h8⟩ := h
  refine ⟨{ dict := h1, plain := h2, get := ⟨h3, h4⟩, set := h5, none := fun a ha hn => ?_, meth := fun a ha f hf => ?_, make := fun f hf => ?_ }, fun a f hf => ?_⟩
  · have := allN_ok h6 a ha
    unfold clsB1 at this
    rw [hn] at this
    exact beq_iff_eq.mp this
  · have := allN_ok h6 a ha
    unfold clsB1 at this
    rw [hf] at this
    simp only [Bool.and_eq_true, beq_iff_eq] at this
    exact ⟨this.1.1.1, this.1.1.2⟩
  · unfold clsIni at h7
    rw [hf] at h7
    simp only [Bool.and_eq_true, beq_iff_eq] at h7
    exact ⟨h7.1.1, h7.1.2, h7.2⟩
  · obtain ⟨p, hp, e⟩ := lkN_mem hf
    have ha := Nat.le_of_ble_eq_true (List.all_eq_true.mp h8 p hp)
    rw [e] at ha
    have := allN_ok h6 a (Nat.lt_succ_of_le ha)
    unfold clsB1 at this
    rw [hf] at this
    simp only [Bool.and_eq_true, beq_iff_eq] at this
    exact ⟨this.1.2, this.2⟩
end Mine

open PySem PySem.W PyProof.Rows PySem.Calls
namespace Mine
set_option autoImplicit false
set_option backward.match.sparseCases false
set_option linter.unusedVariables false
/-! ## stores with a host, its dict, its log and a pile -/
section
variable {α : Type}
theorem at?_set {v o : α} : ∀ {σ : List α} {i : Nat}, at? σ i = some o → at? (setAt v σ i) i = some v
  | [], i, h => by rw [at?_eq] at h; simp at h
  | a :: σ, 0, h => rfl
  | a :: σ, i + 1, h => at?_set (σ := σ) (i := i) h
theorem at?_ne {v : α} {σ : List α} {i j : Nat} (h : i ≠ j) : at? (setAt v σ i) j = at? σ j := by
  rw [at?_eq, at?_eq, setAt_eq, List.getElem?_set_ne h]
theorem set_set {u v : α} {σ : List α} {i : Nat} : setAt v (setAt u σ i) i = setAt v σ i := by
  rw [setAt_eq, setAt_eq, setAt_eq, List.set_set]
theorem set_comm {u v : α} {σ : List α} {i j : Nat} (h : i ≠ j) : setAt v (setAt u σ i) j = setAt u (setAt v σ j) i := by
  rw [setAt_eq, setAt_eq, setAt_eq, setAt_eq, List.set_comm _ _ h]
theorem set_length {v : α} {σ : List α} {i : Nat} : (setAt v σ i).length = σ.length := by rw [setAt_eq]; simp
theorem set_append {v : α} {σ τ : List α} {i : Nat} (h : i < σ.length) : setAt v (σ ++ τ) i = setAt v σ i ++ τ := by
  rw [setAt_eq, setAt_eq, List.set_append_left _ _ h]
theorem set_last {u v : α} {σ : List α} : setAt v (σ ++ [u]) σ.length = σ ++ [v] := by
  rw [setAt_eq, List.set_append_right _ _ (Nat.le_refl _)]; simp
theorem at?_append {σ τ : List α} {i : Nat} (h : i < σ.length) : at? (σ ++ τ) i = at? σ i := by
  rw [at?_eq, at?_eq, List.getElem?_append_left h]
theorem at?_last {σ : List α} {o : α} : at? (σ ++ [o]) σ.length = some o := by
  rw [at?_eq, List.getElem?_append_right (Nat.le_refl _)]; simp
theorem at?_lt {σ : List α} {i : Nat} {o : α} (h : at? σ i = some o) : i < σ.length := by
  rw [at?_eq] at h; exact (List.getElem?_eq_some_iff.mp h).1
end
noncomputable def hostM (d rf lg : Nat) (lim st : Int) : MO := .inst 1 [(0, .ref d), (1, .int lim), (2, .ref rf), (3, .int 64), (4, .int st), (5, .ref lg)]
/-- where the objects of a match lie: the host, its dict, its list of refused names, its log, the pile -/
structure Pl where
  h : Nat
  d : Nat
  rf : Nat
  lg : Nat
  p : Nat
/-- what of it turns -/
structure Tu where
  st : Int
  kv : List (List Nat × MV)
  lo : List MV
  pl : List MV
noncomputable def W (q : Pl) (lim : Int) (t : Tu) (σ : List MO) : List MO :=
  setAt (.list t.pl) (setAt (hostM q.d q.rf q.lg lim t.st) (setAt (.dict t.kv) (setAt (.list t.lo) σ q.lg) q.d) q.h) q.p
structure WC (q : Pl) (σ : List MO) : Prop where
  h : ∃ o, at? σ q.h = some o
  d : ∃ o, at? σ q.d = some o
  l : ∃ o, at? σ q.lg = some o
  p : ∃ o, at? σ q.p = some o
  r : at? σ q.rf = some (.list [])
  hd : q.h ≠ q.d
  hl : q.h ≠ q.lg
  hp : q.h ≠ q.p
  dl : q.d ≠ q.lg
  dp : q.d ≠ q.p
  lp : q.lg ≠ q.p
  rh : q.rf ≠ q.h
  rd : q.rf ≠ q.d
  rl : q.rf ≠ q.lg
  rp : q.rf ≠ q.p
section
variable {q : Pl} {lim : Int} {t : Tu} {σ : List MO}
theorem at?_set' {v : MO} {σ : List MO} {i : Nat} (h : ∃ o, at? σ i = some o) : at? (setAt v σ i) i = some v := let ⟨_, h⟩ := h; at?_set h
theorem W_h (c : WC q σ) : at? (W q lim t σ) q.h = some (hostM q.d q.rf q.lg lim t.st) := by
  unfold W; rw [at?_ne c.hp.symm]; exact at?_set' (by rw [at?_ne c.hd.symm, at?_ne c.hl.symm]; exact c.h)
theorem W_d (c : WC q σ) : at? (W q lim t σ) q.d = some (.dict t.kv) := by
  unfold W; rw [at?_ne c.dp.symm, at?_ne c.hd]; exact at?_set' (by rw [at?_ne c.dl.symm]; exact c.d)
theorem W_l (c : WC q σ) : at? (W q lim t σ) q.lg = some (.list t.lo) := by
  unfold W; rw [at?_ne c.lp.symm, at?_ne c.hl, at?_ne c.dl]; exact at?_set' c.l
theorem W_p (c : WC q σ) : at? (W q lim t σ) q.p = some (.list t.pl) := by
  unfold W; exact at?_set' (by rw [at?_ne c.hp, at?_ne c.dp, at?_ne c.lp]; exact c.p)
theorem W_o (c : WC q σ) {i : Nat} (h1 : i ≠ q.h) (h2 : i ≠ q.d) (h3 : i ≠ q.lg) (h4 : i ≠ q.p) : at? (W q lim t σ) i = at? σ i := by
  unfold W; rw [at?_ne h4.symm, at?_ne h1.symm, at?_ne h2.symm, at?_ne h3.symm]
theorem W_r (c : WC q σ) : at? (W q lim t σ) q.rf = some (.list []) := by rw [W_o c c.rh c.rd c.rl c.rp]; exact c.r
theorem W_seth (c : WC q σ) {st : Int} : setAt (hostM q.d q.rf q.lg lim st) (W q lim t σ) q.h = W q lim { t with st := st } σ := by
  unfold W; rw [set_comm c.hp.symm, set_set]
theorem W_setp (c : WC q σ) {pl : List MV} : setAt (.list pl) (W q lim t σ) q.p = W q lim { t with pl := pl } σ := by
  unfold W; rw [set_set]
theorem W_setd (c : WC q σ) {kv : List (List Nat × MV)} : setAt (.dict kv) (W q lim t σ) q.d = W q lim { t with kv := kv } σ := by
  unfold W; rw [set_comm c.dp.symm, set_comm c.hd, set_set]
theorem W_setl (c : WC q σ) {lo : List MV} : setAt (.list lo) (W q lim t σ) q.lg = W q lim { t with lo := lo } σ := by
  unfold W; rw [set_comm c.lp.symm, set_comm c.hl, set_comm c.dl, set_set]
theorem W_length : (W q lim t σ).length = σ.length := by unfold W; rw [set_length, set_length, set_length, set_length]
/-- as it stands at the outset -/
theorem W_self {pl : List MV} {st : Int} {kv : List (List Nat × MV)} {lo : List MV} (hh : at? σ q.h = some (hostM q.d q.rf q.lg lim st)) (hd : at? σ q.d = some (.dict kv)) (hl : at? σ q.lg = some (.list lo)) (hp : at? σ q.p = some (.list pl)) : W q lim ⟨st, kv, lo, pl⟩ σ = σ := by
  have key : ∀ {σ : List MO} {i : Nat} {o : MO}, at? σ i = some o → setAt o σ i = σ := fun {σ i o} h => by
    rw [at?_eq] at h
    rw [setAt_eq]
    obtain ⟨h1, h2⟩ := List.getElem?_eq_some_iff.mp h
    rw [← h2, List.set_getElem_self]
  unfold W
  simp only
  rw [key hl, key hd, key hh, key hp]
end
end Mine

open PySem PySem.W PyProof.Rows PySem.Calls
namespace Mine
set_option autoImplicit false
set_option backward.match.sparseCases false
set_option linter.unusedVariables false
theorem ccok0 : csOkB 10 5 (.one 1 ⟨315, 27, 315, 30⟩) [.loc, .loc, .loc, .glb 7, .out 0] = true ∧ csOkB 10 5 (.one 2 ⟨315, 46, 315, 50⟩) [.loc, .loc, .loc, .glb 7, .out 0] = true ∧ ({ kind := PySem.ScopeKind.function, names := [((PySem.Str.ofString ".0"), PySem.NameKind.local), ((PySem.Str.ofString "one"), PySem.NameKind.local), ((PySem.Str.ofString "rest"), PySem.NameKind.local), ((PySem.Str.ofString "_law_orders"), PySem.NameKind.globalImplicit), ((PySem.Str.ofString "players"), PySem.NameKind.free)], isGenerator := false, isCoroutine := false, more := [] } : Scope).names = nmAt 10 ∧ ({ kind := PySem.ScopeKind.function, names := [((PySem.Str.ofString ".0"), PySem.NameKind.local), ((PySem.Str.ofString "one"), PySem.NameKind.local), ((PySem.Str.ofString "rest"), PySem.NameKind.local), ((PySem.Str.ofString "_law_orders"), PySem.NameKind.globalImplicit), ((PySem.Str.ofString "players"), PySem.NameKind.free)], isGenerator := false, isCoroutine := false, more := [] } : Scope).kind = .function := ⟨by decide +kernel, by decide +kernel, rfl, rfl⟩
theorem ccok1 : csOkB 0 4 (.one 1 ⟨318, 31, 318, 34⟩) [.loc, .loc, .glb 0, .glb 1] = true ∧ ({ kind := PySem.ScopeKind.function, names := [((PySem.Str.ofString ".0"), PySem.NameKind.local), ((PySem.Str.ofString "one"), PySem.NameKind.local), ((PySem.Str.ofString "abs"), PySem.NameKind.globalImplicit), ((PySem.Str.ofString "int"), PySem.NameKind.globalImplicit)], isGenerator := false, isCoroutine := false, more := [] } : Scope).names = nmAt 0 ∧ ({ kind := PySem.ScopeKind.function, names := [((PySem.Str.ofString ".0"), PySem.NameKind.local), ((PySem.Str.ofString "one"), PySem.NameKind.local), ((PySem.Str.ofString "abs"), PySem.NameKind.globalImplicit), ((PySem.Str.ofString "int"), PySem.NameKind.globalImplicit)], isGenerator := false, isCoroutine := false, more := [] } : Scope).kind = .function := ⟨by decide +kernel, rfl, rfl⟩
theorem ccok2 : csOkB 11 4 (.one 1 ⟨320, 36, 320, 42⟩) [.loc, .loc] = true ∧ ({ kind := PySem.ScopeKind.function, names := [((PySem.Str.ofString ".0"), PySem.NameKind.local), ((PySem.Str.ofString "player"), PySem.NameKind.local)], isGenerator := false, isCoroutine := false, more := [] } : Scope).names = nmAt 11 ∧ ({ kind := PySem.ScopeKind.function, names := [((PySem.Str.ofString ".0"), PySem.NameKind.local), ((PySem.Str.ofString "player"), PySem.NameKind.local)], isGenerator := false, isCoroutine := false, more := [] } : Scope).kind = .function := ⟨by decide +kernel, rfl, rfl⟩
theorem ccok3 : csOkB 12 4 (.one 1 ⟨326, 83, 326, 89⟩) [.loc, .loc, .glb 5, .glb 6, .out 7] = true ∧ ({ kind := PySem.ScopeKind.function, names := [((PySem.Str.ofString ".0"), PySem.NameKind.local), ((PySem.Str.ofString "player"), PySem.NameKind.local), ((PySem.Str.ofString "Pattern"), PySem.NameKind.globalImplicit), ((PySem.Str.ofString "_law_one_of"), PySem.NameKind.globalImplicit), ((PySem.Str.ofString "beaten"), PySem.NameKind.free)], isGenerator := false, isCoroutine := false, more := [] } : Scope).names = nmAt 12 ∧ ({ kind := PySem.ScopeKind.function, names := [((PySem.Str.ofString ".0"), PySem.NameKind.local), ((PySem.Str.ofString "player"), PySem.NameKind.local), ((PySem.Str.ofString "Pattern"), PySem.NameKind.globalImplicit), ((PySem.Str.ofString "_law_one_of"), PySem.NameKind.globalImplicit), ((PySem.Str.ofString "beaten"), PySem.NameKind.free)], isGenerator := false, isCoroutine := false, more := [] } : Scope).kind = .function := ⟨by decide +kernel, rfl, rfl⟩
theorem ccok4 : csOkB 13 4 (.one 1 ⟨332, 75, 332, 78⟩) [.loc, .loc, .glb 8, .glb 9, .out 12, .out 11] = true ∧ ({ kind := PySem.ScopeKind.function, names := [((PySem.Str.ofString ".0"), PySem.NameKind.local), ((PySem.Str.ofString "one"), PySem.NameKind.local), ((PySem.Str.ofString "match_plain"), PySem.NameKind.globalImplicit), ((PySem.Str.ofString "PlainHost"), PySem.NameKind.globalImplicit), ((PySem.Str.ofString "node"), PySem.NameKind.free), ((PySem.Str.ofString "values"), PySem.NameKind.free)], isGenerator := false, isCoroutine := false, more := [] } : Scope).names = nmAt 13 ∧ ({ kind := PySem.ScopeKind.function, names := [((PySem.Str.ofString ".0"), PySem.NameKind.local), ((PySem.Str.ofString "one"), PySem.NameKind.local), ((PySem.Str.ofString "match_plain"), PySem.NameKind.globalImplicit), ((PySem.Str.ofString "PlainHost"), PySem.NameKind.globalImplicit), ((PySem.Str.ofString "node"), PySem.NameKind.free), ((PySem.Str.ofString "values"), PySem.NameKind.free)], isGenerator := false, isCoroutine := false, more := [] } : Scope).kind = .function := ⟨by decide +kernel, rfl, rfl⟩
theorem ccok5 : csOkB 2 4 (.one 1 ⟨333, 24, 333, 27⟩) [.loc, .loc] = true ∧ ({ kind := PySem.ScopeKind.function, names := [((PySem.Str.ofString ".0"), PySem.NameKind.local), ((PySem.Str.ofString "one"), PySem.NameKind.local)], isGenerator := false, isCoroutine := false, more := [] } : Scope).names = nmAt 2 ∧ ({ kind := PySem.ScopeKind.function, names := [((PySem.Str.ofString ".0"), PySem.NameKind.local), ((PySem.Str.ofString "one"), PySem.NameKind.local)], isGenerator := false, isCoroutine := false, more := [] } : Scope).kind = .function := ⟨by decide +kernel, rfl, rfl⟩
noncomputable def cns_give_names : Names := [("found", .local), ("give", .local), ("ref", .local), ("text", .local)]
noncomputable def cb_give_names : List S := [(.fr (.tup [(.name 2 ⟨285, 8, 285, 11⟩), (.name 3 ⟨285, 13, 285, 17⟩)] 0 ⟨285, 8, 285, 17⟩) (.sub (.name 0 ⟨285, 21, 285, 26⟩) (.cst (.int 2) 0 ⟨285, 27, 285, 28⟩) ⟨285, 21, 285, 29⟩) [(.ex (.call 1 ⟨286, 8, 286, 12⟩ [(.name 2 ⟨286, 13, 286, 16⟩), (.name 3 ⟨286, 18, 286, 22⟩)] ⟨286, 8, 286, 23⟩) ⟨286, 8, 286, 23⟩)] ⟨285, 4, 286, 23⟩)]
noncomputable def cf_give_names : Fn := ⟨2, [.loc, .loc, .loc, .loc], cb_give_names⟩
noncomputable def cns_three_pieces : Names := [("subject", .local), ("found", .local)]
noncomputable def cb_three_pieces : List S := [(.ret (.tup [(.slc (.name 0 ⟨288, 12, 288, 19⟩) none (some (.sub (.name 1 ⟨288, 21, 288, 26⟩) (.cst (.int 0) 0 ⟨288, 27, 288, 28⟩) ⟨288, 21, 288, 29⟩)) none ⟨288, 20, 288, 29⟩ ⟨288, 12, 288, 30⟩), (.slc (.name 0 ⟨288, 32, 288, 39⟩) (some (.sub (.name 1 ⟨288, 40, 288, 45⟩) (.cst (.int 0) 0 ⟨288, 46, 288, 47⟩) ⟨288, 40, 288, 48⟩)) (some (.sub (.name 1 ⟨288, 49, 288, 54⟩) (.cst (.int 1) 0 ⟨288, 55, 288, 56⟩) ⟨288, 49, 288, 57⟩)) none ⟨288, 40, 288, 57⟩ ⟨288, 32, 288, 58⟩), (.slc (.name 0 ⟨288, 60, 288, 67⟩) (some (.sub (.name 1 ⟨288, 68, 288, 73⟩) (.cst (.int 1) 0 ⟨288, 74, 288, 75⟩) ⟨288, 68, 288, 76⟩)) none none ⟨288, 68, 288, 77⟩ ⟨288, 60, 288, 78⟩)] 0 ⟨288, 11, 288, 79⟩) ⟨288, 4, 288, 79⟩)]
noncomputable def cf_three_pieces : Fn := ⟨2, [.loc, .loc], cb_three_pieces⟩
noncomputable def cns_spliced : Names := [("subject", .local), ("found", .local), ("text", .local), ("ahead", .local), ("met", .local), ("behind", .local), ("three_pieces", .globalImplicit)]
noncomputable def cb_spliced : List S := [(.asg (.tup [(.name 3 ⟨290, 4, 290, 9⟩), (.name 4 ⟨290, 11, 290, 14⟩), (.name 5 ⟨290, 16, 290, 22⟩)] 0 ⟨290, 4, 290, 22⟩) (.call 6 ⟨290, 25, 290, 37⟩ [(.name 0 ⟨290, 38, 290, 45⟩), (.name 1 ⟨290, 47, 290, 52⟩)] ⟨290, 25, 290, 53⟩) ⟨290, 4, 290, 53⟩), (.ret (.bin (.bin (.name 3 ⟨291, 11, 291, 16⟩) .Add (.name 2 ⟨291, 19, 291, 23⟩) ⟨291, 11, 291, 23⟩) .Add (.name 5 ⟨291, 26, 291, 32⟩) ⟨291, 11, 291, 32⟩) ⟨291, 4, 291, 32⟩)]
noncomputable def cf_spliced : Fn := ⟨3, [.loc, .loc, .loc, .loc, .loc, .loc, .glb (.fn 1)], cb_spliced⟩
noncomputable def cns_replace_once : Names := [("matcher", .local), ("node", .local), ("subject", .local), ("is_anchored", .local), ("host", .local), ("text_of", .local), ("found", .local), ("text", .local), ("give_names", .globalImplicit), ("spliced", .globalImplicit)]
noncomputable def cb_replace_once : List S := [(.asg (.name 6 ⟨293, 4, 293, 9⟩) (.call 0 ⟨293, 12, 293, 19⟩ [(.name 1 ⟨293, 20, 293, 24⟩), (.name 2 ⟨293, 26, 293, 33⟩), (.name 3 ⟨293, 35, 293, 46⟩), (.name 4 ⟨293, 48, 293, 52⟩)] ⟨293, 12, 293, 53⟩) ⟨293, 4, 293, 53⟩), (.iff (.cmp (.name 6 ⟨294, 7, 294, 12⟩) .Is (.cst .none 0 ⟨294, 16, 294, 20⟩) ⟨294, 7, 294, 20⟩) [(.ret (.cst .none 0 ⟨295, 15, 295, 19⟩) ⟨295, 8, 295, 19⟩)] [] ⟨294, 4, 295, 19⟩), (.ex (.call 8 ⟨296, 4, 296, 14⟩ [(.name 6 ⟨296, 15, 296, 20⟩), (.attr (.name 4 ⟨296, 22, 296, 26⟩) 18 ⟨296, 22, 296, 33⟩)] ⟨296, 4, 296, 34⟩) ⟨296, 4, 296, 34⟩), (.asg (.name 7 ⟨297, 4, 297, 8⟩) (.call 5 ⟨297, 11, 297, 18⟩ [(.name 4 ⟨297, 19, 297, 23⟩)] ⟨297, 11, 297, 24⟩) ⟨297, 4, 297, 24⟩), (.ret (.ite (.cmp (.name 7 ⟨298, 19, 298, 23⟩) .Is (.cst .none 0 ⟨298, 27, 298, 31⟩) ⟨298, 19, 298, 31⟩) (.cst .none 0 ⟨298, 11, 298, 15⟩) (.call 9 ⟨298, 37, 298, 44⟩ [(.name 2 ⟨298, 45, 298, 52⟩), (.name 6 ⟨298, 54, 298, 59⟩), (.name 7 ⟨298, 61, 298, 65⟩)] ⟨298, 37, 298, 66⟩) ⟨298, 11, 298, 66⟩) ⟨298, 4, 298, 66⟩)]
noncomputable def cf_replace_once : Fn := ⟨6, [.loc, .loc, .loc, .loc, .loc, .loc, .loc, .loc, .glb (.fn 0), .glb (.fn 2)], cb_replace_once⟩
noncomputable def cns_NameRef___init : Names := [("self", .local), ("kind", .local), ("owner", .local), ("key", .local)]
noncomputable def cb_NameRef___init : List S := [(.asg (.attr (.name 0 ⟨21, 8, 21, 12⟩) 6 ⟨21, 8, 21, 17⟩) (.name 1 ⟨21, 20, 21, 24⟩) ⟨21, 8, 21, 24⟩), (.asg (.attr (.name 0 ⟨22, 8, 22, 12⟩) 7 ⟨22, 8, 22, 18⟩) (.name 2 ⟨22, 21, 22, 26⟩) ⟨22, 8, 22, 26⟩), (.asg (.attr (.name 0 ⟨23, 8, 23, 12⟩) 8 ⟨23, 8, 23, 16⟩) (.name 3 ⟨23, 19, 23, 22⟩) ⟨23, 8, 23, 22⟩)]
noncomputable def cf_NameRef___init : Fn := ⟨4, [.loc, .loc, .loc, .loc], cb_NameRef___init⟩
noncomputable def cns_PlainHost___init : Names := [("self", .local), ("values", .local), ("limit", .local), ("refused", .local)]
noncomputable def cb_PlainHost___init : List S := [(.asg (.attr (.name 0 ⟨260, 8, 260, 12⟩) 0 ⟨260, 8, 260, 19⟩) (.name 1 ⟨260, 22, 260, 28⟩) ⟨260, 8, 260, 28⟩), (.asg (.attr (.name 0 ⟨261, 8, 261, 12⟩) 1 ⟨261, 8, 261, 18⟩) (.name 2 ⟨261, 21, 261, 26⟩) ⟨261, 8, 261, 26⟩), (.asg (.attr (.name 0 ⟨262, 8, 262, 12⟩) 2 ⟨262, 8, 262, 20⟩) (.name 3 ⟨262, 23, 262, 30⟩) ⟨262, 8, 262, 30⟩), (.asg (.attr (.name 0 ⟨263, 8, 263, 12⟩) 3 ⟨263, 8, 263, 18⟩) (.cst (.int 64) 0 ⟨263, 21, 263, 23⟩) ⟨263, 8, 263, 23⟩), (.asg (.attr (.name 0 ⟨264, 8, 264, 12⟩) 4 ⟨264, 8, 264, 18⟩) (.cst (.int 0) 0 ⟨264, 21, 264, 22⟩) ⟨264, 8, 264, 22⟩), (.asg (.attr (.name 0 ⟨265, 8, 265, 12⟩) 5 ⟨265, 8, 265, 16⟩) (.list [] ⟨265, 19, 265, 21⟩) ⟨265, 8, 265, 21⟩)]
noncomputable def cf_PlainHost___init : Fn := ⟨4, [.loc, .loc, .loc, .loc], cb_PlainHost___init⟩
noncomputable def cns_PlainHost_assign : Names := [("self", .local), ("ref", .local), ("value", .local)]
noncomputable def cb_PlainHost_assign : List S := [(.iff (.cmp (.attr (.name 1 ⟨273, 11, 273, 14⟩) 8 ⟨273, 11, 273, 18⟩) .In (.attr (.name 0 ⟨273, 22, 273, 26⟩) 2 ⟨273, 22, 273, 34⟩) ⟨273, 11, 273, 34⟩) [(.ret (.cst (.bool false) 0 ⟨274, 19, 274, 24⟩) ⟨274, 12, 274, 24⟩)] [] ⟨273, 8, 274, 24⟩), (.asg (.sub (.attr (.name 0 ⟨275, 8, 275, 12⟩) 0 ⟨275, 8, 275, 19⟩) (.attr (.name 1 ⟨275, 20, 275, 23⟩) 8 ⟨275, 20, 275, 27⟩) ⟨275, 8, 275, 28⟩) (.name 2 ⟨275, 31, 275, 36⟩) ⟨275, 8, 275, 36⟩), (.ex (.meth (.attr (.name 0 ⟨276, 8, 276, 12⟩) 5 ⟨276, 8, 276, 16⟩) 10 [(.tup [(.attr (.name 1 ⟨276, 25, 276, 28⟩) 8 ⟨276, 25, 276, 32⟩), (.name 2 ⟨276, 34, 276, 39⟩)] 0 ⟨276, 24, 276, 40⟩)] ⟨276, 8, 276, 23⟩ ⟨276, 8, 276, 41⟩ rfl) ⟨276, 8, 276, 41⟩), (.ret (.cst (.bool true) 0 ⟨277, 15, 277, 19⟩) ⟨277, 8, 277, 19⟩)]
noncomputable def cf_PlainHost_assign : Fn := ⟨3, [.loc, .loc, .loc], cb_PlainHost_assign⟩
noncomputable def cns_PlainHost_step : Names := [("self", .local), ("SnobolError", .globalImplicit)]
noncomputable def cb_PlainHost_step : List S := [(.augA (.name 0 ⟨280, 8, 280, 12⟩) 4 ⟨280, 8, 280, 18⟩ .Add (.cst (.int 1) 0 ⟨280, 22, 280, 23⟩) ⟨280, 8, 280, 23⟩), (.iff (.cmp (.attr (.name 0 ⟨281, 11, 281, 15⟩) 4 ⟨281, 11, 281, 21⟩) .Gt (.attr (.name 0 ⟨281, 24, 281, 28⟩) 1 ⟨281, 24, 281, 34⟩) ⟨281, 11, 281, 34⟩) [(.raw (PySem.Stmt.Raise (exc := (some (PySem.Expr.Call (func := (PySem.Expr.Name "SnobolError" ⟨282, 18, 282, 29⟩)) (args := [(PySem.Expr.Constant (PySem.Const.int 22) 0 ⟨282, 30, 282, 32⟩), (PySem.Expr.Constant (PySem.Const.str "steps") 0 ⟨282, 34, 282, 41⟩)]) (keywords := []) (pos := ⟨282, 18, 282, 42⟩)))) (cause := none) (pos := ⟨282, 12, 282, 42⟩)))] [] ⟨281, 8, 282, 42⟩)]
noncomputable def cf_PlainHost_step : Fn := ⟨1, [.loc, .unk], cb_PlainHost_step⟩
noncomputable def cns_is_delayed : Names := [("told", .local), ("isinstance", .globalImplicit), ("tuple", .globalImplicit)]
noncomputable def cb_is_delayed : List S := [(.ret (.call 1 ⟨86, 11, 86, 21⟩ [(.name 0 ⟨86, 22, 86, 26⟩), (.name 2 ⟨86, 28, 86, 33⟩)] ⟨86, 11, 86, 34⟩) ⟨86, 4, 86, 34⟩)]
noncomputable def cf_is_delayed : Fn := ⟨1, [.loc, .glb (.bi .isinstance), .glb (.bi .tuple)], cb_is_delayed⟩
noncomputable def cns_settled : Names := [("node", .local), ("host", .local), ("value", .local), ("COUNTED", .globalImplicit), ("SIGNED", .globalImplicit), ("is_delayed", .globalImplicit), ("is_fail", .globalImplicit), ("plain_count", .globalImplicit), ("plain_signs", .globalImplicit)]
noncomputable def cb_settled : List S := [(.iff (.boo .Or [(.boo .And [(.cmp (.sub (.name 0 ⟨88, 7, 88, 11⟩) (.cst (.int 0) 0 ⟨88, 12, 88, 13⟩) ⟨88, 7, 88, 14⟩) .NotIn (.name 3 ⟨88, 22, 88, 29⟩) ⟨88, 7, 88, 29⟩), (.cmp (.sub (.name 0 ⟨88, 34, 88, 38⟩) (.cst (.int 0) 0 ⟨88, 39, 88, 40⟩) ⟨88, 34, 88, 41⟩) .NotIn (.name 4 ⟨88, 49, 88, 55⟩) ⟨88, 34, 88, 55⟩)] ⟨88, 7, 88, 55⟩), (.not (.call 5 ⟨88, 63, 88, 73⟩ [(.sub (.name 0 ⟨88, 74, 88, 78⟩) (.cst (.int 1) 0 ⟨88, 79, 88, 80⟩) ⟨88, 74, 88, 81⟩)] ⟨88, 63, 88, 82⟩) ⟨88, 59, 88, 82⟩)] ⟨88, 7, 88, 82⟩) [(.ret (.name 0 ⟨89, 15, 89, 19⟩) ⟨89, 8, 89, 19⟩)] [] ⟨88, 4, 89, 19⟩), (.asg (.name 2 ⟨90, 4, 90, 9⟩) (.meth (.name 1 ⟨90, 12, 90, 16⟩) 19 [(.sub (.sub (.name 0 ⟨90, 26, 90, 30⟩) (.cst (.int 1) 0 ⟨90, 31, 90, 32⟩) ⟨90, 26, 90, 33⟩) (.cst (.int 1) 0 ⟨90, 34, 90, 35⟩) ⟨90, 26, 90, 36⟩)] ⟨90, 12, 90, 25⟩ ⟨90, 12, 90, 37⟩ rfl) ⟨90, 4, 90, 37⟩), (.iff (.call 6 ⟨91, 7, 91, 14⟩ [(.name 2 ⟨91, 15, 91, 20⟩)] ⟨91, 7, 91, 21⟩) [(.ret (.cst .none 0 ⟨92, 15, 92, 19⟩) ⟨92, 8, 92, 19⟩)] [] ⟨91, 4, 92, 19⟩), (.iff (.cmp (.sub (.name 0 ⟨93, 7, 93, 11⟩) (.cst (.int 0) 0 ⟨93, 12, 93, 13⟩) ⟨93, 7, 93, 14⟩) .In (.name 3 ⟨93, 18, 93, 25⟩) ⟨93, 7, 93, 25⟩) [(.ret (.tup [(.sub (.name 0 ⟨94, 16, 94, 20⟩) (.cst (.int 0) 0 ⟨94, 21, 94, 22⟩) ⟨94, 16, 94, 23⟩), (.call 7 ⟨94, 25, 94, 36⟩ [(.name 2 ⟨94, 37, 94, 42⟩), (.sub (.name 0 ⟨94, 44, 94, 48⟩) (.cst (.int 0) 0 ⟨94, 49, 94, 50⟩) ⟨94, 44, 94, 51⟩), (.attr (.name 1 ⟨94, 53, 94, 57⟩) 3 ⟨94, 53, 94, 63⟩)] ⟨94, 25, 94, 64⟩)] 0 ⟨94, 15, 94, 65⟩) ⟨94, 8, 94, 65⟩)] [] ⟨93, 4, 94, 65⟩), (.ret (.tup [(.sub (.name 0 ⟨95, 12, 95, 16⟩) (.cst (.int 0) 0 ⟨95, 17, 95, 18⟩) ⟨95, 12, 95, 19⟩), (.call 8 ⟨95, 21, 95, 32⟩ [(.name 2 ⟨95, 33, 95, 38⟩), (.sub (.name 0 ⟨95, 40, 95, 44⟩) (.cst (.int 0) 0 ⟨95, 45, 95, 46⟩) ⟨95, 40, 95, 47⟩)] ⟨95, 21, 95, 48⟩)] 0 ⟨95, 11, 95, 49⟩) ⟨95, 4, 95, 49⟩)]
noncomputable def cf_settled : Fn := ⟨2, [.loc, .loc, .loc, .glb (.tup [.str [108, 101, 110], .str [112, 111, 115], .str [114, 112, 111, 115], .str [116, 97, 98], .str [114, 116, 97, 98]]), .glb (.tup [.str [97, 110, 121], .str [110, 111, 116, 97, 110, 121], .str [115, 112, 97, 110], .str [98, 114, 101, 97, 107]]), .glb (.fn 8), .glb (.fn 25), .unk, .unk], cb_settled⟩
noncomputable def cns_chars_end : Names := [("subject", .local), ("at", .local), ("text", .local), ("end", .local), ("len", .globalImplicit)]
noncomputable def cb_chars_end : List S := [(.asg (.name 3 ⟨100, 4, 100, 7⟩) (.bin (.name 1 ⟨100, 10, 100, 12⟩) .Add (.call 4 ⟨100, 15, 100, 18⟩ [(.name 2 ⟨100, 19, 100, 23⟩)] ⟨100, 15, 100, 24⟩) ⟨100, 10, 100, 24⟩) ⟨100, 4, 100, 24⟩), (.ret (.ite (.cmp (.slc (.name 0 ⟨101, 18, 101, 25⟩) (some (.name 1 ⟨101, 26, 101, 28⟩)) (some (.name 3 ⟨101, 29, 101, 32⟩)) none ⟨101, 26, 101, 32⟩ ⟨101, 18, 101, 33⟩) .Eq (.name 2 ⟨101, 37, 101, 41⟩) ⟨101, 18, 101, 41⟩) (.name 3 ⟨101, 11, 101, 14⟩) (.cst .none 0 ⟨101, 47, 101, 51⟩) ⟨101, 11, 101, 51⟩) ⟨101, 4, 101, 51⟩)]
noncomputable def cf_chars_end : Fn := ⟨3, [.loc, .loc, .loc, .loc, .glb (.bi .len)], cb_chars_end⟩
noncomputable def cns_rpos_end : Names := [("subject", .local), ("at", .local), ("place", .local), ("len", .globalImplicit)]
noncomputable def cb_rpos_end : List S := [(.ret (.ite (.cmp (.bin (.call 3 ⟨107, 17, 107, 20⟩ [(.name 0 ⟨107, 21, 107, 28⟩)] ⟨107, 17, 107, 29⟩) .Sub (.name 1 ⟨107, 32, 107, 34⟩) ⟨107, 17, 107, 34⟩) .Eq (.name 2 ⟨107, 38, 107, 43⟩) ⟨107, 17, 107, 43⟩) (.name 1 ⟨107, 11, 107, 13⟩) (.cst .none 0 ⟨107, 49, 107, 53⟩) ⟨107, 11, 107, 53⟩) ⟨107, 4, 107, 53⟩)]
noncomputable def cf_rpos_end : Fn := ⟨3, [.loc, .loc, .loc, .glb (.bi .len)], cb_rpos_end⟩
noncomputable def cns_rem_end : Names := [("subject", .local), ("len", .globalImplicit)]
noncomputable def cb_rem_end : List S := [(.ret (.call 1 ⟨114, 11, 114, 14⟩ [(.name 0 ⟨114, 15, 114, 22⟩)] ⟨114, 11, 114, 23⟩) ⟨114, 4, 114, 23⟩)]
noncomputable def cf_rem_end : Fn := ⟨1, [.loc, .glb (.bi .len)], cb_rem_end⟩
noncomputable def cns_run_end : Names := [("subject", .local), ("at", .local), ("signs", .local), ("is_in", .local), ("len", .globalImplicit)]
noncomputable def cb_run_end : List S := [(.whl (.boo .And [(.cmp (.name 1 ⟨120, 10, 120, 12⟩) .Lt (.call 4 ⟨120, 15, 120, 18⟩ [(.name 0 ⟨120, 19, 120, 26⟩)] ⟨120, 15, 120, 27⟩) ⟨120, 10, 120, 27⟩), (.cmp (.cmp (.sub (.name 0 ⟨120, 33, 120, 40⟩) (.name 1 ⟨120, 41, 120, 43⟩) ⟨120, 33, 120, 44⟩) .In (.name 2 ⟨120, 48, 120, 53⟩) ⟨120, 33, 120, 53⟩) .Eq (.name 3 ⟨120, 58, 120, 63⟩) ⟨120, 32, 120, 63⟩)] ⟨120, 10, 120, 63⟩) [(.aug 1 ⟨121, 8, 121, 10⟩ .Add (.cst (.int 1) 0 ⟨121, 14, 121, 15⟩) ⟨121, 8, 121, 15⟩)] ⟨120, 4, 121, 15⟩), (.ret (.name 1 ⟨122, 11, 122, 13⟩) ⟨122, 4, 122, 13⟩)]
noncomputable def cf_run_end : Fn := ⟨4, [.loc, .loc, .loc, .loc, .glb (.bi .len)], cb_run_end⟩
noncomputable def cns_break_end : Names := [("subject", .local), ("at", .local), ("signs", .local), ("end", .local), ("run_end", .globalImplicit), ("len", .globalImplicit)]
noncomputable def cb_break_end : List S := [(.asg (.name 3 ⟨127, 4, 127, 7⟩) (.call 4 ⟨127, 10, 127, 17⟩ [(.name 0 ⟨127, 18, 127, 25⟩), (.name 1 ⟨127, 27, 127, 29⟩), (.name 2 ⟨127, 31, 127, 36⟩), (.cst (.bool false) 0 ⟨127, 38, 127, 43⟩)] ⟨127, 10, 127, 44⟩) ⟨127, 4, 127, 44⟩), (.ret (.ite (.cmp (.name 3 ⟨128, 18, 128, 21⟩) .Lt (.call 5 ⟨128, 24, 128, 27⟩ [(.name 0 ⟨128, 28, 128, 35⟩)] ⟨128, 24, 128, 36⟩) ⟨128, 18, 128, 36⟩) (.name 3 ⟨128, 11, 128, 14⟩) (.cst .none 0 ⟨128, 42, 128, 46⟩) ⟨128, 11, 128, 46⟩) ⟨128, 4, 128, 46⟩)]
noncomputable def cf_break_end : Fn := ⟨3, [.loc, .loc, .loc, .loc, .glb (.fn 13), .glb (.bi .len)], cb_break_end⟩
noncomputable def cns_one_end : Names := [("kind", .local), ("subject", .local), ("at", .local), ("told", .local), ("chars_end", .globalImplicit), ("len_end", .globalImplicit), ("pos_end", .globalImplicit), ("rpos_end", .globalImplicit), ("tab_end", .globalImplicit), ("rtab_end", .globalImplicit), ("any_at", .globalImplicit), ("notany_at", .globalImplicit), ("span_end", .globalImplicit), ("break_end", .globalImplicit)]
noncomputable def cb_one_end : List S := [(.iff (.cmp (.name 0 ⟨149, 7, 149, 11⟩) .Eq (.cst (.str [99, 104, 97, 114, 115]) 0 ⟨149, 15, 149, 22⟩) ⟨149, 7, 149, 22⟩) [(.ret (.call 4 ⟨150, 15, 150, 24⟩ [(.name 1 ⟨150, 25, 150, 32⟩), (.name 2 ⟨150, 34, 150, 36⟩), (.name 3 ⟨150, 38, 150, 42⟩)] ⟨150, 15, 150, 43⟩) ⟨150, 8, 150, 43⟩)] [] ⟨149, 4, 150, 43⟩), (.iff (.cmp (.name 0 ⟨151, 7, 151, 11⟩) .Eq (.cst (.str [108, 101, 110]) 0 ⟨151, 15, 151, 20⟩) ⟨151, 7, 151, 20⟩) [(.ret (.call 5 ⟨152, 15, 152, 22⟩ [(.name 1 ⟨152, 23, 152, 30⟩), (.name 2 ⟨152, 32, 152, 34⟩), (.name 3 ⟨152, 36, 152, 40⟩)] ⟨152, 15, 152, 41⟩) ⟨152, 8, 152, 41⟩)] [] ⟨151, 4, 152, 41⟩), (.iff (.cmp (.name 0 ⟨153, 7, 153, 11⟩) .Eq (.cst (.str [112, 111, 115]) 0 ⟨153, 15, 153, 20⟩) ⟨153, 7, 153, 20⟩) [(.ret (.call 6 ⟨154, 15, 154, 22⟩ [(.name 2 ⟨154, 23, 154, 25⟩), (.name 3 ⟨154, 27, 154, 31⟩)] ⟨154, 15, 154, 32⟩) ⟨154, 8, 154, 32⟩)] [] ⟨153, 4, 154, 32⟩), (.iff (.cmp (.name 0 ⟨155, 7, 155, 11⟩) .Eq (.cst (.str [114, 112, 111, 115]) 0 ⟨155, 15, 155, 21⟩) ⟨155, 7, 155, 21⟩) [(.ret (.call 7 ⟨156, 15, 156, 23⟩ [(.name 1 ⟨156, 24, 156, 31⟩), (.name 2 ⟨156, 33, 156, 35⟩), (.name 3 ⟨156, 37, 156, 41⟩)] ⟨156, 15, 156, 42⟩) ⟨156, 8, 156, 42⟩)] [] ⟨155, 4, 156, 42⟩), (.iff (.cmp (.name 0 ⟨157, 7, 157, 11⟩) .Eq (.cst (.str [116, 97, 98]) 0 ⟨157, 15, 157, 20⟩) ⟨157, 7, 157, 20⟩) [(.ret (.call 8 ⟨158, 15, 158, 22⟩ [(.name 1 ⟨158, 23, 158, 30⟩), (.name 2 ⟨158, 32, 158, 34⟩), (.name 3 ⟨158, 36, 158, 40⟩)] ⟨158, 15, 158, 41⟩) ⟨158, 8, 158, 41⟩)] [] ⟨157, 4, 158, 41⟩), (.iff (.cmp (.name 0 ⟨159, 7, 159, 11⟩) .Eq (.cst (.str [114, 116, 97, 98]) 0 ⟨159, 15, 159, 21⟩) ⟨159, 7, 159, 21⟩) [(.ret (.call 9 ⟨160, 15, 160, 23⟩ [(.name 1 ⟨160, 24, 160, 31⟩), (.name 2 ⟨160, 33, 160, 35⟩), (.name 3 ⟨160, 37, 160, 41⟩)] ⟨160, 15, 160, 42⟩) ⟨160, 8, 160, 42⟩)] [] ⟨159, 4, 160, 42⟩), (.iff (.cmp (.name 0 ⟨161, 7, 161, 11⟩) .Eq (.cst (.str [97, 110, 121]) 0 ⟨161, 15, 161, 20⟩) ⟨161, 7, 161, 20⟩) [(.ret (.call 10 ⟨162, 15, 162, 21⟩ [(.name 1 ⟨162, 22, 162, 29⟩), (.name 2 ⟨162, 31, 162, 33⟩), (.name 3 ⟨162, 35, 162, 39⟩)] ⟨162, 15, 162, 40⟩) ⟨162, 8, 162, 40⟩)] [] ⟨161, 4, 162, 40⟩), (.iff (.cmp (.name 0 ⟨163, 7, 163, 11⟩) .Eq (.cst (.str [110, 111, 116, 97, 110, 121]) 0 ⟨163, 15, 163, 23⟩) ⟨163, 7, 163, 23⟩) [(.ret (.call 11 ⟨164, 15, 164, 24⟩ [(.name 1 ⟨164, 25, 164, 32⟩), (.name 2 ⟨164, 34, 164, 36⟩), (.name 3 ⟨164, 38, 164, 42⟩)] ⟨164, 15, 164, 43⟩) ⟨164, 8, 164, 43⟩)] [] ⟨163, 4, 164, 43⟩), (.iff (.cmp (.name 0 ⟨165, 7, 165, 11⟩) .Eq (.cst (.str [115, 112, 97, 110]) 0 ⟨165, 15, 165, 21⟩) ⟨165, 7, 165, 21⟩) [(.ret (.call 12 ⟨166, 15, 166, 23⟩ [(.name 1 ⟨166, 24, 166, 31⟩), (.name 2 ⟨166, 33, 166, 35⟩), (.name 3 ⟨166, 37, 166, 41⟩)] ⟨166, 15, 166, 42⟩) ⟨166, 8, 166, 42⟩)] [] ⟨165, 4, 166, 42⟩), (.ret (.call 13 ⟨167, 11, 167, 20⟩ [(.name 1 ⟨167, 21, 167, 28⟩), (.name 2 ⟨167, 30, 167, 32⟩), (.name 3 ⟨167, 34, 167, 38⟩)] ⟨167, 11, 167, 39⟩) ⟨167, 4, 167, 39⟩)]
noncomputable def cf_one_end : Fn := ⟨4, [.loc, .loc, .loc, .loc, .glb (.fn 10), .unk, .unk, .glb (.fn 11), .unk, .unk, .unk, .unk, .unk, .glb (.fn 14)], cb_one_end⟩
noncomputable def cns_plain_end : Names := [("node", .local), ("subject", .local), ("at", .local), ("rem_end", .globalImplicit), ("one_end", .globalImplicit)]
noncomputable def cb_plain_end : List S := [(.ret (.ite (.cmp (.sub (.name 0 ⟨169, 31, 169, 35⟩) (.cst (.int 0) 0 ⟨169, 36, 169, 37⟩) ⟨169, 31, 169, 38⟩) .Eq (.cst (.str [114, 101, 109]) 0 ⟨169, 42, 169, 47⟩) ⟨169, 31, 169, 47⟩) (.call 3 ⟨169, 11, 169, 18⟩ [(.name 1 ⟨169, 19, 169, 26⟩)] ⟨169, 11, 169, 27⟩) (.call 4 ⟨169, 53, 169, 60⟩ [(.sub (.name 0 ⟨169, 61, 169, 65⟩) (.cst (.int 0) 0 ⟨169, 66, 169, 67⟩) ⟨169, 61, 169, 68⟩), (.name 1 ⟨169, 70, 169, 77⟩), (.name 2 ⟨169, 79, 169, 81⟩), (.sub (.name 0 ⟨169, 83, 169, 87⟩) (.cst (.int 1) 0 ⟨169, 88, 169, 89⟩) ⟨169, 83, 169, 90⟩)] ⟨169, 53, 169, 91⟩) ⟨169, 11, 169, 91⟩) ⟨169, 4, 169, 91⟩)]
noncomputable def cf_plain_end : Fn := ⟨3, [.loc, .loc, .loc, .glb (.fn 12), .glb (.fn 15)], cb_plain_end⟩
noncomputable def cns_match_plain : Names := [("node", .local), ("subject", .local), ("is_anchored", .local), ("host", .local), ("begin", .local), ("found", .local), ("range", .globalImplicit), ("len", .globalImplicit), ("match_at", .globalImplicit), ("LOST", .globalImplicit)]
noncomputable def cb_match_plain : List S := [(.fr (.name 4 ⟨173, 8, 173, 13⟩) (.call 6 ⟨173, 17, 173, 22⟩ [(.ite (.name 2 ⟨173, 28, 173, 39⟩) (.cst (.int 1) 0 ⟨173, 23, 173, 24⟩) (.bin (.call 7 ⟨173, 45, 173, 48⟩ [(.name 1 ⟨173, 49, 173, 56⟩)] ⟨173, 45, 173, 57⟩) .Add (.cst (.int 1) 0 ⟨173, 60, 173, 61⟩) ⟨173, 45, 173, 61⟩) ⟨173, 23, 173, 61⟩)] ⟨173, 17, 173, 62⟩) [(.asg (.name 5 ⟨174, 8, 174, 13⟩) (.call 8 ⟨174, 16, 174, 24⟩ [(.name 0 ⟨174, 25, 174, 29⟩), (.name 1 ⟨174, 31, 174, 38⟩), (.name 4 ⟨174, 40, 174, 45⟩), (.name 3 ⟨174, 47, 174, 51⟩)] ⟨174, 16, 174, 52⟩) ⟨174, 8, 174, 52⟩), (.iff (.cmp (.name 5 ⟨175, 11, 175, 16⟩) .IsNot (.cst .none 0 ⟨175, 24, 175, 28⟩) ⟨175, 11, 175, 28⟩) [(.ret (.ite (.cmp (.name 5 ⟨176, 27, 176, 32⟩) .Eq (.name 9 ⟨176, 36, 176, 40⟩) ⟨176, 27, 176, 40⟩) (.cst .none 0 ⟨176, 19, 176, 23⟩) (.name 5 ⟨176, 46, 176, 51⟩) ⟨176, 19, 176, 51⟩) ⟨176, 12, 176, 51⟩)] [] ⟨175, 8, 176, 51⟩)] ⟨173, 4, 176, 51⟩), (.ret (.cst .none 0 ⟨177, 11, 177, 15⟩) ⟨177, 4, 177, 15⟩)]
noncomputable def cf_match_plain : Fn := ⟨4, [.loc, .loc, .loc, .loc, .loc, .loc, .glb (.bi .range), .glb (.bi .len), .glb (.fn 18), .glb (.str [108, 111, 115, 116])], cb_match_plain⟩
noncomputable def cns_match_at : Names := [("node", .local), ("subject", .local), ("begin", .local), ("host", .local), ("found", .local), ("tried", .globalImplicit), ("LOST", .globalImplicit)]
noncomputable def cb_match_at : List S := [(.asg (.name 4 ⟨179, 4, 179, 9⟩) (.call 5 ⟨179, 12, 179, 17⟩ [(.name 0 ⟨179, 18, 179, 22⟩), (.name 1 ⟨179, 24, 179, 31⟩), (.name 2 ⟨179, 33, 179, 38⟩), (.name 3 ⟨179, 40, 179, 44⟩)] ⟨179, 12, 179, 45⟩) ⟨179, 4, 179, 45⟩), (.ret (.ite (.boo .Or [(.cmp (.name 4 ⟨180, 20, 180, 25⟩) .Is (.cst .none 0 ⟨180, 29, 180, 33⟩) ⟨180, 20, 180, 33⟩), (.cmp (.name 4 ⟨180, 37, 180, 42⟩) .Eq (.name 6 ⟨180, 46, 180, 50⟩) ⟨180, 37, 180, 50⟩)] ⟨180, 20, 180, 50⟩) (.name 4 ⟨180, 11, 180, 16⟩) (.tup [(.name 2 ⟨180, 57, 180, 62⟩), (.sub (.name 4 ⟨180, 64, 180, 69⟩) (.cst (.int 0) 0 ⟨180, 70, 180, 71⟩) ⟨180, 64, 180, 72⟩), (.sub (.name 4 ⟨180, 74, 180, 79⟩) (.cst (.int 1) 0 ⟨180, 80, 180, 81⟩) ⟨180, 74, 180, 82⟩)] 0 ⟨180, 56, 180, 83⟩) ⟨180, 11, 180, 83⟩) ⟨180, 4, 180, 83⟩)]
noncomputable def cf_match_at : Fn := ⟨4, [.loc, .loc, .loc, .loc, .loc, .glb (.fn 19), .glb (.str [108, 111, 115, 116])], cb_match_at⟩
noncomputable def cns_tried : Names := [("node", .local), ("subject", .local), ("begin", .local), ("host", .local), ("pile", .local), ("way", .local), ("chain", .local), ("at", .local), ("named", .local), ("len", .globalImplicit), ("LOST", .globalImplicit), ("advanced", .globalImplicit), ("list", .globalImplicit)]
noncomputable def cb_tried : List S := [(.asg (.name 4 ⟨182, 4, 182, 8⟩) (.list [(.tup [(.tup [(.name 0 ⟨182, 14, 182, 18⟩), (.cst .none 0 ⟨182, 20, 182, 24⟩)] 0 ⟨182, 13, 182, 25⟩), (.name 2 ⟨182, 27, 182, 32⟩), (.tup [] 0 ⟨182, 34, 182, 36⟩)] 0 ⟨182, 12, 182, 37⟩)] ⟨182, 11, 182, 38⟩) ⟨182, 4, 182, 38⟩), (.whl (.cmp (.call 9 ⟨183, 10, 183, 13⟩ [(.name 4 ⟨183, 14, 183, 18⟩)] ⟨183, 10, 183, 19⟩) .Gt (.cst (.int 0) 0 ⟨183, 22, 183, 23⟩) ⟨183, 10, 183, 23⟩) [(.asg (.name 5 ⟨184, 8, 184, 11⟩) (.meth (.name 4 ⟨184, 14, 184, 18⟩) 11 [] ⟨184, 14, 184, 22⟩ ⟨184, 14, 184, 24⟩ rfl) ⟨184, 8, 184, 24⟩), (.iff (.cmp (.name 5 ⟨185, 11, 185, 14⟩) .Is (.cst .none 0 ⟨185, 18, 185, 22⟩) ⟨185, 11, 185, 22⟩) [(.ret (.name 10 ⟨186, 19, 186, 23⟩) ⟨186, 12, 186, 23⟩)] [] ⟨185, 8, 186, 23⟩), (.asg (.tup [(.name 6 ⟨187, 8, 187, 13⟩), (.name 7 ⟨187, 15, 187, 17⟩), (.name 8 ⟨187, 19, 187, 24⟩)] 0 ⟨187, 8, 187, 24⟩) (.name 5 ⟨187, 27, 187, 30⟩) ⟨187, 8, 187, 30⟩), (.whl (.cmp (.name 6 ⟨188, 14, 188, 19⟩) .IsNot (.cst .none 0 ⟨188, 27, 188, 31⟩) ⟨188, 14, 188, 31⟩) [(.ex (.meth (.name 3 ⟨189, 12, 189, 16⟩) 17 [] ⟨189, 12, 189, 21⟩ ⟨189, 12, 189, 23⟩ rfl) ⟨189, 12, 189, 23⟩), (.asg (.name 5 ⟨190, 12, 190, 15⟩) (.call 11 ⟨190, 18, 190, 26⟩ [(.name 6 ⟨190, 27, 190, 32⟩), (.name 7 ⟨190, 34, 190, 36⟩), (.name 8 ⟨190, 38, 190, 43⟩), (.name 1 ⟨190, 45, 190, 52⟩), (.name 4 ⟨190, 54, 190, 58⟩), (.name 3 ⟨190, 60, 190, 64⟩)] ⟨190, 18, 190, 65⟩) ⟨190, 12, 190, 65⟩), (.iff (.cmp (.name 5 ⟨191, 15, 191, 18⟩) .Is (.cst .none 0 ⟨191, 22, 191, 26⟩) ⟨191, 15, 191, 26⟩) [(.brk ⟨192, 16, 192, 21⟩)] [] ⟨191, 12, 192, 21⟩), (.iff (.cmp (.name 5 ⟨193, 15, 193, 18⟩) .Eq (.name 10 ⟨193, 22, 193, 26⟩) ⟨193, 15, 193, 26⟩) [(.ret (.name 10 ⟨194, 23, 194, 27⟩) ⟨194, 16, 194, 27⟩)] [] ⟨193, 12, 194, 27⟩), (.asg (.tup [(.name 6 ⟨195, 12, 195, 17⟩), (.name 7 ⟨195, 19, 195, 21⟩), (.name 8 ⟨195, 23, 195, 28⟩)] 0 ⟨195, 12, 195, 28⟩) (.name 5 ⟨195, 31, 195, 34⟩) ⟨195, 12, 195, 34⟩)] ⟨188, 8, 195, 34⟩), (.iff (.cmp (.name 6 ⟨196, 11, 196, 16⟩) .Is (.cst .none 0 ⟨196, 20, 196, 24⟩) ⟨196, 11, 196, 24⟩) [(.ret (.tup [(.name 7 ⟨197, 20, 197, 22⟩), (.call 12 ⟨197, 24, 197, 28⟩ [(.name 8 ⟨197, 29, 197, 34⟩)] ⟨197, 24, 197, 35⟩)] 0 ⟨197, 19, 197, 36⟩) ⟨197, 12, 197, 36⟩)] [] ⟨196, 8, 197, 36⟩)] ⟨183, 4, 197, 36⟩), (.ret (.cst .none 0 ⟨198, 11, 198, 15⟩) ⟨198, 4, 198, 15⟩)]
noncomputable def cf_tried : Fn := ⟨4, [.loc, .loc, .loc, .loc, .loc, .loc, .loc, .loc, .loc, .glb (.bi .len), .glb (.str [108, 111, 115, 116]), .glb (.fn 20), .glb (.bi .list)], cb_tried⟩
noncomputable def cns_advanced : Names := [("chain", .local), ("at", .local), ("named", .local), ("subject", .local), ("pile", .local), ("host", .local), ("here", .local), ("rest", .local), ("kind", .local), ("value", .local), ("led_in", .globalImplicit), ("led_out", .globalImplicit), ("is_fail", .globalImplicit), ("pattern_of", .globalImplicit), ("steered", .globalImplicit), ("taken", .globalImplicit)]
noncomputable def cb_advanced : List S := [(.asg (.tup [(.name 6 ⟨200, 4, 200, 8⟩), (.name 7 ⟨200, 10, 200, 14⟩)] 0 ⟨200, 4, 200, 14⟩) (.name 0 ⟨200, 17, 200, 22⟩) ⟨200, 4, 200, 22⟩), (.asg (.name 8 ⟨201, 4, 201, 8⟩) (.sub (.name 6 ⟨201, 11, 201, 15⟩) (.cst (.int 0) 0 ⟨201, 16, 201, 17⟩) ⟨201, 11, 201, 18⟩) ⟨201, 4, 201, 18⟩), (.iff (.cmp (.name 8 ⟨202, 7, 202, 11⟩) .In (.tup [(.cst (.str [99, 97, 116]) 0 ⟨202, 16, 202, 21⟩), (.cst (.str [97, 108, 116]) 0 ⟨202, 23, 202, 28⟩), (.cst (.str [97, 114, 98, 110, 111]) 0 ⟨202, 30, 202, 37⟩), (.cst (.str [108, 97, 116, 101, 114]) 0 ⟨202, 39, 202, 46⟩), (.cst (.str [110, 111, 119]) 0 ⟨202, 48, 202, 53⟩)] 0 ⟨202, 15, 202, 54⟩) ⟨202, 7, 202, 54⟩) [(.ret (.call 10 ⟨203, 15, 203, 21⟩ [(.name 6 ⟨203, 22, 203, 26⟩), (.name 7 ⟨203, 28, 203, 32⟩), (.name 1 ⟨203, 34, 203, 36⟩), (.name 2 ⟨203, 38, 203, 43⟩), (.name 4 ⟨203, 45, 203, 49⟩)] ⟨203, 15, 203, 50⟩) ⟨203, 8, 203, 50⟩)] [] ⟨202, 4, 203, 50⟩), (.iff (.cmp (.slc (.name 8 ⟨204, 7, 204, 11⟩) none (some (.cst (.int 4) 0 ⟨204, 13, 204, 14⟩)) none ⟨204, 12, 204, 14⟩ ⟨204, 7, 204, 15⟩) .Eq (.cst (.str [101, 110, 100, 32]) 0 ⟨204, 19, 204, 25⟩) ⟨204, 7, 204, 25⟩) [(.ret (.call 11 ⟨205, 15, 205, 22⟩ [(.name 6 ⟨205, 23, 205, 27⟩), (.name 7 ⟨205, 29, 205, 33⟩), (.name 1 ⟨205, 35, 205, 37⟩), (.name 2 ⟨205, 39, 205, 44⟩), (.name 3 ⟨205, 46, 205, 53⟩), (.name 4 ⟨205, 55, 205, 59⟩), (.name 5 ⟨205, 61, 205, 65⟩)] ⟨205, 15, 205, 66⟩) ⟨205, 8, 205, 66⟩)] [] ⟨204, 4, 205, 66⟩), (.iff (.cmp (.name 8 ⟨206, 7, 206, 11⟩) .Eq (.cst (.str [99, 117, 114, 115, 111, 114]) 0 ⟨206, 15, 206, 23⟩) ⟨206, 7, 206, 23⟩) [(.ret (.ite (.meth (.name 5 ⟨207, 36, 207, 40⟩) 18 [(.sub (.name 6 ⟨207, 48, 207, 52⟩) (.cst (.int 1) 0 ⟨207, 53, 207, 54⟩) ⟨207, 48, 207, 55⟩), (.name 1 ⟨207, 57, 207, 59⟩)] ⟨207, 36, 207, 47⟩ ⟨207, 36, 207, 60⟩ rfl) (.tup [(.name 7 ⟨207, 16, 207, 20⟩), (.name 1 ⟨207, 22, 207, 24⟩), (.name 2 ⟨207, 26, 207, 31⟩)] 0 ⟨207, 15, 207, 32⟩) (.cst .none 0 ⟨207, 66, 207, 70⟩) ⟨207, 15, 207, 70⟩) ⟨207, 8, 207, 70⟩)] [] ⟨206, 4, 207, 70⟩), (.iff (.cmp (.name 8 ⟨208, 7, 208, 11⟩) .Eq (.cst (.str [100, 101, 108, 97, 121]) 0 ⟨208, 15, 208, 22⟩) ⟨208, 7, 208, 22⟩) [(.asg (.name 9 ⟨209, 8, 209, 13⟩) (.meth (.name 5 ⟨209, 16, 209, 20⟩) 19 [(.sub (.name 6 ⟨209, 30, 209, 34⟩) (.cst (.int 1) 0 ⟨209, 35, 209, 36⟩) ⟨209, 30, 209, 37⟩)] ⟨209, 16, 209, 29⟩ ⟨209, 16, 209, 38⟩ rfl) ⟨209, 8, 209, 38⟩), (.ret (.ite (.call 12 ⟨210, 23, 210, 30⟩ [(.name 9 ⟨210, 31, 210, 36⟩)] ⟨210, 23, 210, 37⟩) (.cst .none 0 ⟨210, 15, 210, 19⟩) (.tup [(.tup [(.call 13 ⟨210, 45, 210, 55⟩ [(.name 9 ⟨210, 56, 210, 61⟩)] ⟨210, 45, 210, 62⟩), (.name 7 ⟨210, 64, 210, 68⟩)] 0 ⟨210, 44, 210, 69⟩), (.name 1 ⟨210, 71, 210, 73⟩), (.name 2 ⟨210, 75, 210, 80⟩)] 0 ⟨210, 43, 210, 81⟩) ⟨210, 15, 210, 81⟩) ⟨210, 8, 210, 81⟩)] [] ⟨208, 4, 210, 81⟩), (.iff (.cmp (.name 8 ⟨211, 7, 211, 11⟩) .In (.tup [(.cst (.str [102, 101, 110, 99, 101]) 0 ⟨211, 16, 211, 23⟩), (.cst (.str [97, 98, 111, 114, 116]) 0 ⟨211, 25, 211, 32⟩), (.cst (.str [102, 97, 105, 108]) 0 ⟨211, 34, 211, 40⟩), (.cst (.str [115, 117, 99, 99, 101, 101, 100]) 0 ⟨211, 42, 211, 51⟩)] 0 ⟨211, 15, 211, 52⟩) ⟨211, 7, 211, 52⟩) [(.ret (.call 14 ⟨212, 15, 212, 22⟩ [(.name 0 ⟨212, 23, 212, 28⟩), (.name 1 ⟨212, 30, 212, 32⟩), (.name 2 ⟨212, 34, 212, 39⟩), (.name 4 ⟨212, 41, 212, 45⟩)] ⟨212, 15, 212, 46⟩) ⟨212, 8, 212, 46⟩)] [] ⟨211, 4, 212, 46⟩), (.ret (.call 15 ⟨213, 11, 213, 16⟩ [(.name 6 ⟨213, 17, 213, 21⟩), (.name 7 ⟨213, 23, 213, 27⟩), (.name 1 ⟨213, 29, 213, 31⟩), (.name 2 ⟨213, 33, 213, 38⟩), (.name 3 ⟨213, 40, 213, 47⟩), (.name 4 ⟨213, 49, 213, 53⟩), (.name 5 ⟨213, 55, 213, 59⟩)] ⟨213, 11, 213, 60⟩) ⟨213, 4, 213, 60⟩)]
noncomputable def cf_advanced : Fn := ⟨6, [.loc, .loc, .loc, .loc, .loc, .loc, .loc, .loc, .loc, .loc, .glb (.fn 21), .glb (.fn 22), .glb (.fn 25), .glb (.fn 26), .glb (.fn 23), .glb (.fn 24)], cb_advanced⟩
noncomputable def cns_led_in : Names := [("here", .local), ("rest", .local), ("at", .local), ("named", .local), ("pile", .local), ("kind", .local)]
noncomputable def cb_led_in : List S := [(.asg (.name 5 ⟨215, 4, 215, 8⟩) (.sub (.name 0 ⟨215, 11, 215, 15⟩) (.cst (.int 0) 0 ⟨215, 16, 215, 17⟩) ⟨215, 11, 215, 18⟩) ⟨215, 4, 215, 18⟩), (.iff (.cmp (.name 5 ⟨216, 7, 216, 11⟩) .Eq (.cst (.str [99, 97, 116]) 0 ⟨216, 15, 216, 20⟩) ⟨216, 7, 216, 20⟩) [(.ret (.tup [(.tup [(.sub (.name 0 ⟨217, 17, 217, 21⟩) (.cst (.int 1) 0 ⟨217, 22, 217, 23⟩) ⟨217, 17, 217, 24⟩), (.tup [(.sub (.name 0 ⟨217, 27, 217, 31⟩) (.cst (.int 2) 0 ⟨217, 32, 217, 33⟩) ⟨217, 27, 217, 34⟩), (.name 1 ⟨217, 36, 217, 40⟩)] 0 ⟨217, 26, 217, 41⟩)] 0 ⟨217, 16, 217, 42⟩), (.name 2 ⟨217, 44, 217, 46⟩), (.name 3 ⟨217, 48, 217, 53⟩)] 0 ⟨217, 15, 217, 54⟩) ⟨217, 8, 217, 54⟩)] [] ⟨216, 4, 217, 54⟩), (.iff (.cmp (.name 5 ⟨218, 7, 218, 11⟩) .Eq (.cst (.str [97, 108, 116]) 0 ⟨218, 15, 218, 20⟩) ⟨218, 7, 218, 20⟩) [(.ex (.meth (.name 4 ⟨219, 8, 219, 12⟩) 10 [(.tup [(.tup [(.sub (.name 0 ⟨219, 22, 219, 26⟩) (.cst (.int 2) 0 ⟨219, 27, 219, 28⟩) ⟨219, 22, 219, 29⟩), (.name 1 ⟨219, 31, 219, 35⟩)] 0 ⟨219, 21, 219, 36⟩), (.name 2 ⟨219, 38, 219, 40⟩), (.name 3 ⟨219, 42, 219, 47⟩)] 0 ⟨219, 20, 219, 48⟩)] ⟨219, 8, 219, 19⟩ ⟨219, 8, 219, 49⟩ rfl) ⟨219, 8, 219, 49⟩), (.ret (.tup [(.tup [(.sub (.name 0 ⟨220, 17, 220, 21⟩) (.cst (.int 1) 0 ⟨220, 22, 220, 23⟩) ⟨220, 17, 220, 24⟩), (.name 1 ⟨220, 26, 220, 30⟩)] 0 ⟨220, 16, 220, 31⟩), (.name 2 ⟨220, 33, 220, 35⟩), (.name 3 ⟨220, 37, 220, 42⟩)] 0 ⟨220, 15, 220, 43⟩) ⟨220, 8, 220, 43⟩)] [] ⟨218, 4, 220, 43⟩), (.iff (.cmp (.name 5 ⟨221, 7, 221, 11⟩) .Eq (.cst (.str [97, 114, 98, 110, 111]) 0 ⟨221, 15, 221, 22⟩) ⟨221, 7, 221, 22⟩) [(.ex (.meth (.name 4 ⟨222, 8, 222, 12⟩) 10 [(.tup [(.tup [(.sub (.name 0 ⟨222, 22, 222, 26⟩) (.cst (.int 1) 0 ⟨222, 27, 222, 28⟩) ⟨222, 22, 222, 29⟩), (.tup [(.tup [(.cst (.str [101, 110, 100, 32, 114, 111, 117, 110, 100]) 0 ⟨222, 33, 222, 44⟩), (.name 0 ⟨222, 46, 222, 50⟩), (.name 2 ⟨222, 52, 222, 54⟩)] 0 ⟨222, 32, 222, 55⟩), (.name 1 ⟨222, 57, 222, 61⟩)] 0 ⟨222, 31, 222, 62⟩)] 0 ⟨222, 21, 222, 63⟩), (.name 2 ⟨222, 65, 222, 67⟩), (.name 3 ⟨222, 69, 222, 74⟩)] 0 ⟨222, 20, 222, 75⟩)] ⟨222, 8, 222, 19⟩ ⟨222, 8, 222, 76⟩ rfl) ⟨222, 8, 222, 76⟩), (.ret (.tup [(.name 1 ⟨223, 16, 223, 20⟩), (.name 2 ⟨223, 22, 223, 24⟩), (.name 3 ⟨223, 26, 223, 31⟩)] 0 ⟨223, 15, 223, 32⟩) ⟨223, 8, 223, 32⟩)] [] ⟨221, 4, 223, 32⟩), (.ret (.tup [(.tup [(.sub (.name 0 ⟨224, 13, 224, 17⟩) (.cst (.int 1) 0 ⟨224, 18, 224, 19⟩) ⟨224, 13, 224, 20⟩), (.tup [(.tup [(.bin (.cst (.str [101, 110, 100, 32]) 0 ⟨224, 24, 224, 30⟩) .Add (.name 5 ⟨224, 33, 224, 37⟩) ⟨224, 24, 224, 37⟩), (.sub (.name 0 ⟨224, 39, 224, 43⟩) (.cst (.int 2) 0 ⟨224, 44, 224, 45⟩) ⟨224, 39, 224, 46⟩), (.name 2 ⟨224, 48, 224, 50⟩)] 0 ⟨224, 23, 224, 51⟩), (.name 1 ⟨224, 53, 224, 57⟩)] 0 ⟨224, 22, 224, 58⟩)] 0 ⟨224, 12, 224, 59⟩), (.name 2 ⟨224, 61, 224, 63⟩), (.name 3 ⟨224, 65, 224, 70⟩)] 0 ⟨224, 11, 224, 71⟩) ⟨224, 4, 224, 71⟩)]
noncomputable def cf_led_in : Fn := ⟨5, [.loc, .loc, .loc, .loc, .loc, .loc], cb_led_in⟩
noncomputable def cns_led_out : Names := [("here", .local), ("rest", .local), ("at", .local), ("named", .local), ("subject", .local), ("pile", .local), ("host", .local), ("kind", .local), ("told", .local), ("begin", .local)]
noncomputable def cb_led_out : List S := [(.asg (.tup [(.name 7 ⟨226, 4, 226, 8⟩), (.name 8 ⟨226, 10, 226, 14⟩), (.name 9 ⟨226, 16, 226, 21⟩)] 0 ⟨226, 4, 226, 21⟩) (.name 0 ⟨226, 24, 226, 28⟩) ⟨226, 4, 226, 28⟩), (.iff (.cmp (.name 7 ⟨227, 7, 227, 11⟩) .Eq (.cst (.str [101, 110, 100, 32, 108, 97, 116, 101, 114]) 0 ⟨227, 15, 227, 26⟩) ⟨227, 7, 227, 26⟩) [(.ret (.tup [(.name 1 ⟨228, 16, 228, 20⟩), (.name 2 ⟨228, 22, 228, 24⟩), (.bin (.name 3 ⟨228, 26, 228, 31⟩) .Add (.tup [(.tup [(.name 8 ⟨228, 36, 228, 40⟩), (.slc (.name 4 ⟨228, 42, 228, 49⟩) (some (.name 9 ⟨228, 50, 228, 55⟩)) (some (.name 2 ⟨228, 56, 228, 58⟩)) none ⟨228, 50, 228, 58⟩ ⟨228, 42, 228, 59⟩)] 0 ⟨228, 35, 228, 60⟩)] 0 ⟨228, 34, 228, 62⟩) ⟨228, 26, 228, 62⟩)] 0 ⟨228, 15, 228, 63⟩) ⟨228, 8, 228, 63⟩)] [] ⟨227, 4, 228, 63⟩), (.iff (.cmp (.name 7 ⟨229, 7, 229, 11⟩) .Eq (.cst (.str [101, 110, 100, 32, 110, 111, 119]) 0 ⟨229, 15, 229, 24⟩) ⟨229, 7, 229, 24⟩) [(.ret (.ite (.meth (.name 6 ⟨230, 36, 230, 40⟩) 18 [(.name 8 ⟨230, 48, 230, 52⟩), (.slc (.name 4 ⟨230, 54, 230, 61⟩) (some (.name 9 ⟨230, 62, 230, 67⟩)) (some (.name 2 ⟨230, 68, 230, 70⟩)) none ⟨230, 62, 230, 70⟩ ⟨230, 54, 230, 71⟩)] ⟨230, 36, 230, 47⟩ ⟨230, 36, 230, 72⟩ rfl) (.tup [(.name 1 ⟨230, 16, 230, 20⟩), (.name 2 ⟨230, 22, 230, 24⟩), (.name 3 ⟨230, 26, 230, 31⟩)] 0 ⟨230, 15, 230, 32⟩) (.cst .none 0 ⟨230, 78, 230, 82⟩) ⟨230, 15, 230, 82⟩) ⟨230, 8, 230, 82⟩)] [] ⟨229, 4, 230, 82⟩), (.ret (.ite (.cmp (.name 2 ⟨231, 19, 231, 21⟩) .Eq (.name 9 ⟨231, 25, 231, 30⟩) ⟨231, 19, 231, 30⟩) (.cst .none 0 ⟨231, 11, 231, 15⟩) (.tup [(.tup [(.name 8 ⟨231, 38, 231, 42⟩), (.name 1 ⟨231, 44, 231, 48⟩)] 0 ⟨231, 37, 231, 49⟩), (.name 2 ⟨231, 51, 231, 53⟩), (.name 3 ⟨231, 55, 231, 60⟩)] 0 ⟨231, 36, 231, 61⟩) ⟨231, 11, 231, 61⟩) ⟨231, 4, 231, 61⟩)]
noncomputable def cf_led_out : Fn := ⟨7, [.loc, .loc, .loc, .loc, .loc, .loc, .loc, .loc, .loc, .loc], cb_led_out⟩
noncomputable def cns_steered : Names := [("chain", .local), ("at", .local), ("named", .local), ("pile", .local), ("kind", .local), ("rest", .local), ("LOST", .globalImplicit)]
noncomputable def cb_steered : List S := [(.swp [(4, ⟨233, 4, 233, 8⟩), (5, ⟨233, 10, 233, 14⟩)] 0 ⟨233, 4, 233, 14⟩ [(.sub (.sub (.name 0 ⟨233, 18, 233, 23⟩) (.cst (.int 0) 0 ⟨233, 24, 233, 25⟩) ⟨233, 18, 233, 26⟩) (.cst (.int 0) 0 ⟨233, 27, 233, 28⟩) ⟨233, 18, 233, 29⟩), (.sub (.name 0 ⟨233, 31, 233, 36⟩) (.cst (.int 1) 0 ⟨233, 37, 233, 38⟩) ⟨233, 31, 233, 39⟩)] 0 ⟨233, 17, 233, 40⟩ ⟨233, 4, 233, 40⟩), (.iff (.cmp (.name 4 ⟨234, 7, 234, 11⟩) .Eq (.cst (.str [97, 98, 111, 114, 116]) 0 ⟨234, 15, 234, 22⟩) ⟨234, 7, 234, 22⟩) [(.ret (.name 6 ⟨235, 15, 235, 19⟩) ⟨235, 8, 235, 19⟩)] [] ⟨234, 4, 235, 19⟩), (.iff (.cmp (.name 4 ⟨236, 7, 236, 11⟩) .Eq (.cst (.str [102, 97, 105, 108]) 0 ⟨236, 15, 236, 21⟩) ⟨236, 7, 236, 21⟩) [(.ret (.cst .none 0 ⟨237, 15, 237, 19⟩) ⟨237, 8, 237, 19⟩)] [] ⟨236, 4, 237, 19⟩), (.ex (.meth (.name 3 ⟨238, 4, 238, 8⟩) 10 [(.ite (.cmp (.name 4 ⟨238, 24, 238, 28⟩) .Eq (.cst (.str [102, 101, 110, 99, 101]) 0 ⟨238, 32, 238, 39⟩) ⟨238, 24, 238, 39⟩) (.cst .none 0 ⟨238, 16, 238, 20⟩) (.tup [(.name 0 ⟨238, 46, 238, 51⟩), (.name 1 ⟨238, 53, 238, 55⟩), (.name 2 ⟨238, 57, 238, 62⟩)] 0 ⟨238, 45, 238, 63⟩) ⟨238, 16, 238, 63⟩)] ⟨238, 4, 238, 15⟩ ⟨238, 4, 238, 64⟩ rfl) ⟨238, 4, 238, 64⟩), (.ret (.tup [(.name 5 ⟨239, 12, 239, 16⟩), (.name 1 ⟨239, 18, 239, 20⟩), (.name 2 ⟨239, 22, 239, 27⟩)] 0 ⟨239, 11, 239, 28⟩) ⟨239, 4, 239, 28⟩)]
noncomputable def cf_steered : Fn := ⟨4, [.loc, .loc, .loc, .loc, .loc, .loc, .glb (.str [108, 111, 115, 116])], cb_steered⟩
noncomputable def cns_taken : Names := [("here", .local), ("rest", .local), ("at", .local), ("named", .local), ("subject", .local), ("pile", .local), ("host", .local), ("kind", .local), ("ends", .local), ("end", .local), ("plain", .local), ("len", .globalImplicit), ("bal_ends", .globalImplicit), ("settled", .globalImplicit), ("plain_end", .globalImplicit)]
noncomputable def cb_taken : List S := [(.asg (.name 7 ⟨241, 4, 241, 8⟩) (.sub (.name 0 ⟨241, 11, 241, 15⟩) (.cst (.int 0) 0 ⟨241, 16, 241, 17⟩) ⟨241, 11, 241, 18⟩) ⟨241, 4, 241, 18⟩), (.iff (.cmp (.name 7 ⟨242, 7, 242, 11⟩) .Eq (.cst (.str [97, 114, 98]) 0 ⟨242, 15, 242, 20⟩) ⟨242, 7, 242, 20⟩) [(.iff (.cmp (.name 2 ⟨243, 11, 243, 13⟩) .Lt (.call 11 ⟨243, 16, 243, 19⟩ [(.name 4 ⟨243, 20, 243, 27⟩)] ⟨243, 16, 243, 28⟩) ⟨243, 11, 243, 28⟩) [(.ex (.meth (.name 5 ⟨244, 12, 244, 16⟩) 10 [(.tup [(.tup [(.name 0 ⟨244, 26, 244, 30⟩), (.name 1 ⟨244, 32, 244, 36⟩)] 0 ⟨244, 25, 244, 37⟩), (.bin (.name 2 ⟨244, 39, 244, 41⟩) .Add (.cst (.int 1) 0 ⟨244, 44, 244, 45⟩) ⟨244, 39, 244, 45⟩), (.name 3 ⟨244, 47, 244, 52⟩)] 0 ⟨244, 24, 244, 53⟩)] ⟨244, 12, 244, 23⟩ ⟨244, 12, 244, 54⟩ rfl) ⟨244, 12, 244, 54⟩)] [] ⟨243, 8, 244, 54⟩), (.ret (.tup [(.name 1 ⟨245, 16, 245, 20⟩), (.name 2 ⟨245, 22, 245, 24⟩), (.name 3 ⟨245, 26, 245, 31⟩)] 0 ⟨245, 15, 245, 32⟩) ⟨245, 8, 245, 32⟩)] [] ⟨242, 4, 245, 32⟩), (.iff (.cmp (.name 7 ⟨246, 7, 246, 11⟩) .Eq (.cst (.str [98, 97, 108]) 0 ⟨246, 15, 246, 20⟩) ⟨246, 7, 246, 20⟩) [(.asg (.name 8 ⟨247, 8, 247, 12⟩) (.call 12 ⟨247, 15, 247, 23⟩ [(.name 4 ⟨247, 24, 247, 31⟩), (.name 2 ⟨247, 33, 247, 35⟩)] ⟨247, 15, 247, 36⟩) ⟨247, 8, 247, 36⟩), (.fr (.name 9 ⟨248, 12, 248, 15⟩) (.slc (.name 8 ⟨248, 19, 248, 23⟩) none (some (.cst (.int 0) 0 ⟨248, 25, 248, 26⟩)) (some (.neg (.cst (.int 1) 0 ⟨248, 28, 248, 29⟩) ⟨248, 27, 248, 29⟩)) ⟨248, 24, 248, 29⟩ ⟨248, 19, 248, 30⟩) [(.ex (.meth (.name 5 ⟨249, 12, 249, 16⟩) 10 [(.tup [(.name 1 ⟨249, 25, 249, 29⟩), (.name 9 ⟨249, 31, 249, 34⟩), (.name 3 ⟨249, 36, 249, 41⟩)] 0 ⟨249, 24, 249, 42⟩)] ⟨249, 12, 249, 23⟩ ⟨249, 12, 249, 43⟩ rfl) ⟨249, 12, 249, 43⟩)] ⟨248, 8, 249, 43⟩), (.ret (.ite (.cmp (.call 11 ⟨250, 41, 250, 44⟩ [(.name 8 ⟨250, 45, 250, 49⟩)] ⟨250, 41, 250, 50⟩) .Gt (.cst (.int 0) 0 ⟨250, 53, 250, 54⟩) ⟨250, 41, 250, 54⟩) (.tup [(.name 1 ⟨250, 16, 250, 20⟩), (.sub (.name 8 ⟨250, 22, 250, 26⟩) (.cst (.int 0) 0 ⟨250, 27, 250, 28⟩) ⟨250, 22, 250, 29⟩), (.name 3 ⟨250, 31, 250, 36⟩)] 0 ⟨250, 15, 250, 37⟩) (.cst .none 0 ⟨250, 60, 250, 64⟩) ⟨250, 15, 250, 64⟩) ⟨250, 8, 250, 64⟩)] [] ⟨246, 4, 250, 64⟩), (.asg (.name 10 ⟨251, 4, 251, 9⟩) (.call 13 ⟨251, 12, 251, 19⟩ [(.name 0 ⟨251, 20, 251, 24⟩), (.name 6 ⟨251, 26, 251, 30⟩)] ⟨251, 12, 251, 31⟩) ⟨251, 4, 251, 31⟩), (.iff (.cmp (.name 10 ⟨252, 7, 252, 12⟩) .Is (.cst .none 0 ⟨252, 16, 252, 20⟩) ⟨252, 7, 252, 20⟩) [(.ret (.cst .none 0 ⟨253, 15, 253, 19⟩) ⟨253, 8, 253, 19⟩)] [] ⟨252, 4, 253, 19⟩), (.asg (.name 9 ⟨254, 4, 254, 7⟩) (.call 14 ⟨254, 10, 254, 19⟩ [(.name 10 ⟨254, 20, 254, 25⟩), (.name 4 ⟨254, 27, 254, 34⟩), (.name 2 ⟨254, 36, 254, 38⟩)] ⟨254, 10, 254, 39⟩) ⟨254, 4, 254, 39⟩), (.ret (.ite (.cmp (.name 9 ⟨255, 19, 255, 22⟩) .Is (.cst .none 0 ⟨255, 26, 255, 30⟩) ⟨255, 19, 255, 30⟩) (.cst .none 0 ⟨255, 11, 255, 15⟩) (.tup [(.name 1 ⟨255, 37, 255, 41⟩), (.name 9 ⟨255, 43, 255, 46⟩), (.name 3 ⟨255, 48, 255, 53⟩)] 0 ⟨255, 36, 255, 54⟩) ⟨255, 11, 255, 54⟩) ⟨255, 4, 255, 54⟩)]
noncomputable def cf_taken : Fn := ⟨7, [.loc, .loc, .loc, .loc, .loc, .loc, .loc, .loc, .loc, .loc, .loc, .glb (.bi .len), .unk, .glb (.fn 9), .glb (.fn 16)], cb_taken⟩
noncomputable def cns_is_fail : Names := [("value", .local), ("isinstance", .globalImplicit), ("Failure", .globalImplicit)]
noncomputable def cb_is_fail : List S := [(.ret (.call 1 ⟨25, 11, 25, 21⟩ [(.name 0 ⟨25, 22, 25, 27⟩), (.name 2 ⟨25, 29, 25, 36⟩)] ⟨25, 11, 25, 37⟩) ⟨25, 4, 25, 37⟩)]
noncomputable def cf_is_fail : Fn := ⟨1, [.loc, .glb (.bi .isinstance), .glb (.cls 3)], cb_is_fail⟩
noncomputable def cns_pattern_of : Names := [("value", .local), ("text", .local), ("isinstance", .globalImplicit), ("Pattern", .globalImplicit), ("Delayed", .globalImplicit), ("to_text", .globalImplicit), ("SnobolError", .globalImplicit)]
noncomputable def cb_pattern_of : List S := [(.iff (.call 2 ⟨77, 7, 77, 17⟩ [(.name 0 ⟨77, 18, 77, 23⟩), (.name 3 ⟨77, 25, 77, 32⟩)] ⟨77, 7, 77, 33⟩) [(.ret (.attr (.name 0 ⟨78, 15, 78, 20⟩) 9 ⟨78, 15, 78, 25⟩) ⟨78, 8, 78, 25⟩)] [] ⟨77, 4, 78, 25⟩), (.iff (.call 2 ⟨79, 7, 79, 17⟩ [(.name 0 ⟨79, 18, 79, 23⟩), (.name 4 ⟨79, 25, 79, 32⟩)] ⟨79, 7, 79, 33⟩) [(.ret (.tup [(.cst (.str [100, 101, 108, 97, 121]) 0 ⟨80, 16, 80, 23⟩), (.raw (PySem.Expr.Attribute (PySem.Expr.Name "value" ⟨80, 25, 80, 30⟩) "tree" ⟨80, 25, 80, 35⟩))] 0 ⟨80, 15, 80, 36⟩) ⟨80, 8, 80, 36⟩)] [] ⟨79, 4, 80, 36⟩), (.asg (.name 1 ⟨81, 4, 81, 8⟩) (.call 5 ⟨81, 11, 81, 18⟩ [(.name 0 ⟨81, 19, 81, 24⟩)] ⟨81, 11, 81, 25⟩) ⟨81, 4, 81, 25⟩), (.iff (.cmp (.name 1 ⟨82, 7, 82, 11⟩) .Is (.cst .none 0 ⟨82, 15, 82, 19⟩) ⟨82, 7, 82, 19⟩) [(.raw (PySem.Stmt.Raise (exc := (some (PySem.Expr.Call (func := (PySem.Expr.Name "SnobolError" ⟨83, 14, 83, 25⟩)) (args := [(PySem.Expr.Constant (PySem.Const.int 1) 0 ⟨83, 26, 83, 27⟩), (PySem.Expr.Constant (PySem.Const.str "pattern") 0 ⟨83, 29, 83, 38⟩)]) (keywords := []) (pos := ⟨83, 14, 83, 39⟩)))) (cause := none) (pos := ⟨83, 8, 83, 39⟩)))] [] ⟨82, 4, 83, 39⟩), (.ret (.tup [(.cst (.str [99, 104, 97, 114, 115]) 0 ⟨84, 12, 84, 19⟩), (.name 1 ⟨84, 21, 84, 25⟩)] 0 ⟨84, 11, 84, 26⟩) ⟨84, 4, 84, 26⟩)]
noncomputable def cf_pattern_of : Fn := ⟨1, [.loc, .loc, .glb (.bi .isinstance), .glb (.cls 2), .unk, .unk, .unk], cb_pattern_of⟩
noncomputable def cns_PlainHost_value_of : Names := [("self", .local), ("tree", .local), ("Failure", .globalImplicit)]
noncomputable def cb_PlainHost_value_of : List S := [(.iff (.cmp (.sub (.name 1 ⟨268, 11, 268, 15⟩) (.cst (.int 0) 0 ⟨268, 16, 268, 17⟩) ⟨268, 11, 268, 18⟩) .Eq (.cst (.str [110, 97, 109, 101]) 0 ⟨268, 22, 268, 28⟩) ⟨268, 11, 268, 28⟩) [(.ret (.meth (.attr (.name 0 ⟨269, 19, 269, 23⟩) 0 ⟨269, 19, 269, 30⟩) 12 [(.sub (.name 1 ⟨269, 35, 269, 39⟩) (.cst (.int 1) 0 ⟨269, 40, 269, 41⟩) ⟨269, 35, 269, 42⟩), (.cst (.str []) 0 ⟨269, 44, 269, 46⟩)] ⟨269, 19, 269, 34⟩ ⟨269, 19, 269, 47⟩ rfl) ⟨269, 12, 269, 47⟩)] [] ⟨268, 8, 269, 47⟩), (.ret (.ite (.cmp (.sub (.name 1 ⟨270, 28, 270, 32⟩) (.cst (.int 0) 0 ⟨270, 33, 270, 34⟩) ⟨270, 28, 270, 35⟩) .Eq (.cst (.str [102, 97, 105, 108, 115]) 0 ⟨270, 39, 270, 46⟩) ⟨270, 28, 270, 46⟩) (.call 2 ⟨270, 15, 270, 22⟩ [] ⟨270, 15, 270, 24⟩) (.sub (.name 1 ⟨270, 52, 270, 56⟩) (.cst (.int 1) 0 ⟨270, 57, 270, 58⟩) ⟨270, 52, 270, 59⟩) ⟨270, 15, 270, 59⟩) ⟨270, 8, 270, 59⟩)]
noncomputable def cf_PlainHost_value_of : Fn := ⟨2, [.loc, .loc, .glb (.cls 3)], cb_PlainHost_value_of⟩
noncomputable def cns_Pattern___init : Names := [("self", .local), ("node", .local)]
noncomputable def cb_Pattern___init : List S := [(.asg (.attr (.name 0 ⟨13, 8, 13, 12⟩) 9 ⟨13, 8, 13, 17⟩) (.name 1 ⟨13, 20, 13, 24⟩) ⟨13, 8, 13, 24⟩)]
noncomputable def cf_Pattern___init : Fn := ⟨2, [.loc, .loc], cb_Pattern___init⟩
noncomputable def cns_law_put : Names := [("row", .local), ("player", .cell), ("lot", .local), ("ahead", .local), ("rest", .local), ("text_of", .local), ("node", .local), ("later", .local), ("NameRef", .globalImplicit), ("replace_once", .globalImplicit), ("match_plain", .globalImplicit), ("PlainHost", .globalImplicit), ("%d", .local)]
noncomputable def cb_law_put : List S := [(.swp [(3, ⟨301, 4, 301, 9⟩), (4, ⟨301, 11, 301, 15⟩)] 0 ⟨301, 4, 301, 15⟩ [(.tup [(.cst (.str [98, 114, 101, 97, 107]) 0 ⟨301, 20, 301, 27⟩), (.name 2 ⟨301, 29, 301, 32⟩)] 0 ⟨301, 19, 301, 33⟩), (.tup [(.cst (.str [110, 111, 119]) 0 ⟨301, 36, 301, 41⟩), (.tup [(.cst (.str [114, 101, 109]) 0 ⟨301, 44, 301, 49⟩)] 0 ⟨301, 43, 301, 51⟩), (.call 8 ⟨301, 53, 301, 60⟩ [(.cst (.str [118, 97, 114]) 0 ⟨301, 61, 301, 66⟩), (.cst .none 0 ⟨301, 68, 301, 72⟩), (.cst (.str [82]) 0 ⟨301, 74, 301, 77⟩)] ⟨301, 53, 301, 78⟩)] 0 ⟨301, 35, 301, 79⟩)] 0 ⟨301, 18, 301, 80⟩ ⟨301, 4, 301, 80⟩), (.fdef 5 12 0), (.asg (.name 6 ⟨305, 4, 305, 8⟩) (.tup [(.cst (.str [99, 97, 116]) 0 ⟨305, 12, 305, 17⟩), (.tup [(.cst (.str [110, 111, 119]) 0 ⟨305, 20, 305, 25⟩), (.name 3 ⟨305, 27, 305, 32⟩), (.call 8 ⟨305, 34, 305, 41⟩ [(.cst (.str [118, 97, 114]) 0 ⟨305, 42, 305, 47⟩), (.cst .none 0 ⟨305, 49, 305, 53⟩), (.cst (.str [65]) 0 ⟨305, 55, 305, 58⟩)] ⟨305, 34, 305, 59⟩)] 0 ⟨305, 19, 305, 60⟩), (.name 4 ⟨305, 62, 305, 66⟩)] 0 ⟨305, 11, 305, 67⟩) ⟨305, 4, 305, 67⟩), (.asg (.name 7 ⟨306, 4, 306, 9⟩) (.call 9 ⟨306, 12, 306, 24⟩ [(.name 10 ⟨306, 25, 306, 36⟩), (.name 6 ⟨306, 38, 306, 42⟩), (.name 0 ⟨306, 44, 306, 47⟩), (.cst (.bool true) 0 ⟨306, 49, 306, 53⟩), (.call 11 ⟨306, 55, 306, 64⟩ [(.dict0 ⟨306, 65, 306, 67⟩), (.cst (.int 9999) 0 ⟨306, 69, 306, 73⟩), (.list [] ⟨306, 75, 306, 77⟩)] ⟨306, 55, 306, 78⟩), (.name 5 ⟨306, 80, 306, 87⟩)] ⟨306, 12, 306, 88⟩) ⟨306, 4, 306, 88⟩), (.ret (.ite (.cmp (.name 7 ⟨307, 27, 307, 32⟩) .Is (.cst .none 0 ⟨307, 36, 307, 40⟩) ⟨307, 27, 307, 40⟩) (.bin (.name 0 ⟨307, 11, 307, 14⟩) .Add (.name 1 ⟨307, 17, 307, 23⟩) ⟨307, 11, 307, 23⟩) (.name 7 ⟨307, 46, 307, 51⟩) ⟨307, 11, 307, 51⟩) ⟨307, 4, 307, 51⟩)]
noncomputable def cf_law_put : Fn := ⟨3, [.loc, .cel, .loc, .loc, .loc, .loc, .loc, .loc, .glb (.cls 0), .glb (.fn 3), .glb (.fn 17), .glb (.cls 1), .nst 5 0 [1]], cb_law_put⟩
noncomputable def cns_law_one_of : Names := [("players", .local), ("node", .local), ("player", .local)]
noncomputable def cb_law_one_of : List S := [(.fr (.name 2 ⟨309, 8, 309, 14⟩) (.name 0 ⟨309, 18, 309, 25⟩) [(.asg (.name 1 ⟨310, 8, 310, 12⟩) (.tup [(.cst (.str [97, 108, 116]) 0 ⟨310, 16, 310, 21⟩), (.tup [(.cst (.str [99, 97, 116]) 0 ⟨310, 24, 310, 29⟩), (.tup [(.cst (.str [99, 104, 97, 114, 115]) 0 ⟨310, 32, 310, 39⟩), (.name 2 ⟨310, 41, 310, 47⟩)] 0 ⟨310, 31, 310, 48⟩), (.tup [(.cst (.str [100, 101, 108, 97, 121]) 0 ⟨310, 51, 310, 58⟩), (.tup [(.cst (.str [110, 97, 109, 101]) 0 ⟨310, 61, 310, 67⟩), (.name 2 ⟨310, 69, 310, 75⟩)] 0 ⟨310, 60, 310, 76⟩)] 0 ⟨310, 50, 310, 77⟩)] 0 ⟨310, 23, 310, 78⟩), (.name 1 ⟨310, 80, 310, 84⟩)] 0 ⟨310, 15, 310, 85⟩) ⟨310, 8, 310, 85⟩)] ⟨309, 4, 310, 85⟩), (.ret (.name 1 ⟨311, 11, 311, 15⟩) ⟨311, 4, 311, 15⟩)]
noncomputable def cf_law_one_of : Fn := ⟨2, [.loc, .loc, .loc], cb_law_one_of⟩
noncomputable def cns_law_orders : Names := [("players", .cell), ("%n", .local)]
noncomputable def cb_law_orders : List S := [(.iff (.cmp (.name 0 ⟨313, 7, 313, 14⟩) .Eq (.cst (.str []) 0 ⟨313, 18, 313, 20⟩) ⟨313, 7, 313, 20⟩) [(.ret (.list [(.cst (.str []) 0 ⟨314, 16, 314, 18⟩)] ⟨314, 15, 314, 19⟩) ⟨314, 8, 314, 19⟩)] [] ⟨313, 4, 314, 19⟩), (.ret (.comp2 (.bin (.name 1 ⟨315, 12, 315, 15⟩) .Add (.name 2 ⟨315, 18, 315, 22⟩) ⟨315, 12, 315, 22⟩) (.one 1 ⟨315, 27, 315, 30⟩) (.name 0 ⟨315, 34, 315, 41⟩) (.one 2 ⟨315, 46, 315, 50⟩) (.call 3 ⟨315, 54, 315, 65⟩ [(.meth (.name 4 ⟨315, 66, 315, 73⟩) 14 [(.name 1 ⟨315, 82, 315, 85⟩), (.cst .emp 0 ⟨315, 87, 315, 89⟩)] ⟨315, 66, 315, 81⟩ ⟨315, 66, 315, 90⟩ rfl)] ⟨315, 54, 315, 91⟩) 10 5 1 [.loc, .loc, .loc, .glb 7, .out 0] { kind := PySem.ScopeKind.function, names := [((PySem.Str.ofString ".0"), PySem.NameKind.local), ((PySem.Str.ofString "one"), PySem.NameKind.local), ((PySem.Str.ofString "rest"), PySem.NameKind.local), ((PySem.Str.ofString "_law_orders"), PySem.NameKind.globalImplicit), ((PySem.Str.ofString "players"), PySem.NameKind.free)], isGenerator := false, isCoroutine := false, more := [] } ccok0 ⟨315, 11, 315, 92⟩) ⟨315, 4, 315, 92⟩)]
noncomputable def cf_law_orders : Fn := ⟨1, [.cel, .nid 5], cb_law_orders⟩
noncomputable def cns_law : Names := [("script", .local), ("usual", .local), ("cells", .local), ("players", .local), ("row", .local), ("at", .local), ("player", .local), ("beaten", .cell), ("second", .local), ("first", .local), ("pair", .local), ("values", .cell), ("node", .cell), ("found", .local), ("len", .globalImplicit), ("dict", .globalImplicit), ("range", .globalImplicit), ("_law_one_of", .globalImplicit), ("_law_put", .globalImplicit), ("match_plain", .globalImplicit), ("PlainHost", .globalImplicit), ("_law_orders", .globalImplicit), ("%n", .local)]
noncomputable def cb_law : List S := [(.asg (.name 1 ⟨317, 4, 317, 9⟩) (.list [(.cst (.int 1) 0 ⟨317, 13, 317, 14⟩), (.cst (.int 2) 0 ⟨317, 16, 317, 17⟩)] ⟨317, 12, 317, 18⟩) ⟨317, 4, 317, 18⟩), (.asg (.name 2 ⟨318, 4, 318, 9⟩) (.bin (.comp (.call 2 ⟨318, 13, 318, 16⟩ [(.call 3 ⟨318, 17, 318, 20⟩ [(.name 1 ⟨318, 21, 318, 24⟩)] ⟨318, 17, 318, 25⟩)] ⟨318, 13, 318, 26⟩) (.one 1 ⟨318, 31, 318, 34⟩) (.slc (.name 0 ⟨318, 38, 318, 44⟩) none (some (.cst (.int 2) 0 ⟨318, 46, 318, 47⟩)) none ⟨318, 45, 318, 47⟩ ⟨318, 38, 318, 48⟩) [] 0 4 22 [.loc, .loc, .glb 0, .glb 1] { kind := PySem.ScopeKind.function, names := [((PySem.Str.ofString ".0"), PySem.NameKind.local), ((PySem.Str.ofString "one"), PySem.NameKind.local), ((PySem.Str.ofString "abs"), PySem.NameKind.globalImplicit), ((PySem.Str.ofString "int"), PySem.NameKind.globalImplicit)], isGenerator := false, isCoroutine := false, more := [] } ccok1 ⟨318, 12, 318, 49⟩) .Add (.slc (.name 1 ⟨318, 52, 318, 57⟩) (some (.call 14 ⟨318, 58, 318, 61⟩ [(.slc (.name 0 ⟨318, 62, 318, 68⟩) none (some (.cst (.int 2) 0 ⟨318, 70, 318, 71⟩)) none ⟨318, 69, 318, 71⟩ ⟨318, 62, 318, 72⟩)] ⟨318, 58, 318, 73⟩)) none none ⟨318, 58, 318, 74⟩ ⟨318, 52, 318, 75⟩) ⟨318, 12, 318, 75⟩) ⟨318, 4, 318, 75⟩), (.swp [(3, ⟨319, 4, 319, 11⟩), (4, ⟨319, 13, 319, 16⟩), (5, ⟨319, 18, 319, 20⟩)] 0 ⟨319, 4, 319, 20⟩ [(.slc (.cst (.str [97, 98, 99, 100]) 0 ⟨319, 24, 319, 30⟩) none (some (.bin (.cst (.int 2) 0 ⟨319, 32, 319, 33⟩) .Add (.bin (.sub (.name 2 ⟨319, 36, 319, 41⟩) (.cst (.int 0) 0 ⟨319, 42, 319, 43⟩) ⟨319, 36, 319, 44⟩) .Mod (.cst (.int 3) 0 ⟨319, 47, 319, 48⟩) ⟨319, 36, 319, 48⟩) ⟨319, 32, 319, 48⟩)) none ⟨319, 31, 319, 48⟩ ⟨319, 24, 319, 49⟩), (.cst (.str []) 0 ⟨319, 51, 319, 53⟩), (.cst (.int 0) 0 ⟨319, 55, 319, 56⟩)] 0 ⟨319, 23, 319, 57⟩ ⟨319, 4, 319, 57⟩), (.asg (.name 7 ⟨320, 4, 320, 10⟩) (.call 15 ⟨320, 13, 320, 17⟩ [(.comp (.tup [(.name 1 ⟨320, 20, 320, 26⟩), (.cst (.str []) 0 ⟨320, 28, 320, 30⟩)] 0 ⟨320, 19, 320, 31⟩) (.one 1 ⟨320, 36, 320, 42⟩) (.name 3 ⟨320, 46, 320, 53⟩) [] 11 4 22 [.loc, .loc] { kind := PySem.ScopeKind.function, names := [((PySem.Str.ofString ".0"), PySem.NameKind.local), ((PySem.Str.ofString "player"), PySem.NameKind.local)], isGenerator := false, isCoroutine := false, more := [] } ccok2 ⟨320, 18, 320, 54⟩)] ⟨320, 13, 320, 55⟩) ⟨320, 4, 320, 55⟩), (.fr (.name 8 ⟨321, 8, 321, 14⟩) (.call 16 ⟨321, 18, 321, 23⟩ [(.cst (.int 1) 0 ⟨321, 24, 321, 25⟩), (.call 14 ⟨321, 27, 321, 30⟩ [(.name 3 ⟨321, 31, 321, 38⟩)] ⟨321, 27, 321, 39⟩)] ⟨321, 18, 321, 40⟩) [(.fr (.name 9 ⟨322, 12, 322, 17⟩) (.call 16 ⟨322, 21, 322, 26⟩ [(.name 8 ⟨322, 27, 322, 33⟩)] ⟨322, 21, 322, 34⟩) [(.asg (.name 10 ⟨323, 12, 323, 16⟩) (.bin (.sub (.name 3 ⟨323, 19, 323, 26⟩) (.name 9 ⟨323, 27, 323, 32⟩) ⟨323, 19, 323, 33⟩) .Add (.sub (.name 3 ⟨323, 36, 323, 43⟩) (.name 8 ⟨323, 44, 323, 50⟩) ⟨323, 36, 323, 51⟩) ⟨323, 19, 323, 51⟩) ⟨323, 12, 323, 51⟩), (.asg (.name 10 ⟨324, 12, 324, 16⟩) (.ite (.cmp (.bin (.bin (.sub (.name 2 ⟨324, 27, 324, 32⟩) (.cst (.int 1) 0 ⟨324, 33, 324, 34⟩) ⟨324, 27, 324, 35⟩) .FloorDiv (.bin (.cst (.int 2) 0 ⟨324, 39, 324, 40⟩) .Pow (.name 5 ⟨324, 44, 324, 46⟩) ⟨324, 39, 324, 46⟩) ⟨324, 27, 324, 46⟩) .Mod (.cst (.int 2) 0 ⟨324, 49, 324, 50⟩) ⟨324, 27, 324, 50⟩) .Eq (.cst (.int 0) 0 ⟨324, 54, 324, 55⟩) ⟨324, 27, 324, 55⟩) (.name 10 ⟨324, 19, 324, 23⟩) (.slc (.name 10 ⟨324, 61, 324, 65⟩) none none (some (.neg (.cst (.int 1) 0 ⟨324, 69, 324, 70⟩) ⟨324, 68, 324, 70⟩)) ⟨324, 66, 324, 70⟩ ⟨324, 61, 324, 71⟩) ⟨324, 19, 324, 71⟩) ⟨324, 12, 324, 71⟩), (.asg (.tup [(.sub (.name 7 ⟨325, 12, 325, 18⟩) (.sub (.name 10 ⟨325, 19, 325, 23⟩) (.cst (.int 0) 0 ⟨325, 24, 325, 25⟩) ⟨325, 19, 325, 26⟩) ⟨325, 12, 325, 27⟩), (.name 5 ⟨325, 29, 325, 31⟩)] 0 ⟨325, 12, 325, 31⟩) (.tup [(.bin (.sub (.name 7 ⟨325, 35, 325, 41⟩) (.sub (.name 10 ⟨325, 42, 325, 46⟩) (.cst (.int 0) 0 ⟨325, 47, 325, 48⟩) ⟨325, 42, 325, 49⟩) ⟨325, 35, 325, 50⟩) .Add (.sub (.name 10 ⟨325, 53, 325, 57⟩) (.cst (.int 1) 0 ⟨325, 58, 325, 59⟩) ⟨325, 53, 325, 60⟩) ⟨325, 35, 325, 60⟩), (.bin (.name 5 ⟨325, 62, 325, 64⟩) .Add (.cst (.int 1) 0 ⟨325, 67, 325, 68⟩) ⟨325, 62, 325, 68⟩)] 0 ⟨325, 34, 325, 69⟩) ⟨325, 12, 325, 69⟩)] ⟨322, 8, 325, 69⟩)] ⟨321, 4, 325, 69⟩), (.asg (.name 11 ⟨326, 4, 326, 10⟩) (.call 15 ⟨326, 13, 326, 17⟩ [(.comp (.tup [(.name 1 ⟨326, 20, 326, 26⟩), (.call 2 ⟨326, 28, 326, 35⟩ [(.call 3 ⟨326, 36, 326, 47⟩ [(.sub (.name 4 ⟨326, 48, 326, 54⟩) (.name 1 ⟨326, 55, 326, 61⟩) ⟨326, 48, 326, 62⟩), (.tup [(.cst (.str [114, 112, 111, 115]) 0 ⟨326, 65, 326, 71⟩), (.cst (.int 0) 0 ⟨326, 73, 326, 74⟩)] 0 ⟨326, 64, 326, 75⟩)] ⟨326, 36, 326, 76⟩)] ⟨326, 28, 326, 77⟩)] 0 ⟨326, 19, 326, 78⟩) (.one 1 ⟨326, 83, 326, 89⟩) (.name 3 ⟨326, 93, 326, 100⟩) [] 12 4 22 [.loc, .loc, .glb 5, .glb 6, .out 7] { kind := PySem.ScopeKind.function, names := [((PySem.Str.ofString ".0"), PySem.NameKind.local), ((PySem.Str.ofString "player"), PySem.NameKind.local), ((PySem.Str.ofString "Pattern"), PySem.NameKind.globalImplicit), ((PySem.Str.ofString "_law_one_of"), PySem.NameKind.globalImplicit), ((PySem.Str.ofString "beaten"), PySem.NameKind.free)], isGenerator := false, isCoroutine := false, more := [] } ccok3 ⟨326, 18, 326, 101⟩)] ⟨326, 13, 326, 102⟩) ⟨326, 4, 326, 102⟩), (.asg (.name 12 ⟨327, 4, 327, 8⟩) (.call 17 ⟨327, 11, 327, 22⟩ [(.name 3 ⟨327, 23, 327, 30⟩), (.tup [(.cst (.str [102, 97, 105, 108]) 0 ⟨327, 33, 327, 39⟩)] 0 ⟨327, 32, 327, 41⟩)] ⟨327, 11, 327, 42⟩) ⟨327, 4, 327, 42⟩), (.fr (.name 6 ⟨328, 8, 328, 14⟩) (.name 3 ⟨328, 18, 328, 25⟩) [(.asg (.name 4 ⟨329, 8, 329, 11⟩) (.call 18 ⟨329, 14, 329, 22⟩ [(.name 4 ⟨329, 23, 329, 26⟩), (.name 6 ⟨329, 28, 329, 34⟩), (.sub (.name 7 ⟨329, 36, 329, 42⟩) (.name 6 ⟨329, 43, 329, 49⟩) ⟨329, 36, 329, 50⟩)] ⟨329, 14, 329, 51⟩) ⟨329, 8, 329, 51⟩), (.iff (.boo .Or [(.cmp (.meth (.name 4 ⟨330, 11, 330, 14⟩) 16 [(.name 6 ⟨330, 21, 330, 27⟩)] ⟨330, 11, 330, 20⟩ ⟨330, 11, 330, 28⟩ rfl) .NotEq (.cst (.int 1) 0 ⟨330, 32, 330, 33⟩) ⟨330, 11, 330, 33⟩), (.cmp (.call 19 ⟨330, 37, 330, 48⟩ [(.name 12 ⟨330, 49, 330, 53⟩), (.name 4 ⟨330, 55, 330, 58⟩), (.cst (.bool true) 0 ⟨330, 60, 330, 64⟩), (.call 20 ⟨330, 66, 330, 75⟩ [(.name 11 ⟨330, 76, 330, 82⟩), (.cst (.int 9999) 0 ⟨330, 84, 330, 88⟩), (.list [] ⟨330, 90, 330, 92⟩)] ⟨330, 66, 330, 93⟩)] ⟨330, 37, 330, 94⟩) .Is (.cst .none 0 ⟨330, 98, 330, 102⟩) ⟨330, 37, 330, 102⟩)] ⟨330, 11, 330, 102⟩) [(.ret (.cst (.bool false) 0 ⟨331, 19, 331, 24⟩) ⟨331, 12, 331, 24⟩)] [] ⟨330, 8, 331, 24⟩)] ⟨328, 4, 331, 24⟩), (.asgC 13 ⟨332, 4, 332, 9⟩ (.comp (.call 2 ⟨332, 13, 332, 24⟩ [(.name 4 ⟨332, 25, 332, 29⟩), (.name 1 ⟨332, 31, 332, 34⟩), (.cst (.bool true) 0 ⟨332, 36, 332, 40⟩), (.call 3 ⟨332, 42, 332, 51⟩ [(.name 5 ⟨332, 52, 332, 58⟩), (.cst (.int 9999) 0 ⟨332, 60, 332, 64⟩), (.list [] ⟨332, 66, 332, 68⟩)] ⟨332, 42, 332, 69⟩)] ⟨332, 13, 332, 70⟩) (.one 1 ⟨332, 75, 332, 78⟩) (.call 21 ⟨332, 82, 332, 93⟩ [(.name 3 ⟨332, 94, 332, 101⟩)] ⟨332, 82, 332, 102⟩) [] 13 4 22 [.loc, .loc, .glb 8, .glb 9, .out 12, .out 11] { kind := PySem.ScopeKind.function, names := [((PySem.Str.ofString ".0"), PySem.NameKind.local), ((PySem.Str.ofString "one"), PySem.NameKind.local), ((PySem.Str.ofString "match_plain"), PySem.NameKind.globalImplicit), ((PySem.Str.ofString "PlainHost"), PySem.NameKind.globalImplicit), ((PySem.Str.ofString "node"), PySem.NameKind.free), ((PySem.Str.ofString "values"), PySem.NameKind.free)], isGenerator := false, isCoroutine := false, more := [] } ccok4 ⟨332, 12, 332, 103⟩) ⟨332, 4, 332, 103⟩), (.ret (.cmp (.bin (.call 14 ⟨333, 11, 333, 14⟩ [(.comp (.name 1 ⟨333, 16, 333, 19⟩) (.one 1 ⟨333, 24, 333, 27⟩) (.name 13 ⟨333, 31, 333, 36⟩) [(.cmp (.name 1 ⟨333, 40, 333, 43⟩) .IsNot (.cst .none 0 ⟨333, 51, 333, 55⟩) ⟨333, 40, 333, 55⟩)] 2 4 22 [.loc, .loc] { kind := PySem.ScopeKind.function, names := [((PySem.Str.ofString ".0"), PySem.NameKind.local), ((PySem.Str.ofString "one"), PySem.NameKind.local)], isGenerator := false, isCoroutine := false, more := [] } ccok5 ⟨333, 15, 333, 56⟩)] ⟨333, 11, 333, 57⟩) .Mod (.cst (.int 2) 0 ⟨333, 60, 333, 61⟩) ⟨333, 11, 333, 61⟩) .Eq (.cst (.int 1) 0 ⟨333, 65, 333, 66⟩) ⟨333, 11, 333, 66⟩) ⟨333, 4, 333, 66⟩)]
noncomputable def cf_law : Fn := ⟨1, [.loc, .loc, .loc, .loc, .loc, .loc, .loc, .cel, .loc, .loc, .loc, .cel, .cel, .loc, .glb (.bi .len), .glb (.bi .dict), .glb (.bi .range), .glb (.fn 30), .glb (.fn 29), .glb (.fn 17), .glb (.cls 1), .glb (.fn 31), .nid 4], cb_law⟩
noncomputable def cns_text_of : Names := [("here", .local), ("player", .free)]
noncomputable def cb_text_of : List S := [(.ret (.bin (.bin (.sub (.attr (.name 0 ⟨304, 15, 304, 19⟩) 0 ⟨304, 15, 304, 26⟩) (.cst (.str [65]) 0 ⟨304, 27, 304, 30⟩) ⟨304, 15, 304, 31⟩) .Add (.name 1 ⟨304, 34, 304, 40⟩) ⟨304, 15, 304, 40⟩) .Add (.sub (.attr (.name 0 ⟨304, 43, 304, 47⟩) 0 ⟨304, 43, 304, 54⟩) (.cst (.str [82]) 0 ⟨304, 55, 304, 58⟩) ⟨304, 43, 304, 59⟩) ⟨304, 15, 304, 59⟩) ⟨304, 8, 304, 59⟩)]
noncomputable def cf_text_of : Fn := ⟨1, [.loc, .fre 0], cb_text_of⟩
noncomputable def cFT : List Fn := [cf_give_names, cf_three_pieces, cf_spliced, cf_replace_once, cf_NameRef___init, cf_PlainHost___init, cf_PlainHost_assign, cf_PlainHost_step, cf_is_delayed, cf_settled, cf_chars_end, cf_rpos_end, cf_rem_end, cf_run_end, cf_break_end, cf_one_end, cf_plain_end, cf_match_plain, cf_match_at, cf_tried, cf_advanced, cf_led_in, cf_led_out, cf_steered, cf_taken, cf_is_fail, cf_pattern_of, cf_PlainHost_value_of, cf_Pattern___init, cf_law_put, cf_law_one_of, cf_law_orders]
noncomputable def cNF : List Fn := [cf_text_of]
noncomputable def cCT : List Cl := [⟨some 4, []⟩, ⟨some 5, [(18, 6), (17, 7), (19, 27)]⟩, ⟨some 28, []⟩, ⟨none, []⟩]
noncomputable def cGV : List (Option MV) := [some (.bi .abs), some (.bi .int), some (.bi .len), some (.bi .range), none, some (.cls 2), some (.fn 30), some (.fn 31), some (.fn 17), some (.cls 1), none]
end Mine

open PySem PySem.W PyProof.Rows PySem.Calls
namespace Mine
set_option autoImplicit false
set_option backward.match.sparseCases false
set_option linter.unusedVariables false
set_option linter.unusedSimpArgs false
set_option maxRecDepth 100000
set_option maxHeartbeats 4000000
noncomputable def noM : Nat → List MV → List MO → Option ((MV × List MO) × Nat) := fun _ _ _ => none
noncomputable def rB (n : Nat) : Rec := run cFT cNF cCT cGV noM n
theorem rB_call (n : Nat) : (rB (n + 1)).call = stepCall cFT cNF cCT noM (rB n) := rfl
theorem rB_e (n : Nat) : (rB (n + 1)).e = stepE cCT cGV (rB n) := rfl
theorem rB_es (n : Nat) : (rB (n + 1)).es = stepEs (rB n) := rfl
theorem rB_eo (n : Nat) : (rB (n + 1)).eo = stepEo (rB n) := rfl
theorem rB_t (n : Nat) : (rB (n + 1)).t = stepT (rB n) := rfl
theorem rB_ts (n : Nat) : (rB (n + 1)).ts = stepTs (rB n) := rfl
theorem rB_a (n : Nat) : (rB (n + 1)).a = stepA cCT (rB n) := rfl
theorem rB_as (n : Nat) : (rB (n + 1)).as = stepAs (rB n) := rfl
theorem rB_s (n : Nat) : (rB (n + 1)).s = stepS cCT cGV (rB n) := rfl
theorem rB_ss (n : Nat) : (rB (n + 1)).ss = stepSs (rB n) := rfl
theorem rB_wh (n : Nat) : (rB (n + 1)).wh = stepWh (rB n) := rfl
theorem rB_fr (n : Nat) : (rB (n + 1)).fr = stepFr (rB n) := rfl
theorem c_PlainHost_step (n : Nat) (v0 : MV) (σ : List MO) : (rB (n + 1)).call (.fn 7) [v0] σ = ((rB n).ss cb_PlainHost_step [.loc (some v0), .unk] σ).bind retN := rfl
theorem c_is_delayed (n : Nat) (v0 : MV) (σ : List MO) : (rB (n + 1)).call (.fn 8) [v0] σ = ((rB n).ss cb_is_delayed [.loc (some v0), .glb (.bi .isinstance), .glb (.bi .tuple)] σ).bind retN := rfl
theorem c_settled (n : Nat) (v0 v1 : MV) (σ : List MO) : (rB (n + 1)).call (.fn 9) [v0, v1] σ = ((rB n).ss cb_settled [.loc (some v0), .loc (some v1), .loc none, .glb (.tup [.str [108, 101, 110], .str [112, 111, 115], .str [114, 112, 111, 115], .str [116, 97, 98], .str [114, 116, 97, 98]]), .glb (.tup [.str [97, 110, 121], .str [110, 111, 116, 97, 110, 121], .str [115, 112, 97, 110], .str [98, 114, 101, 97, 107]]), .glb (.fn 8), .glb (.fn 25), .unk, .unk] σ).bind retN := rfl
theorem c_one_end (n : Nat) (v0 v1 v2 v3 : MV) (σ : List MO) : (rB (n + 1)).call (.fn 15) [v0, v1, v2, v3] σ = ((rB n).ss cb_one_end [.loc (some v0), .loc (some v1), .loc (some v2), .loc (some v3), .glb (.fn 10), .unk, .unk, .glb (.fn 11), .unk, .unk, .unk, .unk, .unk, .glb (.fn 14)] σ).bind retN := rfl
theorem c_plain_end (n : Nat) (v0 v1 v2 : MV) (σ : List MO) : (rB (n + 1)).call (.fn 16) [v0, v1, v2] σ = ((rB n).ss cb_plain_end [.loc (some v0), .loc (some v1), .loc (some v2), .glb (.fn 12), .glb (.fn 15)] σ).bind retN := rfl
theorem c_match_plain (n : Nat) (v0 v1 v2 v3 : MV) (σ : List MO) : (rB (n + 1)).call (.fn 17) [v0, v1, v2, v3] σ = ((rB n).ss cb_match_plain [.loc (some v0), .loc (some v1), .loc (some v2), .loc (some v3), .loc none, .loc none, .glb (.bi .range), .glb (.bi .len), .glb (.fn 18), .glb (.str [108, 111, 115, 116])] σ).bind retN := rfl
theorem c_match_at (n : Nat) (v0 v1 v2 v3 : MV) (σ : List MO) : (rB (n + 1)).call (.fn 18) [v0, v1, v2, v3] σ = ((rB n).ss cb_match_at [.loc (some v0), .loc (some v1), .loc (some v2), .loc (some v3), .loc none, .glb (.fn 19), .glb (.str [108, 111, 115, 116])] σ).bind retN := rfl
theorem c_tried (n : Nat) (v0 v1 v2 v3 : MV) (σ : List MO) : (rB (n + 1)).call (.fn 19) [v0, v1, v2, v3] σ = ((rB n).ss cb_tried [.loc (some v0), .loc (some v1), .loc (some v2), .loc (some v3), .loc none, .loc none, .loc none, .loc none, .loc none, .glb (.bi .len), .glb (.str [108, 111, 115, 116]), .glb (.fn 20), .glb (.bi .list)] σ).bind retN := rfl
theorem c_advanced (n : Nat) (v0 v1 v2 v3 v4 v5 : MV) (σ : List MO) : (rB (n + 1)).call (.fn 20) [v0, v1, v2, v3, v4, v5] σ = ((rB n).ss cb_advanced [.loc (some v0), .loc (some v1), .loc (some v2), .loc (some v3), .loc (some v4), .loc (some v5), .loc none, .loc none, .loc none, .loc none, .glb (.fn 21), .glb (.fn 22), .glb (.fn 25), .glb (.fn 26), .glb (.fn 23), .glb (.fn 24)] σ).bind retN := rfl
theorem c_led_in (n : Nat) (v0 v1 v2 v3 v4 : MV) (σ : List MO) : (rB (n + 1)).call (.fn 21) [v0, v1, v2, v3, v4] σ = ((rB n).ss cb_led_in [.loc (some v0), .loc (some v1), .loc (some v2), .loc (some v3), .loc (some v4), .loc none] σ).bind retN := rfl
theorem c_taken (n : Nat) (v0 v1 v2 v3 v4 v5 v6 : MV) (σ : List MO) : (rB (n + 1)).call (.fn 24) [v0, v1, v2, v3, v4, v5, v6] σ = ((rB n).ss cb_taken [.loc (some v0), .loc (some v1), .loc (some v2), .loc (some v3), .loc (some v4), .loc (some v5), .loc (some v6), .loc none, .loc none, .loc none, .loc none, .glb (.bi .len), .unk, .glb (.fn 9), .glb (.fn 16)] σ).bind retN := rfl
theorem c_chars_end (n : Nat) (v0 v1 v2 : MV) (σ : List MO) : (rB (n + 1)).call (.fn 10) [v0, v1, v2] σ = ((rB n).ss cb_chars_end [.loc (some v0), .loc (some v1), .loc (some v2), .loc none, .glb (.bi .len)] σ).bind retN := rfl
theorem c_rpos_end (n : Nat) (v0 v1 v2 : MV) (σ : List MO) : (rB (n + 1)).call (.fn 11) [v0, v1, v2] σ = ((rB n).ss cb_rpos_end [.loc (some v0), .loc (some v1), .loc (some v2), .glb (.bi .len)] σ).bind retN := rfl
theorem c_PlainHost_value_of (n : Nat) (v0 v1 : MV) (σ : List MO) : (rB (n + 1)).call (.fn 27) [v0, v1] σ = ((rB n).ss cb_PlainHost_value_of [.loc (some v0), .loc (some v1), .glb (.cls 3)] σ).bind retN := rfl
theorem c_is_fail (n : Nat) (v0 : MV) (σ : List MO) : (rB (n + 1)).call (.fn 25) [v0] σ = ((rB n).ss cb_is_fail [.loc (some v0), .glb (.bi .isinstance), .glb (.cls 3)] σ).bind retN := rfl
theorem c_pattern_of (n : Nat) (v0 : MV) (σ : List MO) : (rB (n + 1)).call (.fn 26) [v0] σ = ((rB n).ss cb_pattern_of [.loc (some v0), .loc none, .glb (.bi .isinstance), .glb (.cls 2), .unk, .unk, .unk] σ).bind retN := rfl
theorem c_steered (n : Nat) (v0 v1 v2 v3 : MV) (σ : List MO) : (rB (n + 1)).call (.fn 23) [v0, v1, v2, v3] σ = ((rB n).ss cb_steered [.loc (some v0), .loc (some v1), .loc (some v2), .loc (some v3), .loc none, .loc none, .glb (.str [108, 111, 115, 116])] σ).bind retN := rfl
end Mine

open PySem PySem.W PyProof.Rows PySem.Calls
namespace Mine
set_option autoImplicit false
set_option backward.match.sparseCases false
set_option linter.unusedVariables false
set_option linter.unusedSimpArgs false
set_option maxRecDepth 100000
set_option maxHeartbeats 4000000
theorem at?_z {α : Type} (a : α) (l : List α) : at? (a :: l) 0 = some a := rfl
theorem at?_s {α : Type} (a : α) (l : List α) (n : Nat) : at? (a :: l) (n + 1) = at? l n := rfl
theorem setAt_z {α : Type} (v a : α) (l : List α) : setAt v (a :: l) 0 = v :: l := rfl
theorem setAt_s {α : Type} (v a : α) (l : List α) (n : Nat) : setAt v (a :: l) (n + 1) = a :: setAt v l n := rfl
theorem nth0 {α : Type} (l : List α) : nth l 0 = at? l 0 := rfl
theorem nth1 {α : Type} (l : List α) : nth l 1 = at? l 1 := rfl
theorem nth2 {α : Type} (l : List α) : nth l 2 = at? l 2 := rfl
theorem lk0 : lenOk 0 = true := rfl
theorem lk1 : lenOk (0 + 1) = true := rfl
theorem lk2 : lenOk (0 + 1 + 1) = true := rfl
theorem lk3 : lenOk (0 + 1 + 1 + 1) = true := rfl
theorem lk4 : lenOk (0 + 1 + 1 + 1 + 1) = true := rfl
theorem lk5 : lenOk (0 + 1 + 1 + 1 + 1 + 1) = true := rfl
theorem lk6 : lenOk (0 + 1 + 1 + 1 + 1 + 1 + 1) = true := rfl
theorem lk7 : lenOk (0 + 1 + 1 + 1 + 1 + 1 + 1 + 1) = true := rfl
theorem lk8 : lenOk (0 + 1 + 1 + 1 + 1 + 1 + 1 + 1 + 1) = true := rfl
theorem bl0 : Nat.ble 0 20 = true := rfl
theorem bl1 : Nat.ble (0 + 1) 20 = true := rfl
theorem bl2 : Nat.ble (0 + 1 + 1) 20 = true := rfl
theorem bl3 : Nat.ble (0 + 1 + 1 + 1) 20 = true := rfl
theorem wk_str (l : List Nat) : (MV.str l).wk = .str l := rfl
theorem wk_chr (c : Nat) : (MV.chr c).wk = .str [c] := rfl
theorem wk_int (i : Int) : (MV.int i).wk = .int i := rfl
theorem wk_tup (l : List MV) : (MV.tup l).wk = .tup l := rfl
theorem wk_none : MV.none.wk = .none := rfl
theorem wk_ref (i : Nat) : (MV.ref i).wk = .ref i := rfl
theorem wk_bool (b : Bool) : (MV.bool b).wk = .bool b := rfl
theorem wk_wk (v : MV) : v.wk.wk = v.wk := by cases v <;> rfl
theorem bLen_str {σ : List MO} {l : List Nat} (h : lenOk l.length = true) : biCall .len [.str l] σ = some (.int (l.length : Int), σ) := by
  show bLen σ (.str l) = _; unfold bLen; simp only [h, cond_true]
theorem call_bi (n : Nat) (b : Bi) (as : List MV) (σ : List MO) : (rB (n + 1)).call (.bi b) as σ = biCall b as σ := rfl
theorem add_nat (a b : Nat) : (a : Int) + (b : Int) = ((a + b : Nat) : Int) := rfl
theorem part_nat (a : Nat) : part (.int (a : Int)) = some (some a) := rfl
theorem part_none : part .none = some none := rfl
noncomputable def endv (b : Bool) (e : Nat) : MV := cond b (.int (e : Int)) .none
theorem nth_nat {α : Type} {l : List α} {a : Nat} (h : lenOk a = true) : nth l (a : Int) = at? l a := by
  show cond (Nat.ble a 4096) (at? l a) none = _; rw [show Nat.ble a 4096 = true from h]; rfl
theorem lt_nat (a b : Nat) : decide ((a : Int) < (b : Int)) = Nat.blt a b := by
  rw [Bool.eq_iff_iff, decide_eq_true_eq, Nat.blt_eq]; exact Int.ofNat_lt
noncomputable def okv : MV → Bool
  | .chr _ => false
  | .emp => false
  | _ => true
theorem wk_id {v : MV} (h : okv v = true) : v.wk = v := by cases v <;> first | rfl | cases h
theorem endv_ok (b : Bool) (e : Nat) : (endv b e).wk = endv b e := by cases b <;> rfl
theorem isNone_endv (b : Bool) (e : Nat) : isNone (endv b e) = some (!b) := by cases b <;> rfl
theorem e_chars (n : Nat) {s t : List Nat} {a : Nat} {σ : List MO} (hs : lenOk s.length = true) (ht : lenOk t.length = true) :
    (rB (n + 20)).call (.fn 10) [.str s, .int (a : Int), .str t] σ = some (endv (eqL (cut s (some a) (some (a + t.length))) t) (a + t.length), σ) := by
  rw [c_chars_end]
  unfold cb_chars_end
  cases hb : eqL (cut s (some a) (some (a + t.length))) t <;>
  simp only [rB_ss, rB_s, rB_e, rB_es, rB_eo, rB_t, rB_ts, rB_a, rB_as, stepSs, fSs, stepS, fS, stepE, fE, stepEs, fEs, stepEo, stepT, fT, stepTs, fTs, stepA, fA, stepAs, ssN, tsN, tsE, getS, Option.bind_some, Option.bind_none, Option.map_some, cond_true, cond_false, retN, Cst.mv, Nat.beq_refl, wk_str, wk_chr, wk_int, wk_tup, wk_none, wk_ref, wk_bool, wk_wk, endv_ok, lk0, lk1, lk2, lk3, lk4, lk5, lk6, lk7, lk8, bl0, bl1, bl2, bl3, List.map_cons, List.map_nil, List.length_cons, List.length_nil, at?_z, at?_s, setAt_z, setAt_s, r0, asgB, isCst, List.all_cons, List.all_nil, List.any_cons, List.any_nil, asTup, putSl, eSub, subs, nth0, nth1, nth2, eCmp, cmpop, cIs, isNone, okAny, notAny, eBin, binop, bAdd, bII, eSlc, part, cutE, eCall, truth, exB, sEx, eMeth, okBase, mApp, Bool.not_true, Bool.not_false, Bool.and_true, Bool.and_false, Bool.true_and, Bool.false_and, Bool.or_true, Bool.or_false, Bool.true_or, Bool.false_or, call_bi, bLen_str ht, add_nat, part_nat, hs, cEq, hb, endv]
theorem o_chars (n : Nat) {s t : List Nat} {a : Nat} {σ : List MO} (hs : lenOk s.length = true) (ht : lenOk t.length = true) :
    (rB (n + 45)).call (.fn 15) [.str [99, 104, 97, 114, 115], .str s, .int (a : Int), .str t] σ = some (endv (eqL (cut s (some a) (some (a + t.length))) t) (a + t.length), σ) := by
  rw [c_one_end]
  unfold cb_one_end
  simp only [rB_ss, rB_s, rB_e, rB_es, rB_eo, rB_t, rB_ts, rB_a, rB_as, stepSs, fSs, stepS, fS, stepE, fE, stepEs, fEs, stepEo, stepT, fT, stepTs, fTs, stepA, fA, stepAs, ssN, tsN, tsE, getS, Option.bind_some, Option.bind_none, Option.map_some, cond_true, cond_false, retN, Cst.mv, Nat.beq_refl, wk_str, wk_chr, wk_int, wk_tup, wk_none, wk_ref, wk_bool, wk_wk, endv_ok, lk0, lk1, lk2, lk3, lk4, lk5, lk6, lk7, lk8, bl0, bl1, bl2, bl3, List.map_cons, List.map_nil, List.length_cons, List.length_nil, at?_z, at?_s, setAt_z, setAt_s, r0, asgB, isCst, List.all_cons, List.all_nil, List.any_cons, List.any_nil, asTup, putSl, eSub, subs, nth0, nth1, nth2, eCmp, cmpop, cIs, isNone, okAny, notAny, eBin, binop, bAdd, bII, eSlc, part, cutE, eCall, truth, exB, sEx, eMeth, okBase, mApp, Bool.not_true, Bool.not_false, Bool.and_true, Bool.and_false, Bool.true_and, Bool.false_and, Bool.or_true, Bool.or_false, Bool.true_or, Bool.false_or, cEq, (show eqL [99, 104, 97, 114, 115] [99, 104, 97, 114, 115] = true from rfl), e_chars _ hs ht]
theorem p_chars (n : Nat) {s t : List Nat} {a : Nat} {σ : List MO} (hs : lenOk s.length = true) (ht : lenOk t.length = true) :
    (rB (n + 60)).call (.fn 16) [.tup [.str [99, 104, 97, 114, 115], .str t], .str s, .int (a : Int)] σ = some (endv (eqL (cut s (some a) (some (a + t.length))) t) (a + t.length), σ) := by
  rw [c_plain_end]
  unfold cb_plain_end
  simp only [rB_ss, rB_s, rB_e, rB_es, rB_eo, rB_t, rB_ts, rB_a, rB_as, stepSs, fSs, stepS, fS, stepE, fE, stepEs, fEs, stepEo, stepT, fT, stepTs, fTs, stepA, fA, stepAs, ssN, tsN, tsE, getS, Option.bind_some, Option.bind_none, Option.map_some, cond_true, cond_false, retN, Cst.mv, Nat.beq_refl, wk_str, wk_chr, wk_int, wk_tup, wk_none, wk_ref, wk_bool, wk_wk, endv_ok, lk0, lk1, lk2, lk3, lk4, lk5, lk6, lk7, lk8, bl0, bl1, bl2, bl3, List.map_cons, List.map_nil, List.length_cons, List.length_nil, at?_z, at?_s, setAt_z, setAt_s, r0, asgB, isCst, List.all_cons, List.all_nil, List.any_cons, List.any_nil, asTup, putSl, eSub, subs, nth0, nth1, nth2, eCmp, cmpop, cIs, isNone, okAny, notAny, eBin, binop, bAdd, bII, eSlc, part, cutE, eCall, truth, exB, sEx, eMeth, okBase, mApp, Bool.not_true, Bool.not_false, Bool.and_true, Bool.and_false, Bool.true_and, Bool.false_and, Bool.or_true, Bool.or_false, Bool.true_or, Bool.false_or, cEq, (show eqL [99, 104, 97, 114, 115] [114, 101, 109] = false from rfl), o_chars _ hs ht]
theorem s_chars (n : Nat) {t : List Nat} {h : MV} {σ : List MO} : (rB (n + 40)).call (.fn 9) [.tup [.str [99, 104, 97, 114, 115], .str t], h] σ = some (.tup [.str [99, 104, 97, 114, 115], .str t], σ) := by rfl
theorem t_chars (n : Nat) {s t : List Nat} {a : Nat} {rest nm pl h : MV} {σ : List MO} (hs : lenOk s.length = true) (ht : lenOk t.length = true) :
    (rB (n + 80)).call (.fn 24) [.tup [.str [99, 104, 97, 114, 115], .str t], rest, .int (a : Int), nm, .str s, pl, h] σ = some (cond (eqL (cut s (some a) (some (a + t.length))) t) (.tup [rest.wk, .int ((a + t.length : Nat) : Int), nm.wk]) .none, σ) := by
  rw [c_taken]
  unfold cb_taken
  cases hb : (eqL (cut s (some a) (some (a + t.length))) t) <;>
  simp only [rB_ss, rB_s, rB_e, rB_es, rB_eo, rB_t, rB_ts, rB_a, rB_as, stepSs, fSs, stepS, fS, stepE, fE, stepEs, fEs, stepEo, stepT, fT, stepTs, fTs, stepA, fA, stepAs, ssN, tsN, tsE, getS, Option.bind_some, Option.bind_none, Option.map_some, cond_true, cond_false, retN, Cst.mv, Nat.beq_refl, wk_str, wk_chr, wk_int, wk_tup, wk_none, wk_ref, wk_bool, wk_wk, endv_ok, lk0, lk1, lk2, lk3, lk4, lk5, lk6, lk7, lk8, bl0, bl1, bl2, bl3, List.map_cons, List.map_nil, List.length_cons, List.length_nil, at?_z, at?_s, setAt_z, setAt_s, r0, asgB, isCst, List.all_cons, List.all_nil, List.any_cons, List.any_nil, asTup, putSl, eSub, subs, nth0, nth1, nth2, eCmp, cmpop, cIs, isNone, okAny, notAny, eBin, binop, bAdd, bII, eSlc, part, cutE, eCall, truth, exB, sEx, eMeth, okBase, mApp, Bool.not_true, Bool.not_false, Bool.and_true, Bool.and_false, Bool.true_and, Bool.false_and, Bool.or_true, Bool.or_false, Bool.true_or, Bool.false_or, cEq, (show eqL [99, 104, 97, 114, 115] [97, 114, 98] = false from rfl), (show eqL [99, 104, 97, 114, 115] [98, 97, 108] = false from rfl), s_chars, p_chars _ hs ht, hb, endv, lk3]
theorem a_chars (n : Nat) {s t : List Nat} {a : Nat} {nm : List MV} {rest pl h : MV} {σ : List MO} (hs : lenOk s.length = true) (ht : lenOk t.length = true) :
    (rB (n + 110)).call (.fn 20) [.tup [.tup [.str [99, 104, 97, 114, 115], .str t], rest], .int (a : Int), .tup nm, .str s, pl, h] σ = some (cond (eqL (cut s (some a) (some (a + t.length))) t) (.tup [rest.wk, .int ((a + t.length : Nat) : Int), .tup nm]) .none, σ) := by
  rw [c_advanced]
  unfold cb_advanced
  simp only [rB_ss, rB_s, rB_e, rB_es, rB_eo, rB_t, rB_ts, rB_a, rB_as, stepSs, fSs, stepS, fS, stepE, fE, stepEs, fEs, stepEo, stepT, fT, stepTs, fTs, stepA, fA, stepAs, ssN, tsN, tsE, getS, Option.bind_some, Option.bind_none, Option.map_some, cond_true, cond_false, retN, Cst.mv, Nat.beq_refl, wk_str, wk_chr, wk_int, wk_tup, wk_none, wk_ref, wk_bool, wk_wk, endv_ok, lk0, lk1, lk2, lk3, lk4, lk5, lk6, lk7, lk8, bl0, bl1, bl2, bl3, List.map_cons, List.map_nil, List.length_cons, List.length_nil, at?_z, at?_s, setAt_z, setAt_s, r0, asgB, isCst, List.all_cons, List.all_nil, List.any_cons, List.any_nil, asTup, putSl, eSub, subs, nth0, nth1, nth2, eCmp, cmpop, cIs, isNone, okAny, notAny, eBin, binop, bAdd, bII, eSlc, part, cutE, eCall, truth, exB, sEx, eMeth, okBase, mApp, Bool.not_true, Bool.not_false, Bool.and_true, Bool.and_false, Bool.true_and, Bool.false_and, Bool.or_true, Bool.or_false, Bool.true_or, Bool.false_or, cEq, cIn, anyStr, Nat.beq_refl, (show eqL [99, 97, 116] [99, 104, 97, 114, 115] = false from rfl), (show eqL [97, 108, 116] [99, 104, 97, 114, 115] = false from rfl), (show eqL [97, 114, 98, 110, 111] [99, 104, 97, 114, 115] = false from rfl), (show eqL [108, 97, 116, 101, 114] [99, 104, 97, 114, 115] = false from rfl), (show eqL [110, 111, 119] [99, 104, 97, 114, 115] = false from rfl), (show eqL [102, 101, 110, 99, 101] [99, 104, 97, 114, 115] = false from rfl), (show eqL [97, 98, 111, 114, 116] [99, 104, 97, 114, 115] = false from rfl), (show eqL [102, 97, 105, 108] [99, 104, 97, 114, 115] = false from rfl), (show eqL [115, 117, 99, 99, 101, 101, 100] [99, 104, 97, 114, 115] = false from rfl), (show eqL [99, 104, 97, 114, 115] [99, 117, 114, 115, 111, 114] = false from rfl), (show eqL [99, 104, 97, 114, 115] [100, 101, 108, 97, 121] = false from rfl), (show eqL (cut [99, 104, 97, 114, 115] none (some 4)) [101, 110, 100, 32] = false from rfl), t_chars _ hs ht, lk2, lk3]

theorem l_cat (n : Nat) (x y rest pl : MV) (nm : List MV) (a : Int) (σ : List MO) : (rB (n + 60)).call (.fn 21) [.tup [.str [99, 97, 116], x, y], rest, .int a, .tup nm, pl] σ = some (.tup [.tup [x.wk, .tup [y.wk, rest.wk]], .int a, .tup nm], σ) := by rfl
theorem a_cat (n : Nat) (x y rest sb pl h : MV) (nm : List MV) (a : Int) (σ : List MO) : (rB (n + 110)).call (.fn 20) [.tup [.tup [.str [99, 97, 116], x, y], rest], .int a, .tup nm, sb, pl, h] σ = some (.tup [.tup [x.wk, .tup [y.wk, rest.wk]], .int a, .tup nm], σ) := by
  rw [c_advanced]
  unfold cb_advanced
  simp only [rB_ss, rB_s, rB_e, rB_es, rB_eo, rB_t, rB_ts, rB_a, rB_as, stepSs, fSs, stepS, fS, stepE, fE, stepEs, fEs, stepEo, stepT, fT, stepTs, fTs, stepA, fA, stepAs, ssN, tsN, tsE, getS, Option.bind_some, Option.bind_none, Option.map_some, cond_true, cond_false, retN, Cst.mv, Nat.beq_refl, wk_str, wk_chr, wk_int, wk_tup, wk_none, wk_ref, wk_bool, wk_wk, endv_ok, lk0, lk1, lk2, lk3, lk4, lk5, lk6, lk7, lk8, bl0, bl1, bl2, bl3, List.map_cons, List.map_nil, List.length_cons, List.length_nil, at?_z, at?_s, setAt_z, setAt_s, r0, asgB, isCst, List.all_cons, List.all_nil, List.any_cons, List.any_nil, asTup, putSl, eSub, subs, nth0, nth1, nth2, eCmp, cmpop, cIs, isNone, okAny, notAny, eBin, binop, bAdd, bII, eSlc, part, cutE, eCall, truth, exB, sEx, eMeth, okBase, mApp, Bool.not_true, Bool.not_false, Bool.and_true, Bool.and_false, Bool.true_and, Bool.false_and, Bool.or_true, Bool.or_false, Bool.true_or, Bool.false_or, cIn, (show anyStr [99, 97, 116] [.str [99, 97, 116], .str [97, 108, 116], .str [97, 114, 98, 110, 111], .str [108, 97, 116, 101, 114], .str [110, 111, 119]] = some true from rfl), l_cat]
theorem sel_list {σ : List MO} {i : Nat} {xs : List MV} (h : at? σ i = some (.list xs)) : mSel cCT σ 10 (.ref i) = some .list := by
  show selR cCT 10 (at? σ i) = _; rw [h]; rfl
theorem ap_list {σ : List MO} {i : Nat} {xs : List MV} {v : MV} (h : at? σ i = some (.list xs)) (hl : lenOk xs.length = true) : apLv σ 10 [v] (.ref i) = some (.none, setAt (.list (xs ++ [v])) σ i) := by
  show apL σ i 10 [v] (at? σ i) = _; rw [h]; show cond (lenOk xs.length) _ _ = _; rw [hl]; rfl
theorem l_alt (n : Nat) {x y rest : MV} {nm : List MV} {a : Int} {p : Nat} {xs : List MV} {σ : List MO} (hp : at? σ p = some (.list xs)) (hl : lenOk xs.length = true) :
    (rB (n + 60)).call (.fn 21) [.tup [.str [97, 108, 116], x, y], rest, .int a, .tup nm, .ref p] σ = some (.tup [.tup [x.wk, rest.wk], .int a, .tup nm], setAt (.list (xs ++ [.tup [.tup [y.wk, rest.wk], .int a, .tup nm]])) σ p) := by
  rw [c_led_in]
  unfold cb_led_in
  simp only [rB_ss, rB_s, rB_e, rB_es, rB_eo, rB_t, rB_ts, rB_a, rB_as, stepSs, fSs, stepS, fS, stepE, fE, stepEs, fEs, stepEo, stepT, fT, stepTs, fTs, stepA, fA, stepAs, ssN, tsN, tsE, getS, Option.bind_some, Option.bind_none, Option.map_some, cond_true, cond_false, retN, Cst.mv, Nat.beq_refl, wk_str, wk_chr, wk_int, wk_tup, wk_none, wk_ref, wk_bool, wk_wk, endv_ok, lk0, lk1, lk2, lk3, lk4, lk5, lk6, lk7, lk8, bl0, bl1, bl2, bl3, List.map_cons, List.map_nil, List.length_cons, List.length_nil, at?_z, at?_s, setAt_z, setAt_s, r0, asgB, isCst, List.all_cons, List.all_nil, List.any_cons, List.any_nil, asTup, putSl, eSub, subs, nth0, nth1, nth2, eCmp, cmpop, cIs, isNone, okAny, notAny, eBin, binop, bAdd, bII, eSlc, part, cutE, eCall, truth, exB, sEx, eMeth, okBase, mApp, Bool.not_true, Bool.not_false, Bool.and_true, Bool.and_false, Bool.true_and, Bool.false_and, Bool.or_true, Bool.or_false, Bool.true_or, Bool.false_or, cEq, (show eqL [97, 108, 116] [99, 97, 116] = false from rfl), (show eqL [97, 108, 116] [97, 108, 116] = true from rfl), sel_list hp, ap_list hp hl]
theorem a_alt (n : Nat) {x y rest sb h : MV} {nm : List MV} {a : Int} {p : Nat} {xs : List MV} {σ : List MO} (hp : at? σ p = some (.list xs)) (hl : lenOk xs.length = true) :
    (rB (n + 110)).call (.fn 20) [.tup [.tup [.str [97, 108, 116], x, y], rest], .int a, .tup nm, sb, .ref p, h] σ = some (.tup [.tup [x.wk, rest.wk], .int a, .tup nm], setAt (.list (xs ++ [.tup [.tup [y.wk, rest.wk], .int a, .tup nm]])) σ p) := by
  rw [c_advanced]
  unfold cb_advanced
  simp only [rB_ss, rB_s, rB_e, rB_es, rB_eo, rB_t, rB_ts, rB_a, rB_as, stepSs, fSs, stepS, fS, stepE, fE, stepEs, fEs, stepEo, stepT, fT, stepTs, fTs, stepA, fA, stepAs, ssN, tsN, tsE, getS, Option.bind_some, Option.bind_none, Option.map_some, cond_true, cond_false, retN, Cst.mv, Nat.beq_refl, wk_str, wk_chr, wk_int, wk_tup, wk_none, wk_ref, wk_bool, wk_wk, endv_ok, lk0, lk1, lk2, lk3, lk4, lk5, lk6, lk7, lk8, bl0, bl1, bl2, bl3, List.map_cons, List.map_nil, List.length_cons, List.length_nil, at?_z, at?_s, setAt_z, setAt_s, r0, asgB, isCst, List.all_cons, List.all_nil, List.any_cons, List.any_nil, asTup, putSl, eSub, subs, nth0, nth1, nth2, eCmp, cmpop, cIs, isNone, okAny, notAny, eBin, binop, bAdd, bII, eSlc, part, cutE, eCall, truth, exB, sEx, eMeth, okBase, mApp, Bool.not_true, Bool.not_false, Bool.and_true, Bool.and_false, Bool.true_and, Bool.false_and, Bool.or_true, Bool.or_false, Bool.true_or, Bool.false_or, cIn, (show anyStr [97, 108, 116] [.str [99, 97, 116], .str [97, 108, 116], .str [97, 114, 98, 110, 111], .str [108, 97, 116, 101, 114], .str [110, 111, 119]] = some true from rfl), l_alt _ hp hl]
theorem at_inst {σ : List MO} {i k a : Nat} {ats : List (Nat × MV)} {v : MV} (h : at? σ i = some (.inst k ats)) (hl : lkN a ats = some v) (hv : notAny v = true) (hb : Nat.ble a 19 = true) (hn : notMeth cCT k a = true) : attrE cCT σ a (.ref i) = some (v, σ) := by
  show attrB cCT σ a (at? σ i) = _
  rw [h]
  show cond (Nat.ble a 19) (match lkN a ats with | some v => cond (notMeth cCT k a) ((okAny v).bind fun v => some (v, σ)) none | none => (at? cCT k).bind (bndK σ a)) none = _
  rw [hb, hl]; simp only [hn, cond_true, okAny, hv, Option.bind_some]

theorem sel_own {σ : List MO} {h k a f : Nat} {ats : List (Nat × MV)} {c : Cl} (hh : at? σ h = some (.inst k ats)) (h1 : lkN a ats = none) (h2 : Nat.ble a 19 = true) (h3 : at? cCT k = some c) (h4 : lkN a c.meths = some f) (h5 : (Nat.beq a 10 || Nat.beq a 11) = false) : mSel cCT σ a (.ref h) = some (.own f) := by
  show selR cCT a (at? σ h) = _
  rw [hh]
  show cond (Nat.ble a 19) (selI cCT k a (lkN a ats)) none = _
  rw [h1, h2]
  show (at? cCT k).bind (selC a) = _
  rw [h3]
  show (lkN a c.meths).bind _ = _
  rw [h4]; rfl
theorem L_step (n : Nat) {h d rf lg : Nat} {lim st : Int} {σ : List MO} (hh : at? σ h = some (hostM d rf lg lim st)) (hl : ¬ lim < st + 1) :
    (rB (n + 20)).call (.fn 7) [.ref h] σ = some (.none, setAt (hostM d rf lg lim (st + 1)) σ h) := by
  rw [c_PlainHost_step]
  have hA : attrE cCT σ 4 (.ref h) = some (.int st, σ) := at_inst hh rfl rfl rfl rfl
  have hP : putA cCT 4 (.int (st + 1)) σ (.ref h) = some (setAt (hostM d rf lg lim (st + 1)) σ h) := by
    show putAt cCT h 4 _ σ (at? σ h) = _; rw [hh]; rfl
  have h2 : at? (setAt (hostM d rf lg lim (st + 1)) σ h) h = some (hostM d rf lg lim (st + 1)) := at?_set hh
  have hB : attrE cCT (setAt (hostM d rf lg lim (st + 1)) σ h) 4 (.ref h) = some (.int (st + 1), setAt (hostM d rf lg lim (st + 1)) σ h) := at_inst h2 rfl rfl rfl rfl
  have hC : attrE cCT (setAt (hostM d rf lg lim (st + 1)) σ h) 1 (.ref h) = some (.int lim, setAt (hostM d rf lg lim (st + 1)) σ h) := at_inst h2 rfl rfl rfl rfl
  unfold cb_PlainHost_step
  simp only [rB_ss, rB_s, rB_e, rB_es, rB_eo, rB_t, rB_ts, rB_a, rB_as, stepSs, fSs, stepS, fS, stepE, fE, stepEs, fEs, stepEo, stepT, fT, stepTs, fTs, stepA, fA, stepAs, ssN, tsN, tsE, getS, Option.bind_some, Option.bind_none, Option.map_some, cond_true, cond_false, retN, Cst.mv, Nat.beq_refl, wk_str, wk_chr, wk_int, wk_tup, wk_none, wk_ref, wk_bool, wk_wk, endv_ok, lk0, lk1, lk2, lk3, lk4, lk5, lk6, lk7, lk8, bl0, bl1, bl2, bl3, List.map_cons, List.map_nil, List.length_cons, List.length_nil, at?_z, at?_s, setAt_z, setAt_s, r0, asgB, isCst, List.all_cons, List.all_nil, List.any_cons, List.any_nil, asTup, putSl, eSub, subs, nth0, nth1, nth2, eCmp, cmpop, cIs, isNone, okAny, notAny, eBin, binop, bAdd, bII, eSlc, part, cutE, eCall, truth, exB, sEx, eMeth, okBase, mApp, Bool.not_true, Bool.not_false, Bool.and_true, Bool.and_false, Bool.true_and, Bool.false_and, Bool.or_true, Bool.or_false, Bool.true_or, Bool.false_or, sAugA, iop, hA, hB, hC, hP, cInt, hl, decide_false]

end Mine

open PySem PySem.W PyProof.Rows PySem.Calls
namespace Mine
set_option autoImplicit false
set_option backward.match.sparseCases false
set_option linter.unusedVariables false
set_option linter.unusedSimpArgs false
set_option maxRecDepth 100000
set_option maxHeartbeats 4000000
noncomputable def bodyW : S → List S
  | .whl _ b _ => b
  | _ => []
noncomputable def testW : S → E
  | .whl t _ _ => t
  | _ => .raw (.Constant .none 0 ⟨0, 0, 0, 0⟩)
theorem e_rpos (n : Nat) {s : List Nat} {a : Nat} {q : Int} {σ : List MO} (hs : lenOk s.length = true) :
    (rB (n + 20)).call (.fn 11) [.str s, .int (a : Int), .int q] σ = some (endv (decide ((s.length : Int) - (a : Int) = q)) a, σ) := by
  rw [c_rpos_end]
  unfold cb_rpos_end
  cases hb : decide ((s.length : Int) - (a : Int) = q) <;>
  simp only [rB_ss, rB_s, rB_e, rB_es, rB_eo, rB_t, rB_ts, rB_a, rB_as, stepSs, fSs, stepS, fS, stepE, fE, stepEs, fEs, stepEo, stepT, fT, stepTs, fTs, stepA, fA, stepAs, ssN, tsN, tsE, getS, Option.bind_some, Option.bind_none, Option.map_some, cond_true, cond_false, retN, Cst.mv, Nat.beq_refl, wk_str, wk_chr, wk_int, wk_tup, wk_none, wk_ref, wk_bool, wk_wk, endv_ok, lk0, lk1, lk2, lk3, lk4, lk5, lk6, lk7, lk8, bl0, bl1, bl2, bl3, List.map_cons, List.map_nil, List.length_cons, List.length_nil, at?_z, at?_s, setAt_z, setAt_s, r0, asgB, isCst, List.all_cons, List.all_nil, List.any_cons, List.any_nil, asTup, putSl, eSub, subs, nth0, nth1, nth2, eCmp, cmpop, cIs, isNone, okAny, notAny, eBin, binop, bAdd, bII, eSlc, part, cutE, eCall, truth, exB, sEx, eMeth, okBase, mApp, Bool.not_true, Bool.not_false, Bool.and_true, Bool.and_false, Bool.true_and, Bool.false_and, Bool.or_true, Bool.or_false, Bool.true_or, Bool.false_or, call_bi, bLen_str hs, cEq, hb, endv]
theorem o_rpos (n : Nat) {s : List Nat} {q : Int} {a : Nat} {σ : List MO} (hs : lenOk s.length = true) :
    (rB (n + 85)).call (.fn 15) [.str [114, 112, 111, 115], .str s, .int (a : Int), .int q] σ = some (endv (decide ((s.length : Int) - (a : Int) = q)) (a), σ) := by
  rw [c_one_end]
  unfold cb_one_end
  simp only [rB_ss, rB_s, rB_e, rB_es, rB_eo, rB_t, rB_ts, rB_a, rB_as, stepSs, fSs, stepS, fS, stepE, fE, stepEs, fEs, stepEo, stepT, fT, stepTs, fTs, stepA, fA, stepAs, ssN, tsN, tsE, getS, Option.bind_some, Option.bind_none, Option.map_some, cond_true, cond_false, retN, Cst.mv, Nat.beq_refl, wk_str, wk_chr, wk_int, wk_tup, wk_none, wk_ref, wk_bool, wk_wk, endv_ok, lk0, lk1, lk2, lk3, lk4, lk5, lk6, lk7, lk8, bl0, bl1, bl2, bl3, List.map_cons, List.map_nil, List.length_cons, List.length_nil, at?_z, at?_s, setAt_z, setAt_s, r0, asgB, isCst, List.all_cons, List.all_nil, List.any_cons, List.any_nil, asTup, putSl, eSub, subs, nth0, nth1, nth2, eCmp, cmpop, cIs, isNone, okAny, notAny, eBin, binop, bAdd, bII, eSlc, part, cutE, eCall, truth, exB, sEx, eMeth, okBase, mApp, Bool.not_true, Bool.not_false, Bool.and_true, Bool.and_false, Bool.true_and, Bool.false_and, Bool.or_true, Bool.or_false, Bool.true_or, Bool.false_or, cEq, (show eqL [114, 112, 111, 115] [99, 104, 97, 114, 115] = false from rfl), (show eqL [114, 112, 111, 115] [108, 101, 110] = false from rfl), (show eqL [114, 112, 111, 115] [112, 111, 115] = false from rfl), (show eqL [114, 112, 111, 115] [114, 112, 111, 115] = true from rfl), e_rpos _ hs]
theorem p_rpos (n : Nat) {s : List Nat} {q : Int} {a : Nat} {σ : List MO} (hs : lenOk s.length = true) :
    (rB (n + 100)).call (.fn 16) [.tup [.str [114, 112, 111, 115], .int q], .str s, .int (a : Int)] σ = some (endv (decide ((s.length : Int) - (a : Int) = q)) (a), σ) := by
  rw [c_plain_end]
  unfold cb_plain_end
  simp only [rB_ss, rB_s, rB_e, rB_es, rB_eo, rB_t, rB_ts, rB_a, rB_as, stepSs, fSs, stepS, fS, stepE, fE, stepEs, fEs, stepEo, stepT, fT, stepTs, fTs, stepA, fA, stepAs, ssN, tsN, tsE, getS, Option.bind_some, Option.bind_none, Option.map_some, cond_true, cond_false, retN, Cst.mv, Nat.beq_refl, wk_str, wk_chr, wk_int, wk_tup, wk_none, wk_ref, wk_bool, wk_wk, endv_ok, lk0, lk1, lk2, lk3, lk4, lk5, lk6, lk7, lk8, bl0, bl1, bl2, bl3, List.map_cons, List.map_nil, List.length_cons, List.length_nil, at?_z, at?_s, setAt_z, setAt_s, r0, asgB, isCst, List.all_cons, List.all_nil, List.any_cons, List.any_nil, asTup, putSl, eSub, subs, nth0, nth1, nth2, eCmp, cmpop, cIs, isNone, okAny, notAny, eBin, binop, bAdd, bII, eSlc, part, cutE, eCall, truth, exB, sEx, eMeth, okBase, mApp, Bool.not_true, Bool.not_false, Bool.and_true, Bool.and_false, Bool.true_and, Bool.false_and, Bool.or_true, Bool.or_false, Bool.true_or, Bool.false_or, cEq, (show eqL [114, 112, 111, 115] [114, 101, 109] = false from rfl), o_rpos _ hs]
theorem s_rpos (n : Nat) {q : Int} {h : MV} {σ : List MO} : (rB (n + 40)).call (.fn 9) [.tup [.str [114, 112, 111, 115], .int q], h] σ = some (.tup [.str [114, 112, 111, 115], .int q], σ) := by rfl
theorem t_rpos (n : Nat) {s : List Nat} {q : Int} {a : Nat} {rest nm pl h : MV} {σ : List MO} (hs : lenOk s.length = true) :
    (rB (n + 120)).call (.fn 24) [.tup [.str [114, 112, 111, 115], .int q], rest, .int (a : Int), nm, .str s, pl, h] σ = some (cond (decide ((s.length : Int) - (a : Int) = q)) (.tup [rest.wk, .int ((a : Nat) : Int), nm.wk]) .none, σ) := by
  rw [c_taken]
  unfold cb_taken
  cases hb : (decide ((s.length : Int) - (a : Int) = q)) <;>
  simp only [rB_ss, rB_s, rB_e, rB_es, rB_eo, rB_t, rB_ts, rB_a, rB_as, stepSs, fSs, stepS, fS, stepE, fE, stepEs, fEs, stepEo, stepT, fT, stepTs, fTs, stepA, fA, stepAs, ssN, tsN, tsE, getS, Option.bind_some, Option.bind_none, Option.map_some, cond_true, cond_false, retN, Cst.mv, Nat.beq_refl, wk_str, wk_chr, wk_int, wk_tup, wk_none, wk_ref, wk_bool, wk_wk, endv_ok, lk0, lk1, lk2, lk3, lk4, lk5, lk6, lk7, lk8, bl0, bl1, bl2, bl3, List.map_cons, List.map_nil, List.length_cons, List.length_nil, at?_z, at?_s, setAt_z, setAt_s, r0, asgB, isCst, List.all_cons, List.all_nil, List.any_cons, List.any_nil, asTup, putSl, eSub, subs, nth0, nth1, nth2, eCmp, cmpop, cIs, isNone, okAny, notAny, eBin, binop, bAdd, bII, eSlc, part, cutE, eCall, truth, exB, sEx, eMeth, okBase, mApp, Bool.not_true, Bool.not_false, Bool.and_true, Bool.and_false, Bool.true_and, Bool.false_and, Bool.or_true, Bool.or_false, Bool.true_or, Bool.false_or, cEq, (show eqL [114, 112, 111, 115] [97, 114, 98] = false from rfl), (show eqL [114, 112, 111, 115] [98, 97, 108] = false from rfl), s_rpos, p_rpos _ hs, hb, endv, lk3]
theorem a_rpos (n : Nat) {s : List Nat} {q : Int} {a : Nat} {nm : List MV} {rest pl h : MV} {σ : List MO} (hs : lenOk s.length = true) :
    (rB (n + 150)).call (.fn 20) [.tup [.tup [.str [114, 112, 111, 115], .int q], rest], .int (a : Int), .tup nm, .str s, pl, h] σ = some (cond (decide ((s.length : Int) - (a : Int) = q)) (.tup [rest.wk, .int ((a : Nat) : Int), .tup nm]) .none, σ) := by
  rw [c_advanced]
  unfold cb_advanced
  simp only [rB_ss, rB_s, rB_e, rB_es, rB_eo, rB_t, rB_ts, rB_a, rB_as, stepSs, fSs, stepS, fS, stepE, fE, stepEs, fEs, stepEo, stepT, fT, stepTs, fTs, stepA, fA, stepAs, ssN, tsN, tsE, getS, Option.bind_some, Option.bind_none, Option.map_some, cond_true, cond_false, retN, Cst.mv, Nat.beq_refl, wk_str, wk_chr, wk_int, wk_tup, wk_none, wk_ref, wk_bool, wk_wk, endv_ok, lk0, lk1, lk2, lk3, lk4, lk5, lk6, lk7, lk8, bl0, bl1, bl2, bl3, List.map_cons, List.map_nil, List.length_cons, List.length_nil, at?_z, at?_s, setAt_z, setAt_s, r0, asgB, isCst, List.all_cons, List.all_nil, List.any_cons, List.any_nil, asTup, putSl, eSub, subs, nth0, nth1, nth2, eCmp, cmpop, cIs, isNone, okAny, notAny, eBin, binop, bAdd, bII, eSlc, part, cutE, eCall, truth, exB, sEx, eMeth, okBase, mApp, Bool.not_true, Bool.not_false, Bool.and_true, Bool.and_false, Bool.true_and, Bool.false_and, Bool.or_true, Bool.or_false, Bool.true_or, Bool.false_or, cEq, cIn, anyStr, Nat.beq_refl, (show eqL [99, 97, 116] [114, 112, 111, 115] = false from rfl), (show eqL [97, 108, 116] [114, 112, 111, 115] = false from rfl), (show eqL [97, 114, 98, 110, 111] [114, 112, 111, 115] = false from rfl), (show eqL [108, 97, 116, 101, 114] [114, 112, 111, 115] = false from rfl), (show eqL [110, 111, 119] [114, 112, 111, 115] = false from rfl), (show eqL [102, 101, 110, 99, 101] [114, 112, 111, 115] = false from rfl), (show eqL [97, 98, 111, 114, 116] [114, 112, 111, 115] = false from rfl), (show eqL [102, 97, 105, 108] [114, 112, 111, 115] = false from rfl), (show eqL [115, 117, 99, 99, 101, 101, 100] [114, 112, 111, 115] = false from rfl), (show eqL [114, 112, 111, 115] [99, 117, 114, 115, 111, 114] = false from rfl), (show eqL [114, 112, 111, 115] [100, 101, 108, 97, 121] = false from rfl), (show eqL (cut [114, 112, 111, 115] none (some 4)) [101, 110, 100, 32] = false from rfl), t_rpos _ hs, lk2, lk3]
theorem l_fail (n : Nat) {a : Nat} {nm : List MV} {rest pl : MV} {σ : List MO} : (rB (n + 60)).call (.fn 23) [.tup [.tup [.str [102, 97, 105, 108]], rest], .int (a : Int), .tup nm, pl] σ = some (.none, σ) := by rfl
theorem a_fail (n : Nat) {s : List Nat} {a : Nat} {nm : List MV} {rest pl h : MV} {σ : List MO} :
    (rB (n + 110)).call (.fn 20) [.tup [.tup [.str [102, 97, 105, 108]], rest], .int (a : Int), .tup nm, .str s, pl, h] σ = some (.none, σ) := by
  rw [c_advanced]
  unfold cb_advanced
  simp only [rB_ss, rB_s, rB_e, rB_es, rB_eo, rB_t, rB_ts, rB_a, rB_as, stepSs, fSs, stepS, fS, stepE, fE, stepEs, fEs, stepEo, stepT, fT, stepTs, fTs, stepA, fA, stepAs, ssN, tsN, tsE, getS, Option.bind_some, Option.bind_none, Option.map_some, cond_true, cond_false, retN, Cst.mv, Nat.beq_refl, wk_str, wk_chr, wk_int, wk_tup, wk_none, wk_ref, wk_bool, wk_wk, endv_ok, lk0, lk1, lk2, lk3, lk4, lk5, lk6, lk7, lk8, bl0, bl1, bl2, bl3, List.map_cons, List.map_nil, List.length_cons, List.length_nil, at?_z, at?_s, setAt_z, setAt_s, r0, asgB, isCst, List.all_cons, List.all_nil, List.any_cons, List.any_nil, asTup, putSl, eSub, subs, nth0, nth1, nth2, eCmp, cmpop, cIs, isNone, okAny, notAny, eBin, binop, bAdd, bII, eSlc, part, cutE, eCall, truth, exB, sEx, eMeth, okBase, mApp, Bool.not_true, Bool.not_false, Bool.and_true, Bool.and_false, Bool.true_and, Bool.false_and, Bool.or_true, Bool.or_false, Bool.true_or, Bool.false_or, cEq, cIn, (show anyStr [102, 97, 105, 108] [.str [99, 97, 116], .str [97, 108, 116], .str [97, 114, 98, 110, 111], .str [108, 97, 116, 101, 114], .str [110, 111, 119]] = some false from rfl), (show eqL [99, 97, 116] [102, 97, 105, 108] = false from rfl), (show eqL [97, 108, 116] [102, 97, 105, 108] = false from rfl), (show eqL [97, 114, 98, 110, 111] [102, 97, 105, 108] = false from rfl), (show eqL [108, 97, 116, 101, 114] [102, 97, 105, 108] = false from rfl), (show eqL [110, 111, 119] [102, 97, 105, 108] = false from rfl), (show eqL [102, 97, 105, 108] [99, 117, 114, 115, 111, 114] = false from rfl), (show eqL [102, 97, 105, 108] [100, 101, 108, 97, 121] = false from rfl), (show eqL (cut [102, 97, 105, 108] none (some 4)) [101, 110, 100, 32] = false from rfl), (show anyStr [102, 97, 105, 108] [.str [102, 101, 110, 99, 101], .str [97, 98, 111, 114, 116], .str [102, 97, 105, 108], .str [115, 117, 99, 99, 101, 101, 100]] = some true from rfl), l_fail, lk2, lk3]
theorem sel_get {σ : List MO} {i : Nat} {kv : List (List Nat × MV)} (h : at? σ i = some (.dict kv)) : mSel cCT σ 12 (.ref i) = some .dict := by
  show selR cCT 12 (at? σ i) = _; rw [h]; rfl
theorem ap_get {σ : List MO} {i : Nat} {kv : List (List Nat × MV)} {k : List Nat} {v w : MV} (h : at? σ i = some (.dict kv)) (hv : lkS k kv = some v) : apDv σ 12 [.str k, w] (.ref i) = some (v, σ) := by
  show apD σ 12 [.str k, w] (at? σ i) = _; rw [h]; show some ((lkS k kv).getD w, σ) = _; rw [hv]; rfl
theorem L_value (n : Nat) {h d rf lg : Nat} {lim st : Int} {key : List Nat} {kv : List (List Nat × MV)} {v : MV} {σ : List MO} (hh : at? σ h = some (hostM d rf lg lim st)) (hd : at? σ d = some (.dict kv)) (hv : lkS key kv = some v) :
    (rB (n + 30)).call (.fn 27) [.ref h, .tup [.str [110, 97, 109, 101], .str key]] σ = some (v, σ) := by
  rw [c_PlainHost_value_of]
  have aV : attrE cCT σ 0 (.ref h) = some (.ref d, σ) := at_inst hh rfl rfl rfl rfl
  unfold cb_PlainHost_value_of
  simp only [rB_ss, rB_s, rB_e, rB_es, rB_eo, rB_t, rB_ts, rB_a, rB_as, stepSs, fSs, stepS, fS, stepE, fE, stepEs, fEs, stepEo, stepT, fT, stepTs, fTs, stepA, fA, stepAs, ssN, tsN, tsE, getS, Option.bind_some, Option.bind_none, Option.map_some, cond_true, cond_false, retN, Cst.mv, Nat.beq_refl, wk_str, wk_chr, wk_int, wk_tup, wk_none, wk_ref, wk_bool, wk_wk, endv_ok, lk0, lk1, lk2, lk3, lk4, lk5, lk6, lk7, lk8, bl0, bl1, bl2, bl3, List.map_cons, List.map_nil, List.length_cons, List.length_nil, at?_z, at?_s, setAt_z, setAt_s, r0, asgB, isCst, List.all_cons, List.all_nil, List.any_cons, List.any_nil, asTup, putSl, eSub, subs, nth0, nth1, nth2, eCmp, cmpop, cIs, isNone, okAny, notAny, eBin, binop, bAdd, bII, eSlc, part, cutE, eCall, truth, exB, sEx, eMeth, okBase, mApp, Bool.not_true, Bool.not_false, Bool.and_true, Bool.and_false, Bool.true_and, Bool.false_and, Bool.or_true, Bool.or_false, Bool.true_or, Bool.false_or, cEq, (show eqL [110, 97, 109, 101] [110, 97, 109, 101] = true from rfl), aV, sel_get hd, ap_get hd hv]
noncomputable def patO (v : MV) : MO := .inst 2 [(9, v)]
theorem isi_fail {σ : List MO} {i : Nat} {v : MV} (h : at? σ i = some (patO v)) : biCall .isinstance [.ref i, .cls 3] σ = some (.bool false, σ) := by
  show isiR σ 3 (at? σ i) = _; rw [h]; rfl
theorem isi_pat {σ : List MO} {i : Nat} {v : MV} (h : at? σ i = some (patO v)) : biCall .isinstance [.ref i, .cls 2] σ = some (.bool true, σ) := by
  show isiR σ 2 (at? σ i) = _; rw [h]; rfl
theorem wk_cls (k : Nat) : (MV.cls k).wk = .cls k := rfl
theorem L_isf (n : Nat) {i : Nat} {v : MV} {σ : List MO} (h : at? σ i = some (patO v)) : (rB (n + 20)).call (.fn 25) [.ref i] σ = some (.bool false, σ) := by
  rw [c_is_fail]
  unfold cb_is_fail
  simp only [rB_ss, rB_s, rB_e, rB_es, rB_eo, rB_t, rB_ts, rB_a, rB_as, stepSs, fSs, stepS, fS, stepE, fE, stepEs, fEs, stepEo, stepT, fT, stepTs, fTs, stepA, fA, stepAs, ssN, tsN, tsE, getS, Option.bind_some, Option.bind_none, Option.map_some, cond_true, cond_false, retN, Cst.mv, Nat.beq_refl, wk_str, wk_chr, wk_int, wk_tup, wk_none, wk_ref, wk_bool, wk_wk, endv_ok, lk0, lk1, lk2, lk3, lk4, lk5, lk6, lk7, lk8, bl0, bl1, bl2, bl3, List.map_cons, List.map_nil, List.length_cons, List.length_nil, at?_z, at?_s, setAt_z, setAt_s, r0, asgB, isCst, List.all_cons, List.all_nil, List.any_cons, List.any_nil, asTup, putSl, eSub, subs, nth0, nth1, nth2, eCmp, cmpop, cIs, isNone, okAny, notAny, eBin, binop, bAdd, bII, eSlc, part, cutE, eCall, truth, exB, sEx, eMeth, okBase, mApp, Bool.not_true, Bool.not_false, Bool.and_true, Bool.and_false, Bool.true_and, Bool.false_and, Bool.or_true, Bool.or_false, Bool.true_or, Bool.false_or, wk_cls, call_bi, isi_fail h]
theorem L_pat (n : Nat) {i : Nat} {l : List MV} {σ : List MO} (h : at? σ i = some (patO (.tup l))) : (rB (n + 20)).call (.fn 26) [.ref i] σ = some (.tup l, σ) := by
  rw [c_pattern_of]
  have aN : attrE cCT σ 9 (.ref i) = some (.tup l, σ) := at_inst h rfl rfl rfl rfl
  unfold cb_pattern_of
  simp only [rB_ss, rB_s, rB_e, rB_es, rB_eo, rB_t, rB_ts, rB_a, rB_as, stepSs, fSs, stepS, fS, stepE, fE, stepEs, fEs, stepEo, stepT, fT, stepTs, fTs, stepA, fA, stepAs, ssN, tsN, tsE, getS, Option.bind_some, Option.bind_none, Option.map_some, cond_true, cond_false, retN, Cst.mv, Nat.beq_refl, wk_str, wk_chr, wk_int, wk_tup, wk_none, wk_ref, wk_bool, wk_wk, endv_ok, lk0, lk1, lk2, lk3, lk4, lk5, lk6, lk7, lk8, bl0, bl1, bl2, bl3, List.map_cons, List.map_nil, List.length_cons, List.length_nil, at?_z, at?_s, setAt_z, setAt_s, r0, asgB, isCst, List.all_cons, List.all_nil, List.any_cons, List.any_nil, asTup, putSl, eSub, subs, nth0, nth1, nth2, eCmp, cmpop, cIs, isNone, okAny, notAny, eBin, binop, bAdd, bII, eSlc, part, cutE, eCall, truth, exB, sEx, eMeth, okBase, mApp, Bool.not_true, Bool.not_false, Bool.and_true, Bool.and_false, Bool.true_and, Bool.false_and, Bool.or_true, Bool.or_false, Bool.true_or, Bool.false_or, wk_cls, call_bi, isi_pat h, aN]
theorem a_delay (n : Nat) {h d rf lg i : Nat} {lim st : Int} {key : List Nat} {kv : List (List Nat × MV)} {l : List MV} {s : List Nat} {a : Nat} {nm : List MV} {rest pl : MV} {σ : List MO} (hh : at? σ h = some (hostM d rf lg lim st)) (hd : at? σ d = some (.dict kv)) (hv : lkS key kv = some (.ref i)) (hp : at? σ i = some (patO (.tup l))) :
    (rB (n + 110)).call (.fn 20) [.tup [.tup [.str [100, 101, 108, 97, 121], .tup [.str [110, 97, 109, 101], .str key]], rest], .int (a : Int), .tup nm, .str s, pl, .ref h] σ = some (.tup [.tup [.tup l, rest.wk], .int (a : Int), .tup nm], σ) := by
  rw [c_advanced]
  have so : mSel cCT σ 19 (.ref h) = some (.own 27) := sel_own hh rfl rfl rfl rfl rfl
  unfold cb_advanced
  simp only [rB_ss, rB_s, rB_e, rB_es, rB_eo, rB_t, rB_ts, rB_a, rB_as, stepSs, fSs, stepS, fS, stepE, fE, stepEs, fEs, stepEo, stepT, fT, stepTs, fTs, stepA, fA, stepAs, ssN, tsN, tsE, getS, Option.bind_some, Option.bind_none, Option.map_some, cond_true, cond_false, retN, Cst.mv, Nat.beq_refl, wk_str, wk_chr, wk_int, wk_tup, wk_none, wk_ref, wk_bool, wk_wk, endv_ok, lk0, lk1, lk2, lk3, lk4, lk5, lk6, lk7, lk8, bl0, bl1, bl2, bl3, List.map_cons, List.map_nil, List.length_cons, List.length_nil, at?_z, at?_s, setAt_z, setAt_s, r0, asgB, isCst, List.all_cons, List.all_nil, List.any_cons, List.any_nil, asTup, putSl, eSub, subs, nth0, nth1, nth2, eCmp, cmpop, cIs, isNone, okAny, notAny, eBin, binop, bAdd, bII, eSlc, part, cutE, eCall, truth, exB, sEx, eMeth, okBase, mApp, Bool.not_true, Bool.not_false, Bool.and_true, Bool.and_false, Bool.true_and, Bool.false_and, Bool.or_true, Bool.or_false, Bool.true_or, Bool.false_or, cEq, cIn, (show anyStr [100, 101, 108, 97, 121] [.str [99, 97, 116], .str [97, 108, 116], .str [97, 114, 98, 110, 111], .str [108, 97, 116, 101, 114], .str [110, 111, 119]] = some false from rfl), (show eqL [100, 101, 108, 97, 121] [99, 117, 114, 115, 111, 114] = false from rfl), (show eqL [100, 101, 108, 97, 121] [100, 101, 108, 97, 121] = true from rfl), (show eqL (cut [100, 101, 108, 97, 121] none (some 4)) [101, 110, 100, 32] = false from rfl), so, L_value _ hh hd hv, L_isf _ hp, L_pat _ hp, lk2, lk3]
end Mine

open PySem PySem.W PyProof.Rows PySem.Calls
namespace Mine
set_option autoImplicit false
set_option backward.match.sparseCases false
set_option linter.unusedVariables false
set_option linter.unusedSimpArgs false
set_option maxRecDepth 100000
set_option maxHeartbeats 4000000
/-! ## the machine -/
inductive Nd where
  | cat (x y : MV)
  | alt (x y : MV)
  | chars (t : List Nat)
  | rpos (q : Int)
  | fail
  | delay (key : List Nat)
protected noncomputable def Nd.ctorIdx (x : Nd) : Nat := @Nd.casesOn (fun _ => Nat) x (fun _ _ => 0) (fun _ _ => 1) (fun _ => 2) (fun _ => 3) 4 (fun _ => 5)
noncomputable def Nd.er : Nd → MV
  | .cat x y => .tup [.str [99, 97, 116], x, y]
  | .alt x y => .tup [.str [97, 108, 116], x, y]
  | .chars t => .tup [.str [99, 104, 97, 114, 115], .str t]
  | .rpos q => .tup [.str [114, 112, 111, 115], .int q]
  | .fail => .tup [.str [102, 97, 105, 108]]
  | .delay key => .tup [.str [100, 101, 108, 97, 121], .tup [.str [110, 97, 109, 101], .str key]]
noncomputable def strM : MV → Option (List Nat)
  | .str l => some l
  | _ => none
noncomputable def refM : MV → Option Nat
  | .ref l => some l
  | _ => none
noncomputable def tupM : MV → Option (List MV)
  | .tup l => some l
  | _ => none
noncomputable def natI : Int → Option Nat
  | .ofNat n => some n
  | .negSucc _ => none
noncomputable def natM : MV → Option Nat
  | .int i => natI i
  | _ => none
theorem strM_ok {v : MV} {l : List Nat} (h : strM v = some l) : v = .str l := by cases v <;> first | (cases h; done) | (cases h; rfl)
theorem refM_ok {v : MV} {l : Nat} (h : refM v = some l) : v = .ref l := by cases v <;> first | (cases h; done) | (cases h; rfl)
theorem tupM_ok {v : MV} {l : List MV} (h : tupM v = some l) : v = .tup l := by cases v <;> first | (cases h; done) | (cases h; rfl)
theorem natM_ok {v : MV} {n : Nat} (h : natM v = some n) : v = .int (n : Int) := by
  cases v <;> try (cases h; done)
  rename_i i
  replace h : natI i = some n := h
  cases i with
  | ofNat k => cases h; rfl
  | negSucc k => cases h
noncomputable def intM : MV → Option Int
  | .int i => some i
  | _ => none
theorem intM_ok {v : MV} {l : Int} (h : intM v = some l) : v = .int l := by cases v <;> first | (cases h; done) | (cases h; rfl)
noncomputable def d3 (k : List Nat) (x y : MV) : Option Nd :=
  cond (eqL k [99, 97, 116]) (cond (okv x && okv y) (some (.cat x y)) none) (cond (eqL k [97, 108, 116]) (cond (okv x && okv y) (some (.alt x y)) none) none)
noncomputable def dl2 (l : List MV) : Option Nd := match l with
  | [n, ky] => (strM n).bind fun n => cond (eqL n [110, 97, 109, 101]) ((strM ky).bind fun key => some (.delay key)) none
  | _ => none
noncomputable def d2 (k : List Nat) (x : MV) : Option Nd :=
  cond (eqL k [99, 104, 97, 114, 115]) ((strM x).bind fun t => cond (lenOk t.length) (some (.chars t)) none) (cond (eqL k [100, 101, 108, 97, 121]) ((tupM x).bind dl2) (cond (eqL k [114, 112, 111, 115]) ((intM x).bind fun q => some (.rpos q)) none))
noncomputable def d1 (k : List Nat) : Option Nd := cond (eqL k [102, 97, 105, 108]) (some .fail) none
noncomputable def dec (l : List MV) : Option Nd := match l with
  | [k, x, y] => (strM k).bind fun k => d3 k x y
  | [k, x] => (strM k).bind fun k => d2 k x
  | [k] => (strM k).bind d1
  | _ => none
/-- what is asked of the parts of a node -/
noncomputable def Nd.ok : Nd → Prop
  | .cat x y => okv x = true ∧ okv y = true
  | .alt x y => okv x = true ∧ okv y = true
  | .chars t => lenOk t.length = true
  | _ => True
theorem eqL_to {a b : List Nat} (h : eqL a b = true) : a = b := (eqL_iff a b).mp h
theorem d3_ok {k : List Nat} {x y : MV} {nd : Nd} (h : d3 k x y = some nd) : MV.tup [.str k, x, y] = nd.er ∧ nd.ok := by
  unfold d3 at h
  cases h1 : eqL k [99, 97, 116] with
  | true =>
    rw [h1] at h; obtain ⟨h2, h3⟩ := cond_some (show cond (okv x && okv y) _ none = _ from h); cases h3
    rw [eqL_to h1]; exact ⟨rfl, Bool.and_eq_true_iff.mp h2⟩
  | false =>
  rw [h1] at h
  cases h1 : eqL k [97, 108, 116] with
  | true =>
    rw [h1] at h; obtain ⟨h2, h3⟩ := cond_some (show cond (okv x && okv y) _ none = _ from h); cases h3
    rw [eqL_to h1]; exact ⟨rfl, Bool.and_eq_true_iff.mp h2⟩
  | false => rw [h1] at h; cases h
theorem d2_ok {k : List Nat} {x : MV} {nd : Nd} (h : d2 k x = some nd) : MV.tup [.str k, x] = nd.er ∧ nd.ok := by
  unfold d2 at h
  cases h1 : eqL k [99, 104, 97, 114, 115] with
  | true =>
    rw [h1] at h
    obtain ⟨t, h2, h3⟩ := bind_some (show Option.bind _ _ = _ from h)
    obtain ⟨h4, h5⟩ := cond_some h3
    cases h5
    rw [eqL_to h1, strM_ok h2]; exact ⟨rfl, h4⟩
  | false =>
  rw [h1] at h
  cases h1 : eqL k [100, 101, 108, 97, 121] with
  | true =>
    rw [h1] at h
    obtain ⟨l, h2, h3⟩ := bind_some (show Option.bind _ _ = _ from h)
    rw [eqL_to h1, tupM_ok h2]
    match l, h3 with
    | [], h3 => cases h3
    | [_], h3 => cases h3
    | _ :: _ :: _ :: _, h3 => cases h3
    | [n, ky], h3 =>
    obtain ⟨n', h4, h5⟩ := bind_some h3
    obtain ⟨h6, h7⟩ := cond_some h5
    obtain ⟨key, h8, h9⟩ := bind_some h7
    cases h9
    rw [strM_ok h4, eqL_to h6, strM_ok h8]; exact ⟨rfl, trivial⟩
  | false =>
  rw [h1] at h
  cases h1 : eqL k [114, 112, 111, 115] with
  | true =>
    rw [h1] at h
    obtain ⟨t, h2, h3⟩ := bind_some (show Option.bind _ _ = _ from h)
    cases h3
    rw [eqL_to h1, intM_ok h2]; exact ⟨rfl, trivial⟩
  | false => rw [h1] at h; cases h
theorem d1_ok {k : List Nat} {nd : Nd} (h : d1 k = some nd) : MV.tup [.str k] = nd.er ∧ nd.ok := by
  unfold d1 at h
  cases h1 : eqL k [102, 97, 105, 108] with
  | true => rw [h1] at h; cases h; rw [eqL_to h1]; exact ⟨rfl, trivial⟩
  | false => rw [h1] at h; cases h
theorem dec_ok {l : List MV} {nd : Nd} (h : dec l = some nd) : MV.tup l = nd.er ∧ nd.ok := by
  match l, h with
  | [], h => cases h
  | [k], h =>
    obtain ⟨k', h1, h2⟩ := bind_some (show Option.bind _ _ = _ from h)
    rw [strM_ok h1]; exact d1_ok h2
  | [k, x], h =>
    obtain ⟨k', h1, h2⟩ := bind_some (show Option.bind _ _ = _ from h)
    rw [strM_ok h1]; exact d2_ok h2
  | [k, x, y], h =>
    obtain ⟨k', h1, h2⟩ := bind_some (show Option.bind _ _ = _ from h)
    rw [strM_ok h1]; exact d3_ok h2
  | _ :: _ :: _ :: _ :: _, h => cases h
noncomputable def patL1 : List (Nat × MV) → Option (List MV)
  | [(9, v)] => tupM v
  | _ => none
noncomputable def patL : Option MO → Option (List MV)
  | some (.inst 2 ats) => patL1 ats
  | _ => none
theorem patL_ok {o : Option MO} {l : List MV} (h : patL o = some l) : o = some (patO (.tup l)) := by
  unfold patL at h
  split at h
  · unfold patL1 at h
    split at h
    · rw [tupM_ok h]; rfl
    · cases h
  · cases h
inductive AdR where
  | go (c : MV) (a : Nat) (t : Tu)
  | stop (t : Tu)
protected noncomputable def AdR.ctorIdx (x : AdR) : Nat := @AdR.casesOn (fun _ => Nat) x (fun _ _ _ => 0) (fun _ => 1)
noncomputable def chkE (b : Bool) (rest : MV) (e : Nat) (t : Tu) : Option AdR := some (cond b (.go rest e t) (.stop t))
noncomputable def advN (σ : List MO) (s : List Nat) (rest : MV) (a : Nat) (t : Tu) : Nd → Option AdR
  | .cat x y => some (.go (.tup [x, .tup [y, rest]]) a t)
  | .alt x y => cond (lenOk t.pl.length) (some (.go (.tup [x, rest]) a { t with pl := t.pl ++ [.tup [.tup [y, rest], .int (a : Int), .tup []]] })) none
  | .chars u => chkE (eqL (cut s (some a) (some (a + u.length))) u) rest (a + u.length) t
  | .rpos q => chkE (decide ((s.length : Int) - (a : Int) = q)) rest a t
  | .fail => some (.stop t)
  | .delay key => ((lkS key t.kv).bind refM).bind fun i => (patL (at? σ i)).bind fun l => some (.go (.tup [.tup l, rest]) a t)
noncomputable def advM (σ : List MO) (s : List Nat) (c : MV) (a : Nat) (t : Tu) : Option AdR := (tupM c).bind fun l => match l with
  | [n, rest] => cond (okv rest) ((tupM n).bind fun l => (dec l).bind (advN σ s rest a t)) none
  | _ => none
structure WD (q : Pl) (lim : Int) (σ : List MO) : Prop where
  c : WC q σ
  h : ∃ st, at? σ q.h = some (hostM q.d q.rf q.lg lim st)
  d : ∃ kv, at? σ q.d = some (.dict kv)
  l : ∃ lo, at? σ q.lg = some (.list lo)
  p : ∃ pl, at? σ q.p = some (.list pl)
theorem pat_off {q : Pl} {lim : Int} {σ : List MO} (w : WD q lim σ) {i : Nat} {v : MV} (h : at? σ i = some (patO v)) : i ≠ q.h ∧ i ≠ q.d ∧ i ≠ q.lg ∧ i ≠ q.p := by
  refine ⟨fun e => ?_, fun e => ?_, fun e => ?_, fun e => ?_⟩ <;> subst e
  · obtain ⟨_, x⟩ := w.h; rw [x] at h; unfold hostM patO at h; cases h
  · obtain ⟨_, x⟩ := w.d; rw [x] at h; simp [patO] at h
  · obtain ⟨_, x⟩ := w.l; rw [x] at h; simp [patO] at h
  · obtain ⟨_, x⟩ := w.p; rw [x] at h; simp [patO] at h
/-- what the code gives back -/
noncomputable def AdR.v : AdR → MV
  | .go c a _ => .tup [c, .int (a : Int), .tup []]
  | .stop _ => .none
noncomputable def AdR.t : AdR → Tu
  | .go _ _ t => t
  | .stop t => t
theorem chk_v {b : Bool} {rest : MV} {e : Nat} {t : Tu} {x : AdR} (h : chkE b rest e t = some x) : cond b (.tup [rest, .int (e : Int), .tup []]) .none = x.v ∧ t = x.t := by
  cases h; cases b <;> exact ⟨rfl, rfl⟩
theorem adv_ok {q : Pl} {lim : Int} {σ : List MO} (w : WD q lim σ) {s : List Nat} (hs : lenOk s.length = true) {c : MV} {a : Nat} {t : Tu} {x : AdR} (h : advM σ s c a t = some x) (n : Nat) :
    (rB (n + 150)).call (.fn 20) [c, .int (a : Int), .tup [], .str s, .ref q.p, .ref q.h] (W q lim t σ) = some (x.v, W q lim x.t σ) := by
  obtain ⟨l, e1, h0⟩ := bind_some h
  clear h
  rw [tupM_ok e1]
  have h := h0
  clear h0
  match l, h with
  | [], h => cases h
  | [_], h => cases h
  | _ :: _ :: _ :: _, h => cases h
  | [nd, rest], h =>
  obtain ⟨hr, h⟩ := cond_some h
  obtain ⟨l', e2, h⟩ := bind_some h
  rw [tupM_ok e2]
  obtain ⟨nd, e3, h⟩ := bind_some h
  obtain ⟨e4, hn⟩ := dec_ok e3
  rw [e4]
  have wr := wk_id hr
  cases nd with
  | cat x y => cases h; simp only [Nd.er]; rw [show n + 150 = n + 40 + 110 from rfl, a_cat (n + 40), wr, wk_id hn.1, wk_id hn.2]; rfl
  | alt x y =>
    obtain ⟨h1, h⟩ := cond_some h
    cases h
    simp only [Nd.er]
    rw [show n + 150 = n + 40 + 110 from rfl, a_alt (n + 40) (W_p w.c) h1, wr, wk_id hn.1, wk_id hn.2, W_setp w.c]; rfl
  | chars u =>
    simp only [Nd.er]
    rw [show n + 150 = n + 40 + 110 from rfl, a_chars (n + 40) hs hn, wr, (chk_v h).1, ← (chk_v h).2]
  | rpos q' =>
    simp only [Nd.er]
    rw [a_rpos n hs, wr, (chk_v h).1, ← (chk_v h).2]
  | fail => cases h; simp only [Nd.er]; rw [show n + 150 = n + 40 + 110 from rfl, a_fail (n + 40)]; rfl
  | delay key =>
    obtain ⟨i, h1, h⟩ := bind_some h
    obtain ⟨v, h3, h4⟩ := bind_some h1
    obtain ⟨l, h2, h⟩ := bind_some h
    obtain rfl := refM_ok h4
    have hp := patL_ok h2
    obtain ⟨o1, o2, o3, o4⟩ := pat_off w hp
    cases h
    simp only [Nd.er]
    rw [show n + 150 = n + 40 + 110 from rfl, a_delay (n + 40) (W_h w.c) (W_d w.c) h3 ((W_o w.c o1 o2 o3 o4).trans hp), wr]; rfl
end Mine

open PySem PySem.W PyProof.Rows PySem.Calls
namespace Mine
set_option autoImplicit false
set_option backward.match.sparseCases false
set_option linter.unusedVariables false
set_option linter.unusedSimpArgs false
set_option maxRecDepth 100000
set_option maxHeartbeats 4000000
/-- the slots of tried -/
noncomputable def SL (node : MV) (s : List Nat) (b : Int) (q : Pl) (way c : MV) (a : Nat) : List Slot :=
  [.loc (some node), .loc (some (.str s)), .loc (some (.int b)), .loc (some (.ref q.h)), .loc (some (.ref q.p)), .loc (some way), .loc (some c), .loc (some (.int (a : Int))), .loc (some (.tup [])), .glb (.bi .len), .glb (.str [108, 111, 115, 116]), .glb (.fn 20), .glb (.bi .list)]
noncomputable def outS : S := (at? cb_tried 1).getD (.raw noSt)
noncomputable def inS : S := (at? (bodyW outS) 3).getD (.raw noSt)
inductive InR where
  | done (a : Nat) (t : Tu)
  | broke (t : Tu)
protected noncomputable def InR.ctorIdx (x : InR) : Nat := @InR.casesOn (fun _ => Nat) x (fun _ _ => 0) (fun _ => 1)
noncomputable def inN (k : MV → Nat → Tu → Option InR) : AdR → Option InR
  | .go c a t => k c a t
  | .stop t => some (.broke t)
noncomputable def isNo : MV → Bool
  | .none => true
  | _ => false
noncomputable def inM (lim : Int) (σ : List MO) (s : List Nat) : Nat → MV → Nat → Tu → Option InR
  | 0, _, _, _ => none
  | f + 1, c, a, t => cond (isNo c) (some (.done a t)) (cond (decide (lim < t.st + 1)) none ((advM σ s c a { t with st := t.st + 1 }).bind (inN (inM lim σ s f))))
theorem advM_tup {σ : List MO} {s : List Nat} {c : MV} {a : Nat} {t : Tu} {x : AdR} (h : advM σ s c a t = some x) : ∃ l, c = .tup l := by
  obtain ⟨l, e1, _⟩ := bind_some h
  exact ⟨l, tupM_ok e1⟩
theorem lost_ne (l : List MV) (σ : List MO) : cEq σ (.tup l) (.str [108, 111, 115, 116]) = some false := rfl
theorem in_test_no (n : Nat) (node : MV) (s : List Nat) (b : Int) (q : Pl) (way : MV) (a : Nat) (σ : List MO) : (rB (n + 10)).t (testW inS) (SL node s b q way .none a) σ = some (false, σ) := by
  rfl
theorem in_test (n : Nat) (node : MV) (s : List Nat) (b : Int) (q : Pl) (way : MV) (l : List MV) (a : Nat) (σ : List MO) : (rB (n + 10)).t (testW inS) (SL node s b q way (.tup l) a) σ = some (true, σ) := by
  rfl
/-- one turn of the inner loop -/
theorem in_go (n : Nat) {node : MV} {s : List Nat} {b : Int} {q : Pl} {way : MV} {lim : Int} {l : List MV} {a : Nat} {t : Tu} {σ : List MO} (w : WD q lim σ) (hs : lenOk s.length = true) (hl : ¬ lim < t.st + 1) {c' : MV} {a' : Nat} {t' : Tu} (h : advM σ s (.tup l) a { t with st := t.st + 1 } = some (.go c' a' t')) (hc : okv c' = true) :
    (rB (n + 170)).ss (bodyW inS) (SL node s b q way (.tup l) a) (W q lim t σ) = some (.next, SL node s b q (.tup [c', .int (a' : Int), .tup []]) c' a', W q lim t' σ) := by
  have hst : mSel cCT (W q lim t σ) 17 (.ref q.h) = some (.own 7) := sel_own (W_h w.c) rfl rfl rfl rfl rfl
  have h1 := fun n => L_step n (W_h (t := t) w.c) hl
  simp only [W_seth w.c] at h1
  have h2 := fun n => adv_ok w hs h n
  simp only [AdR.v, AdR.t] at h2
  show (rB (n + 170)).ss (bodyW ((at? (bodyW ((at? cb_tried 1).getD (.raw noSt))) 3).getD (.raw noSt))) _ _ = _
  unfold cb_tried SL
  simp only [rB_ss, rB_s, rB_e, rB_es, rB_eo, rB_t, rB_ts, rB_a, rB_as, stepSs, fSs, stepS, fS, stepE, fE, stepEs, fEs, stepEo, stepT, fT, stepTs, fTs, stepA, fA, stepAs, ssN, tsN, tsE, getS, Option.bind_some, Option.bind_none, Option.map_some, cond_true, cond_false, retN, Cst.mv, Nat.beq_refl, wk_str, wk_chr, wk_int, wk_tup, wk_none, wk_ref, wk_bool, wk_wk, endv_ok, lk0, lk1, lk2, lk3, lk4, lk5, lk6, lk7, lk8, bl0, bl1, bl2, bl3, List.map_cons, List.map_nil, List.length_cons, List.length_nil, at?_z, at?_s, setAt_z, setAt_s, r0, asgB, isCst, List.all_cons, List.all_nil, List.any_cons, List.any_nil, asTup, putSl, eSub, subs, nth0, nth1, nth2, eCmp, cmpop, cIs, isNone, okAny, notAny, eBin, binop, bAdd, bII, eSlc, part, cutE, eCall, truth, exB, sEx, eMeth, okBase, mApp, Bool.not_true, Bool.not_false, Bool.and_true, Bool.and_false, Bool.true_and, Bool.false_and, Bool.or_true, Bool.or_false, Bool.true_or, Bool.false_or, Option.getD_some, bodyW, hst, h1, h2, lost_ne, wk_id hc]
theorem in_stop (n : Nat) {node : MV} {s : List Nat} {b : Int} {q : Pl} {way : MV} {lim : Int} {l : List MV} {a : Nat} {t : Tu} {σ : List MO} (w : WD q lim σ) (hs : lenOk s.length = true) (hl : ¬ lim < t.st + 1) {t' : Tu} (h : advM σ s (.tup l) a { t with st := t.st + 1 } = some (.stop t')) :
    (rB (n + 170)).ss (bodyW inS) (SL node s b q way (.tup l) a) (W q lim t σ) = some (.brk, SL node s b q .none (.tup l) a, W q lim t' σ) := by
  have hst : mSel cCT (W q lim t σ) 17 (.ref q.h) = some (.own 7) := sel_own (W_h w.c) rfl rfl rfl rfl rfl
  have h1 := fun n => L_step n (W_h (t := t) w.c) hl
  simp only [W_seth w.c] at h1
  have h2 := fun n => adv_ok w hs h n
  simp only [AdR.v, AdR.t] at h2
  show (rB (n + 170)).ss (bodyW ((at? (bodyW ((at? cb_tried 1).getD (.raw noSt))) 3).getD (.raw noSt))) _ _ = _
  unfold cb_tried SL
  simp only [rB_ss, rB_s, rB_e, rB_es, rB_eo, rB_t, rB_ts, rB_a, rB_as, stepSs, fSs, stepS, fS, stepE, fE, stepEs, fEs, stepEo, stepT, fT, stepTs, fTs, stepA, fA, stepAs, ssN, tsN, tsE, getS, Option.bind_some, Option.bind_none, Option.map_some, cond_true, cond_false, retN, Cst.mv, Nat.beq_refl, wk_str, wk_chr, wk_int, wk_tup, wk_none, wk_ref, wk_bool, wk_wk, endv_ok, lk0, lk1, lk2, lk3, lk4, lk5, lk6, lk7, lk8, bl0, bl1, bl2, bl3, List.map_cons, List.map_nil, List.length_cons, List.length_nil, at?_z, at?_s, setAt_z, setAt_s, r0, asgB, isCst, List.all_cons, List.all_nil, List.any_cons, List.any_nil, asTup, putSl, eSub, subs, nth0, nth1, nth2, eCmp, cmpop, cIs, isNone, okAny, notAny, eBin, binop, bAdd, bII, eSlc, part, cutE, eCall, truth, exB, sEx, eMeth, okBase, mApp, Bool.not_true, Bool.not_false, Bool.and_true, Bool.and_false, Bool.true_and, Bool.false_and, Bool.or_true, Bool.or_false, Bool.true_or, Bool.false_or, Option.getD_some, bodyW, hst, h1, h2, lost_ne]
end Mine

open PySem PySem.W PyProof.Rows PySem.Calls
namespace Mine
set_option autoImplicit false
set_option backward.match.sparseCases false
set_option linter.unusedVariables false
set_option linter.unusedSimpArgs false
set_option maxRecDepth 100000
set_option maxHeartbeats 4000000
theorem advN_okv {σ : List MO} {s : List Nat} {rest : MV} {a : Nat} {t : Tu} (hr : okv rest = true) {nd : Nd} {c' : MV} {a' : Nat} {t' : Tu} (h : advN σ s rest a t nd = some (.go c' a' t')) : okv c' = true := by
  cases nd with
  | cat x y => cases h; rfl
  | alt x y => obtain ⟨_, h⟩ := cond_some h; cases h; rfl
  | chars u =>
    replace h : chkE _ _ _ _ = _ := h
    unfold chkE at h
    cases hb : eqL (cut s (some a) (some (a + u.length))) u <;> rw [hb] at h <;> cases h
    exact hr
  | rpos q =>
    replace h : chkE _ _ _ _ = _ := h
    unfold chkE at h
    cases hb : decide ((s.length : Int) - (a : Int) = q) <;> rw [hb] at h <;> cases h
    exact hr
  | fail => cases h
  | delay key =>
    obtain ⟨_, _, h⟩ := bind_some h
    obtain ⟨_, _, h⟩ := bind_some h
    cases h; rfl
theorem advM_okv {σ : List MO} {s : List Nat} {c : MV} {a : Nat} {t : Tu} {c' : MV} {a' : Nat} {t' : Tu} (h : advM σ s c a t = some (.go c' a' t')) : okv c' = true := by
  obtain ⟨l, e1, h⟩ := bind_some h
  match l, h with
  | [], h => cases h
  | [_], h => cases h
  | _ :: _ :: _ :: _, h => cases h
  | [nd, rest], h =>
  obtain ⟨hr, h⟩ := cond_some h
  obtain ⟨l', e2, h⟩ := bind_some h
  obtain ⟨nd, e3, h⟩ := bind_some h
  exact advN_okv hr h
theorem isNo_ok {c : MV} (h : isNo c = true) : c = .none := by cases c <;> first | rfl | cases h
section
variable {q : Pl} {lim : Int} {σ : List MO} (w : WD q lim σ) {s : List Nat} (hs : lenOk s.length = true) (node : MV) (b : Int)
include w hs
theorem in_ok : ∀ (f : Nat) (n : Nat) (way c : MV) (a : Nat) (t : Tu) (x : InR), inM lim σ s f c a t = some x → ∃ way' c' a', (rB (n + f + 175)).wh (testW inS) (bodyW inS) (SL node s b q way c a) (W q lim t σ) = some (.next, SL node s b q way' c' a', W q lim (match x with | .done _ t => t | .broke t => t) σ) ∧
    (match x with | .done a _ => c' = .none ∧ a' = a | .broke _ => ∃ l, c' = .tup l)
  | 0, n, way, c, a, t, x, h => by cases h
  | f + 1, n, way, c, a, t, x, h => by
    show ∃ way' c' a', stepWh (rB (n + f + 175)) (testW inS) (bodyW inS) (SL node s b q way c a) (W q lim t σ) = _ ∧ _
    unfold stepWh
    unfold inM at h
    cases hc : isNo c with
    | true =>
      rw [hc] at h
      cases h
      rw [isNo_ok hc]
      refine ⟨way, .none, a, ?_, rfl, rfl⟩
      rw [in_test_no (n + f + 165)]; rfl
    | false =>
      rw [hc] at h
      replace h : cond (decide (lim < t.st + 1)) none _ = some x := h
      cases hl : decide (lim < t.st + 1) with
      | true => rw [hl] at h; cases h
      | false =>
        rw [hl] at h
        have hl' : ¬ lim < t.st + 1 := of_decide_eq_false hl
        obtain ⟨y, e1, h⟩ := bind_some (show Option.bind _ _ = some x from h)
        obtain ⟨l, rfl⟩ := advM_tup e1
        rw [in_test (n + f + 165)]
        cases y with
        | go c' a' t' =>
          have g := in_go (n + f + 5) (node := node) (b := b) (way := way) w hs hl' e1 (advM_okv e1)
          rw [show n + f + 5 + 170 = n + f + 175 by omega] at g
          obtain ⟨w2, c2, a2, h1, h2⟩ := in_ok f n (.tup [c', .int (a' : Int), .tup []]) c' a' t' x h
          refine ⟨w2, c2, a2, ?_, h2⟩
          simp only [Option.bind_some, cond_true, g, whN]
          exact h1
        | stop t' =>
          have g := in_stop (n + f + 5) (node := node) (b := b) (way := way) w hs hl' e1
          rw [show n + f + 5 + 170 = n + f + 175 by omega] at g
          cases h
          refine ⟨.none, .tup l, a, ?_, l, rfl⟩
          simp only [Option.bind_some, cond_true, g, whN]
end
/-- the slots of tried, as the pile is there -/
noncomputable def SO (node : MV) (s : List Nat) (b : Int) (q : Pl) (x5 x6 x7 x8 : Option MV) : List Slot :=
  [.loc (some node), .loc (some (.str s)), .loc (some (.int b)), .loc (some (.ref q.h)), .loc (some (.ref q.p)), .loc x5, .loc x6, .loc x7, .loc x8, .glb (.bi .len), .glb (.str [108, 111, 115, 116]), .glb (.fn 20), .glb (.bi .list)]
theorem SL_SO (node : MV) (s : List Nat) (b : Int) (q : Pl) (way c : MV) (a : Nat) : SL node s b q way c a = SO node s b q (some way) (some c) (some (.int (a : Int))) (some (.tup [])) := rfl
theorem len_list {σ : List MO} {i : Nat} {xs : List MV} (h : at? σ i = some (.list xs)) (hl : lenOk xs.length = true) : biCall .len [.ref i] σ = some (.int (xs.length : Int), σ) := by
  show lenR σ (at? σ i) = _; rw [h]; show cond (lenOk xs.length) _ none = _; rw [hl]; rfl
theorem sel_pop {σ : List MO} {i : Nat} {xs : List MV} (h : at? σ i = some (.list xs)) : mSel cCT σ 11 (.ref i) = some .list := by
  show selR cCT 11 (at? σ i) = _; rw [h]; rfl
theorem ap_pop {σ : List MO} {i : Nat} {xs ys : List MV} {v : MV} (h : at? σ i = some (.list xs)) (hl : lenOk xs.length = true) (hp : popL xs = some (ys, v)) : apLv σ 11 [] (.ref i) = some (v, setAt (.list ys) σ i) := by
  show apL σ i 11 [] (at? σ i) = _; rw [h]; show cond (lenOk xs.length) ((popL xs).bind _) _ = _; rw [hl, hp]; rfl
theorem bList_nil (σ : List MO) : biCall .list [.tup []] σ = some (.ref σ.length, σ ++ [.list []]) := rfl
theorem gt_zero (k : Nat) : decide ((0 : Int) < (k : Int)) = Nat.blt 0 k := by
  rw [Bool.eq_iff_iff, decide_eq_true_eq, Nat.blt_eq]; exact Int.natCast_pos
section
variable {q : Pl} {lim : Int} {σ : List MO} (w : WD q lim σ) {s : List Nat} (hs : lenOk s.length = true) (node : MV) (b : Int)
include w
theorem out_test (n : Nat) (x5 x6 x7 x8 : Option MV) {t : Tu} (hl : lenOk t.pl.length = true) : (rB (n + 20)).t (testW outS) (SO node s b q x5 x6 x7 x8) (W q lim t σ) = some (Nat.blt 0 t.pl.length, W q lim t σ) := by
  show (rB (n + 20)).t (testW ((at? cb_tried 1).getD (.raw noSt))) _ _ = _
  unfold cb_tried SO
  simp only [rB_ss, rB_s, rB_e, rB_es, rB_eo, rB_t, rB_ts, rB_a, rB_as, stepSs, fSs, stepS, fS, stepE, fE, stepEs, fEs, stepEo, stepT, fT, stepTs, fTs, stepA, fA, stepAs, ssN, tsN, tsE, getS, Option.bind_some, Option.bind_none, Option.map_some, cond_true, cond_false, retN, Cst.mv, Nat.beq_refl, wk_str, wk_chr, wk_int, wk_tup, wk_none, wk_ref, wk_bool, wk_wk, endv_ok, lk0, lk1, lk2, lk3, lk4, lk5, lk6, lk7, lk8, bl0, bl1, bl2, bl3, List.map_cons, List.map_nil, List.length_cons, List.length_nil, at?_z, at?_s, setAt_z, setAt_s, r0, asgB, isCst, List.all_cons, List.all_nil, List.any_cons, List.any_nil, asTup, putSl, eSub, subs, nth0, nth1, nth2, eCmp, cmpop, cIs, isNone, okAny, notAny, eBin, binop, bAdd, bII, eSlc, part, cutE, eCall, truth, exB, sEx, eMeth, okBase, mApp, Bool.not_true, Bool.not_false, Bool.and_true, Bool.and_false, Bool.true_and, Bool.false_and, Bool.or_true, Bool.or_false, Bool.true_or, Bool.false_or, Option.getD_some, testW, call_bi, len_list (W_p (t := t) w.c) hl, cInt, gt_zero]
include hs
theorem out_done (f n : Nat) (x5 x6 x7 x8 : Option MV) {t : Tu} (hl : lenOk t.pl.length = true) {pl : List MV} {c : MV} {a : Nat} (hp : popL t.pl = some (pl, .tup [c, .int (a : Int), .tup []])) (hc : okv c = true) {a' : Nat} {t' : Tu} (h : inM lim σ s f c a { t with pl := pl } = some (.done a' t')) :
    ∃ sl, (rB (n + f + 200)).ss (bodyW outS) (SO node s b q x5 x6 x7 x8) (W q lim t σ) = some (.ret (.tup [.int (a' : Int), .ref (W q lim t' σ).length]), sl, W q lim t' σ ++ [.list []]) := by
  have hpp := W_p (t := t) (lim := lim) w.c
  have e1 := ap_pop hpp hl hp
  rw [W_setp w.c] at e1
  obtain ⟨way', c', a2, g, rfl, rfl⟩ := in_ok w hs node b f (n + 20) (.tup [c, .int (a : Int), .tup []]) c a _ _ h
  rw [show n + 20 + f + 175 = n + f + 195 by omega] at g
  unfold SL at g
  refine ⟨SO node s b q (some way') (some .none) (some (.int (a2 : Int))) (some (.tup [])), ?_⟩
  have hin : inS = (at? (bodyW ((at? cb_tried 1).getD (.raw noSt))) 3).getD (.raw noSt) := rfl
  rw [hin] at g
  unfold cb_tried at g
  simp only [at?_z, at?_s, Option.getD_some, bodyW, testW] at g
  show (rB (n + f + 200)).ss (bodyW ((at? cb_tried 1).getD (.raw noSt))) _ _ = _
  unfold cb_tried SO
  simp only [rB_ss, rB_s, rB_e, rB_es, rB_eo, rB_t, rB_ts, rB_a, rB_as, stepSs, fSs, stepS, fS, stepE, fE, stepEs, fEs, stepEo, stepT, fT, stepTs, fTs, stepA, fA, stepAs, ssN, tsN, tsE, getS, Option.bind_some, Option.bind_none, Option.map_some, cond_true, cond_false, retN, Cst.mv, Nat.beq_refl, wk_str, wk_chr, wk_int, wk_tup, wk_none, wk_ref, wk_bool, wk_wk, endv_ok, lk0, lk1, lk2, lk3, lk4, lk5, lk6, lk7, lk8, bl0, bl1, bl2, bl3, List.map_cons, List.map_nil, List.length_cons, List.length_nil, at?_z, at?_s, setAt_z, setAt_s, r0, asgB, isCst, List.all_cons, List.all_nil, List.any_cons, List.any_nil, asTup, putSl, eSub, subs, nth0, nth1, nth2, eCmp, cmpop, cIs, isNone, okAny, notAny, eBin, binop, bAdd, bII, eSlc, part, cutE, eCall, truth, exB, sEx, eMeth, okBase, mApp, Bool.not_true, Bool.not_false, Bool.and_true, Bool.and_false, Bool.true_and, Bool.false_and, Bool.or_true, Bool.or_false, Bool.true_or, Bool.false_or, Option.getD_some, bodyW, sel_pop hpp, e1, wk_id hc, g, call_bi, bList_nil]
theorem out_broke (f n : Nat) (x5 x6 x7 x8 : Option MV) {t : Tu} (hl : lenOk t.pl.length = true) {pl : List MV} {c : MV} {a : Nat} (hp : popL t.pl = some (pl, .tup [c, .int (a : Int), .tup []])) (hc : okv c = true) {t' : Tu} (h : inM lim σ s f c a { t with pl := pl } = some (.broke t')) :
    ∃ x5' x6' x7' x8', (rB (n + f + 200)).ss (bodyW outS) (SO node s b q x5 x6 x7 x8) (W q lim t σ) = some (.next, SO node s b q x5' x6' x7' x8', W q lim t' σ) := by
  have hpp := W_p (t := t) (lim := lim) w.c
  have e1 := ap_pop hpp hl hp
  rw [W_setp w.c] at e1
  obtain ⟨way', c', a2, g, l, rfl⟩ := in_ok w hs node b f (n + 20) (.tup [c, .int (a : Int), .tup []]) c a _ _ h
  rw [show n + 20 + f + 175 = n + f + 195 by omega] at g
  unfold SL at g
  refine ⟨some way', some (.tup l), some (.int (a2 : Int)), some (.tup []), ?_⟩
  have hin : inS = (at? (bodyW ((at? cb_tried 1).getD (.raw noSt))) 3).getD (.raw noSt) := rfl
  rw [hin] at g
  unfold cb_tried at g
  simp only [at?_z, at?_s, Option.getD_some, bodyW, testW] at g
  show (rB (n + f + 200)).ss (bodyW ((at? cb_tried 1).getD (.raw noSt))) _ _ = _
  unfold cb_tried SO
  simp only [rB_ss, rB_s, rB_e, rB_es, rB_eo, rB_t, rB_ts, rB_a, rB_as, stepSs, fSs, stepS, fS, stepE, fE, stepEs, fEs, stepEo, stepT, fT, stepTs, fTs, stepA, fA, stepAs, ssN, tsN, tsE, getS, Option.bind_some, Option.bind_none, Option.map_some, cond_true, cond_false, retN, Cst.mv, Nat.beq_refl, wk_str, wk_chr, wk_int, wk_tup, wk_none, wk_ref, wk_bool, wk_wk, endv_ok, lk0, lk1, lk2, lk3, lk4, lk5, lk6, lk7, lk8, bl0, bl1, bl2, bl3, List.map_cons, List.map_nil, List.length_cons, List.length_nil, at?_z, at?_s, setAt_z, setAt_s, r0, asgB, isCst, List.all_cons, List.all_nil, List.any_cons, List.any_nil, asTup, putSl, eSub, subs, nth0, nth1, nth2, eCmp, cmpop, cIs, isNone, okAny, notAny, eBin, binop, bAdd, bII, eSlc, part, cutE, eCall, truth, exB, sEx, eMeth, okBase, mApp, Bool.not_true, Bool.not_false, Bool.and_true, Bool.and_false, Bool.true_and, Bool.false_and, Bool.or_true, Bool.or_false, Bool.true_or, Bool.false_or, Option.getD_some, bodyW, sel_pop hpp, e1, wk_id hc, g]
end
end Mine

open PySem PySem.W PyProof.Rows PySem.Calls
namespace Mine
set_option autoImplicit false
set_option backward.match.sparseCases false
set_option linter.unusedVariables false
set_option linter.unusedSimpArgs false
set_option maxRecDepth 100000
set_option maxHeartbeats 4000000
inductive OuR where
  | found (a : Nat) (t : Tu)
  | fail (t : Tu)
protected noncomputable def OuR.ctorIdx (x : OuR) : Nat := @OuR.casesOn (fun _ => Nat) x (fun _ _ => 0) (fun _ => 1)
noncomputable def isE : MV → Bool
  | .tup [] => true
  | _ => false
theorem isE_ok {v : MV} (h : isE v = true) : v = .tup [] := by
  cases v <;> try (cases h; done)
  rename_i l
  cases l with
  | nil => rfl
  | cons _ _ => cases h
noncomputable def way3 : MV → Option (MV × Nat) := fun v => (tupM v).bind fun l => match l with
  | [c, a, nm] => cond (okv c && isE nm) ((natM a).bind fun a => some (c, a)) none
  | _ => none
theorem way3_ok {v : MV} {p : MV × Nat} (h : way3 v = some p) : v = .tup [p.1, .int (p.2 : Int), .tup []] ∧ okv p.1 = true := by
  obtain ⟨l, e1, h⟩ := bind_some h
  rw [tupM_ok e1]
  match l, h with
  | [], h => cases h
  | [_], h => cases h
  | [_, _], h => cases h
  | _ :: _ :: _ :: _ :: _, h => cases h
  | [c, a, nm], h =>
  obtain ⟨h1, h⟩ := cond_some h
  obtain ⟨h2, h3⟩ := Bool.and_eq_true_iff.mp h1
  obtain ⟨k, e2, h⟩ := bind_some h
  cases h
  rw [natM_ok e2, isE_ok h3]
  exact ⟨rfl, h2⟩
noncomputable def outI (k : Tu → Option OuR) : InR → Option OuR
  | .done a t => some (.found a t)
  | .broke t => k t
noncomputable def outP (lim : Int) (σ : List MO) (s : List Nat) (f : Nat) (k : Tu → Option OuR) (t : Tu) : Option (List MV × MV) → Option OuR
  | none => some (.fail t)
  | some p => (way3 p.2).bind fun w => (inM lim σ s f w.1 w.2 { t with pl := p.1 }).bind (outI k)
noncomputable def outM (lim : Int) (σ : List MO) (s : List Nat) (f : Nat) : Nat → Tu → Option OuR
  | 0, _ => none
  | g + 1, t => cond (lenOk t.pl.length) (outP lim σ s f (outM lim σ s f g) t (popL t.pl)) none
theorem popL_none {xs : List MV} (h : popL xs = none) : xs = [] := by
  cases xs with
  | nil => rfl
  | cons x xs => unfold popL at h; split at h <;> cases h
theorem popL_nil {xs : List MV} {p : List MV × MV} (h : popL xs = some p) : 0 < xs.length := by
  cases xs with
  | nil => cases h
  | cons x xs => exact Nat.succ_pos _
noncomputable def OuR.t : OuR → Tu
  | .found _ t => t
  | .fail t => t
section
variable {q : Pl} {lim : Int} {σ : List MO} (w : WD q lim σ) {s : List Nat} (hs : lenOk s.length = true) (node : MV) (b : Int)
include w hs
theorem out_ok (f : Nat) : ∀ (g : Nat) (n : Nat) (x5 x6 x7 x8 : Option MV) (t : Tu) (x : OuR), outM lim σ s f g t = some x →
    ∃ sl, (rB (n + g + f + 205)).wh (testW outS) (bodyW outS) (SO node s b q x5 x6 x7 x8) (W q lim t σ) = some (match x with
      | .found a t' => (.ret (.tup [.int (a : Int), .ref σ.length]), sl, W q lim t' σ ++ [.list []])
      | .fail t' => (.next, sl, W q lim t' σ))
  | 0, n, x5, x6, x7, x8, t, x, h => by cases h
  | g + 1, n, x5, x6, x7, x8, t, x, h => by
    rw [show n + (g + 1) + f + 205 = n + g + f + 205 + 1 by omega]
    show ∃ sl, stepWh (rB (n + g + f + 205)) (testW outS) (bodyW outS) (SO node s b q x5 x6 x7 x8) (W q lim t σ) = _
    unfold stepWh
    unfold outM at h
    obtain ⟨hl, h⟩ := cond_some h
    rw [show n + g + f + 205 = n + g + f + 185 + 20 by omega, out_test w node b (n + g + f + 185) x5 x6 x7 x8 hl]
    cases hp : popL t.pl with
    | none =>
      rw [hp] at h
      cases h
      rw [popL_none hp]
      exact ⟨_, rfl⟩
    | some p =>
      rw [hp] at h
      obtain ⟨wy, e1, h⟩ := bind_some (show Option.bind _ _ = some x from h)
      obtain ⟨y, e2, h⟩ := bind_some h
      obtain ⟨e3, hc⟩ := way3_ok e1
      obtain ⟨pl, pv⟩ := p
      obtain ⟨c, a⟩ := wy
      simp only at e3 hc e2
      subst e3
      have hb : Nat.blt 0 t.pl.length = true := Nat.blt_eq.mpr (popL_nil hp)
      simp only [hb, Option.bind_some, cond_true]
      cases y with
      | done a' t' =>
        cases h
        obtain ⟨sl, e⟩ := out_done w hs node b f (n + g + 5) x5 x6 x7 x8 hl hp hc e2
        rw [show n + g + 5 + f + 200 = n + g + f + 185 + 20 by omega] at e
        refine ⟨sl, ?_⟩
        simp only [e, Option.bind_some, whN, W_length]
      | broke t' =>
        obtain ⟨y5, y6, y7, y8, e⟩ := out_broke w hs node b f (n + g + 5) x5 x6 x7 x8 hl hp hc e2
        rw [show n + g + 5 + f + 200 = n + g + f + 185 + 20 by omega] at e
        obtain ⟨sl, e'⟩ := out_ok f g n y5 y6 y7 y8 t' x h
        rw [show n + g + f + 205 = n + g + f + 185 + 20 by omega] at e'
        refine ⟨sl, ?_⟩
        simp only [e, Option.bind_some, whN]
        exact e'
end
/-! ## in terms of the store ahead -/
noncomputable def H (q : Pl) (lim : Int) (t : Tu) (σ : List MO) : List MO :=
  setAt (hostM q.d q.rf q.lg lim t.st) (setAt (.dict t.kv) (setAt (.list t.lo) σ q.lg) q.d) q.h
/-- a host, its dict, its refused names, its log, in a store -/
structure Ho (q : Pl) (lim : Int) (σ : List MO) : Prop where
  h : ∃ st, at? σ q.h = some (hostM q.d q.rf q.lg lim st)
  d : ∃ kv, at? σ q.d = some (.dict kv)
  l : ∃ lo, at? σ q.lg = some (.list lo)
  r : at? σ q.rf = some (.list [])
  rl : q.rf ≠ q.lg
theorem neq_of {α : Type} {σ : List α} {i j : Nat} {x y : α} (h1 : at? σ i = some x) (h2 : at? σ j = some y) (h : x ≠ y) : i ≠ j := fun e => by
  subst e; rw [h1] at h2; exact h (Option.some.inj h2)
section
variable {q : Pl} {lim : Int} {σ : List MO} (ho : Ho q lim σ)
include ho
theorem Ho.ne : q.h ≠ q.d ∧ q.h ≠ q.lg ∧ q.d ≠ q.lg ∧ q.rf ≠ q.h ∧ q.rf ≠ q.d := by
  obtain ⟨_, h1⟩ := ho.h
  obtain ⟨_, h2⟩ := ho.d
  obtain ⟨_, h3⟩ := ho.l
  have h4 := ho.r
  exact ⟨neq_of h1 h2 (by simp [hostM]), neq_of h1 h3 (by simp [hostM]), neq_of h2 h3 (by simp), neq_of h4 h1 (by simp [hostM]), neq_of h4 h2 (by simp)⟩
theorem H_h (t : Tu) : at? (H q lim t σ) q.h = some (hostM q.d q.rf q.lg lim t.st) := by
  obtain ⟨n1, n2, n3, n4, n5⟩ := ho.ne
  obtain ⟨_, h1⟩ := ho.h
  unfold H; exact at?_set' ⟨_, by rw [at?_ne n1.symm, at?_ne n2.symm]; exact h1⟩
theorem H_d (t : Tu) : at? (H q lim t σ) q.d = some (.dict t.kv) := by
  obtain ⟨n1, n2, n3, n4, n5⟩ := ho.ne
  obtain ⟨_, h1⟩ := ho.d
  unfold H; rw [at?_ne n1]; exact at?_set' ⟨_, by rw [at?_ne n3.symm]; exact h1⟩
theorem H_l (t : Tu) : at? (H q lim t σ) q.lg = some (.list t.lo) := by
  obtain ⟨n1, n2, n3, n4, n5⟩ := ho.ne
  unfold H; rw [at?_ne n2, at?_ne n3]; obtain ⟨_, h1⟩ := ho.l; exact at?_set' ⟨_, h1⟩
theorem H_o (t : Tu) {i : Nat} (h1 : i ≠ q.h) (h2 : i ≠ q.d) (h3 : i ≠ q.lg) : at? (H q lim t σ) i = at? σ i := by
  unfold H; rw [at?_ne h1.symm, at?_ne h2.symm, at?_ne h3.symm]
theorem H_len (t : Tu) : (H q lim t σ).length = σ.length := by unfold H; rw [set_length, set_length, set_length]
theorem H_H (t u : Tu) : H q lim u (H q lim t σ) = H q lim u σ := by
  obtain ⟨n1, n2, n3, n4, n5⟩ := ho.ne
  unfold H
  rw [set_comm n2 (v := MO.list u.lo), set_comm n3 (v := MO.list u.lo), set_set, set_comm n1 (v := MO.dict u.kv), set_comm n3.symm (v := MO.dict u.kv), set_set, set_comm n3 (u := MO.dict u.kv)]
  rw [set_set]
theorem H_app (t : Tu) (τ : List MO) : H q lim t (σ ++ τ) = H q lim t σ ++ τ := by
  obtain ⟨_, h1⟩ := ho.h
  obtain ⟨_, h2⟩ := ho.d
  obtain ⟨_, h3⟩ := ho.l
  unfold H
  rw [set_append (at?_lt h3), set_append (by rw [set_length]; exact at?_lt h2), set_append (by rw [set_length, set_length]; exact at?_lt h1)]
theorem Ho.of (t : Tu) : Ho q lim (H q lim t σ) := by
  obtain ⟨n1, n2, n3, n4, n5⟩ := ho.ne
  exact ⟨⟨_, H_h ho t⟩, ⟨_, H_d ho t⟩, ⟨_, H_l ho t⟩, by rw [H_o ho t n4 n5 ho.rl]; exact ho.r, ho.rl⟩
theorem Ho.app (τ : List MO) : Ho q lim (σ ++ τ) := by
  obtain ⟨_, h1⟩ := ho.h
  obtain ⟨_, h2⟩ := ho.d
  obtain ⟨_, h3⟩ := ho.l
  exact ⟨⟨_, by rw [at?_append (at?_lt h1)]; exact h1⟩, ⟨_, by rw [at?_append (at?_lt h2)]; exact h2⟩, ⟨_, by rw [at?_append (at?_lt h3)]; exact h3⟩, by rw [at?_append (at?_lt ho.r)]; exact ho.r, ho.rl⟩
end
theorem WD_of {q : Pl} {lim : Int} {σ : List MO} {pl : List MV} (ho : Ho q lim σ) (hp : q.p = σ.length) : WD q lim (σ ++ [.list pl]) := by
  obtain ⟨n1, n2, n3, n4, n5⟩ := ho.ne
  have h1 := (ho.app [.list pl])
  have e : at? (σ ++ [.list pl]) q.p = some (.list pl) := by rw [hp]; exact at?_last
  have lt : ∀ {i : Nat}, i < σ.length → i ≠ q.p := fun h e => by rw [e, hp] at h; exact Nat.lt_irrefl _ h
  obtain ⟨_, g1⟩ := ho.h
  obtain ⟨_, g2⟩ := ho.d
  obtain ⟨_, g3⟩ := ho.l
  exact ⟨⟨h1.h.imp' _ (fun _ h => h), h1.d.imp' _ (fun _ h => h), h1.l.imp' _ (fun _ h => h), ⟨_, e⟩, h1.r, n1, n2, lt (at?_lt g1), n3, lt (at?_lt g2), lt (at?_lt g3), n4, n5, ho.rl, lt (at?_lt ho.r)⟩, h1.h, h1.d, h1.l, ⟨_, e⟩⟩
theorem W_H {q : Pl} {lim : Int} {σ : List MO} {pl : List MV} (ho : Ho q lim σ) (hp : q.p = σ.length) (t : Tu) : W q lim t (σ ++ [.list pl]) = H q lim t σ ++ [.list t.pl] := by
  show setAt (.list t.pl) (H q lim t (σ ++ [.list pl])) q.p = _
  rw [H_app ho, hp, ← H_len ho t, set_last]
/-! ## the machine looks up names alone -/
section
variable {σ σ' : List MO} (hk : ∀ i o, at? σ i = some o → at? σ' i = some o)
include hk
theorem advM_mono {s : List Nat} {c : MV} {a : Nat} {t : Tu} {x : AdR} (h : advM σ s c a t = some x) : advM σ' s c a t = some x := by
  obtain ⟨l, e1, h⟩ := bind_some h
  unfold advM
  rw [e1]
  match l, h with
  | [], h => cases h
  | [_], h => cases h
  | _ :: _ :: _ :: _, h => cases h
  | [nd, rest], h =>
  obtain ⟨hr, h⟩ := cond_some h
  obtain ⟨l', e2, h⟩ := bind_some h
  obtain ⟨nd, e3, h⟩ := bind_some h
  simp only [Option.bind_some, hr, cond_true, e2, e3]
  cases nd with
  | delay key =>
    obtain ⟨i, h1, h⟩ := bind_some h
    obtain ⟨l, h2, h⟩ := bind_some h
    obtain ⟨o, ho⟩ : ∃ o, at? σ i = some o := by
      cases hq : at? σ i with
      | none => rw [hq] at h2; cases h2
      | some o => exact ⟨o, rfl⟩
    show ((lkS key t.kv).bind refM).bind _ = _
    rw [h1]
    show (patL (at? σ' i)).bind _ = _
    rw [hk _ _ ho, ← ho, h2]; exact h
  | _ => exact h
theorem inM_mono {lim : Int} {s : List Nat} : ∀ {f : Nat} {c : MV} {a : Nat} {t : Tu} {x : InR}, inM lim σ s f c a t = some x → inM lim σ' s f c a t = some x
  | 0, _, _, _, _, h => by cases h
  | f + 1, c, a, t, x, h => by
    unfold inM at h ⊢
    cases hc : isNo c with
    | true => rw [hc] at h; exact h
    | false =>
      rw [hc] at h
      cases hl : decide (lim < t.st + 1) with
      | true => rw [hl] at h; cases h
      | false =>
        rw [hl] at h
        obtain ⟨y, e1, h⟩ := bind_some (show Option.bind _ _ = some x from h)
        show Option.bind _ _ = _
        rw [advM_mono hk e1]
        cases y with
        | go c' a' t' => exact inM_mono (f := f) h
        | stop t' => exact h
theorem outM_mono {lim : Int} {s : List Nat} {f : Nat} : ∀ {g : Nat} {t : Tu} {x : OuR}, outM lim σ s f g t = some x → outM lim σ' s f g t = some x
  | 0, _, _, h => by cases h
  | g + 1, t, x, h => by
    unfold outM at h ⊢
    obtain ⟨hl, h⟩ := cond_some h
    rw [hl]
    cases hp : popL t.pl with
    | none => rw [hp] at h; exact h
    | some p =>
      rw [hp] at h
      obtain ⟨wy, e1, h⟩ := bind_some (show Option.bind _ _ = some x from h)
      obtain ⟨y, e2, h⟩ := bind_some h
      show (way3 p.2).bind _ = _
      rw [e1]
      show (inM lim σ' s f wy.1 wy.2 _).bind _ = _
      rw [inM_mono hk e2]
      cases y with
      | done a t' => exact h
      | broke t' => exact outM_mono (g := g) h
end
end Mine

open PySem PySem.W PyProof.Rows PySem.Calls
namespace Mine
set_option autoImplicit false
set_option backward.match.sparseCases false
set_option linter.unusedVariables false
set_option linter.unusedSimpArgs false
set_option linter.unusedSectionVars false
set_option maxRecDepth 100000
set_option maxHeartbeats 4000000
noncomputable def start (node : MV) (b : Nat) : MV := .tup [.tup [node, .none], .int (b : Int), .tup []]
theorem H_self {q : Pl} {lim : Int} {σ : List MO} {t : Tu} (hh : at? σ q.h = some (hostM q.d q.rf q.lg lim t.st)) (hd : at? σ q.d = some (.dict t.kv)) (hl : at? σ q.lg = some (.list t.lo)) : H q lim t σ = σ := by
  have key : ∀ {σ : List MO} {i : Nat} {o : MO}, at? σ i = some o → setAt o σ i = σ := fun {σ i o} h => by
    rw [at?_eq] at h
    rw [setAt_eq]
    obtain ⟨h1, h2⟩ := List.getElem?_eq_some_iff.mp h
    rw [← h2, List.set_getElem_self]
  unfold H
  rw [key hl, key hd, key hh]
theorem newL_one (σ : List MO) (v : MV) : newL σ [v] = some (.ref σ.length, σ ++ [.list [v]]) := rfl
noncomputable def OuR.v (k : Nat) : OuR → MV
  | .found a _ => .tup [.int (a : Int), .ref k]
  | .fail _ => .none
noncomputable def OuR.x : OuR → List MO
  | .found _ t => [.list t.pl, .list []]
  | .fail t => [.list t.pl]
section
variable {q : Pl} {lim : Int} {σ : List MO} (ho : Ho q lim σ) {s : List Nat} (hs : lenOk s.length = true) {node : MV} (hn : okv node = true)
include ho hs hn
theorem tried_ok (hp : q.p = σ.length) {f g n b : Nat} {t : Tu} {x : OuR} (h : outM lim σ s f g { t with pl := [start node b] } = some x) :
    (rB (n + g + f + 240)).call (.fn 19) [node, .str s, .int (b : Int), .ref q.h] (H q lim t σ) = some (x.v (σ.length + 1), H q lim x.t σ ++ x.x) := by
  have w := WD_of (pl := [start node b]) ho hp
  have e := W_H (pl := [start node b]) ho hp { t with pl := [start node b] }
  have h' := outM_mono (σ' := σ ++ [.list [start node b]]) (fun i o hk => (at?_append (at?_lt hk)).trans hk) h
  obtain ⟨sl, k⟩ := out_ok w hs node (b : Int) f g (n + 31) none none none none { t with pl := [start node b] } x h'
  rw [show n + 31 + g + f + 205 = n + g + f + 236 by omega, e] at k
  have e2 : H q lim { t with pl := [start node b] } σ = H q lim t σ := rfl
  rw [e2] at k
  have ho2 : outS = (at? cb_tried 1).getD (.raw noSt) := rfl
  rw [ho2] at k
  unfold cb_tried SO start at k
  simp only [at?_z, at?_s, Option.getD_some, bodyW, testW] at k
  have hlen : (H q lim t σ).length = q.p := by rw [H_len ho, hp]
  rw [c_tried]
  unfold cb_tried
  simp only [rB_ss, rB_s, rB_e, rB_es, rB_eo, rB_t, rB_ts, rB_a, rB_as, stepSs, fSs, stepS, fS, stepE, fE, stepEs, fEs, stepEo, stepT, fT, stepTs, fTs, stepA, fA, stepAs, ssN, tsN, tsE, getS, Option.bind_some, Option.bind_none, Option.map_some, cond_true, cond_false, retN, Cst.mv, Nat.beq_refl, wk_str, wk_chr, wk_int, wk_tup, wk_none, wk_ref, wk_bool, wk_wk, endv_ok, lk0, lk1, lk2, lk3, lk4, lk5, lk6, lk7, lk8, bl0, bl1, bl2, bl3, List.map_cons, List.map_nil, List.length_cons, List.length_nil, at?_z, at?_s, setAt_z, setAt_s, r0, asgB, isCst, List.all_cons, List.all_nil, List.any_cons, List.any_nil, asTup, putSl, eSub, subs, nth0, nth1, nth2, eCmp, cmpop, cIs, isNone, okAny, notAny, eBin, binop, bAdd, bII, eSlc, part, cutE, eCall, truth, exB, sEx, eMeth, okBase, mApp, Bool.not_true, Bool.not_false, Bool.and_true, Bool.and_false, Bool.true_and, Bool.false_and, Bool.or_true, Bool.or_false, Bool.true_or, Bool.false_or, newL_one, wk_id hn, hlen, k]
  have e3 := W_H (pl := [start node b]) ho hp x.t
  cases x with
  | found a t' =>
    simp only [rB_ss, rB_s, rB_e, rB_es, rB_eo, rB_t, rB_ts, rB_a, rB_as, stepSs, fSs, stepS, fS, stepE, fE, stepEs, fEs, stepEo, stepT, fT, stepTs, fTs, stepA, fA, stepAs, ssN, tsN, tsE, getS, Option.bind_some, Option.bind_none, Option.map_some, cond_true, cond_false, retN, Cst.mv, Nat.beq_refl, wk_str, wk_chr, wk_int, wk_tup, wk_none, wk_ref, wk_bool, wk_wk, endv_ok, lk0, lk1, lk2, lk3, lk4, lk5, lk6, lk7, lk8, bl0, bl1, bl2, bl3, List.map_cons, List.map_nil, List.length_cons, List.length_nil, at?_z, at?_s, setAt_z, setAt_s, r0, asgB, isCst, List.all_cons, List.all_nil, List.any_cons, List.any_nil, asTup, putSl, eSub, subs, nth0, nth1, nth2, eCmp, cmpop, cIs, isNone, okAny, notAny, eBin, binop, bAdd, bII, eSlc, part, cutE, eCall, truth, exB, sEx, eMeth, okBase, mApp, Bool.not_true, Bool.not_false, Bool.and_true, Bool.and_false, Bool.true_and, Bool.false_and, Bool.or_true, Bool.or_false, Bool.true_or, Bool.false_or]
    rw [show OuR.t (.found a t') = t' from rfl] at e3
    unfold start at e3
    rw [e3]
    show some (MV.tup [.int (a : Int), .ref (σ ++ [MO.list _]).length], _) = some (MV.tup [.int (a : Int), .ref (σ.length + 1)], _ ++ ([MO.list t'.pl] ++ [.list []]))
    rw [List.append_assoc, List.length_append]; rfl
  | fail t' =>
    simp only [rB_ss, rB_s, rB_e, rB_es, rB_eo, rB_t, rB_ts, rB_a, rB_as, stepSs, fSs, stepS, fS, stepE, fE, stepEs, fEs, stepEo, stepT, fT, stepTs, fTs, stepA, fA, stepAs, ssN, tsN, tsE, getS, Option.bind_some, Option.bind_none, Option.map_some, cond_true, cond_false, retN, Cst.mv, Nat.beq_refl, wk_str, wk_chr, wk_int, wk_tup, wk_none, wk_ref, wk_bool, wk_wk, endv_ok, lk0, lk1, lk2, lk3, lk4, lk5, lk6, lk7, lk8, bl0, bl1, bl2, bl3, List.map_cons, List.map_nil, List.length_cons, List.length_nil, at?_z, at?_s, setAt_z, setAt_s, r0, asgB, isCst, List.all_cons, List.all_nil, List.any_cons, List.any_nil, asTup, putSl, eSub, subs, nth0, nth1, nth2, eCmp, cmpop, cIs, isNone, okAny, notAny, eBin, binop, bAdd, bII, eSlc, part, cutE, eCall, truth, exB, sEx, eMeth, okBase, mApp, Bool.not_true, Bool.not_false, Bool.and_true, Bool.and_false, Bool.true_and, Bool.false_and, Bool.or_true, Bool.or_false, Bool.true_or, Bool.false_or]
    rw [show OuR.t (.fail t') = t' from rfl] at e3
    unfold start at e3
    rw [e3]; rfl
noncomputable def OuR.w (b k : Nat) : OuR → MV
  | .found a _ => .tup [.int (b : Int), .int (a : Int), .ref k]
  | .fail _ => .none
theorem match_at_ok (hp : q.p = σ.length) {f g n b : Nat} {t : Tu} {x : OuR} (h : outM lim σ s f g { t with pl := [start node b] } = some x) :
    (rB (n + g + f + 260)).call (.fn 18) [node, .str s, .int (b : Int), .ref q.h] (H q lim t σ) = some (x.w b (σ.length + 1), H q lim x.t σ ++ x.x) := by
  have k := fun n => tried_ok ho hs hn hp (n := n) h
  have k' : ∀ m, (rB (m + (g + f + 240))).call (.fn 19) [node, .str s, .int (b : Int), .ref q.h] (H q lim t σ) = some (x.v (σ.length + 1), H q lim x.t σ ++ x.x) := fun m => by
    have := k m
    rwa [show m + g + f + 240 = m + (g + f + 240) by omega] at this
  rw [show n + g + f + 260 = (n + g + f + 259) + 1 by omega, c_match_at]
  have k3 := k' (n + 16)
  rw [show n + 16 + (g + f + 240) = n + g + f + 256 by omega] at k3
  unfold cb_match_at
  cases x with
  | found a t' =>
    simp only [OuR.v] at k3
    simp only [rB_ss, rB_s, rB_e, rB_es, rB_eo, rB_t, rB_ts, rB_a, rB_as, stepSs, fSs, stepS, fS, stepE, fE, stepEs, fEs, stepEo, stepT, fT, stepTs, fTs, stepA, fA, stepAs, ssN, tsN, tsE, getS, Option.bind_some, Option.bind_none, Option.map_some, cond_true, cond_false, retN, Cst.mv, Nat.beq_refl, wk_str, wk_chr, wk_int, wk_tup, wk_none, wk_ref, wk_bool, wk_wk, endv_ok, lk0, lk1, lk2, lk3, lk4, lk5, lk6, lk7, lk8, bl0, bl1, bl2, bl3, List.map_cons, List.map_nil, List.length_cons, List.length_nil, at?_z, at?_s, setAt_z, setAt_s, r0, asgB, isCst, List.all_cons, List.all_nil, List.any_cons, List.any_nil, asTup, putSl, eSub, subs, nth0, nth1, nth2, eCmp, cmpop, cIs, isNone, okAny, notAny, eBin, binop, bAdd, bII, eSlc, part, cutE, eCall, truth, exB, sEx, eMeth, okBase, mApp, Bool.not_true, Bool.not_false, Bool.and_true, Bool.and_false, Bool.true_and, Bool.false_and, Bool.or_true, Bool.or_false, Bool.true_or, Bool.false_or, wk_id hn, k3, lost_ne, OuR.w]
  | fail t' =>
    simp only [OuR.v] at k3
    simp only [rB_ss, rB_s, rB_e, rB_es, rB_eo, rB_t, rB_ts, rB_a, rB_as, stepSs, fSs, stepS, fS, stepE, fE, stepEs, fEs, stepEo, stepT, fT, stepTs, fTs, stepA, fA, stepAs, ssN, tsN, tsE, getS, Option.bind_some, Option.bind_none, Option.map_some, cond_true, cond_false, retN, Cst.mv, Nat.beq_refl, wk_str, wk_chr, wk_int, wk_tup, wk_none, wk_ref, wk_bool, wk_wk, endv_ok, lk0, lk1, lk2, lk3, lk4, lk5, lk6, lk7, lk8, bl0, bl1, bl2, bl3, List.map_cons, List.map_nil, List.length_cons, List.length_nil, at?_z, at?_s, setAt_z, setAt_s, r0, asgB, isCst, List.all_cons, List.all_nil, List.any_cons, List.any_nil, asTup, putSl, eSub, subs, nth0, nth1, nth2, eCmp, cmpop, cIs, isNone, okAny, notAny, eBin, binop, bAdd, bII, eSlc, part, cutE, eCall, truth, exB, sEx, eMeth, okBase, mApp, Bool.not_true, Bool.not_false, Bool.and_true, Bool.and_false, Bool.true_and, Bool.false_and, Bool.or_true, Bool.or_false, Bool.true_or, Bool.false_or, wk_id hn, k3, OuR.w]
end
/-! ## match_plain -/
theorem bRange_nat (k : Nat) (σ : List MO) : bRange σ (.int (k : Int)) = cond (lenOk k) (some (.rng 0 k, σ)) none := rfl
theorem bi_range (v : MV) (σ : List MO) : biCall .range [v] σ = bRange σ v := rfl
theorem add_one (a : Nat) : (a : Int) + 1 = ((a + 1 : Nat) : Int) := rfl
theorem bRange_one (σ : List MO) : bRange σ (.int 1) = some (.rng 0 1, σ) := rfl
theorem It_rng (a k : Nat) (σ : List MO) : It.of σ (.rng a k) = cond (lenOk (a + k)) (some (.rng a k)) none := rfl
noncomputable def forB : S → List S
  | .fr _ _ b _ => b
  | _ => []
noncomputable def forT : S → T
  | .fr t _ _ _ => t
  | _ => .name 0 ⟨0, 0, 0, 0⟩
noncomputable def fS1 : S := (at? cb_match_plain 0).getD (.raw noSt)
noncomputable def SP (node : MV) (s : List Nat) (anch : Bool) (h : Nat) (x4 x5 : Option MV) : List Slot :=
  [.loc (some node), .loc (some (.str s)), .loc (some (.bool anch)), .loc (some (.ref h)), .loc x4, .loc x5, .glb (.bi .range), .glb (.bi .len), .glb (.fn 18), .glb (.str [108, 111, 115, 116])]
noncomputable def mpN (q : Pl) (lim : Int) (σ τ : List MO) (b : Nat) (k : Tu → List MO → Option (Option MV × List MO)) : OuR → Option (Option MV × List MO)
  | .found a t => some (some (.tup [.int (b : Int), .int (a : Int), .ref (σ.length + τ.length + 1)]), H q lim t σ ++ (τ ++ [.list t.pl, .list []]))
  | .fail t => k t (τ ++ [.list t.pl])
noncomputable def mpM (q : Pl) (lim : Int) (σ : List MO) (s : List Nat) (f g : Nat) (node : MV) : Nat → Nat → Tu → List MO → Option (Option MV × List MO)
  | 0, _, t, τ => some (none, H q lim t σ ++ τ)
  | k + 1, b, t, τ => (outM lim σ s f g { t with pl := [start node b] }).bind (mpN q lim σ τ b (mpM q lim σ s f g node k (b + 1)))
noncomputable def flOf : Option MV → Fl
  | some v => .ret v
  | none => .next
section
variable {q : Pl} {lim : Int} {σ : List MO} (ho : Ho q lim σ) {s : List Nat} (hs : lenOk s.length = true) {node : MV} (hn : okv node = true)
include ho hs hn
theorem at_ok (τ : List MO) {f g b : Nat} (n : Nat) {t : Tu} {x : OuR} (h : outM lim σ s f g { t with pl := [start node b] } = some x) :
    (rB (n + g + f + 260)).call (.fn 18) [node, .str s, .int (b : Int), .ref q.h] (H q lim t σ ++ τ) = some (x.w b (σ.length + τ.length + 1), H q lim x.t σ ++ (τ ++ x.x)) := by
  have h' := outM_mono (σ' := σ ++ τ) (fun i o hk => (at?_append (at?_lt hk)).trans hk) h
  have hq : Ho ⟨q.h, q.d, q.rf, q.lg, (σ ++ τ).length⟩ lim (σ ++ τ) := let z := ho.app τ; ⟨z.h, z.d, z.l, z.r, z.rl⟩
  have k := match_at_ok hq hs hn rfl (n := n) h'
  have e : ∀ t, H ⟨q.h, q.d, q.rf, q.lg, (σ ++ τ).length⟩ lim t (σ ++ τ) = H q lim t σ ++ τ := fun t => H_app ho t τ
  rw [e, e, List.length_append, List.append_assoc] at k
  exact k
theorem body_hit (anch : Bool) (τ : List MO) {f g b : Nat} (n : Nat) {t : Tu} {a : Nat} {t' : Tu} (x5 : Option MV) (h : outM lim σ s f g { t with pl := [start node b] } = some (.found a t')) :
    ∃ sl, (rB (n + g + f + 275)).ss (forB fS1) (SP node s anch q.h (some (.int (b : Int))) x5) (H q lim t σ ++ τ) = some (.ret (.tup [.int (b : Int), .int (a : Int), .ref (σ.length + τ.length + 1)]), sl, H q lim t' σ ++ (τ ++ [.list t'.pl, .list []])) := by
  have k := at_ok ho hs hn τ (n + 12) h
  rw [show n + 12 + g + f + 260 = n + g + f + 272 by omega] at k
  refine ⟨SP node s anch q.h (some (.int (b : Int))) (some (.tup [.int (b : Int), .int (a : Int), .ref (σ.length + τ.length + 1)])), ?_⟩
  show (rB (n + g + f + 275)).ss (forB ((at? cb_match_plain 0).getD (.raw noSt))) _ _ = _
  unfold cb_match_plain SP
  simp only [OuR.w, OuR.t, OuR.x] at k
  simp only [rB_ss, rB_s, rB_e, rB_es, rB_eo, rB_t, rB_ts, rB_a, rB_as, stepSs, fSs, stepS, fS, stepE, fE, stepEs, fEs, stepEo, stepT, fT, stepTs, fTs, stepA, fA, stepAs, ssN, tsN, tsE, getS, Option.bind_some, Option.bind_none, Option.map_some, cond_true, cond_false, retN, Cst.mv, Nat.beq_refl, wk_str, wk_chr, wk_int, wk_tup, wk_none, wk_ref, wk_bool, wk_wk, endv_ok, lk0, lk1, lk2, lk3, lk4, lk5, lk6, lk7, lk8, bl0, bl1, bl2, bl3, List.map_cons, List.map_nil, List.length_cons, List.length_nil, at?_z, at?_s, setAt_z, setAt_s, r0, asgB, isCst, List.all_cons, List.all_nil, List.any_cons, List.any_nil, asTup, putSl, eSub, subs, nth0, nth1, nth2, eCmp, cmpop, cIs, isNone, okAny, notAny, eBin, binop, bAdd, bII, eSlc, part, cutE, eCall, truth, exB, sEx, eMeth, okBase, mApp, Bool.not_true, Bool.not_false, Bool.and_true, Bool.and_false, Bool.true_and, Bool.false_and, Bool.or_true, Bool.or_false, Bool.true_or, Bool.false_or, Option.getD_some, forB, wk_id hn, k, lost_ne]
theorem body_miss (anch : Bool) (τ : List MO) {f g b : Nat} (n : Nat) {t : Tu} {t' : Tu} (x5 : Option MV) (h : outM lim σ s f g { t with pl := [start node b] } = some (.fail t')) :
    (rB (n + g + f + 275)).ss (forB fS1) (SP node s anch q.h (some (.int (b : Int))) x5) (H q lim t σ ++ τ) = some (.next, SP node s anch q.h (some (.int (b : Int))) (some .none), H q lim t' σ ++ (τ ++ [.list t'.pl])) := by
  have k := at_ok ho hs hn τ (n + 12) h
  rw [show n + 12 + g + f + 260 = n + g + f + 272 by omega] at k
  show (rB (n + g + f + 275)).ss (forB ((at? cb_match_plain 0).getD (.raw noSt))) _ _ = _
  unfold cb_match_plain SP
  simp only [OuR.w, OuR.t, OuR.x] at k
  simp only [rB_ss, rB_s, rB_e, rB_es, rB_eo, rB_t, rB_ts, rB_a, rB_as, stepSs, fSs, stepS, fS, stepE, fE, stepEs, fEs, stepEo, stepT, fT, stepTs, fTs, stepA, fA, stepAs, ssN, tsN, tsE, getS, Option.bind_some, Option.bind_none, Option.map_some, cond_true, cond_false, retN, Cst.mv, Nat.beq_refl, wk_str, wk_chr, wk_int, wk_tup, wk_none, wk_ref, wk_bool, wk_wk, endv_ok, lk0, lk1, lk2, lk3, lk4, lk5, lk6, lk7, lk8, bl0, bl1, bl2, bl3, List.map_cons, List.map_nil, List.length_cons, List.length_nil, at?_z, at?_s, setAt_z, setAt_s, r0, asgB, isCst, List.all_cons, List.all_nil, List.any_cons, List.any_nil, asTup, putSl, eSub, subs, nth0, nth1, nth2, eCmp, cmpop, cIs, isNone, okAny, notAny, eBin, binop, bAdd, bII, eSlc, part, cutE, eCall, truth, exB, sEx, eMeth, okBase, mApp, Bool.not_true, Bool.not_false, Bool.and_true, Bool.and_false, Bool.true_and, Bool.false_and, Bool.or_true, Bool.or_false, Bool.true_or, Bool.false_or, Option.getD_some, forB, wk_id hn, k]
theorem mp_loop (anch : Bool) (f g : Nat) : ∀ (k b n : Nat) (t : Tu) (τ : List MO) (x4 x5 : Option MV) (r : Option MV × List MO), mpM q lim σ s f g node k b t τ = some r →
    ∃ sl, (rB (n + k + g + f + 280)).fr (forT fS1) (.rng b k) (forB fS1) (SP node s anch q.h x4 x5) (H q lim t σ ++ τ) = some (flOf r.1, sl, r.2)
  | 0, b, n, t, τ, x4, x5, r, h => by cases h; exact ⟨_, rfl⟩
  | k + 1, b, n, t, τ, x4, x5, r, h => by
    obtain ⟨y, e1, h⟩ := bind_some (show Option.bind _ _ = some r from h)
    rw [show n + (k + 1) + g + f + 280 = (n + k + g + f + 280) + 1 by omega]
    have e0 : (rB ((n + k + g + f + 280) + 1)).fr (forT fS1) (.rng b (k + 1)) (forB fS1) (SP node s anch q.h x4 x5) (H q lim t σ ++ τ) =
        ((rB (n + k + g + f + 280)).ss (forB fS1) (SP node s anch q.h (some (.int (b : Int))) x5) (H q lim t σ ++ τ)).bind (frN (rB (n + k + g + f + 280)) (forT fS1) (.rng (b + 1) k) (forB fS1)) := rfl
    rw [e0]
    cases y with
    | found a t' =>
      obtain ⟨sl, e⟩ := body_hit ho hs hn anch τ (n + k + 5) x5 e1
      rw [show n + k + 5 + g + f + 275 = n + k + g + f + 280 by omega] at e
      cases h
      exact ⟨sl, by rw [e]; rfl⟩
    | fail t' =>
      have e := body_miss ho hs hn anch τ (n + k + 5) x5 e1
      rw [show n + k + 5 + g + f + 275 = n + k + g + f + 280 by omega] at e
      rw [e]
      exact mp_loop anch f g k (b + 1) n t' (τ ++ [MO.list t'.pl]) _ _ r (show mpM q lim σ s f g node k (b + 1) t' (τ ++ [MO.list t'.pl]) = some r from h)
theorem match_plain_ok (anch : Bool) {f g : Nat} {t : Tu} {r : Option MV × List MO} (h : mpM q lim σ s f g node (cond anch 1 (s.length + 1)) 0 t [] = some r) (hl : lenOk (s.length + 1) = true) (n : Nat) :
    (rB (n + (cond anch 1 (s.length + 1)) + g + f + 300)).call (.fn 17) [node, .str s, .bool anch, .ref q.h] (H q lim t σ) = some (r.1.getD .none, r.2) := by
  obtain ⟨sl, k⟩ := mp_loop ho hs hn anch f g (cond anch 1 (s.length + 1)) 0 (n + 17) t [] none none r h
  rw [List.append_nil, show n + 17 + (cond anch 1 (s.length + 1)) + g + f + 280 = n + (cond anch 1 (s.length + 1)) + g + f + 297 by omega] at k
  have hf : fS1 = (at? cb_match_plain 0).getD (.raw noSt) := rfl
  rw [hf] at k
  unfold cb_match_plain SP at k
  simp only [at?_z, Option.getD_some, forB, forT] at k
  rw [c_match_plain]
  unfold cb_match_plain
  have w1 : ∀ v : MV, (MV.bool anch).wk = .bool anch := fun _ => rfl
  have w2 : ∀ a k : Nat, (MV.rng a k).wk = .rng a k := fun _ _ => rfl
  have hl' : lenOk (0 + (s.length + 1)) = true := by rw [Nat.zero_add]; exact hl
  obtain ⟨r1, r2⟩ := r
  cases anch with
  | true =>
    simp only [cond_true] at k
    cases r1 <;>
    simp only [rB_ss, rB_s, rB_e, rB_es, rB_eo, rB_t, rB_ts, rB_a, rB_as, stepSs, fSs, stepS, fS, stepE, fE, stepEs, fEs, stepEo, stepT, fT, stepTs, fTs, stepA, fA, stepAs, ssN, tsN, tsE, getS, Option.bind_some, Option.bind_none, Option.map_some, cond_true, cond_false, retN, Cst.mv, Nat.beq_refl, wk_str, wk_chr, wk_int, wk_tup, wk_none, wk_ref, wk_bool, wk_wk, endv_ok, lk0, lk1, lk2, lk3, lk4, lk5, lk6, lk7, lk8, bl0, bl1, bl2, bl3, List.map_cons, List.map_nil, List.length_cons, List.length_nil, at?_z, at?_s, setAt_z, setAt_s, r0, asgB, isCst, List.all_cons, List.all_nil, List.any_cons, List.any_nil, asTup, putSl, eSub, subs, nth0, nth1, nth2, eCmp, cmpop, cIs, isNone, okAny, notAny, eBin, binop, bAdd, bII, eSlc, part, cutE, eCall, truth, exB, sEx, eMeth, okBase, mApp, Bool.not_true, Bool.not_false, Bool.and_true, Bool.and_false, Bool.true_and, Bool.false_and, Bool.or_true, Bool.or_false, Bool.true_or, Bool.false_or, srcG, call_bi, bi_range, bRange_one, w2, It_rng, show lenOk (0 + 1) = true from rfl, k, flOf, Option.getD_some, Option.getD_none]
  | false =>
    simp only [cond_false] at k
    cases r1 <;>
    simp only [rB_ss, rB_s, rB_e, rB_es, rB_eo, rB_t, rB_ts, rB_a, rB_as, stepSs, fSs, stepS, fS, stepE, fE, stepEs, fEs, stepEo, stepT, fT, stepTs, fTs, stepA, fA, stepAs, ssN, tsN, tsE, getS, Option.bind_some, Option.bind_none, Option.map_some, cond_true, cond_false, retN, Cst.mv, Nat.beq_refl, wk_str, wk_chr, wk_int, wk_tup, wk_none, wk_ref, wk_bool, wk_wk, endv_ok, lk0, lk1, lk2, lk3, lk4, lk5, lk6, lk7, lk8, bl0, bl1, bl2, bl3, List.map_cons, List.map_nil, List.length_cons, List.length_nil, at?_z, at?_s, setAt_z, setAt_s, r0, asgB, isCst, List.all_cons, List.all_nil, List.any_cons, List.any_nil, asTup, putSl, eSub, subs, nth0, nth1, nth2, eCmp, cmpop, cIs, isNone, okAny, notAny, eBin, binop, bAdd, bII, eSlc, part, cutE, eCall, truth, exB, sEx, eMeth, okBase, mApp, Bool.not_true, Bool.not_false, Bool.and_true, Bool.and_false, Bool.true_and, Bool.false_and, Bool.or_true, Bool.or_false, Bool.true_or, Bool.false_or, srcG, call_bi, bLen_str hs, add_one, bi_range, bRange_nat, hl, hl', w2, It_rng, k, flOf, Option.getD_some, Option.getD_none]
end
end Mine

open PySem PySem.W PyProof.Rows PySem.Calls
namespace Mine
set_option autoImplicit false
set_option backward.match.sparseCases false
set_option linter.unusedVariables false
set_option maxRecDepth 100000
noncomputable def boolM : MV → Option Bool
  | .bool i => some i
  | _ => none
theorem boolM_ok {v : MV} {l : Bool} (h : boolM v = some l) : v = .bool l := by cases v <;> first | (cases h; done) | (cases h; rfl)
noncomputable def listO : Option MO → Option (List MV)
  | some (.list l) => some l
  | _ => none
noncomputable def dictO : Option MO → Option (List (List Nat × MV))
  | some (.dict l) => some l
  | _ => none
noncomputable def instO : Option MO → Option (Nat × List (Nat × MV))
  | some (.inst k l) => some (k, l)
  | _ => none
theorem listO_ok {o : Option MO} {l : List MV} (h : listO o = some l) : o = some (.list l) := by
  cases o with
  | none => cases h
  | some o => cases o <;> first | (cases h; done) | (cases h; rfl)
theorem dictO_ok {o : Option MO} {l : List (List Nat × MV)} (h : dictO o = some l) : o = some (.dict l) := by
  cases o with
  | none => cases h
  | some o => cases o <;> first | (cases h; done) | (cases h; rfl)
theorem instO_ok {o : Option MO} {l : Nat × List (Nat × MV)} (h : instO o = some l) : o = some (.inst l.1 l.2) := by
  cases o with
  | none => cases h
  | some o => cases o <;> first | (cases h; done) | (cases h; rfl)
structure HR where
  d : Nat
  lim : Int
  rf : Nat
  st : Int
  lg : Nat
noncomputable def keysB (ks : List Nat) (ats : List (Nat × MV)) : Bool := eqL (ats.map (·.1)) ks
noncomputable def hostL (ats : List (Nat × MV)) : Option HR := match ats with
  | [a, b, c, w, e, f] => (refM a.2).bind fun d => (intM b.2).bind fun lim => (refM c.2).bind fun rf => (natM w.2).bind fun w => (intM e.2).bind fun st => (refM f.2).bind fun lg => cond (Nat.beq w 64) (some ⟨d, lim, rf, st, lg⟩) none
  | _ => none
noncomputable def hostO (o : Option MO) : Option HR := (instO o).bind fun p => cond (Nat.beq p.1 1 && keysB [0, 1, 2, 3, 4, 5] p.2) (hostL p.2) none
theorem hostL_ok {ats : List (Nat × MV)} {r : HR} (h3 : ats.map (·.1) = [0, 1, 2, 3, 4, 5]) (h0 : hostL ats = some r) : MO.inst 1 ats = hostM r.d r.rf r.lg r.lim r.st := by
  match ats, h3, h0 with
  | [], h3, h => cases h
  | [_], h3, h => cases h
  | [_, _], h3, h => cases h
  | [_, _, _], h3, h => cases h
  | [_, _, _, _], h3, h => cases h
  | [_, _, _, _, _], h3, h => cases h
  | _ :: _ :: _ :: _ :: _ :: _ :: _ :: _, h3, h => cases h
  | [(a, va), (b, vb), (c, vc), (w, vw), (e, ve), (f, vf)], h3, h =>
  simp only [List.map_cons, List.map_nil, List.cons.injEq, and_true] at h3
  obtain ⟨rfl, rfl, rfl, rfl, rfl, rfl⟩ := h3
  obtain ⟨d, g1, h⟩ := bind_some h
  obtain ⟨lim, g2, h⟩ := bind_some h
  obtain ⟨rf, g3, h⟩ := bind_some h
  obtain ⟨w, g4, h⟩ := bind_some h
  obtain ⟨st, g5, h⟩ := bind_some h
  obtain ⟨lg, g6, h⟩ := bind_some h
  obtain ⟨g7, h⟩ := cond_some h
  cases h
  simp only at g1 g2 g3 g4 g5 g6
  rw [refM_ok g1, intM_ok g2, refM_ok g3, natM_ok g4, intM_ok g5, refM_ok g6, Nat.eq_of_beq_eq_true g7]; rfl
theorem hostO_ok {o : Option MO} {r : HR} (h : hostO o = some r) : o = some (hostM r.d r.rf r.lg r.lim r.st) := by
  obtain ⟨⟨k, ats⟩, e1, g⟩ := bind_some h
  rw [instO_ok e1]
  obtain ⟨h1, g'⟩ := cond_some g
  obtain ⟨h2, h3⟩ := Bool.and_eq_true_iff.mp h1
  obtain rfl : k = 1 := Nat.eq_of_beq_eq_true h2
  rw [← hostL_ok (eqL_to h3) g']
noncomputable def isNilL : List MV → Bool
  | [] => true
  | _ => false
noncomputable def mp4 (σ : List MO) : List MV → Option ((MV × List MO) × Nat)
  | [node, s, an, h] => (strM s).bind fun s => (boolM an).bind fun an => (refM h).bind fun h => (hostO (at? σ h)).bind fun r => (dictO (at? σ r.d)).bind fun kv => (listO (at? σ r.lg)).bind fun lo => (listO (at? σ r.rf)).bind fun rf =>
    cond (isNilL rf && !Nat.beq r.rf r.lg && okv node && lenOk s.length && lenOk (s.length + 1)) ((mpM ⟨h, r.d, r.rf, r.lg, 0⟩ r.lim σ s 20 12 node (cond an 1 (s.length + 1)) 0 ⟨r.st, kv, lo, []⟩ []).bind fun x => some ((x.1.getD .none, x.2), 0 + (cond an 1 (s.length + 1)) + 12 + 20 + 300)) none
  | _ => none
theorem mp4_ok {σ : List MO} {as : List MV} {p : (MV × List MO) × Nat} (h : mp4 σ as = some p) : (rB p.2).call (.fn 17) as σ = some p.1 := by
  match as, h with
  | [], h => cases h
  | [_], h => cases h
  | [_, _], h => cases h
  | [_, _, _], h => cases h
  | _ :: _ :: _ :: _ :: _ :: _, h => cases h
  | [node, s, an, h'], h =>
  obtain ⟨s', g1, h⟩ := bind_some (show Option.bind _ _ = _ from h)
  obtain ⟨an', g2, h⟩ := bind_some h
  obtain ⟨hh, g3, h⟩ := bind_some h
  obtain ⟨r, g4, h⟩ := bind_some h
  obtain ⟨kv, g5, h⟩ := bind_some h
  obtain ⟨lo, g6, h⟩ := bind_some h
  obtain ⟨rf, g7, h⟩ := bind_some h
  obtain ⟨g8, h⟩ := cond_some h
  obtain ⟨x, g9, h⟩ := bind_some h
  cases h
  simp only [Bool.and_eq_true, Bool.not_eq_true'] at g8
  obtain ⟨⟨⟨⟨q1, q2⟩, q3⟩, q4⟩, q5⟩ := g8
  have e4 := hostO_ok g4
  have e5 := dictO_ok g5
  have e6 := listO_ok g6
  have e7 := listO_ok g7
  have hrf : rf = [] := by
    cases rf with
    | nil => rfl
    | cons _ _ => cases q1
  subst hrf
  have ho : Ho ⟨hh, r.d, r.rf, r.lg, 0⟩ r.lim σ := ⟨⟨_, e4⟩, ⟨_, e5⟩, ⟨_, e6⟩, e7, fun e => by
    have e : r.rf = r.lg := e
    rw [e, Nat.beq_refl] at q2; cases q2⟩
  have k := match_plain_ok ho q4 q3 an' g9 q5 0
  rw [H_self e4 e5 e6] at k
  rw [strM_ok g1, boolM_ok g2, refM_ok g3]
  exact k
noncomputable abbrev Memo := Nat → List MV → List MO → Option ((MV × List MO) × Nat)
noncomputable def mmP : Memo := fun k as σ => cond (Nat.beq k 17) (force σ fun σ => mp4 σ as) none
theorem noM_ok {G : St} : MemoOk G noM := fun _ _ _ _ h => by cases h
theorem mmP_ok {G : St} (Z : Static G cFT cNF cCT cGV) : MemoOk G mmP := fun k as σ p h => by
  obtain ⟨h1, h0⟩ := cond_some h
  obtain rfl := Nat.eq_of_beq_eq_true h1
  clear h
  have e := mp4_ok ((force_eq σ _).symm.trans h0)
  refine ⟨?_, ?_⟩
  · obtain ⟨fn, ef⟩ := Option.isSome_iff_exists.mp (show (at? cFT 17).isSome = true by decide +kernel)
    obtain ⟨_, _, _, _, _, _, _, _, _, _, hf⟩ := Z.fn 17 fn ef
    exact hf.keep
  · intro A env h₀ L m N ρ s vs H I hvs P q
    obtain ⟨⟨pv, pσ⟩, pn⟩ := p
    exact (sound_run Z noM_ok pn).callF H I hvs e P q
end Mine

open PySem PySem.W PyProof.Rows PySem.Calls
namespace Mine
set_option autoImplicit false
set_option backward.match.sparseCases false
set_option linter.unusedVariables false
set_option maxRecDepth 20000
/-! ## a call of plain values answers alike in every store -/
noncomputable def pureV : Nat → MV → Bool
  | 0, _ => false
  | n + 1, v => (match v with
    | .none => true
    | .bool _ => true
    | .int _ => true
    | .str _ => true
    | .fn _ => true
    | .cls _ => true
    | .bi _ => true
    | .tup vs => vs.all (pureV n)
    | _ => false)
section
variable {G : St} {A : Around} {env : Env} {h₀ : Heap} {L : Addr} {m : Str → Option Value} {N : Led} {ρ ρ' : Rho} {s : Shared} {σ σ' : List MO} {v : MV}

theorem pure_all {n : Nat} (hv : ∀ {v : Value} {mv : MV}, pureV n mv = true → RV G N ρ' v mv → RV G N ρ v mv) : ∀ {ms : List MV} {vs : List Value}, ms.all (pureV n) = true → RVs G N ρ' vs ms → RVs G N ρ vs ms
  | [], vs, _, h => by rw [h.nilv]; exact .nil
  | x :: ms, vs, hp, h => by
    obtain ⟨_, _, rfl, h, hs⟩ := h.uncons
    rw [List.all_cons] at hp
    obtain ⟨h1, h2⟩ := Bool.and_eq_true_iff.mp hp
    exact .cons (hv h1 h) (pure_all hv h2 hs)
theorem pure_move (hm : ∀ a ws k, (a, tupO ws k) ∈ N → a ∉ mts G ρ' → a ∉ mts G ρ) : ∀ (n : Nat) {v : Value} {mv : MV}, pureV n mv = true → RV G N ρ' v mv → RV G N ρ v mv
  | 0, v, mv, h, _ => by (first | exact (no h).elim | cases h)
  | n + 1, v, mv, h, r => by
    cases mv <;> try ((first | exact (no h).elim | cases h); done)
    · (first | obtain ⟨_, rfl⟩ := r.inv | obtain rfl := r.inv | cases r); exact .none
    · (first | obtain ⟨_, rfl⟩ := r.inv | obtain rfl := r.inv | cases r); exact .bool _
    · (first | obtain ⟨_, rfl⟩ := r.inv | obtain rfl := r.inv | cases r); exact .int _ _
    · (first | obtain ⟨_, rfl⟩ := r.inv | obtain rfl := r.inv | cases r); exact .str _ _
    · rename_i vs
      cases r with
      | tup h1 h2 h3 => exact .tup h1 (hm _ _ _ h1 h2) (pure_all (fun a b => pure_move hm n a b) h h3)
      | ktup h1 h2 => exact .ktup h1 (pure_all (fun a b => pure_move hm n a b) h h2)
    · (first | obtain ⟨_, rfl⟩ := r.inv | obtain rfl := r.inv | cases r); exact .fn _
    · (first | obtain ⟨_, rfl⟩ := r.inv | obtain rfl := r.inv | cases r); exact .cls _
    · (first | obtain ⟨_, rfl⟩ := r.inv | obtain rfl := r.inv | cases r); exact .bi _
/-- the ledger of a call that knows nothing of the store -/
noncomputable def Rho.alone (ρ : Rho) : Rho := ⟨[], ρ.cs, ρ.ls, ρ.fz⟩
theorem mts_alone {a : Addr} (h : a ∈ mts G ρ.alone) : a ∈ mts G ρ := by
  unfold mts at h ⊢
  rcases List.mem_append.mp h with h | h
  · exact List.mem_append_left _ h
  · cases h
theorem OR.notCode {p : Addr × Addr} {mo : MO} (nd : (N.map (·.1)).Nodup) (h : OR G N ρ p mo) {a : Addr} {o : Obj} (ha : a = p.1 ∨ a = p.2) (hm : (a, o) ∈ N) (hv : ∃ vs, o.data = .fields vs) : False := by
  have one : ∀ {b : Addr} {o' : Obj}, (b, o') ∈ N → a = b ∨ a = b → o' = o := fun h1 ha => by
    rcases ha with rfl | rfl <;> exact nodup_row nd h1 hm
  obtain ⟨vs, hv⟩ := hv
  cases h with
  | list h1 h2 => have := one h1 ha; subst this; (first | obtain ⟨_, rfl⟩ := hv.inv | obtain rfl := hv.inv | cases hv)
  | inst h1 h2 h3 =>
    rcases ha with rfl | rfl
    · have := nodup_row nd h1 hm; subst this; (first | obtain ⟨_, rfl⟩ := hv.inv | obtain rfl := hv.inv | cases hv)
    · have := nodup_row nd h2 hm; subst this; (first | obtain ⟨_, rfl⟩ := hv.inv | obtain rfl := hv.inv | cases hv)
  | dict h1 h2 h0 h3 =>
    have := one h1 ha; subst this
    obtain ⟨es, ep, _, h5, _⟩ := h2
    rw [hv] at h5; cases h5
  | cell h1 h2 h3 => have := one h1 ha; subst this; rw [hv] at h2; cases h2
theorem OR.notTup {p : Addr × Addr} {mo : MO} (nd : (N.map (·.1)).Nodup) (h : OR G N ρ p mo) {a : Addr} {ws : List Value} {k : Nat} (ha : a = p.1 ∨ a = p.2) (hm : (a, tupO ws k) ∈ N) : False := by
  have one : ∀ {b : Addr} {o' : Obj}, (b, o') ∈ N → a = b ∨ a = b → o' = tupO ws k := fun h1 ha => by
    rcases ha with rfl | rfl <;> exact nodup_row nd h1 hm
  cases h with
  | list h1 h2 => exact absurd (congrArg Obj.cls (one h1 ha)) (by simp)
  | inst h1 h2 h3 =>
    rcases ha with rfl | rfl
    · exact absurd (congrArg Obj.data (nodup_row nd h1 hm)) (by simp)
    · exact absurd (congrArg Obj.data (nodup_row nd h2 hm)) (by simp)
  | dict h1 h2 h0 h3 =>
    obtain ⟨es, ep, _, h5, _⟩ := h2
    rw [one h1 ha] at h5; cases h5
  | cell h1 h2 h3 => rw [one h1 ha] at h2; cases h2
/-- the answer of such a call, put behind another store -/
noncomputable def frL (σ : List MO) : Option MO → Option (MV × List MO)
  | some (.list xs) => cond (xs.all (pureV 9)) (some (.ref σ.length, σ ++ [.list xs])) none
  | _ => none
noncomputable def frR (v : MV) (σ₁ σ : List MO) : Option (MV × List MO) := cond (pureV 9 v) (some (v, σ)) (match v with
  | .ref j => frL σ (at? σ₁ j)
  | _ => none)
theorem frame_call {r : Rec} {n k : Nat} {as : List MV} {σ₁ : List MO} {y : MV × List MO} (hs : Sound G r n) (h : r.call (.fn k) as [] = some (v, σ₁)) (pa : as.all (pureV 9) = true) (pv : frR v σ₁ σ = some y) {vs : List Value}
    (H : EnvOk G A env h₀ L n) (I : Inv G h₀ L m N ρ σ s.heap s.toks) (hvs : RVs G N ρ vs as) (P : Result → Shared → Prop)
    (q : ∀ u h' tk N' ρ', Inv G h₀ L m N' ρ' y.2 h' tk → Ext G N ρ N' ρ' → RV G N' ρ' u y.1 → P (.ok (.ret u)) { s with heap := h', toks := tk }) : codeAny (model G.prog G.w) A (.call (.ref (G.FA k)) ⟨vs, []⟩) P s := by
  have al : ∀ {a : Addr}, a ∈ mts G ρ.alone → a ∈ mts G ρ := mts_alone
  have J : Inv G h₀ L m N ρ.alone [] s.heap s.toks := ⟨I.F, I.W, I.nd, rfl, List.Pairwise.nil, fun i mo e => by simp at e, fun t ht => by
    obtain ⟨ps, h1, h2⟩ := I.tb t ht
    refine ⟨ps, h1, h2.imp id ?_⟩
    rintro ⟨c', oc, ws, u, e, g1, g2, g3⟩
    exact ⟨c', oc, ws, u, e, g1, fun hm => g2 (al hm), g3⟩, ⟨I.bk.pos, I.bk.c, I.bk.l, I.bk.d⟩, fun a ha => ⟨(I.fz a ha).1, fun h => by cases h⟩⟩
  have hvs' : RVs G N ρ.alone vs as := pure_all (fun a b => pure_move (fun a ws k _ hn hm => hn (al hm)) 9 a b) pa hvs
  refine hs.callF H J hvs' h P fun u h' tk N' ρ' I' x' r' => ?_
  have fzE : ρ'.fz = ρ.fz := x'.bb.f
  have keep : ∀ {ρ₂ : Rho} (X₂ : Ext G N ρ N' ρ₂) {i : Nat} {p : Addr × Addr} {mo : MO}, σ[i]? = some mo → ρ.l[i]? = some p → OR G N ρ p mo → OR G N' ρ₂ p mo := fun {ρ₂} X₂ {i p mo} em e o => by
    refine o.keepT X₂.tr fun z hz hzp => x'.sub z hz fun hm => ?_
    unfold mts at hm
    rcases List.mem_append.mp hm with hm | hm
    · rcases List.mem_append.mp hm with hm | hm
      · obtain ⟨t, ht, e⟩ := List.mem_map.mp hm
        obtain ⟨ps, h1, _⟩ := I.tb t ht
        have e' : t.P = z.1 := e
        exact o.noTab I.nd hzp (e' ▸ h1)
      · obtain ⟨⟨x, y, hx⟩, _⟩ := J.fz z.1 hm
        exact o.notTup I.nd hzp hx
    · cases hm
  have X₀ : Ext G N ρ N' ρ := ⟨fun z hz hn => x'.sub z hz fun hm => hn (al hm), ⟨[], by simp⟩, Rho.le.refl _, fun a ha => .inl ha, x'.old⟩
  have inPairs : ∀ a, a ∈ mts G ρ → a ∉ mts G ρ' → ∃ p mo, OR G N' ρ p mo ∧ (a = p.1 ∨ a = p.2) := fun a ha hn => by
    unfold mts at ha
    rcases List.mem_append.mp ha with ha | ha
    · refine absurd ?_ hn
      rcases List.mem_append.mp ha with ha | ha
      · exact List.mem_append_left _ (List.mem_append_left _ ha)
      · exact fz_mts G (by rw [fzE]; exact ha)
    · obtain ⟨p, hp, ha⟩ := List.mem_flatMap.mp ha
      obtain ⟨i, e⟩ := List.mem_iff_getElem?.mp hp
      obtain ⟨mo, em, o⟩ := I.get e
      refine ⟨p, mo, keep X₀ em e o, ?_⟩
      rcases List.mem_cons.mp ha with h1 | h1
      · exact .inl h1
      · exact .inr (List.mem_singleton.mp h1)
  have gen : ∀ (ρ₂ : Rho) (X₂ : Ext G N ρ N' ρ₂), (∀ b, b ∈ mts G ρ₂ → b ∈ mts G ρ ∨ ∃ ws k, (b, listOf ws k) ∈ N') → (∀ t ∈ G.TB, TabRow G N' ρ₂ t) ∧ ∀ {w : Value} {mv : MV}, pureV 9 mv = true → RV G N' ρ' w mv → RV G N' ρ₂ w mv := fun ρ₂ X₂ hb => by
    refine ⟨fun t ht => ?_, fun pv r => pure_move (fun a ws k hm hn ha => ?_) 9 pv r⟩
    · obtain ⟨ps, h1, h2⟩ := I'.tb t ht
      refine ⟨ps, h1, h2.imp id ?_⟩
      rintro ⟨c', oc, ws, u, e, g1, g2, g3, g4⟩
      refine ⟨c', oc, ws, u, e, g1, fun hm => ?_, g3, g4⟩
      rcases hb _ hm with hm | ⟨us, k, hm⟩
      · obtain ⟨p, mo, o, hp⟩ := inPairs c' hm g2
        exact o.notCode I'.nd hp g1 ⟨_, g3⟩
      · rw [nodup_row I'.nd g1 hm] at g3; cases g3
    · rcases hb _ ha with ha | ⟨us, k, ha⟩
      · obtain ⟨p, mo, o, hp⟩ := inPairs a ha hn
        exact o.notTup I'.nd hp hm
      · exact absurd (congrArg Obj.cls (nodup_row I'.nd hm ha)) (by simp)
  have bk : TkOk ρ tk := ⟨I'.bk.pos, fun t ht => I'.bk.c t (x'.bb.c t ht), fun t ht => I'.bk.l t (x'.bb.l t ht), fun t ht hl => I'.bk.d t (x'.bb.c t ht) (x'.bb.l t hl)⟩
  unfold frR at pv
  cases hp : pureV 9 v with
  | true =>
    rw [hp] at pv; cases pv
    obtain ⟨tb, mv⟩ := gen ρ X₀ fun b hb => .inl hb
    exact q u h' tk N' ρ ⟨I'.F, I'.W, I'.nd, I.len, I.ap, fun i mo e => let ⟨p, e', o⟩ := I.so i mo e; ⟨p, e', keep X₀ e e' o⟩, tb, bk, fun a ha => ⟨(I'.fz a (by rw [fzE]; exact ha)).1, (I.fz a ha).2⟩⟩ X₀ (mv hp r')
  | false =>
    rw [hp] at pv
    cases v <;> try (cases pv; done)
    rename_i j
    replace pv : frL σ (at? σ₁ j) = some y := pv
    obtain ⟨p, hj, rfl⟩ := r'.inv
    cases hq : at? σ₁ j with
    | none => rw [hq] at pv; cases pv
    | some mo =>
      rw [hq] at pv
      cases mo <;> try (cases pv; done)
      rename_i xs
      obtain ⟨hall, pv⟩ := cond_some (show cond (xs.all (pureV 9)) _ none = some y from pv)
      cases pv
      rw [at?_eq] at hq
      obtain ⟨p', e', o⟩ := I'.so j _ hq
      rw [hj] at e'; cases e'
      cases o with | list o1 o2 =>
      rename_i a ws n'
      have isL : ∀ {ob : Obj}, (a, ob) ∈ N' → ob = listOf ws.toArray n' := fun h => nodup_row I'.nd h o1
      have freshN : ∀ ob, (a, ob) ∉ N := by
        rcases x'.fr a (mem_mts G hj).1 with hm | hm
        · exfalso
          unfold mts at hm
          rcases List.mem_append.mp hm with hm | hm
          · rcases List.mem_append.mp hm with hm | hm
            · obtain ⟨t, ht, e⟩ := List.mem_map.mp hm
              obtain ⟨ps, h1, _⟩ := I'.tb t ht
              have e' : t.P = a := e
              rw [e'] at h1
              exact absurd (congrArg Obj.cls (isL h1)) (by simp)
            · obtain ⟨x, y, h1⟩ := (I'.fz a (by rw [fzE]; exact hm)).1
              exact absurd (congrArg Obj.cls (isL h1)) (by simp)
          · cases hm
        · exact hm
      have inA : ∀ {b : Addr}, b ∈ mts G (ρ.add (a, a)) → b ∈ mts G ρ ∨ b = a := fun {b} hb => by
        rw [mts_append] at hb
        rcases List.mem_append.mp hb with hb | hb
        · exact .inl hb
        · exact .inr (by simpa [pairsL] using hb)
      have X₂ : Ext G N ρ N' (ρ.add (a, a)) := ⟨X₀.sub, ⟨[(a, a)], rfl⟩, ⟨fun _ h => h, fun _ h => h, rfl⟩, fun b hb => (inA hb).imp id fun e => by rw [e]; exact freshN, x'.old⟩
      obtain ⟨tb, mv⟩ := gen _ X₂ fun b hb => (inA hb).imp id fun e => ⟨_, _, e ▸ o1⟩
      have hws : RVs G N' (ρ.add (a, a)) ws xs := pure_all (n := 9) (fun c d => mv c d) hall o2
      refine q (.ref a) h' tk N' (ρ.add (a, a)) ⟨I'.F, I'.W, I'.nd, by simp [Rho.app, I.len], ?_, fun i mo e => ?_, tb, ⟨bk.pos, bk.c, bk.l, bk.d⟩, fun b hb => ?_⟩ X₂ (.ref (p := (a, a)) (by rw [← I.len]; simp [Rho.app]))
      · refine List.pairwise_append.mpr ⟨I.ap, by simp, fun q hq r hr => ?_⟩
        rw [List.mem_singleton.mp hr]
        obtain ⟨i, e⟩ := List.mem_iff_getElem?.mp hq
        obtain ⟨_, l1⟩ := I.mtsIn (mem_mts G e).1
        obtain ⟨_, l2⟩ := I.mtsIn (mem_mts G e).2
        exact ⟨fun e => freshN _ (e ▸ l1), fun e => freshN _ (e ▸ l1), fun e => freshN _ (e ▸ l2), fun e => freshN _ (e ▸ l2)⟩
      · by_cases hi : i < σ.length
        · rw [List.getElem?_append_left hi] at e
          obtain ⟨p', e', o⟩ := I.so i mo e
          exact ⟨p', X₂.get e', keep X₂ e e' o⟩
        · rw [List.getElem?_append_right (Nat.not_lt.mp hi)] at e
          have hi0 : i - σ.length = 0 := by
            cases hh : i - σ.length with
            | zero => rfl
            | succ k => rw [hh] at e; simp at e
          rw [hi0] at e
          simp at e
          subst e
          refine ⟨(a, a), ?_, .list o1 hws⟩
          show (ρ.l ++ [(a, a)])[i]? = some (a, a)
          rw [List.getElem?_append_right (by rw [I.len]; exact Nat.not_lt.mp hi), I.len, hi0]; rfl
      · refine ⟨(I'.fz b (by rw [fzE]; exact hb)).1, fun hm => ?_⟩
        have hm' : b ∈ pairsOf ρ ++ pairsL [(a, a)] := by simpa [pairsOf, pairsL, Rho.app] using hm
        rcases List.mem_append.mp hm' with hm | hm
        · exact (I.fz b hb).2 hm
        · simp [pairsL] at hm
          obtain ⟨x, y, h1⟩ := (I'.fz b (by rw [fzE]; exact hb)).1
          rw [hm] at h1
          exact absurd (congrArg Obj.cls (isL h1)) (by simp)
end
/-! ## the memo: the matcher as a machine, the put in a store of its own, the orders as a table -/
noncomputable def rP (n : Nat) : Rec := run cFT cNF cCT cGV mmP n
noncomputable def ordA : List (List Nat × List MV) := [([97, 98], [.str [97, 98], .str [98, 97]]), ([97, 98, 99], [.str [97, 98, 99], .str [97, 99, 98], .str [98, 97, 99], .str [98, 99, 97], .str [99, 97, 98], .str [99, 98, 97]]), ([97, 98, 99, 100], [.str [97, 98, 99, 100], .str [97, 98, 100, 99], .str [97, 99, 98, 100], .str [97, 99, 100, 98], .str [97, 100, 98, 99], .str [97, 100, 99, 98], .str [98, 97, 99, 100], .str [98, 97, 100, 99], .str [98, 99, 97, 100], .str [98, 99, 100, 97], .str [98, 100, 97, 99], .str [98, 100, 99, 97], .str [99, 97, 98, 100], .str [99, 97, 100, 98], .str [99, 98, 97, 100], .str [99, 98, 100, 97], .str [99, 100, 97, 98], .str [99, 100, 98, 97], .str [100, 97, 98, 99], .str [100, 97, 99, 98], .str [100, 98, 97, 99], .str [100, 98, 99, 97], .str [100, 99, 97, 98], .str [100, 99, 98, 97]])]
noncomputable def eqT : List MV → List MV → Bool
  | [], [] => true
  | .str x :: xs, .str y :: ys => eqL x y && eqT xs ys
  | _, _ => false
noncomputable def isL (xs : List MV) : Option MO → Bool
  | some (.list ys) => eqT xs ys
  | _ => false
noncomputable def ordB (p : List Nat × List MV) : Bool := match (rP 200).call (.fn 31) [.str p.1] [] with
  | some (.ref j, σ) => isL p.2 (at? σ j) && p.2.all (pureV 9)
  | _ => false
theorem ordAll : ordA.all ordB = true := by decide +kernel
noncomputable def fr1 (k : Nat) (as : List MV) (σ : List MO) : Option ((MV × List MO) × Nat) := cond (as.all (pureV 9)) (((rP 380).call (.fn k) as []).bind fun x => (frR x.1 x.2 σ).bind fun y => some (y, 380)) none
noncomputable def ord1 (σ : List MO) : List MV → Option ((MV × List MO) × Nat)
  | [v] => (strM v).bind fun l => (lkS l ordA).bind fun xs => some ((.ref σ.length, σ ++ [.list xs]), 200)
  | _ => none
noncomputable def mmR : Memo := fun k as σ => cond (Nat.beq k 29) (fr1 k as σ) (cond (Nat.beq k 31) (ord1 σ as) (mmP k as σ))
theorem lkS_mem {α : Type} : ∀ {l : List (List Nat × α)} {k : List Nat} {v : α}, lkS k l = some v → (k, v) ∈ l
  | [], k, v, h => by cases h
  | p :: l, k, v, h => by
    rw [lkS_cons] at h
    split at h
    · rename_i hk
      cases h
      rw [← eqL_to hk]; exact List.mem_cons_self ..
    · exact List.mem_cons_of_mem _ (lkS_mem h)
theorem eqT_ok : ∀ {xs ys : List MV}, eqT xs ys = true → xs = ys
  | [], [], _ => rfl
  | [], _ :: _, h => by cases h
  | x :: xs, [], h => by cases x <;> cases h
  | x :: xs, y :: ys, h => by
    cases x <;> try (cases h; done)
    cases y <;> try (cases h; done)
    obtain ⟨h1, h2⟩ := Bool.and_eq_true_iff.mp h
    rw [eqL_to h1, eqT_ok h2]
theorem ord_ok {p : List Nat × List MV} (h : ordB p = true) (σ : List MO) : ∃ v σ₁, (rP 200).call (.fn 31) [.str p.1] [] = some (v, σ₁) ∧ frR v σ₁ σ = some (.ref σ.length, σ ++ [.list p.2]) := by
  unfold ordB at h
  split at h
  · rename_i j σ₁ e
    refine ⟨_, σ₁, e, ?_⟩
    obtain ⟨h1, h2⟩ := Bool.and_eq_true_iff.mp h
    unfold isL at h1
    split at h1
    · rename_i ys e2
      obtain rfl := eqT_ok h1
      show cond (pureV 9 (.ref j)) _ (frL σ (at? σ₁ j)) = _
      rw [e2]
      show cond (List.all _ _) _ none = _
      rw [h2]; rfl
    · cases h1
  · cases h
theorem fnKeep {G : St} (Z : Static G cFT cNF cCT cGV) {k : Nat} (h : (at? cFT k).isSome = true) : keepIn G.K (.ref (G.FA k)) = true := by
  obtain ⟨fn, ef⟩ := Option.isSome_iff_exists.mp h
  obtain ⟨_, _, _, _, _, _, _, _, _, _, hf⟩ := Z.fn k fn ef
  exact hf.keep
theorem mmR_ok {G : St} (Z : Static G cFT cNF cCT cGV) : MemoOk G mmR := fun k as σ p h => by
  unfold mmR at h
  cases h1 : Nat.beq k 29 with
  | true =>
    rw [h1] at h
    obtain rfl := Nat.eq_of_beq_eq_true h1
    obtain ⟨pa, h⟩ := cond_some (show fr1 _ _ _ = _ from h)
    obtain ⟨x, e1, h⟩ := bind_some h
    obtain ⟨y, e2, h⟩ := bind_some h
    cases h
    exact ⟨fnKeep Z (by decide +kernel), fun H I hvs P q => frame_call (sound_run Z (mmP_ok Z) 380) e1 pa e2 H I hvs P q⟩
  | false =>
    rw [h1] at h
    cases h2 : Nat.beq k 31 with
    | false => rw [h2] at h; exact mmP_ok Z k as σ p h
    | true =>
      rw [h2] at h
      obtain rfl := Nat.eq_of_beq_eq_true h2
      match as, (show ord1 σ as = some p from h) with
      | [], h => cases h
      | _ :: _ :: _, h => cases h
      | [v], h =>
        obtain ⟨l, e0, h⟩ := bind_some h
        obtain ⟨xs, e1, h⟩ := bind_some h
        cases h
        obtain rfl := strM_ok e0
        obtain ⟨v, σ₁, e2, e3⟩ := ord_ok (List.all_eq_true.mp ordAll _ (lkS_mem e1)) σ
        exact ⟨fnKeep Z (by decide +kernel), fun H I hvs P q => frame_call (sound_run Z (mmP_ok Z) 200) e2 rfl e3 H I hvs P q⟩
end Mine

open PySem PySem.W PyProof.Rows PySem.Calls
namespace Mine
set_option autoImplicit false
set_option backward.match.sparseCases false
set_option maxRecDepth 100000
noncomputable def lawL (xs : List MV) : List Slot := [.loc (some (.bl xs)), .loc none, .loc none, .loc none, .loc none, .loc none, .loc none, .cel 0, .loc none, .loc none, .loc none, .cel 1, .cel 2, .loc none, .glb (.bi .len), .glb (.bi .dict), .glb (.bi .range), .glb (.fn 30), .glb (.fn 29), .glb (.fn 17), .glb (.cls 1), .glb (.fn 31), .nid 4]
noncomputable def lawS : List MO := [.cell none, .cell none, .cell none]
noncomputable def rl : Rec := run cFT cNF cCT cGV mmR 440
noncomputable def isNext : Fl → Bool
  | .next => true
  | _ => false
noncomputable def isT : MV → Bool
  | .bool b => b
  | _ => false
noncomputable def isTru : Fl → Bool
  | .ret v => isT v
  | _ => false
noncomputable def forget : List Slot → List Slot
  | [] => []
  | _ :: l => .loc none :: l
noncomputable def bs1 : S := (at? cb_law 0).getD (.raw noSt)
noncomputable def bs2 : S := (at? cb_law 1).getD (.raw noSt)
noncomputable def hdQ (xs : List MV) : Option (List Slot × List MO) :=
  (rl.s bs1 (lawL xs) lawS).bind fun y => cond (isNext y.1) ((rl.s bs2 y.2.1 y.2.2).bind fun z => cond (isNext z.1) (some (forget z.2.1, z.2.2)) none) none
noncomputable def tlQ (x : Option (List Slot × List MO)) : Bool := (x.bind fun y => (rl.ss (cb_law.drop 2) y.1 y.2).bind fun z => some (isTru z.1)) == some true
noncomputable def scr (M a b k : Nat) : List MV := .ab 3 a :: .ab M b :: List.replicate k .any
theorem isNext_ok {f : Fl} (h : isNext f = true) : f = .next := by cases f <;> first | rfl | cases h
theorem isTru_ok {f : Fl} (h : isTru f = true) : f = .ret (.bool true) := by
  cases f <;> try (cases h; done)
  rename_i v
  replace h : isT v = true := h
  cases v <;> try (cases h; done)
  rename_i b
  rw [show b = true from h]
theorem evals {xs : List MV} (h : tlQ (hdQ xs) = true) : ∃ sl1 σ1 sl2 σ2 sl3 σ3, rl.s bs1 (lawL xs) lawS = some (.next, sl1, σ1) ∧ rl.s bs2 sl1 σ1 = some (.next, sl2, σ2) ∧
    rl.ss (cb_law.drop 2) (forget sl2) σ2 = some (.ret (.bool true), sl3, σ3) := by
  obtain ⟨⟨l, σ⟩, h1, h⟩ := bind_some (eq_of_beq h)
  obtain ⟨⟨f3, sl3, σ3⟩, e3, h⟩ := bind_some h
  obtain rfl := isTru_ok (Option.some.inj h)
  obtain ⟨⟨f1, sl1, σ1⟩, e1, h1⟩ := bind_some h1
  obtain ⟨n1, h1⟩ := cond_some h1
  obtain rfl := isNext_ok n1
  obtain ⟨⟨f2, sl2, σ2⟩, e2, h1⟩ := bind_some h1
  obtain ⟨n2, h1⟩ := cond_some h1
  obtain rfl := isNext_ok n2
  cases h1
  exact ⟨sl1, σ1, sl2, σ2, sl3, σ3, e1, e2, e3⟩
end Mine

open PySem PySem.W PyProof.Rows PySem.Calls
namespace Mine
set_option autoImplicit false
set_option backward.match.sparseCases false
set_option linter.unusedVariables false
set_option maxRecDepth 1000000
set_option maxHeartbeats 0
noncomputable def pg : Program := PySem.Challenge.rw_xm0955_03.row.toRowW.prog
noncomputable abbrev vs (x : Str) (t : Tok) : Value := .str x t
noncomputable abbrev vi (x : Int) (t : Tok) : Value := .int x t
noncomputable abbrev vr (a : Addr) : Value := .ref a
noncomputable abbrev vt (x : String) : Value := .type x
noncomputable abbrev vb (x : String) : Value := .builtin x
noncomputable abbrev vn : Value := .none
noncomputable abbrev de (P : Params) (k : Str) (t : Tok) (v : Value) : DictEntry := ⟨PyData.keyHash P k, .str k t, v⟩
noncomputable abbrev nd (v : Obj) (l r : BT) : BT := .node v l r
noncomputable def noS : Stmt := .Pass ⟨0, 0, 0, 0⟩
noncomputable def f1 (i : Nat) : Stmt := (pg.main.body[i]?).getD noS
noncomputable def inB : Stmt → List Stmt
  | .ClassDef _ _ _ b _ _ _ _ _ _ _ => b
  | _ => []
noncomputable def f2 (i j : Nat) : Stmt := ((inB (f1 i))[j]?).getD noS
noncomputable def prm : Stmt → Arguments
  | .FunctionDef _ a _ _ _ _ _ _ _ _ => a
  | _ => { posonlyargs := [], args := [], vararg := none, kwonlyargs := [], kw_defaults := [], kwarg := none, defaults := [] }
noncomputable def bdy : Stmt → List Stmt
  | .FunctionDef _ _ b _ _ _ _ _ _ _ => b
  | _ => []
noncomputable def scp : Stmt → Scope
  | .FunctionDef _ _ _ _ _ _ s _ _ _ => s
  | _ => { kind := .function, names := [], isGenerator := false, isCoroutine := false }
noncomputable def ob0 (P : Params) : Obj := Obj.mk (vt "tuple") none (Data.seq #[]) #[]
noncomputable def ob1 (P : Params) : Obj := Obj.mk vn none (Data.fields #[]) #[]
noncomputable def ob2 (P : Params) : Obj := Obj.mk (vt "code") none (Data.fields #[vs "<module>" 182, vs "<module>" 183, vs "/claim/cut.py" 184, vi 1 0, vi 0 0, vi 0 0, vi 0 0, vi 0 0, vr 11, Value.bool false, vi 181 0, vr 12, vn, vn, vn, vn, vi 185 0, vi 1 0, vs "/claim/cut.py" 186]) #[]
noncomputable def ob3 (P : Params) : Obj := Obj.mk (vt "frame") none Data.plain #[some (vr 13), some (vr 3), some (vr 3), none, some (vs "__main__" 164), none, some (vr 0)]
noncomputable def ob4 (P : Params) : Obj := Obj.mk vn none (Data.dict #[de P "type.__subclasses__.Exception.0" 219 (vi 34 0), de P "type.__subclasses__.Exception.n" 220 (vi 1 0)] 2) #[]
noncomputable def ob5 (P : Params) : Obj := Obj.mk (vt "dict") none (Data.dict #[de P "__name__" 165 (vs "law_xm0955_03" 827), de P "__doc__" 166 vn, de P "__package__" 167 vn, de P "__loader__" 168 (vb "__main__.__loader__#opaque"), de P "__spec__" 169 vn, de P "__annotations__" 170 (vr 6), de P "__builtins__" 171 (vr 4), de P "__file__" 173 (vs "/claim/cut.py" 172), de P "__cached__" 174 vn, de P "SnobolError" 222 (vr 34), de P "Failure" 242 (vr 47), de P "Pattern" 271 (vr 68), de P "Delayed" 300 (vr 89), de P "NameRef" 333 (vr 110), de P "is_fail" 340 (vr 121), de P "fits" 348 (vr 128), de P "whole_of_text" 359 (vr 135), de P "text_of_whole" 368 (vr 142), de P "to_whole" 376 (vr 149), de P "to_text" 383 (vr 156), de P "need_text" 391 (vr 163), de P "COUNTED" 399 (vr 164), de P "SIGNED" 404 (vr 165), de P "WIDTH_OF_COUNT" 406 (vi 64 405), de P "plain_count" 416 (vr 173), de P "plain_signs" 425 (vr 180), de P "pattern_of" 433 (vr 187), de P "is_delayed" 440 (vr 194), de P "settled" 449 (vr 201), de P "OPENING" 453 (vs "(" 452), de P "CLOSING" 455 (vs ")" 454), de P "chars_end" 465 (vr 208), de P "len_end" 474 (vr 215), de P "pos_end" 482 (vr 222), de P "rpos_end" 491 (vr 229), de P "tab_end" 500 (vr 236), de P "rtab_end" 510 (vr 243), de P "rem_end" 517 (vr 250), de P "any_at" 526 (vr 257), de P "notany_at" 535 (vr 264), de P "run_end" 545 (vr 271), de P "span_end" 555 (vr 278), de P "break_end" 565 (vr 285), de P "bal_end" 574 (vr 292), de P "bal_ends" 584 (vr 299), de P "one_end" 594 (vr 306), de P "plain_end" 603 (vr 313), de P "LOST" 607 (vs "lost" 606), de P "match_plain" 619 (vr 320), de P "match_at" 630 (vr 327), de P "tried" 645 (vr 334), de P "advanced" 661 (vr 341), de P "led_in" 673 (vr 348), de P "led_out" 689 (vr 355), de P "steered" 701 (vr 362), de P "taken" 718 (vr 369), de P "PlainHost" 780 (vr 407), de P "give_names" 792 (vr 418), de P "three_pieces" 800 (vr 425), de P "spliced" 812 (vr 432), de P "replace_once" 826 (vr 439), de P "_law_put" 843 (vr 446), de P "_law_one_of" 852 (vr 453), de P "_law_orders" 858 (vr 458), de P "law" 864 (vr 463)] 65) #[]
noncomputable def ob6 (P : Params) : Obj := Obj.mk vn none (Data.fields #[vi 2 0, vi 0 0, vr 21, vi 8 0, vi 0 0, vr 43, vi 10 0, vi 0 0, vr 57, vi 14 0, vi 0 0, vr 78, vi 18 0, vi 0 0, vr 99, vi 24 0, vi 0 0, vr 120, vi 26 0, vi 0 0, vr 127, vi 28 0, vi 0 0, vr 134, vi 41 0, vi 0 0, vr 141, vi 47 0, vi 0 0, vr 148, vi 51 0, vi 0 0, vr 155, vi 55 0, vi 0 0, vr 162, vi 64 0, vi 0 0, vr 172, vi 71 0, vi 0 0, vr 179, vi 76 0, vi 0 0, vr 186, vi 85 0, vi 0 0, vr 193, vi 87 0, vi 0 0, vr 200, vi 99 0, vi 0 0, vr 207, vi 102 0, vi 0 0, vr 214, vi 104 0, vi 0 0, vr 221, vi 106 0, vi 0 0, vr 228, vi 108 0, vi 0 0, vr 235, vi 110 0, vi 0 0, vr 242, vi 113 0, vi 0 0, vr 249, vi 115 0, vi 0 0, vr 256, vi 117 0, vi 0 0, vr 263, vi 119 0, vi 0 0, vr 270, vi 123 0, vi 0 0, vr 277, vi 126 0, vi 0 0, vr 284, vi 129 0, vi 0 0, vr 291, vi 142 0, vi 0 0, vr 298, vi 148 0, vi 0 0, vr 305, vi 168 0, vi 0 0, vr 312, vi 172 0, vi 0 0, vr 319, vi 178 0, vi 0 0, vr 326, vi 181 0, vi 0 0, vr 333, vi 199 0, vi 0 0, vr 340, vi 214 0, vi 0 0, vr 347, vi 225 0, vi 0 0, vr 354, vi 232 0, vi 0 0, vr 361, vi 240 0, vi 0 0, vr 368, vi 257 0, vi 0 0, vr 375, vi 284 0, vi 0 0, vr 417, vi 287 0, vi 0 0, vr 424, vi 289 0, vi 0 0, vr 431, vi 292 0, vi 0 0, vr 438, vi 300 0, vi 0 0, vr 445, vi 308 0, vi 0 0, vr 452, vi 312 0, vi 0 0, vr 457, vi 316 0, vi 0 0, vr 462]) #[]
noncomputable def ob7 (P : Params) : Obj := Obj.mk (vt "tuple") none (Data.seq #[vt "Exception"]) #[]
noncomputable def ob8 (P : Params) : Obj := Obj.mk (vt "builtin_function_or_method") none (Data.fields #[vb "type.__prepare__", vt "type"]) #[]
noncomputable def ob9 (P : Params) : Obj := Obj.mk (vt "dict") none (Data.dict #[de P "__module__" 196 (vs "snobol.values" 187), de P "__qualname__" 198 (vs "SnobolError" 197), de P "__firstlineno__" 200 (vi 2 199), de P "__init__" 211 (vr 31), de P "__static_attributes__" 214 (vr 32), de P "__classcell__" 215 (vr 18)] 6) #[]
noncomputable def ob10 (P : Params) : Obj := Obj.mk (vt "cell") none (Data.cell (some (vr 34))) #[]
noncomputable def ob11 (P : Params) : Obj := Obj.mk vn none (Data.fields #[vi 4 0, vi 4 0, vr 30]) #[]
noncomputable def ob12 (P : Params) : Obj := Obj.mk (vt "code") none (Data.fields #[vs "SnobolError" 191, vs "SnobolError" 192, vs "/claim/cut.py" 193, vi 2 0, vi 0 0, vi 0 0, vi 0 0, vi 0 0, vr 19, Value.bool false, vi 181 0, vr 20, vn, vn, vn, vn, vi 194 0, vi 2 0, vs "/claim/cut.py" 195]) #[]
noncomputable def ob13 (P : Params) : Obj := Obj.mk (vt "frame") none Data.plain #[some (vr 21), some (vr 3), some (vr 17), none, some (vs "snobol.values" 187), none, some (vr 0)]
noncomputable def ob14 (P : Params) : Obj := Obj.mk (vt "tuple") none (Data.seq #[vs "" 201]) #[]
noncomputable def ob15 (P : Params) : Obj := Obj.mk (vt "tuple") none (Data.seq #[vr 18]) #[]
noncomputable def ob16 (P : Params) : Obj := Obj.mk (vt "tuple") none (Data.seq #[vs "__class__" 205]) #[]
noncomputable def ob17 (P : Params) : Obj := Obj.mk (vt "tuple") none (Data.seq #[vs "self" 206, vs "number" 207, vs "told" 208]) #[]
noncomputable def ob18 (P : Params) : Obj := Obj.mk vn none (Data.func (FuncData.mk "__init__" "SnobolError.__init__" (prm (f2 1 0)) (FuncBody.stmts (bdy (f2 1 0))) (scp (f2 1 0)) 0 [] vn vn vn vn none vn vn 0)) #[]
noncomputable def ob19 (P : Params) : Obj := Obj.mk (vt "code") none (Data.fields #[vs "__init__" 202, vs "SnobolError.__init__" 203, vs "/claim/cut.py" 204, vi 4 0, vi 3 0, vi 0 0, vi 0 0, vi 3 0, vr 25, Value.bool true, vi 181 0, vr 26, vn, vr 27, vr 28, vr 29, vi 209 0, vi 4 0, vs "/claim/cut.py" 210]) #[]
noncomputable def ob20 (P : Params) : Obj := Obj.mk (vt "function") none (Data.func (FuncData.mk "__init__" "SnobolError.__init__" (prm (f2 1 0)) (FuncBody.stmts (bdy (f2 1 0))) (scp (f2 1 0)) 3 [(Str.ofString "__class__", 18)] (vr 23) vn vn (vs "snobol.values" 187) none (vr 30) (vr 24) 0)) #[]
noncomputable def ob21 (P : Params) : Obj := Obj.mk (vt "tuple") none (Data.seq #[vs "number" 212, vs "told" 213]) #[]
noncomputable def ob22 (P : Params) : Obj := Obj.mk (vt "dict") none (Data.dict #[de P "__module__" 196 (vs "snobol.values" 187), de P "__firstlineno__" 200 (vi 2 199), de P "__init__" 211 (vr 31), de P "__static_attributes__" 214 (vr 32), de P "__weakref__" 217 (vr 35), de P "__doc__" 218 vn] 4) #[]
noncomputable def ob23 (P : Params) : Obj := Obj.mk (vt "type") none (Data.cls (ClassData.mk "SnobolError" [vt "Exception"] [vr 34, vt "Exception", vt "BaseException", vt "object"] 33 "SnobolError" true [] [] false none false)) #[some (vr 15), none, some (vs "SnobolError" 189), some (vs "SnobolError" 197), some (vb "Exception.__new__"), some (Value.bool true)]
noncomputable def ob24 (P : Params) : Obj := Obj.mk (vt "getset_descriptor") none (Data.fields #[vs "__weakref__" 216, vr 34, vb "ExceptionGroup.__weakref__", vn]) #[]
noncomputable def ob25 (P : Params) : Obj := Obj.mk (vt "super") none (Data.fields #[vr 34, vr 34, vr 34]) #[]
noncomputable def ob26 (P : Params) : Obj := Obj.mk (vt "builtin_function_or_method") none (Data.fields #[vb "object.__init_subclass__", vr 34]) #[]
noncomputable def ob27 (P : Params) : Obj := Obj.mk (vt "dict") none (Data.dict #[de P "__module__" 230 (vs "snobol.values" 187), de P "__qualname__" 232 (vs "Failure" 231), de P "__firstlineno__" 234 (vi 8 233), de P "__static_attributes__" 235 (vr 45)] 4) #[]
noncomputable def ob28 (P : Params) : Obj := Obj.mk (vt "code") none (Data.fields #[vs "Failure" 225, vs "Failure" 226, vs "/claim/cut.py" 227, vi 8 0, vi 0 0, vi 0 0, vi 0 0, vi 0 0, vr 41, Value.bool false, vi 181 0, vr 42, vn, vn, vn, vn, vi 228 0, vi 8 0, vs "/claim/cut.py" 229]) #[]
noncomputable def ob29 (P : Params) : Obj := Obj.mk (vt "frame") none Data.plain #[some (vr 43), some (vr 3), some (vr 40), none, some (vs "snobol.values" 187), none, some (vr 0)]
noncomputable def ob30 (P : Params) : Obj := Obj.mk (vt "dict") none (Data.dict #[de P "__module__" 230 (vs "snobol.values" 187), de P "__firstlineno__" 234 (vi 8 233), de P "__static_attributes__" 235 (vr 45), de P "__dict__" 237 (vr 48), de P "__weakref__" 239 (vr 49), de P "__doc__" 240 vn] 4) #[]
noncomputable def ob31 (P : Params) : Obj := Obj.mk (vt "type") none (Data.cls (ClassData.mk "Failure" [vt "object"] [vr 47, vt "object"] 46 "Failure" true [] [] false none false)) #[none, none, some (vs "Failure" 223), some (vs "Failure" 231), some (vb "object.__new__"), some (Value.bool true)]
noncomputable def ob32 (P : Params) : Obj := Obj.mk (vt "getset_descriptor") none (Data.fields #[vs "__dict__" 236, vr 47, vb "function.__dict__", vb "function.__dict__#set"]) #[]
noncomputable def ob33 (P : Params) : Obj := Obj.mk (vt "getset_descriptor") none (Data.fields #[vs "__weakref__" 238, vr 47, vb "ExceptionGroup.__weakref__", vn]) #[]
noncomputable def ob34 (P : Params) : Obj := Obj.mk (vt "super") none (Data.fields #[vr 47, vr 47, vr 47]) #[]
noncomputable def ob35 (P : Params) : Obj := Obj.mk (vt "builtin_function_or_method") none (Data.fields #[vb "object.__init_subclass__", vr 47]) #[]
noncomputable def ob36 (P : Params) : Obj := Obj.mk (vt "dict") none (Data.dict #[de P "__module__" 250 (vs "snobol.values" 187), de P "__qualname__" 252 (vs "Pattern" 251), de P "__firstlineno__" 254 (vi 10 253), de P "__init__" 262 (vr 65), de P "__static_attributes__" 264 (vr 66)] 5) #[]
noncomputable def ob37 (P : Params) : Obj := Obj.mk vn none (Data.fields #[vi 12 0, vi 4 0, vr 64]) #[]
noncomputable def ob38 (P : Params) : Obj := Obj.mk (vt "code") none (Data.fields #[vs "Pattern" 245, vs "Pattern" 246, vs "/claim/cut.py" 247, vi 10 0, vi 0 0, vi 0 0, vi 0 0, vi 0 0, vr 55, Value.bool false, vi 181 0, vr 56, vn, vn, vn, vn, vi 248 0, vi 10 0, vs "/claim/cut.py" 249]) #[]
noncomputable def ob39 (P : Params) : Obj := Obj.mk (vt "frame") none Data.plain #[some (vr 57), some (vr 3), some (vr 54), none, some (vs "snobol.values" 187), none, some (vr 0)]
noncomputable def ob40 (P : Params) : Obj := Obj.mk (vt "tuple") none (Data.seq #[vs "self" 258, vs "node" 259]) #[]
noncomputable def ob41 (P : Params) : Obj := Obj.mk vn none (Data.func (FuncData.mk "__init__" "Pattern.__init__" (prm (f2 3 0)) (FuncBody.stmts (bdy (f2 3 0))) (scp (f2 3 0)) 0 [] vn vn vn vn none vn vn 0)) #[]
noncomputable def ob42 (P : Params) : Obj := Obj.mk (vt "code") none (Data.fields #[vs "__init__" 255, vs "Pattern.__init__" 256, vs "/claim/cut.py" 257, vi 12 0, vi 2 0, vi 0 0, vi 0 0, vi 3 0, vr 59, Value.bool true, vi 181 0, vr 60, vn, vr 61, vr 62, vr 63, vi 260 0, vi 12 0, vs "/claim/cut.py" 261]) #[]
noncomputable def ob43 (P : Params) : Obj := Obj.mk (vt "function") none (Data.func (FuncData.mk "__init__" "Pattern.__init__" (prm (f2 3 0)) (FuncBody.stmts (bdy (f2 3 0))) (scp (f2 3 0)) 3 [] vn vn vn (vs "snobol.values" 187) none (vr 64) vn 0)) #[]
noncomputable def ob44 (P : Params) : Obj := Obj.mk (vt "tuple") none (Data.seq #[vs "node" 263]) #[]
noncomputable def ob45 (P : Params) : Obj := Obj.mk (vt "dict") none (Data.dict #[de P "__module__" 250 (vs "snobol.values" 187), de P "__firstlineno__" 254 (vi 10 253), de P "__init__" 262 (vr 65), de P "__static_attributes__" 264 (vr 66), de P "__dict__" 266 (vr 69), de P "__weakref__" 268 (vr 70), de P "__doc__" 269 vn] 4) #[]
noncomputable def ob46 (P : Params) : Obj := Obj.mk (vt "type") none (Data.cls (ClassData.mk "Pattern" [vt "object"] [vr 68, vt "object"] 67 "Pattern" true [] [] false none false)) #[none, none, some (vs "Pattern" 243), some (vs "Pattern" 251), some (vb "object.__new__"), some (Value.bool true)]
noncomputable def ob47 (P : Params) : Obj := Obj.mk (vt "getset_descriptor") none (Data.fields #[vs "__dict__" 265, vr 68, vb "function.__dict__", vb "function.__dict__#set"]) #[]
noncomputable def ob48 (P : Params) : Obj := Obj.mk (vt "getset_descriptor") none (Data.fields #[vs "__weakref__" 267, vr 68, vb "ExceptionGroup.__weakref__", vn]) #[]
noncomputable def ob49 (P : Params) : Obj := Obj.mk (vt "super") none (Data.fields #[vr 68, vr 68, vr 68]) #[]
noncomputable def ob50 (P : Params) : Obj := Obj.mk (vt "builtin_function_or_method") none (Data.fields #[vb "object.__init_subclass__", vr 68]) #[]
noncomputable def ob51 (P : Params) : Obj := Obj.mk (vt "dict") none (Data.dict #[de P "__module__" 279 (vs "snobol.values" 187), de P "__qualname__" 281 (vs "Delayed" 280), de P "__firstlineno__" 283 (vi 14 282), de P "__init__" 291 (vr 86), de P "__static_attributes__" 293 (vr 87)] 5) #[]
noncomputable def ob52 (P : Params) : Obj := Obj.mk vn none (Data.fields #[vi 16 0, vi 4 0, vr 85]) #[]
noncomputable def ob53 (P : Params) : Obj := Obj.mk (vt "code") none (Data.fields #[vs "Delayed" 274, vs "Delayed" 275, vs "/claim/cut.py" 276, vi 14 0, vi 0 0, vi 0 0, vi 0 0, vi 0 0, vr 76, Value.bool false, vi 181 0, vr 77, vn, vn, vn, vn, vi 277 0, vi 14 0, vs "/claim/cut.py" 278]) #[]
noncomputable def ob54 (P : Params) : Obj := Obj.mk (vt "frame") none Data.plain #[some (vr 78), some (vr 3), some (vr 75), none, some (vs "snobol.values" 187), none, some (vr 0)]
noncomputable def ob55 (P : Params) : Obj := Obj.mk (vt "tuple") none (Data.seq #[vs "self" 287, vs "tree" 288]) #[]
noncomputable def ob56 (P : Params) : Obj := Obj.mk vn none (Data.func (FuncData.mk "__init__" "Delayed.__init__" (prm (f2 4 0)) (FuncBody.stmts (bdy (f2 4 0))) (scp (f2 4 0)) 0 [] vn vn vn vn none vn vn 0)) #[]
noncomputable def ob57 (P : Params) : Obj := Obj.mk (vt "code") none (Data.fields #[vs "__init__" 284, vs "Delayed.__init__" 285, vs "/claim/cut.py" 286, vi 16 0, vi 2 0, vi 0 0, vi 0 0, vi 3 0, vr 80, Value.bool true, vi 181 0, vr 81, vn, vr 82, vr 83, vr 84, vi 289 0, vi 16 0, vs "/claim/cut.py" 290]) #[]
noncomputable def ob58 (P : Params) : Obj := Obj.mk (vt "function") none (Data.func (FuncData.mk "__init__" "Delayed.__init__" (prm (f2 4 0)) (FuncBody.stmts (bdy (f2 4 0))) (scp (f2 4 0)) 3 [] vn vn vn (vs "snobol.values" 187) none (vr 85) vn 0)) #[]
noncomputable def ob59 (P : Params) : Obj := Obj.mk (vt "tuple") none (Data.seq #[vs "tree" 292]) #[]
noncomputable def ob60 (P : Params) : Obj := Obj.mk (vt "dict") none (Data.dict #[de P "__module__" 279 (vs "snobol.values" 187), de P "__firstlineno__" 283 (vi 14 282), de P "__init__" 291 (vr 86), de P "__static_attributes__" 293 (vr 87), de P "__dict__" 295 (vr 90), de P "__weakref__" 297 (vr 91), de P "__doc__" 298 vn] 4) #[]
noncomputable def ob61 (P : Params) : Obj := Obj.mk (vt "type") none (Data.cls (ClassData.mk "Delayed" [vt "object"] [vr 89, vt "object"] 88 "Delayed" true [] [] false none false)) #[none, none, some (vs "Delayed" 272), some (vs "Delayed" 280), some (vb "object.__new__"), some (Value.bool true)]
noncomputable def ob62 (P : Params) : Obj := Obj.mk (vt "getset_descriptor") none (Data.fields #[vs "__dict__" 294, vr 89, vb "function.__dict__", vb "function.__dict__#set"]) #[]
noncomputable def ob63 (P : Params) : Obj := Obj.mk (vt "getset_descriptor") none (Data.fields #[vs "__weakref__" 296, vr 89, vb "ExceptionGroup.__weakref__", vn]) #[]
noncomputable def ob64 (P : Params) : Obj := Obj.mk (vt "super") none (Data.fields #[vr 89, vr 89, vr 89]) #[]
noncomputable def ob65 (P : Params) : Obj := Obj.mk (vt "builtin_function_or_method") none (Data.fields #[vb "object.__init_subclass__", vr 89]) #[]
noncomputable def ob66 (P : Params) : Obj := Obj.mk (vt "dict") none (Data.dict #[de P "__module__" 308 (vs "snobol.values" 187), de P "__qualname__" 310 (vs "NameRef" 309), de P "__firstlineno__" 312 (vi 18 311), de P "__init__" 322 (vr 107), de P "__static_attributes__" 326 (vr 108)] 5) #[]
noncomputable def ob67 (P : Params) : Obj := Obj.mk vn none (Data.fields #[vi 20 0, vi 4 0, vr 106]) #[]
noncomputable def ob68 (P : Params) : Obj := Obj.mk (vt "code") none (Data.fields #[vs "NameRef" 303, vs "NameRef" 304, vs "/claim/cut.py" 305, vi 18 0, vi 0 0, vi 0 0, vi 0 0, vi 0 0, vr 97, Value.bool false, vi 181 0, vr 98, vn, vn, vn, vn, vi 306 0, vi 18 0, vs "/claim/cut.py" 307]) #[]
noncomputable def ob69 (P : Params) : Obj := Obj.mk (vt "frame") none Data.plain #[some (vr 99), some (vr 3), some (vr 96), none, some (vs "snobol.values" 187), none, some (vr 0)]
noncomputable def ob70 (P : Params) : Obj := Obj.mk (vt "tuple") none (Data.seq #[vs "self" 316, vs "kind" 317, vs "owner" 318, vs "key" 319]) #[]
noncomputable def ob71 (P : Params) : Obj := Obj.mk vn none (Data.func (FuncData.mk "__init__" "NameRef.__init__" (prm (f2 5 0)) (FuncBody.stmts (bdy (f2 5 0))) (scp (f2 5 0)) 0 [] vn vn vn vn none vn vn 0)) #[]
noncomputable def ob72 (P : Params) : Obj := Obj.mk (vt "code") none (Data.fields #[vs "__init__" 313, vs "NameRef.__init__" 314, vs "/claim/cut.py" 315, vi 20 0, vi 4 0, vi 0 0, vi 0 0, vi 3 0, vr 101, Value.bool true, vi 181 0, vr 102, vn, vr 103, vr 104, vr 105, vi 320 0, vi 20 0, vs "/claim/cut.py" 321]) #[]
noncomputable def ob73 (P : Params) : Obj := Obj.mk (vt "function") none (Data.func (FuncData.mk "__init__" "NameRef.__init__" (prm (f2 5 0)) (FuncBody.stmts (bdy (f2 5 0))) (scp (f2 5 0)) 3 [] vn vn vn (vs "snobol.values" 187) none (vr 106) vn 0)) #[]
noncomputable def ob74 (P : Params) : Obj := Obj.mk (vt "tuple") none (Data.seq #[vs "key" 323, vs "kind" 324, vs "owner" 325]) #[]
noncomputable def ob75 (P : Params) : Obj := Obj.mk (vt "dict") none (Data.dict #[de P "__module__" 308 (vs "snobol.values" 187), de P "__firstlineno__" 312 (vi 18 311), de P "__init__" 322 (vr 107), de P "__static_attributes__" 326 (vr 108), de P "__dict__" 328 (vr 111), de P "__weakref__" 330 (vr 112), de P "__doc__" 331 vn] 4) #[]
noncomputable def ob76 (P : Params) : Obj := Obj.mk (vt "type") none (Data.cls (ClassData.mk "NameRef" [vt "object"] [vr 110, vt "object"] 109 "NameRef" true [] [] false none false)) #[none, none, some (vs "NameRef" 301), some (vs "NameRef" 309), some (vb "object.__new__"), some (Value.bool true)]
noncomputable def ob77 (P : Params) : Obj := Obj.mk (vt "getset_descriptor") none (Data.fields #[vs "__dict__" 327, vr 110, vb "function.__dict__", vb "function.__dict__#set"]) #[]
noncomputable def ob78 (P : Params) : Obj := Obj.mk (vt "getset_descriptor") none (Data.fields #[vs "__weakref__" 329, vr 110, vb "ExceptionGroup.__weakref__", vn]) #[]
noncomputable def ob79 (P : Params) : Obj := Obj.mk (vt "super") none (Data.fields #[vr 110, vr 110, vr 110]) #[]
noncomputable def ob80 (P : Params) : Obj := Obj.mk (vt "builtin_function_or_method") none (Data.fields #[vb "object.__init_subclass__", vr 110]) #[]
noncomputable def ob81 (P : Params) : Obj := Obj.mk (vt "tuple") none (Data.seq #[vs "value" 337]) #[]
noncomputable def ob82 (P : Params) : Obj := Obj.mk vn none (Data.func (FuncData.mk "is_fail" "is_fail" (prm (f1 6)) (FuncBody.stmts (bdy (f1 6))) (scp (f1 6)) 0 [] vn vn vn vn none vn vn 0)) #[]
noncomputable def ob83 (P : Params) : Obj := Obj.mk (vt "code") none (Data.fields #[vs "is_fail" 334, vs "is_fail" 335, vs "/claim/cut.py" 336, vi 24 0, vi 1 0, vi 0 0, vi 0 0, vi 3 0, vr 115, Value.bool true, vi 181 0, vr 116, vn, vr 117, vr 118, vr 119, vi 338 0, vi 24 0, vs "/claim/cut.py" 339]) #[]
noncomputable def ob84 (P : Params) : Obj := Obj.mk (vt "function") none (Data.func (FuncData.mk "is_fail" "is_fail" (prm (f1 6)) (FuncBody.stmts (bdy (f1 6))) (scp (f1 6)) 3 [] vn vn vn (vs "snobol.values" 187) none (vr 120) vn 0)) #[]
noncomputable def ob85 (P : Params) : Obj := Obj.mk (vt "tuple") none (Data.seq #[vs "number" 344, vs "width" 345]) #[]
noncomputable def ob86 (P : Params) : Obj := Obj.mk vn none (Data.func (FuncData.mk "fits" "fits" (prm (f1 7)) (FuncBody.stmts (bdy (f1 7))) (scp (f1 7)) 0 [] vn vn vn vn none vn vn 0)) #[]
noncomputable def ob87 (P : Params) : Obj := Obj.mk (vt "code") none (Data.fields #[vs "fits" 341, vs "fits" 342, vs "/claim/cut.py" 343, vi 26 0, vi 2 0, vi 0 0, vi 0 0, vi 3 0, vr 122, Value.bool true, vi 181 0, vr 123, vn, vr 124, vr 125, vr 126, vi 346 0, vi 26 0, vs "/claim/cut.py" 347]) #[]
noncomputable def ob88 (P : Params) : Obj := Obj.mk (vt "function") none (Data.func (FuncData.mk "fits" "fits" (prm (f1 7)) (FuncBody.stmts (bdy (f1 7))) (scp (f1 7)) 3 [] vn vn vn (vs "snobol.values" 187) none (vr 127) vn 0)) #[]
noncomputable def ob89 (P : Params) : Obj := Obj.mk (vt "tuple") none (Data.seq #[vs "text" 352, vs "width" 353, vs "digits" 354, vs "number" 355, vs "sign" 356]) #[]
noncomputable def ob90 (P : Params) : Obj := Obj.mk vn none (Data.func (FuncData.mk "whole_of_text" "whole_of_text" (prm (f1 8)) (FuncBody.stmts (bdy (f1 8))) (scp (f1 8)) 0 [] vn vn vn vn none vn vn 0)) #[]
noncomputable def ob91 (P : Params) : Obj := Obj.mk (vt "code") none (Data.fields #[vs "whole_of_text" 349, vs "whole_of_text" 350, vs "/claim/cut.py" 351, vi 28 0, vi 2 0, vi 0 0, vi 0 0, vi 3 0, vr 129, Value.bool true, vi 181 0, vr 130, vn, vr 131, vr 132, vr 133, vi 357 0, vi 28 0, vs "/claim/cut.py" 358]) #[]
noncomputable def ob92 (P : Params) : Obj := Obj.mk (vt "function") none (Data.func (FuncData.mk "whole_of_text" "whole_of_text" (prm (f1 8)) (FuncBody.stmts (bdy (f1 8))) (scp (f1 8)) 3 [] vn vn vn (vs "snobol.values" 187) none (vr 134) vn 0)) #[]
noncomputable def ob93 (P : Params) : Obj := Obj.mk (vt "tuple") none (Data.seq #[vs "number" 363, vs "left" 364, vs "found" 365]) #[]
noncomputable def ob94 (P : Params) : Obj := Obj.mk vn none (Data.func (FuncData.mk "text_of_whole" "text_of_whole" (prm (f1 9)) (FuncBody.stmts (bdy (f1 9))) (scp (f1 9)) 0 [] vn vn vn vn none vn vn 0)) #[]
noncomputable def ob95 (P : Params) : Obj := Obj.mk (vt "code") none (Data.fields #[vs "text_of_whole" 360, vs "text_of_whole" 361, vs "/claim/cut.py" 362, vi 41 0, vi 1 0, vi 0 0, vi 0 0, vi 3 0, vr 136, Value.bool true, vi 181 0, vr 137, vn, vr 138, vr 139, vr 140, vi 366 0, vi 41 0, vs "/claim/cut.py" 367]) #[]
noncomputable def ob96 (P : Params) : Obj := Obj.mk (vt "function") none (Data.func (FuncData.mk "text_of_whole" "text_of_whole" (prm (f1 9)) (FuncBody.stmts (bdy (f1 9))) (scp (f1 9)) 3 [] vn vn vn (vs "snobol.values" 187) none (vr 141) vn 0)) #[]
noncomputable def ob97 (P : Params) : Obj := Obj.mk (vt "tuple") none (Data.seq #[vs "value" 372, vs "width" 373]) #[]
noncomputable def ob98 (P : Params) : Obj := Obj.mk vn none (Data.func (FuncData.mk "to_whole" "to_whole" (prm (f1 10)) (FuncBody.stmts (bdy (f1 10))) (scp (f1 10)) 0 [] vn vn vn vn none vn vn 0)) #[]
noncomputable def ob99 (P : Params) : Obj := Obj.mk (vt "code") none (Data.fields #[vs "to_whole" 369, vs "to_whole" 370, vs "/claim/cut.py" 371, vi 47 0, vi 2 0, vi 0 0, vi 0 0, vi 3 0, vr 143, Value.bool true, vi 181 0, vr 144, vn, vr 145, vr 146, vr 147, vi 374 0, vi 47 0, vs "/claim/cut.py" 375]) #[]
noncomputable def ob100 (P : Params) : Obj := Obj.mk (vt "function") none (Data.func (FuncData.mk "to_whole" "to_whole" (prm (f1 10)) (FuncBody.stmts (bdy (f1 10))) (scp (f1 10)) 3 [] vn vn vn (vs "snobol.values" 187) none (vr 148) vn 0)) #[]
noncomputable def ob101 (P : Params) : Obj := Obj.mk (vt "tuple") none (Data.seq #[vs "value" 380]) #[]
noncomputable def ob102 (P : Params) : Obj := Obj.mk vn none (Data.func (FuncData.mk "to_text" "to_text" (prm (f1 11)) (FuncBody.stmts (bdy (f1 11))) (scp (f1 11)) 0 [] vn vn vn vn none vn vn 0)) #[]
noncomputable def ob103 (P : Params) : Obj := Obj.mk (vt "code") none (Data.fields #[vs "to_text" 377, vs "to_text" 378, vs "/claim/cut.py" 379, vi 51 0, vi 1 0, vi 0 0, vi 0 0, vi 3 0, vr 150, Value.bool true, vi 181 0, vr 151, vn, vr 152, vr 153, vr 154, vi 381 0, vi 51 0, vs "/claim/cut.py" 382]) #[]
noncomputable def ob104 (P : Params) : Obj := Obj.mk (vt "function") none (Data.func (FuncData.mk "to_text" "to_text" (prm (f1 11)) (FuncBody.stmts (bdy (f1 11))) (scp (f1 11)) 3 [] vn vn vn (vs "snobol.values" 187) none (vr 155) vn 0)) #[]
noncomputable def ob105 (P : Params) : Obj := Obj.mk (vt "tuple") none (Data.seq #[vs "value" 387, vs "text" 388]) #[]
noncomputable def ob106 (P : Params) : Obj := Obj.mk vn none (Data.func (FuncData.mk "need_text" "need_text" (prm (f1 12)) (FuncBody.stmts (bdy (f1 12))) (scp (f1 12)) 0 [] vn vn vn vn none vn vn 0)) #[]
noncomputable def ob107 (P : Params) : Obj := Obj.mk (vt "code") none (Data.fields #[vs "need_text" 384, vs "need_text" 385, vs "/claim/cut.py" 386, vi 55 0, vi 1 0, vi 0 0, vi 0 0, vi 3 0, vr 157, Value.bool true, vi 181 0, vr 158, vn, vr 159, vr 160, vr 161, vi 389 0, vi 55 0, vs "/claim/cut.py" 390]) #[]
noncomputable def ob108 (P : Params) : Obj := Obj.mk (vt "function") none (Data.func (FuncData.mk "need_text" "need_text" (prm (f1 12)) (FuncBody.stmts (bdy (f1 12))) (scp (f1 12)) 3 [] vn vn vn (vs "snobol.values" 187) none (vr 162) vn 0)) #[]
noncomputable def ob109 (P : Params) : Obj := Obj.mk (vt "tuple") none (Data.seq #[vs "len" 394, vs "pos" 395, vs "rpos" 396, vs "tab" 397, vs "rtab" 398]) #[]
noncomputable def ob110 (P : Params) : Obj := Obj.mk (vt "tuple") none (Data.seq #[vs "any" 400, vs "notany" 401, vs "span" 402, vs "break" 403]) #[]
noncomputable def ob111 (P : Params) : Obj := Obj.mk (vt "tuple") none (Data.seq #[vi 64 405]) #[]
noncomputable def ob112 (P : Params) : Obj := Obj.mk (vt "tuple") none (Data.seq #[vs "value" 410, vs "kind" 411, vs "width" 412, vs "count" 413]) #[]
noncomputable def ob113 (P : Params) : Obj := Obj.mk vn none (Data.func (FuncData.mk "plain_count" "plain_count" (prm (f1 17)) (FuncBody.stmts (bdy (f1 17))) (scp (f1 17)) 0 [] vn vn vn vn none vn vn 0)) #[]
noncomputable def ob114 (P : Params) : Obj := Obj.mk (vt "code") none (Data.fields #[vs "plain_count" 407, vs "plain_count" 408, vs "/claim/cut.py" 409, vi 64 0, vi 3 0, vi 0 0, vi 0 0, vi 3 0, vr 167, Value.bool true, vi 181 0, vr 168, vn, vr 169, vr 170, vr 171, vi 414 0, vi 64 0, vs "/claim/cut.py" 415]) #[]
noncomputable def ob115 (P : Params) : Obj := Obj.mk (vt "function") none (Data.func (FuncData.mk "plain_count" "plain_count" (prm (f1 17)) (FuncBody.stmts (bdy (f1 17))) (scp (f1 17)) 3 [] (vr 166) vn vn (vs "snobol.nodes" 392) none (vr 172) vn 0)) #[]
noncomputable def ob116 (P : Params) : Obj := Obj.mk (vt "tuple") none (Data.seq #[vs "value" 420, vs "kind" 421, vs "text" 422]) #[]
noncomputable def ob117 (P : Params) : Obj := Obj.mk vn none (Data.func (FuncData.mk "plain_signs" "plain_signs" (prm (f1 18)) (FuncBody.stmts (bdy (f1 18))) (scp (f1 18)) 0 [] vn vn vn vn none vn vn 0)) #[]
noncomputable def ob118 (P : Params) : Obj := Obj.mk (vt "code") none (Data.fields #[vs "plain_signs" 417, vs "plain_signs" 418, vs "/claim/cut.py" 419, vi 71 0, vi 2 0, vi 0 0, vi 0 0, vi 3 0, vr 174, Value.bool true, vi 181 0, vr 175, vn, vr 176, vr 177, vr 178, vi 423 0, vi 71 0, vs "/claim/cut.py" 424]) #[]
noncomputable def ob119 (P : Params) : Obj := Obj.mk (vt "function") none (Data.func (FuncData.mk "plain_signs" "plain_signs" (prm (f1 18)) (FuncBody.stmts (bdy (f1 18))) (scp (f1 18)) 3 [] vn vn vn (vs "snobol.nodes" 392) none (vr 179) vn 0)) #[]
noncomputable def ob120 (P : Params) : Obj := Obj.mk (vt "tuple") none (Data.seq #[vs "value" 429, vs "text" 430]) #[]
noncomputable def ob121 (P : Params) : Obj := Obj.mk vn none (Data.func (FuncData.mk "pattern_of" "pattern_of" (prm (f1 19)) (FuncBody.stmts (bdy (f1 19))) (scp (f1 19)) 0 [] vn vn vn vn none vn vn 0)) #[]
noncomputable def ob122 (P : Params) : Obj := Obj.mk (vt "code") none (Data.fields #[vs "pattern_of" 426, vs "pattern_of" 427, vs "/claim/cut.py" 428, vi 76 0, vi 1 0, vi 0 0, vi 0 0, vi 3 0, vr 181, Value.bool true, vi 181 0, vr 182, vn, vr 183, vr 184, vr 185, vi 431 0, vi 76 0, vs "/claim/cut.py" 432]) #[]
noncomputable def ob123 (P : Params) : Obj := Obj.mk (vt "function") none (Data.func (FuncData.mk "pattern_of" "pattern_of" (prm (f1 19)) (FuncBody.stmts (bdy (f1 19))) (scp (f1 19)) 3 [] vn vn vn (vs "snobol.nodes" 392) none (vr 186) vn 0)) #[]
noncomputable def ob124 (P : Params) : Obj := Obj.mk (vt "tuple") none (Data.seq #[vs "told" 437]) #[]
noncomputable def ob125 (P : Params) : Obj := Obj.mk vn none (Data.func (FuncData.mk "is_delayed" "is_delayed" (prm (f1 20)) (FuncBody.stmts (bdy (f1 20))) (scp (f1 20)) 0 [] vn vn vn vn none vn vn 0)) #[]
noncomputable def ob126 (P : Params) : Obj := Obj.mk (vt "code") none (Data.fields #[vs "is_delayed" 434, vs "is_delayed" 435, vs "/claim/cut.py" 436, vi 85 0, vi 1 0, vi 0 0, vi 0 0, vi 3 0, vr 188, Value.bool true, vi 181 0, vr 189, vn, vr 190, vr 191, vr 192, vi 438 0, vi 85 0, vs "/claim/cut.py" 439]) #[]
noncomputable def ob127 (P : Params) : Obj := Obj.mk (vt "function") none (Data.func (FuncData.mk "is_delayed" "is_delayed" (prm (f1 20)) (FuncBody.stmts (bdy (f1 20))) (scp (f1 20)) 3 [] vn vn vn (vs "snobol.nodes" 392) none (vr 193) vn 0)) #[]
noncomputable def ob128 (P : Params) : Obj := Obj.mk (vt "tuple") none (Data.seq #[vs "node" 444, vs "host" 445, vs "value" 446]) #[]
noncomputable def ob129 (P : Params) : Obj := Obj.mk vn none (Data.func (FuncData.mk "settled" "settled" (prm (f1 21)) (FuncBody.stmts (bdy (f1 21))) (scp (f1 21)) 0 [] vn vn vn vn none vn vn 0)) #[]
noncomputable def ob130 (P : Params) : Obj := Obj.mk (vt "code") none (Data.fields #[vs "settled" 441, vs "settled" 442, vs "/claim/cut.py" 443, vi 87 0, vi 2 0, vi 0 0, vi 0 0, vi 3 0, vr 195, Value.bool true, vi 181 0, vr 196, vn, vr 197, vr 198, vr 199, vi 447 0, vi 87 0, vs "/claim/cut.py" 448]) #[]
noncomputable def ob131 (P : Params) : Obj := Obj.mk (vt "function") none (Data.func (FuncData.mk "settled" "settled" (prm (f1 21)) (FuncBody.stmts (bdy (f1 21))) (scp (f1 21)) 3 [] vn vn vn (vs "snobol.nodes" 392) none (vr 200) vn 0)) #[]
noncomputable def ob132 (P : Params) : Obj := Obj.mk (vt "tuple") none (Data.seq #[vs "subject" 459, vs "at" 460, vs "text" 461, vs "end" 462]) #[]
noncomputable def ob133 (P : Params) : Obj := Obj.mk vn none (Data.func (FuncData.mk "chars_end" "chars_end" (prm (f1 25)) (FuncBody.stmts (bdy (f1 25))) (scp (f1 25)) 0 [] vn vn vn vn none vn vn 0)) #[]
noncomputable def ob134 (P : Params) : Obj := Obj.mk (vt "code") none (Data.fields #[vs "chars_end" 456, vs "chars_end" 457, vs "/claim/cut.py" 458, vi 99 0, vi 3 0, vi 0 0, vi 0 0, vi 3 0, vr 202, Value.bool true, vi 181 0, vr 203, vn, vr 204, vr 205, vr 206, vi 463 0, vi 99 0, vs "/claim/cut.py" 464]) #[]
noncomputable def ob135 (P : Params) : Obj := Obj.mk (vt "function") none (Data.func (FuncData.mk "chars_end" "chars_end" (prm (f1 25)) (FuncBody.stmts (bdy (f1 25))) (scp (f1 25)) 3 [] vn vn vn (vs "snobol.primitives" 450) none (vr 207) vn 0)) #[]
noncomputable def ob136 (P : Params) : Obj := Obj.mk (vt "tuple") none (Data.seq #[vs "subject" 469, vs "at" 470, vs "many" 471]) #[]
noncomputable def ob137 (P : Params) : Obj := Obj.mk vn none (Data.func (FuncData.mk "len_end" "len_end" (prm (f1 26)) (FuncBody.stmts (bdy (f1 26))) (scp (f1 26)) 0 [] vn vn vn vn none vn vn 0)) #[]
noncomputable def ob138 (P : Params) : Obj := Obj.mk (vt "code") none (Data.fields #[vs "len_end" 466, vs "len_end" 467, vs "/claim/cut.py" 468, vi 102 0, vi 3 0, vi 0 0, vi 0 0, vi 3 0, vr 209, Value.bool true, vi 181 0, vr 210, vn, vr 211, vr 212, vr 213, vi 472 0, vi 102 0, vs "/claim/cut.py" 473]) #[]
noncomputable def ob139 (P : Params) : Obj := Obj.mk (vt "function") none (Data.func (FuncData.mk "len_end" "len_end" (prm (f1 26)) (FuncBody.stmts (bdy (f1 26))) (scp (f1 26)) 3 [] vn vn vn (vs "snobol.primitives" 450) none (vr 214) vn 0)) #[]
noncomputable def ob140 (P : Params) : Obj := Obj.mk (vt "tuple") none (Data.seq #[vs "at" 478, vs "place" 479]) #[]
noncomputable def ob141 (P : Params) : Obj := Obj.mk vn none (Data.func (FuncData.mk "pos_end" "pos_end" (prm (f1 27)) (FuncBody.stmts (bdy (f1 27))) (scp (f1 27)) 0 [] vn vn vn vn none vn vn 0)) #[]
noncomputable def ob142 (P : Params) : Obj := Obj.mk (vt "code") none (Data.fields #[vs "pos_end" 475, vs "pos_end" 476, vs "/claim/cut.py" 477, vi 104 0, vi 2 0, vi 0 0, vi 0 0, vi 3 0, vr 216, Value.bool true, vi 181 0, vr 217, vn, vr 218, vr 219, vr 220, vi 480 0, vi 104 0, vs "/claim/cut.py" 481]) #[]
noncomputable def ob143 (P : Params) : Obj := Obj.mk (vt "function") none (Data.func (FuncData.mk "pos_end" "pos_end" (prm (f1 27)) (FuncBody.stmts (bdy (f1 27))) (scp (f1 27)) 3 [] vn vn vn (vs "snobol.primitives" 450) none (vr 221) vn 0)) #[]
noncomputable def ob144 (P : Params) : Obj := Obj.mk (vt "tuple") none (Data.seq #[vs "subject" 486, vs "at" 487, vs "place" 488]) #[]
noncomputable def ob145 (P : Params) : Obj := Obj.mk vn none (Data.func (FuncData.mk "rpos_end" "rpos_end" (prm (f1 28)) (FuncBody.stmts (bdy (f1 28))) (scp (f1 29)) 0 [] vn vn vn vn none vn vn 0)) #[]
noncomputable def ob146 (P : Params) : Obj := Obj.mk (vt "code") none (Data.fields #[vs "rpos_end" 483, vs "rpos_end" 484, vs "/claim/cut.py" 485, vi 106 0, vi 3 0, vi 0 0, vi 0 0, vi 3 0, vr 223, Value.bool true, vi 181 0, vr 224, vn, vr 225, vr 226, vr 227, vi 489 0, vi 106 0, vs "/claim/cut.py" 490]) #[]
noncomputable def ob147 (P : Params) : Obj := Obj.mk (vt "function") none (Data.func (FuncData.mk "rpos_end" "rpos_end" (prm (f1 28)) (FuncBody.stmts (bdy (f1 28))) (scp (f1 29)) 3 [] vn vn vn (vs "snobol.primitives" 450) none (vr 228) vn 0)) #[]
noncomputable def ob148 (P : Params) : Obj := Obj.mk (vt "tuple") none (Data.seq #[vs "subject" 495, vs "at" 496, vs "place" 497]) #[]
noncomputable def ob149 (P : Params) : Obj := Obj.mk vn none (Data.func (FuncData.mk "tab_end" "tab_end" (prm (f1 29)) (FuncBody.stmts (bdy (f1 29))) (scp (f1 29)) 0 [] vn vn vn vn none vn vn 0)) #[]
noncomputable def ob150 (P : Params) : Obj := Obj.mk (vt "code") none (Data.fields #[vs "tab_end" 492, vs "tab_end" 493, vs "/claim/cut.py" 494, vi 108 0, vi 3 0, vi 0 0, vi 0 0, vi 3 0, vr 230, Value.bool true, vi 181 0, vr 231, vn, vr 232, vr 233, vr 234, vi 498 0, vi 108 0, vs "/claim/cut.py" 499]) #[]
noncomputable def ob151 (P : Params) : Obj := Obj.mk (vt "function") none (Data.func (FuncData.mk "tab_end" "tab_end" (prm (f1 29)) (FuncBody.stmts (bdy (f1 29))) (scp (f1 29)) 3 [] vn vn vn (vs "snobol.primitives" 450) none (vr 235) vn 0)) #[]
noncomputable def ob152 (P : Params) : Obj := Obj.mk (vt "tuple") none (Data.seq #[vs "subject" 504, vs "at" 505, vs "place" 506, vs "goal" 507]) #[]
noncomputable def ob153 (P : Params) : Obj := Obj.mk vn none (Data.func (FuncData.mk "rtab_end" "rtab_end" (prm (f1 30)) (FuncBody.stmts (bdy (f1 30))) (scp (f1 30)) 0 [] vn vn vn vn none vn vn 0)) #[]
noncomputable def ob154 (P : Params) : Obj := Obj.mk (vt "code") none (Data.fields #[vs "rtab_end" 501, vs "rtab_end" 502, vs "/claim/cut.py" 503, vi 110 0, vi 3 0, vi 0 0, vi 0 0, vi 3 0, vr 237, Value.bool true, vi 181 0, vr 238, vn, vr 239, vr 240, vr 241, vi 508 0, vi 110 0, vs "/claim/cut.py" 509]) #[]
noncomputable def ob155 (P : Params) : Obj := Obj.mk (vt "function") none (Data.func (FuncData.mk "rtab_end" "rtab_end" (prm (f1 30)) (FuncBody.stmts (bdy (f1 30))) (scp (f1 30)) 3 [] vn vn vn (vs "snobol.primitives" 450) none (vr 242) vn 0)) #[]
noncomputable def ob156 (P : Params) : Obj := Obj.mk (vt "tuple") none (Data.seq #[vs "subject" 514]) #[]
noncomputable def ob157 (P : Params) : Obj := Obj.mk vn none (Data.func (FuncData.mk "rem_end" "rem_end" (prm (f1 31)) (FuncBody.stmts (bdy (f1 31))) (scp (f1 31)) 0 [] vn vn vn vn none vn vn 0)) #[]
noncomputable def ob158 (P : Params) : Obj := Obj.mk (vt "code") none (Data.fields #[vs "rem_end" 511, vs "rem_end" 512, vs "/claim/cut.py" 513, vi 113 0, vi 1 0, vi 0 0, vi 0 0, vi 3 0, vr 244, Value.bool true, vi 181 0, vr 245, vn, vr 246, vr 247, vr 248, vi 515 0, vi 113 0, vs "/claim/cut.py" 516]) #[]
noncomputable def ob159 (P : Params) : Obj := Obj.mk (vt "function") none (Data.func (FuncData.mk "rem_end" "rem_end" (prm (f1 31)) (FuncBody.stmts (bdy (f1 31))) (scp (f1 31)) 3 [] vn vn vn (vs "snobol.primitives" 450) none (vr 249) vn 0)) #[]
noncomputable def ob160 (P : Params) : Obj := Obj.mk (vt "tuple") none (Data.seq #[vs "subject" 521, vs "at" 522, vs "signs" 523]) #[]
noncomputable def ob161 (P : Params) : Obj := Obj.mk vn none (Data.func (FuncData.mk "any_at" "any_at" (prm (f1 32)) (FuncBody.stmts (bdy (f1 32))) (scp (f1 33)) 0 [] vn vn vn vn none vn vn 0)) #[]
noncomputable def ob162 (P : Params) : Obj := Obj.mk (vt "code") none (Data.fields #[vs "any_at" 518, vs "any_at" 519, vs "/claim/cut.py" 520, vi 115 0, vi 3 0, vi 0 0, vi 0 0, vi 3 0, vr 251, Value.bool true, vi 181 0, vr 252, vn, vr 253, vr 254, vr 255, vi 524 0, vi 115 0, vs "/claim/cut.py" 525]) #[]
noncomputable def ob163 (P : Params) : Obj := Obj.mk (vt "function") none (Data.func (FuncData.mk "any_at" "any_at" (prm (f1 32)) (FuncBody.stmts (bdy (f1 32))) (scp (f1 33)) 3 [] vn vn vn (vs "snobol.primitives" 450) none (vr 256) vn 0)) #[]
noncomputable def ob164 (P : Params) : Obj := Obj.mk (vt "tuple") none (Data.seq #[vs "subject" 530, vs "at" 531, vs "signs" 532]) #[]
noncomputable def ob165 (P : Params) : Obj := Obj.mk vn none (Data.func (FuncData.mk "notany_at" "notany_at" (prm (f1 33)) (FuncBody.stmts (bdy (f1 33))) (scp (f1 33)) 0 [] vn vn vn vn none vn vn 0)) #[]
noncomputable def ob166 (P : Params) : Obj := Obj.mk (vt "code") none (Data.fields #[vs "notany_at" 527, vs "notany_at" 528, vs "/claim/cut.py" 529, vi 117 0, vi 3 0, vi 0 0, vi 0 0, vi 3 0, vr 258, Value.bool true, vi 181 0, vr 259, vn, vr 260, vr 261, vr 262, vi 533 0, vi 117 0, vs "/claim/cut.py" 534]) #[]
noncomputable def ob167 (P : Params) : Obj := Obj.mk (vt "function") none (Data.func (FuncData.mk "notany_at" "notany_at" (prm (f1 33)) (FuncBody.stmts (bdy (f1 33))) (scp (f1 33)) 3 [] vn vn vn (vs "snobol.primitives" 450) none (vr 263) vn 0)) #[]
noncomputable def ob168 (P : Params) : Obj := Obj.mk (vt "tuple") none (Data.seq #[vs "subject" 539, vs "at" 540, vs "signs" 541, vs "is_in" 542]) #[]
noncomputable def ob169 (P : Params) : Obj := Obj.mk vn none (Data.func (FuncData.mk "run_end" "run_end" (prm (f1 34)) (FuncBody.stmts (bdy (f1 34))) (scp (f1 34)) 0 [] vn vn vn vn none vn vn 0)) #[]
noncomputable def ob170 (P : Params) : Obj := Obj.mk (vt "code") none (Data.fields #[vs "run_end" 536, vs "run_end" 537, vs "/claim/cut.py" 538, vi 119 0, vi 4 0, vi 0 0, vi 0 0, vi 3 0, vr 265, Value.bool true, vi 181 0, vr 266, vn, vr 267, vr 268, vr 269, vi 543 0, vi 119 0, vs "/claim/cut.py" 544]) #[]
noncomputable def ob171 (P : Params) : Obj := Obj.mk (vt "function") none (Data.func (FuncData.mk "run_end" "run_end" (prm (f1 34)) (FuncBody.stmts (bdy (f1 34))) (scp (f1 34)) 3 [] vn vn vn (vs "snobol.primitives" 450) none (vr 270) vn 0)) #[]
noncomputable def ob172 (P : Params) : Obj := Obj.mk (vt "tuple") none (Data.seq #[vs "subject" 549, vs "at" 550, vs "signs" 551, vs "end" 552]) #[]
noncomputable def ob173 (P : Params) : Obj := Obj.mk vn none (Data.func (FuncData.mk "span_end" "span_end" (prm (f1 35)) (FuncBody.stmts (bdy (f1 35))) (scp (f1 35)) 0 [] vn vn vn vn none vn vn 0)) #[]
noncomputable def ob174 (P : Params) : Obj := Obj.mk (vt "code") none (Data.fields #[vs "span_end" 546, vs "span_end" 547, vs "/claim/cut.py" 548, vi 123 0, vi 3 0, vi 0 0, vi 0 0, vi 3 0, vr 272, Value.bool true, vi 181 0, vr 273, vn, vr 274, vr 275, vr 276, vi 553 0, vi 123 0, vs "/claim/cut.py" 554]) #[]
noncomputable def ob175 (P : Params) : Obj := Obj.mk (vt "function") none (Data.func (FuncData.mk "span_end" "span_end" (prm (f1 35)) (FuncBody.stmts (bdy (f1 35))) (scp (f1 35)) 3 [] vn vn vn (vs "snobol.primitives" 450) none (vr 277) vn 0)) #[]
noncomputable def ob176 (P : Params) : Obj := Obj.mk (vt "tuple") none (Data.seq #[vs "subject" 559, vs "at" 560, vs "signs" 561, vs "end" 562]) #[]
noncomputable def ob177 (P : Params) : Obj := Obj.mk vn none (Data.func (FuncData.mk "break_end" "break_end" (prm (f1 36)) (FuncBody.stmts (bdy (f1 36))) (scp (f1 36)) 0 [] vn vn vn vn none vn vn 0)) #[]
noncomputable def ob178 (P : Params) : Obj := Obj.mk (vt "code") none (Data.fields #[vs "break_end" 556, vs "break_end" 557, vs "/claim/cut.py" 558, vi 126 0, vi 3 0, vi 0 0, vi 0 0, vi 3 0, vr 279, Value.bool true, vi 181 0, vr 280, vn, vr 281, vr 282, vr 283, vi 563 0, vi 126 0, vs "/claim/cut.py" 564]) #[]
noncomputable def ob179 (P : Params) : Obj := Obj.mk (vt "function") none (Data.func (FuncData.mk "break_end" "break_end" (prm (f1 36)) (FuncBody.stmts (bdy (f1 36))) (scp (f1 36)) 3 [] vn vn vn (vs "snobol.primitives" 450) none (vr 284) vn 0)) #[]
noncomputable def ob180 (P : Params) : Obj := Obj.mk (vt "tuple") none (Data.seq #[vs "subject" 569, vs "at" 570, vs "level" 571]) #[]
noncomputable def ob181 (P : Params) : Obj := Obj.mk vn none (Data.func (FuncData.mk "bal_end" "bal_end" (prm (f1 37)) (FuncBody.stmts (bdy (f1 37))) (scp (f1 37)) 0 [] vn vn vn vn none vn vn 0)) #[]
noncomputable def ob182 (P : Params) : Obj := Obj.mk (vt "code") none (Data.fields #[vs "bal_end" 566, vs "bal_end" 567, vs "/claim/cut.py" 568, vi 129 0, vi 2 0, vi 0 0, vi 0 0, vi 3 0, vr 286, Value.bool true, vi 181 0, vr 287, vn, vr 288, vr 289, vr 290, vi 572 0, vi 129 0, vs "/claim/cut.py" 573]) #[]
noncomputable def ob183 (P : Params) : Obj := Obj.mk (vt "function") none (Data.func (FuncData.mk "bal_end" "bal_end" (prm (f1 37)) (FuncBody.stmts (bdy (f1 37))) (scp (f1 37)) 3 [] vn vn vn (vs "snobol.primitives" 450) none (vr 291) vn 0)) #[]
noncomputable def ob184 (P : Params) : Obj := Obj.mk (vt "tuple") none (Data.seq #[vs "subject" 578, vs "at" 579, vs "found" 580, vs "end" 581]) #[]
noncomputable def ob185 (P : Params) : Obj := Obj.mk vn none (Data.func (FuncData.mk "bal_ends" "bal_ends" (prm (f1 38)) (FuncBody.stmts (bdy (f1 38))) (scp (f1 38)) 0 [] vn vn vn vn none vn vn 0)) #[]
noncomputable def ob186 (P : Params) : Obj := Obj.mk (vt "code") none (Data.fields #[vs "bal_ends" 575, vs "bal_ends" 576, vs "/claim/cut.py" 577, vi 142 0, vi 2 0, vi 0 0, vi 0 0, vi 3 0, vr 293, Value.bool true, vi 181 0, vr 294, vn, vr 295, vr 296, vr 297, vi 582 0, vi 142 0, vs "/claim/cut.py" 583]) #[]
noncomputable def ob187 (P : Params) : Obj := Obj.mk (vt "function") none (Data.func (FuncData.mk "bal_ends" "bal_ends" (prm (f1 38)) (FuncBody.stmts (bdy (f1 38))) (scp (f1 38)) 3 [] vn vn vn (vs "snobol.primitives" 450) none (vr 298) vn 0)) #[]
noncomputable def ob188 (P : Params) : Obj := Obj.mk (vt "tuple") none (Data.seq #[vs "kind" 588, vs "subject" 589, vs "at" 590, vs "told" 591]) #[]
noncomputable def ob189 (P : Params) : Obj := Obj.mk vn none (Data.func (FuncData.mk "one_end" "one_end" (prm (f1 39)) (FuncBody.stmts (bdy (f1 39))) (scp (f1 39)) 0 [] vn vn vn vn none vn vn 0)) #[]
noncomputable def ob190 (P : Params) : Obj := Obj.mk (vt "code") none (Data.fields #[vs "one_end" 585, vs "one_end" 586, vs "/claim/cut.py" 587, vi 148 0, vi 4 0, vi 0 0, vi 0 0, vi 3 0, vr 300, Value.bool true, vi 181 0, vr 301, vn, vr 302, vr 303, vr 304, vi 592 0, vi 148 0, vs "/claim/cut.py" 593]) #[]
noncomputable def ob191 (P : Params) : Obj := Obj.mk (vt "function") none (Data.func (FuncData.mk "one_end" "one_end" (prm (f1 39)) (FuncBody.stmts (bdy (f1 39))) (scp (f1 39)) 3 [] vn vn vn (vs "snobol.primitives" 450) none (vr 305) vn 0)) #[]
noncomputable def ob192 (P : Params) : Obj := Obj.mk (vt "tuple") none (Data.seq #[vs "node" 598, vs "subject" 599, vs "at" 600]) #[]
noncomputable def ob193 (P : Params) : Obj := Obj.mk vn none (Data.func (FuncData.mk "plain_end" "plain_end" (prm (f1 40)) (FuncBody.stmts (bdy (f1 40))) (scp (f1 40)) 0 [] vn vn vn vn none vn vn 0)) #[]
noncomputable def ob194 (P : Params) : Obj := Obj.mk (vt "code") none (Data.fields #[vs "plain_end" 595, vs "plain_end" 596, vs "/claim/cut.py" 597, vi 168 0, vi 3 0, vi 0 0, vi 0 0, vi 3 0, vr 307, Value.bool true, vi 181 0, vr 308, vn, vr 309, vr 310, vr 311, vi 601 0, vi 168 0, vs "/claim/cut.py" 602]) #[]
noncomputable def ob195 (P : Params) : Obj := Obj.mk (vt "function") none (Data.func (FuncData.mk "plain_end" "plain_end" (prm (f1 40)) (FuncBody.stmts (bdy (f1 40))) (scp (f1 40)) 3 [] vn vn vn (vs "snobol.primitives" 450) none (vr 312) vn 0)) #[]
noncomputable def ob196 (P : Params) : Obj := Obj.mk (vt "tuple") none (Data.seq #[vs "node" 611, vs "subject" 612, vs "is_anchored" 613, vs "host" 614, vs "begin" 615, vs "found" 616]) #[]
noncomputable def ob197 (P : Params) : Obj := Obj.mk vn none (Data.func (FuncData.mk "match_plain" "match_plain" (prm (f1 43)) (FuncBody.stmts (bdy (f1 43))) (scp (f1 43)) 0 [] vn vn vn vn none vn vn 0)) #[]
noncomputable def ob198 (P : Params) : Obj := Obj.mk (vt "code") none (Data.fields #[vs "match_plain" 608, vs "match_plain" 609, vs "/claim/cut.py" 610, vi 172 0, vi 4 0, vi 0 0, vi 0 0, vi 3 0, vr 314, Value.bool true, vi 181 0, vr 315, vn, vr 316, vr 317, vr 318, vi 617 0, vi 172 0, vs "/claim/cut.py" 618]) #[]
noncomputable def ob199 (P : Params) : Obj := Obj.mk (vt "function") none (Data.func (FuncData.mk "match_plain" "match_plain" (prm (f1 43)) (FuncBody.stmts (bdy (f1 43))) (scp (f1 43)) 3 [] vn vn vn (vs "snobol.trial" 604) none (vr 319) vn 0)) #[]
noncomputable def ob200 (P : Params) : Obj := Obj.mk (vt "tuple") none (Data.seq #[vs "node" 623, vs "subject" 624, vs "begin" 625, vs "host" 626, vs "found" 627]) #[]
noncomputable def ob201 (P : Params) : Obj := Obj.mk vn none (Data.func (FuncData.mk "match_at" "match_at" (prm (f1 44)) (FuncBody.stmts (bdy (f1 44))) (scp (f1 44)) 0 [] vn vn vn vn none vn vn 0)) #[]
noncomputable def ob202 (P : Params) : Obj := Obj.mk (vt "code") none (Data.fields #[vs "match_at" 620, vs "match_at" 621, vs "/claim/cut.py" 622, vi 178 0, vi 4 0, vi 0 0, vi 0 0, vi 3 0, vr 321, Value.bool true, vi 181 0, vr 322, vn, vr 323, vr 324, vr 325, vi 628 0, vi 178 0, vs "/claim/cut.py" 629]) #[]
noncomputable def ob203 (P : Params) : Obj := Obj.mk (vt "function") none (Data.func (FuncData.mk "match_at" "match_at" (prm (f1 44)) (FuncBody.stmts (bdy (f1 44))) (scp (f1 44)) 3 [] vn vn vn (vs "snobol.trial" 604) none (vr 326) vn 0)) #[]
noncomputable def ob204 (P : Params) : Obj := Obj.mk (vt "tuple") none (Data.seq #[vs "node" 634, vs "subject" 635, vs "begin" 636, vs "host" 637, vs "pile" 638, vs "way" 639, vs "chain" 640, vs "at" 641, vs "named" 642]) #[]
noncomputable def ob205 (P : Params) : Obj := Obj.mk vn none (Data.func (FuncData.mk "tried" "tried" (prm (f1 45)) (FuncBody.stmts (bdy (f1 45))) (scp (f1 45)) 0 [] vn vn vn vn none vn vn 0)) #[]
noncomputable def ob206 (P : Params) : Obj := Obj.mk (vt "code") none (Data.fields #[vs "tried" 631, vs "tried" 632, vs "/claim/cut.py" 633, vi 181 0, vi 4 0, vi 0 0, vi 0 0, vi 3 0, vr 328, Value.bool true, vi 181 0, vr 329, vn, vr 330, vr 331, vr 332, vi 643 0, vi 181 0, vs "/claim/cut.py" 644]) #[]
noncomputable def ob207 (P : Params) : Obj := Obj.mk (vt "function") none (Data.func (FuncData.mk "tried" "tried" (prm (f1 45)) (FuncBody.stmts (bdy (f1 45))) (scp (f1 45)) 3 [] vn vn vn (vs "snobol.trial" 604) none (vr 333) vn 0)) #[]
noncomputable def ob208 (P : Params) : Obj := Obj.mk (vt "tuple") none (Data.seq #[vs "chain" 649, vs "at" 650, vs "named" 651, vs "subject" 652, vs "pile" 653, vs "host" 654, vs "here" 655, vs "rest" 656, vs "kind" 657, vs "value" 658]) #[]
noncomputable def ob209 (P : Params) : Obj := Obj.mk vn none (Data.func (FuncData.mk "advanced" "advanced" (prm (f1 46)) (FuncBody.stmts (bdy (f1 46))) (scp (f1 46)) 0 [] vn vn vn vn none vn vn 0)) #[]
noncomputable def ob210 (P : Params) : Obj := Obj.mk (vt "code") none (Data.fields #[vs "advanced" 646, vs "advanced" 647, vs "/claim/cut.py" 648, vi 199 0, vi 6 0, vi 0 0, vi 0 0, vi 3 0, vr 335, Value.bool true, vi 181 0, vr 336, vn, vr 337, vr 338, vr 339, vi 659 0, vi 199 0, vs "/claim/cut.py" 660]) #[]
noncomputable def ob211 (P : Params) : Obj := Obj.mk (vt "function") none (Data.func (FuncData.mk "advanced" "advanced" (prm (f1 46)) (FuncBody.stmts (bdy (f1 46))) (scp (f1 46)) 3 [] vn vn vn (vs "snobol.trial" 604) none (vr 340) vn 0)) #[]
noncomputable def ob212 (P : Params) : Obj := Obj.mk (vt "tuple") none (Data.seq #[vs "here" 665, vs "rest" 666, vs "at" 667, vs "named" 668, vs "pile" 669, vs "kind" 670]) #[]
noncomputable def ob213 (P : Params) : Obj := Obj.mk vn none (Data.func (FuncData.mk "led_in" "led_in" (prm (f1 47)) (FuncBody.stmts (bdy (f1 47))) (scp (f1 47)) 0 [] vn vn vn vn none vn vn 0)) #[]
noncomputable def ob214 (P : Params) : Obj := Obj.mk (vt "code") none (Data.fields #[vs "led_in" 662, vs "led_in" 663, vs "/claim/cut.py" 664, vi 214 0, vi 5 0, vi 0 0, vi 0 0, vi 3 0, vr 342, Value.bool true, vi 181 0, vr 343, vn, vr 344, vr 345, vr 346, vi 671 0, vi 214 0, vs "/claim/cut.py" 672]) #[]
noncomputable def ob215 (P : Params) : Obj := Obj.mk (vt "function") none (Data.func (FuncData.mk "led_in" "led_in" (prm (f1 47)) (FuncBody.stmts (bdy (f1 47))) (scp (f1 47)) 3 [] vn vn vn (vs "snobol.trial" 604) none (vr 347) vn 0)) #[]
noncomputable def ob216 (P : Params) : Obj := Obj.mk (vt "tuple") none (Data.seq #[vs "here" 677, vs "rest" 678, vs "at" 679, vs "named" 680, vs "subject" 681, vs "pile" 682, vs "host" 683, vs "kind" 684, vs "told" 685, vs "begin" 686]) #[]
noncomputable def ob217 (P : Params) : Obj := Obj.mk vn none (Data.func (FuncData.mk "led_out" "led_out" (prm (f1 48)) (FuncBody.stmts (bdy (f1 48))) (scp (f1 48)) 0 [] vn vn vn vn none vn vn 0)) #[]
noncomputable def ob218 (P : Params) : Obj := Obj.mk (vt "code") none (Data.fields #[vs "led_out" 674, vs "led_out" 675, vs "/claim/cut.py" 676, vi 225 0, vi 7 0, vi 0 0, vi 0 0, vi 3 0, vr 349, Value.bool true, vi 181 0, vr 350, vn, vr 351, vr 352, vr 353, vi 687 0, vi 225 0, vs "/claim/cut.py" 688]) #[]
noncomputable def ob219 (P : Params) : Obj := Obj.mk (vt "function") none (Data.func (FuncData.mk "led_out" "led_out" (prm (f1 48)) (FuncBody.stmts (bdy (f1 48))) (scp (f1 48)) 3 [] vn vn vn (vs "snobol.trial" 604) none (vr 354) vn 0)) #[]
noncomputable def ob220 (P : Params) : Obj := Obj.mk (vt "tuple") none (Data.seq #[vs "chain" 693, vs "at" 694, vs "named" 695, vs "pile" 696, vs "kind" 697, vs "rest" 698]) #[]
noncomputable def ob221 (P : Params) : Obj := Obj.mk vn none (Data.func (FuncData.mk "steered" "steered" (prm (f1 49)) (FuncBody.stmts (bdy (f1 49))) (scp (f1 49)) 0 [] vn vn vn vn none vn vn 0)) #[]
noncomputable def ob222 (P : Params) : Obj := Obj.mk (vt "code") none (Data.fields #[vs "steered" 690, vs "steered" 691, vs "/claim/cut.py" 692, vi 232 0, vi 4 0, vi 0 0, vi 0 0, vi 3 0, vr 356, Value.bool true, vi 181 0, vr 357, vn, vr 358, vr 359, vr 360, vi 699 0, vi 232 0, vs "/claim/cut.py" 700]) #[]
noncomputable def ob223 (P : Params) : Obj := Obj.mk (vt "function") none (Data.func (FuncData.mk "steered" "steered" (prm (f1 49)) (FuncBody.stmts (bdy (f1 49))) (scp (f1 49)) 3 [] vn vn vn (vs "snobol.trial" 604) none (vr 361) vn 0)) #[]
noncomputable def ob224 (P : Params) : Obj := Obj.mk (vt "tuple") none (Data.seq #[vs "here" 705, vs "rest" 706, vs "at" 707, vs "named" 708, vs "subject" 709, vs "pile" 710, vs "host" 711, vs "kind" 712, vs "ends" 713, vs "end" 714, vs "plain" 715]) #[]
noncomputable def ob225 (P : Params) : Obj := Obj.mk vn none (Data.func (FuncData.mk "taken" "taken" (prm (f1 50)) (FuncBody.stmts (bdy (f1 50))) (scp (f1 50)) 0 [] vn vn vn vn none vn vn 0)) #[]
noncomputable def ob226 (P : Params) : Obj := Obj.mk (vt "code") none (Data.fields #[vs "taken" 702, vs "taken" 703, vs "/claim/cut.py" 704, vi 240 0, vi 7 0, vi 0 0, vi 0 0, vi 3 0, vr 363, Value.bool true, vi 181 0, vr 364, vn, vr 365, vr 366, vr 367, vi 716 0, vi 240 0, vs "/claim/cut.py" 717]) #[]
noncomputable def ob227 (P : Params) : Obj := Obj.mk (vt "function") none (Data.func (FuncData.mk "taken" "taken" (prm (f1 50)) (FuncBody.stmts (bdy (f1 50))) (scp (f1 50)) 3 [] vn vn vn (vs "snobol.trial" 604) none (vr 368) vn 0)) #[]
noncomputable def ob228 (P : Params) : Obj := Obj.mk (vt "dict") none (Data.dict #[de P "__module__" 728 (vs "snobol.hosts" 719), de P "__qualname__" 730 (vs "PlainHost" 729), de P "__firstlineno__" 732 (vi 257 731), de P "__init__" 742 (vr 383), de P "value_of" 750 (vr 390), de P "assign" 759 (vr 397), de P "step" 766 (vr 404), de P "__static_attributes__" 773 (vr 405)] 8) #[]
noncomputable def ob229 (P : Params) : Obj := Obj.mk vn none (Data.fields #[vi 259 0, vi 4 0, vr 382, vi 267 0, vi 4 0, vr 389, vi 272 0, vi 4 0, vr 396, vi 279 0, vi 4 0, vr 403]) #[]
noncomputable def ob230 (P : Params) : Obj := Obj.mk (vt "code") none (Data.fields #[vs "PlainHost" 723, vs "PlainHost" 724, vs "/claim/cut.py" 725, vi 257 0, vi 0 0, vi 0 0, vi 0 0, vi 0 0, vr 373, Value.bool false, vi 181 0, vr 374, vn, vn, vn, vn, vi 726 0, vi 257 0, vs "/claim/cut.py" 727]) #[]
noncomputable def ob231 (P : Params) : Obj := Obj.mk (vt "frame") none Data.plain #[some (vr 375), some (vr 3), some (vr 372), none, some (vs "snobol.hosts" 719), none, some (vr 0)]
noncomputable def ob232 (P : Params) : Obj := Obj.mk (vt "tuple") none (Data.seq #[vs "self" 736, vs "values" 737, vs "limit" 738, vs "refused" 739]) #[]
noncomputable def ob233 (P : Params) : Obj := Obj.mk vn none (Data.func (FuncData.mk "__init__" "PlainHost.__init__" (prm (f2 52 0)) (FuncBody.stmts (bdy (f2 52 0))) (scp (f2 52 0)) 0 [] vn vn vn vn none vn vn 0)) #[]
noncomputable def ob234 (P : Params) : Obj := Obj.mk (vt "code") none (Data.fields #[vs "__init__" 733, vs "PlainHost.__init__" 734, vs "/claim/cut.py" 735, vi 259 0, vi 4 0, vi 0 0, vi 0 0, vi 3 0, vr 377, Value.bool true, vi 181 0, vr 378, vn, vr 379, vr 380, vr 381, vi 740 0, vi 259 0, vs "/claim/cut.py" 741]) #[]
noncomputable def ob235 (P : Params) : Obj := Obj.mk (vt "function") none (Data.func (FuncData.mk "__init__" "PlainHost.__init__" (prm (f2 52 0)) (FuncBody.stmts (bdy (f2 52 0))) (scp (f2 52 0)) 3 [] vn vn vn (vs "snobol.hosts" 719) none (vr 382) vn 0)) #[]
noncomputable def ob236 (P : Params) : Obj := Obj.mk (vt "tuple") none (Data.seq #[vs "self" 746, vs "tree" 747]) #[]
noncomputable def ob237 (P : Params) : Obj := Obj.mk vn none (Data.func (FuncData.mk "value_of" "PlainHost.value_of" (prm (f2 52 1)) (FuncBody.stmts (bdy (f2 52 1))) (scp (f2 52 1)) 0 [] vn vn vn vn none vn vn 0)) #[]
noncomputable def ob238 (P : Params) : Obj := Obj.mk (vt "code") none (Data.fields #[vs "value_of" 743, vs "PlainHost.value_of" 744, vs "/claim/cut.py" 745, vi 267 0, vi 2 0, vi 0 0, vi 0 0, vi 3 0, vr 384, Value.bool true, vi 181 0, vr 385, vn, vr 386, vr 387, vr 388, vi 748 0, vi 267 0, vs "/claim/cut.py" 749]) #[]
noncomputable def ob239 (P : Params) : Obj := Obj.mk (vt "function") none (Data.func (FuncData.mk "value_of" "PlainHost.value_of" (prm (f2 52 1)) (FuncBody.stmts (bdy (f2 52 1))) (scp (f2 52 1)) 3 [] vn vn vn (vs "snobol.hosts" 719) none (vr 389) vn 0)) #[]
noncomputable def ob240 (P : Params) : Obj := Obj.mk (vt "tuple") none (Data.seq #[vs "self" 754, vs "ref" 755, vs "value" 756]) #[]
noncomputable def ob241 (P : Params) : Obj := Obj.mk vn none (Data.func (FuncData.mk "assign" "PlainHost.assign" (prm (f2 52 2)) (FuncBody.stmts (bdy (f2 52 2))) (scp (f2 52 2)) 0 [] vn vn vn vn none vn vn 0)) #[]
noncomputable def ob242 (P : Params) : Obj := Obj.mk (vt "code") none (Data.fields #[vs "assign" 751, vs "PlainHost.assign" 752, vs "/claim/cut.py" 753, vi 272 0, vi 3 0, vi 0 0, vi 0 0, vi 3 0, vr 391, Value.bool true, vi 181 0, vr 392, vn, vr 393, vr 394, vr 395, vi 757 0, vi 272 0, vs "/claim/cut.py" 758]) #[]
noncomputable def ob243 (P : Params) : Obj := Obj.mk (vt "function") none (Data.func (FuncData.mk "assign" "PlainHost.assign" (prm (f2 52 2)) (FuncBody.stmts (bdy (f2 52 2))) (scp (f2 52 2)) 3 [] vn vn vn (vs "snobol.hosts" 719) none (vr 396) vn 0)) #[]
noncomputable def ob244 (P : Params) : Obj := Obj.mk (vt "tuple") none (Data.seq #[vs "self" 763]) #[]
noncomputable def ob245 (P : Params) : Obj := Obj.mk vn none (Data.func (FuncData.mk "step" "PlainHost.step" (prm (f2 52 3)) (FuncBody.stmts (bdy (f2 52 3))) (scp (f2 52 3)) 0 [] vn vn vn vn none vn vn 0)) #[]
noncomputable def ob246 (P : Params) : Obj := Obj.mk (vt "code") none (Data.fields #[vs "step" 760, vs "PlainHost.step" 761, vs "/claim/cut.py" 762, vi 279 0, vi 1 0, vi 0 0, vi 0 0, vi 3 0, vr 398, Value.bool true, vi 181 0, vr 399, vn, vr 400, vr 401, vr 402, vi 764 0, vi 279 0, vs "/claim/cut.py" 765]) #[]
noncomputable def ob247 (P : Params) : Obj := Obj.mk (vt "function") none (Data.func (FuncData.mk "step" "PlainHost.step" (prm (f2 52 3)) (FuncBody.stmts (bdy (f2 52 3))) (scp (f2 52 3)) 3 [] vn vn vn (vs "snobol.hosts" 719) none (vr 403) vn 0)) #[]
noncomputable def ob248 (P : Params) : Obj := Obj.mk (vt "tuple") none (Data.seq #[vs "limit" 767, vs "log" 768, vs "refused" 769, vs "steps" 770, vs "values" 771, vs "width" 772]) #[]
noncomputable def ob249 (P : Params) : Obj := Obj.mk (vt "dict") none (Data.dict #[de P "__module__" 728 (vs "snobol.hosts" 719), de P "__firstlineno__" 732 (vi 257 731), de P "__init__" 742 (vr 383), de P "value_of" 750 (vr 390), de P "assign" 759 (vr 397), de P "step" 766 (vr 404), de P "__static_attributes__" 773 (vr 405), de P "__dict__" 775 (vr 408), de P "__weakref__" 777 (vr 409), de P "__doc__" 778 vn] 4) #[]
noncomputable def ob250 (P : Params) : Obj := Obj.mk (vt "type") none (Data.cls (ClassData.mk "PlainHost" [vt "object"] [vr 407, vt "object"] 406 "PlainHost" true [] [] false none false)) #[none, none, some (vs "PlainHost" 721), some (vs "PlainHost" 729), some (vb "object.__new__"), some (Value.bool true)]
noncomputable def ob251 (P : Params) : Obj := Obj.mk (vt "getset_descriptor") none (Data.fields #[vs "__dict__" 774, vr 407, vb "function.__dict__", vb "function.__dict__#set"]) #[]
noncomputable def ob252 (P : Params) : Obj := Obj.mk (vt "getset_descriptor") none (Data.fields #[vs "__weakref__" 776, vr 407, vb "ExceptionGroup.__weakref__", vn]) #[]
noncomputable def ob253 (P : Params) : Obj := Obj.mk (vt "super") none (Data.fields #[vr 407, vr 407, vr 407]) #[]
noncomputable def ob254 (P : Params) : Obj := Obj.mk (vt "builtin_function_or_method") none (Data.fields #[vb "object.__init_subclass__", vr 407]) #[]
noncomputable def ob255 (P : Params) : Obj := Obj.mk (vt "tuple") none (Data.seq #[vs "found" 786, vs "give" 787, vs "ref" 788, vs "text" 789]) #[]
noncomputable def ob256 (P : Params) : Obj := Obj.mk vn none (Data.func (FuncData.mk "give_names" "give_names" (prm (f1 54)) (FuncBody.stmts (bdy (f1 54))) (scp (f1 54)) 0 [] vn vn vn vn none vn vn 0)) #[]
noncomputable def ob257 (P : Params) : Obj := Obj.mk (vt "code") none (Data.fields #[vs "give_names" 783, vs "give_names" 784, vs "/claim/cut.py" 785, vi 284 0, vi 2 0, vi 0 0, vi 0 0, vi 3 0, vr 412, Value.bool true, vi 181 0, vr 413, vn, vr 414, vr 415, vr 416, vi 790 0, vi 284 0, vs "/claim/cut.py" 791]) #[]
noncomputable def ob258 (P : Params) : Obj := Obj.mk (vt "function") none (Data.func (FuncData.mk "give_names" "give_names" (prm (f1 54)) (FuncBody.stmts (bdy (f1 54))) (scp (f1 54)) 3 [] vn vn vn (vs "snobol.matchcore" 781) none (vr 417) vn 0)) #[]
noncomputable def ob259 (P : Params) : Obj := Obj.mk (vt "tuple") none (Data.seq #[vs "subject" 796, vs "found" 797]) #[]
noncomputable def ob260 (P : Params) : Obj := Obj.mk vn none (Data.func (FuncData.mk "three_pieces" "three_pieces" (prm (f1 55)) (FuncBody.stmts (bdy (f1 55))) (scp (f1 55)) 0 [] vn vn vn vn none vn vn 0)) #[]
noncomputable def ob261 (P : Params) : Obj := Obj.mk (vt "code") none (Data.fields #[vs "three_pieces" 793, vs "three_pieces" 794, vs "/claim/cut.py" 795, vi 287 0, vi 2 0, vi 0 0, vi 0 0, vi 3 0, vr 419, Value.bool true, vi 181 0, vr 420, vn, vr 421, vr 422, vr 423, vi 798 0, vi 287 0, vs "/claim/cut.py" 799]) #[]
noncomputable def ob262 (P : Params) : Obj := Obj.mk (vt "function") none (Data.func (FuncData.mk "three_pieces" "three_pieces" (prm (f1 55)) (FuncBody.stmts (bdy (f1 55))) (scp (f1 55)) 3 [] vn vn vn (vs "snobol.matchcore" 781) none (vr 424) vn 0)) #[]
noncomputable def ob263 (P : Params) : Obj := Obj.mk (vt "tuple") none (Data.seq #[vs "subject" 804, vs "found" 805, vs "text" 806, vs "ahead" 807, vs "met" 808, vs "behind" 809]) #[]
noncomputable def ob264 (P : Params) : Obj := Obj.mk vn none (Data.func (FuncData.mk "spliced" "spliced" (prm (f1 56)) (FuncBody.stmts (bdy (f1 56))) (scp (f1 56)) 0 [] vn vn vn vn none vn vn 0)) #[]
noncomputable def ob265 (P : Params) : Obj := Obj.mk (vt "code") none (Data.fields #[vs "spliced" 801, vs "spliced" 802, vs "/claim/cut.py" 803, vi 289 0, vi 3 0, vi 0 0, vi 0 0, vi 3 0, vr 426, Value.bool true, vi 181 0, vr 427, vn, vr 428, vr 429, vr 430, vi 810 0, vi 289 0, vs "/claim/cut.py" 811]) #[]
noncomputable def ob266 (P : Params) : Obj := Obj.mk (vt "function") none (Data.func (FuncData.mk "spliced" "spliced" (prm (f1 56)) (FuncBody.stmts (bdy (f1 56))) (scp (f1 56)) 3 [] vn vn vn (vs "snobol.matchcore" 781) none (vr 431) vn 0)) #[]
noncomputable def ob267 (P : Params) : Obj := Obj.mk (vt "tuple") none (Data.seq #[vs "matcher" 816, vs "node" 817, vs "subject" 818, vs "is_anchored" 819, vs "host" 820, vs "text_of" 821, vs "found" 822, vs "text" 823]) #[]
noncomputable def ob268 (P : Params) : Obj := Obj.mk vn none (Data.func (FuncData.mk "replace_once" "replace_once" (prm (f1 57)) (FuncBody.stmts (bdy (f1 57))) (scp (f1 57)) 0 [] vn vn vn vn none vn vn 0)) #[]
noncomputable def ob269 (P : Params) : Obj := Obj.mk (vt "code") none (Data.fields #[vs "replace_once" 813, vs "replace_once" 814, vs "/claim/cut.py" 815, vi 292 0, vi 6 0, vi 0 0, vi 0 0, vi 3 0, vr 433, Value.bool true, vi 181 0, vr 434, vn, vr 435, vr 436, vr 437, vi 824 0, vi 292 0, vs "/claim/cut.py" 825]) #[]
noncomputable def ob270 (P : Params) : Obj := Obj.mk (vt "function") none (Data.func (FuncData.mk "replace_once" "replace_once" (prm (f1 57)) (FuncBody.stmts (bdy (f1 57))) (scp (f1 57)) 3 [] vn vn vn (vs "snobol.matchcore" 781) none (vr 438) vn 0)) #[]
noncomputable def ob271 (P : Params) : Obj := Obj.mk (vt "tuple") none (Data.seq #[vs "row" 832, vs "player" 833, vs "lot" 834, vs "ahead" 835, vs "rest" 836, vs "text_of" 837, vs "node" 838, vs "later" 839]) #[]
noncomputable def ob272 (P : Params) : Obj := Obj.mk (vt "tuple") none (Data.seq #[vs "player" 840]) #[]
noncomputable def ob273 (P : Params) : Obj := Obj.mk vn none (Data.func (FuncData.mk "_law_put" "_law_put" (prm (f1 59)) (FuncBody.stmts (bdy (f1 59))) (scp (f1 59)) 0 [] vn vn vn vn none vn vn 0)) #[]
noncomputable def ob274 (P : Params) : Obj := Obj.mk (vt "code") none (Data.fields #[vs "_law_put" 829, vs "_law_put" 830, vs "/claim/cut.py" 831, vi 300 0, vi 3 0, vi 0 0, vi 0 0, vi 3 0, vr 440, Value.bool true, vi 181 0, vr 441, vn, vr 442, vr 443, vr 444, vi 841 0, vi 300 0, vs "/claim/cut.py" 842]) #[]
noncomputable def ob275 (P : Params) : Obj := Obj.mk (vt "function") none (Data.func (FuncData.mk "_law_put" "_law_put" (prm (f1 59)) (FuncBody.stmts (bdy (f1 59))) (scp (f1 59)) 3 [] vn vn vn (vs "law_xm0955_03" 827) none (vr 445) vn 0)) #[]
noncomputable def ob276 (P : Params) : Obj := Obj.mk (vt "tuple") none (Data.seq #[vs "players" 847, vs "node" 848, vs "player" 849]) #[]
noncomputable def ob277 (P : Params) : Obj := Obj.mk vn none (Data.func (FuncData.mk "_law_one_of" "_law_one_of" (prm (f1 60)) (FuncBody.stmts (bdy (f1 60))) (scp (f1 60)) 0 [] vn vn vn vn none vn vn 0)) #[]
noncomputable def ob278 (P : Params) : Obj := Obj.mk (vt "code") none (Data.fields #[vs "_law_one_of" 844, vs "_law_one_of" 845, vs "/claim/cut.py" 846, vi 308 0, vi 2 0, vi 0 0, vi 0 0, vi 3 0, vr 447, Value.bool true, vi 181 0, vr 448, vn, vr 449, vr 450, vr 451, vi 850 0, vi 308 0, vs "/claim/cut.py" 851]) #[]
noncomputable def ob279 (P : Params) : Obj := Obj.mk (vt "function") none (Data.func (FuncData.mk "_law_one_of" "_law_one_of" (prm (f1 60)) (FuncBody.stmts (bdy (f1 60))) (scp (f1 60)) 3 [] vn vn vn (vs "law_xm0955_03" 827) none (vr 452) vn 0)) #[]
noncomputable def ob280 (P : Params) : Obj := Obj.mk vn none (Data.func (FuncData.mk "_law_orders" "_law_orders" (prm (f1 61)) (FuncBody.stmts (bdy (f1 61))) (scp (f1 61)) 0 [] vn vn vn vn none vn vn 0)) #[]
noncomputable def ob281 (P : Params) : Obj := Obj.mk (vt "code") none (Data.fields #[vs "_law_orders" 853, vs "_law_orders" 854, vs "/claim/cut.py" 855, vi 312 0, vi 1 0, vi 0 0, vi 0 0, vi 3 0, vr 454, Value.bool true, vi 181 0, vr 455, vn, vn, vn, vr 456, vi 856 0, vi 312 0, vs "/claim/cut.py" 857]) #[]
noncomputable def ob282 (P : Params) : Obj := Obj.mk (vt "function") none (Data.func (FuncData.mk "_law_orders" "_law_orders" (prm (f1 61)) (FuncBody.stmts (bdy (f1 61))) (scp (f1 61)) 3 [] vn vn vn (vs "law_xm0955_03" 827) none (vr 457) vn 0)) #[]
noncomputable def ob283 (P : Params) : Obj := Obj.mk vn none (Data.func (FuncData.mk "law" "law" (prm (f1 62)) (FuncBody.stmts (bdy (f1 62))) (scp (f1 62)) 0 [] vn vn vn vn none vn vn 0)) #[]
noncomputable def ob284 (P : Params) : Obj := Obj.mk (vt "code") none (Data.fields #[vs "law" 859, vs "law" 860, vs "/claim/cut.py" 861, vi 316 0, vi 1 0, vi 0 0, vi 0 0, vi 3 0, vr 459, Value.bool true, vi 181 0, vr 460, vn, vn, vn, vr 461, vi 862 0, vi 316 0, vs "/claim/cut.py" 863]) #[]
noncomputable def ob285 (P : Params) : Obj := Obj.mk (vt "function") none (Data.func (FuncData.mk "law" "law" (prm (f1 62)) (FuncBody.stmts (bdy (f1 62))) (scp (f1 62)) 3 [] vn vn vn (vs "law_xm0955_03" 827) none (vr 462) vn 0)) #[]
noncomputable def lf0 : Life := Life.mk [] [] [] 0 [] [] false #[] [] 0 false false false 0 [2000, 10, 10] false 0 true [] [] 0 false
noncomputable def drn0 : Drawn := ⟨0, 0, 0, 0⟩
noncomputable def hA (P : Params) : Heap := ⟨#[boot_o_0 P, boot_o_1 P, boot_o_2 P, boot_o_3 P, boot_o_4 P, boot_o_5 P, boot_o_6 P, boot_o_7 P, boot_o_8 P, boot_o_9 P, boot_o_10 P, ob0 P, ob1 P, ob2 P, ob3 P], lf0⟩
noncomputable def tA (P : Params) : BT := nd (boot_o_0 P) (nd (boot_o_1 P) (nd (boot_o_3 P) (nd (boot_o_7 P) .nil .nil) (nd (ob0 P) .nil .nil)) (nd (boot_o_5 P) (nd (boot_o_9 P) .nil .nil) (nd (ob2 P) .nil .nil))) (nd (boot_o_2 P) (nd (boot_o_4 P) (nd (boot_o_8 P) .nil .nil) (nd (ob1 P) .nil .nil)) (nd (boot_o_6 P) (nd (boot_o_10 P) .nil .nil) (nd (ob3 P) .nil .nil)))
noncomputable def tF (P : Params) : BT := nd (boot_o_0 P) (nd (boot_o_1 P) (nd (ob5 P) (nd (boot_o_7 P) (nd (ob7 P) (nd (ob20 P) (nd (ob41 P) (nd (ob87 P) (nd (ob161 P) .nil .nil) (nd (ob235 P) .nil .nil)) (nd (ob0 P) (nd (ob198 P) .nil .nil) (nd (ob0 P) .nil .nil))) (nd (ob8 P) (nd (ob105 P) (nd (ob1 P) .nil .nil) (nd (ob0 P) .nil .nil)) (nd (ob0 P) (nd (ob216 P) .nil .nil) .nil))) (nd (ob31 P) (nd (ob54 P) (nd (ob0 P) (nd (ob171 P) .nil .nil) (nd (ob1 P) .nil .nil)) (nd (ob134 P) (nd (ob0 P) .nil .nil) (nd (ob285 P) .nil .nil))) (nd (ob77 P) (nd (ob1 P) (nd (ob0 P) .nil .nil) (nd (ob265 P) .nil .nil)) (nd (ob152 P) (nd (ob225 P) .nil .nil) .nil)))) (nd (ob14 P) (nd (ob8 P) (nd (ob49 P) (nd (ob92 P) (nd (ob166 P) .nil .nil) (nd (ob0 P) .nil .nil)) (nd (ob129 P) (nd (ob203 P) .nil .nil) (nd (ob1 P) .nil .nil))) (nd (ob70 P) (nd (ob0 P) (nd (ob184 P) .nil .nil) (nd (ob260 P) .nil .nil)) (nd (ob1 P) (nd (ob0 P) .nil .nil) .nil))) (nd (ob0 P) (nd (ob59 P) (nd (ob1 P) (nd (ob0 P) .nil .nil) (nd (ob250 P) .nil .nil)) (nd (ob139 P) (nd (ob1 P) .nil .nil) .nil)) (nd (ob82 P) (nd (ob120 P) (nd (ob193 P) .nil .nil) (nd (ob270 P) .nil .nil)) (nd (ob0 P) (nd (ob230 P) .nil .nil) .nil))))) (nd (ob0 P) (nd (ob0 P) (nd (ob24 P) (nd (ob45 P) (nd (ob89 P) (nd (ob1 P) .nil .nil) (nd (ob0 P) .nil .nil)) (nd (ob0 P) (nd (ob200 P) .nil .nil) (nd (ob277 P) .nil .nil))) (nd (ob68 P) (nd (ob108 P) (nd (ob182 P) .nil .nil) (nd (ob0 P) .nil .nil)) (nd (ob145 P) (nd (ob219 P) .nil .nil) .nil))) (nd (ob35 P) (nd (ob0 P) (nd (ob98 P) (nd (ob0 P) .nil .nil) (nd (ob246 P) .nil .nil)) (nd (ob136 P) (nd (ob209 P) .nil .nil) .nil)) (nd (ob0 P) (nd (ob118 P) (nd (ob0 P) .nil .nil) (nd (ob267 P) .nil .nil)) (nd (ob155 P) (nd (ob8 P) .nil .nil) .nil)))) (nd (ob17 P) (nd (ob28 P) (nd (ob51 P) (nd (ob0 P) (nd (ob168 P) .nil .nil) (nd (ob241 P) .nil .nil)) (nd (ob1 P) (nd (ob0 P) .nil .nil) (nd (ob0 P) .nil .nil))) (nd (ob73 P) (nd (ob113 P) (nd (ob187 P) .nil .nil) (nd (ob1 P) .nil .nil)) (nd (ob150 P) (nd (ob0 P) .nil .nil) .nil))) (nd (ob0 P) (nd (ob63 P) (nd (ob103 P) (nd (ob177 P) .nil .nil) (nd (ob254 P) .nil .nil)) (nd (ob0 P) (nd (ob214 P) .nil .nil) .nil)) (nd (ob1 P) (nd (ob123 P) (nd (ob1 P) .nil .nil) (nd (ob272 P) .nil .nil)) (nd (ob0 P) (nd (ob232 P) .nil .nil) .nil)))))) (nd (boot_o_5 P) (nd (boot_o_9 P) (nd (ob9 P) (nd (ob22 P) (nd (ob43 P) (nd (ob0 P) (nd (ob163 P) .nil .nil) (nd (ob1 P) .nil .nil)) (nd (ob126 P) (nd (ob0 P) .nil .nil) (nd (ob276 P) .nil .nil))) (nd (ob0 P) (nd (ob106 P) (nd (ob0 P) .nil .nil) (nd (ob257 P) .nil .nil)) (nd (ob144 P) (nd (ob217 P) .nil .nil) .nil))) (nd (ob33 P) (nd (ob1 P) (nd (ob97 P) (nd (ob1 P) .nil .nil) (nd (ob0 P) .nil .nil)) (nd (ob0 P) (nd (ob208 P) .nil .nil) .nil)) (nd (ob79 P) (nd (ob0 P) (nd (ob190 P) .nil .nil) (nd (ob0 P) .nil .nil)) (nd (ob153 P) (nd (ob227 P) .nil .nil) .nil)))) (nd (ob16 P) (nd (ob0 P) (nd (ob0 P) (nd (ob1 P) (nd (ob0 P) .nil .nil) (nd (ob240 P) .nil .nil)) (nd (ob131 P) (nd (ob1 P) .nil .nil) (nd (ob281 P) .nil .nil))) (nd (ob71 P) (nd (ob112 P) (nd (ob185 P) .nil .nil) (nd (ob262 P) .nil .nil)) (nd (ob0 P) (nd (ob222 P) .nil .nil) .nil))) (nd (ob38 P) (nd (ob61 P) (nd (ob0 P) (nd (ob176 P) .nil .nil) (nd (ob252 P) .nil .nil)) (nd (ob1 P) (nd (ob0 P) .nil .nil) .nil)) (nd (ob84 P) (nd (ob121 P) (nd (ob195 P) .nil .nil) (nd (ob1 P) .nil .nil)) (nd (ob158 P) (nd (ob0 P) .nil .nil) .nil))))) (nd (ob2 P) (nd (ob12 P) (nd (ob26 P) (nd (ob47 P) (nd (ob90 P) (nd (ob0 P) .nil .nil) (nd (ob238 P) .nil .nil)) (nd (ob128 P) (nd (ob201 P) .nil .nil) (nd (ob279 P) .nil .nil))) (nd (ob0 P) (nd (ob110 P) (nd (ob0 P) .nil .nil) (nd (ob259 P) .nil .nil)) (nd (ob147 P) (nd (ob1 P) .nil .nil) .nil))) (nd (ob8 P) (nd (ob57 P) (nd (ob100 P) (nd (ob174 P) .nil .nil) (nd (ob248 P) .nil .nil)) (nd (ob137 P) (nd (ob211 P) .nil .nil) .nil)) (nd (ob81 P) (nd (ob0 P) (nd (ob192 P) .nil .nil) (nd (ob268 P) .nil .nil)) (nd (ob1 P) (nd (ob0 P) .nil .nil) .nil)))) (nd (ob18 P) (nd (ob0 P) (nd (ob52 P) (nd (ob95 P) (nd (ob169 P) .nil .nil) (nd (ob243 P) .nil .nil)) (nd (ob0 P) (nd (ob206 P) .nil .nil) (nd (ob283 P) .nil .nil))) (nd (ob75 P) (nd (ob115 P) (nd (ob1 P) .nil .nil) (nd (ob0 P) .nil .nil)) (nd (ob0 P) (nd (ob224 P) .nil .nil) .nil))) (nd (ob40 P) (nd (ob65 P) (nd (ob0 P) (nd (ob179 P) .nil .nil) (nd (ob1 P) .nil .nil)) (nd (ob142 P) (nd (ob0 P) .nil .nil) .nil)) (nd (ob0 P) (nd (ob1 P) (nd (ob0 P) .nil .nil) (nd (ob274 P) .nil .nil)) (nd (ob160 P) (nd (ob233 P) .nil .nil) .nil))))))) (nd (ob4 P) (nd (boot_o_4 P) (nd (boot_o_8 P) (nd (ob8 P) (nd (ob21 P) (nd (ob42 P) (nd (ob88 P) (nd (ob162 P) .nil .nil) (nd (ob0 P) .nil .nil)) (nd (ob125 P) (nd (ob199 P) .nil .nil) (nd (ob1 P) .nil .nil))) (nd (ob66 P) (nd (ob0 P) (nd (ob180 P) .nil .nil) (nd (ob256 P) .nil .nil)) (nd (ob1 P) (nd (ob0 P) .nil .nil) .nil))) (nd (ob32 P) (nd (ob0 P) (nd (ob1 P) (nd (ob0 P) .nil .nil) (nd (ob244 P) .nil .nil)) (nd (ob135 P) (nd (ob1 P) .nil .nil) .nil)) (nd (ob78 P) (nd (ob116 P) (nd (ob189 P) .nil .nil) (nd (ob266 P) .nil .nil)) (nd (ob0 P) (nd (ob226 P) .nil .nil) .nil)))) (nd (ob15 P) (nd (ob27 P) (nd (ob50 P) (nd (ob0 P) (nd (ob167 P) .nil .nil) (nd (ob1 P) .nil .nil)) (nd (ob130 P) (nd (ob0 P) .nil .nil) (nd (ob280 P) .nil .nil))) (nd (ob0 P) (nd (ob1 P) (nd (ob0 P) .nil .nil) (nd (ob261 P) .nil .nil)) (nd (ob148 P) (nd (ob221 P) .nil .nil) .nil))) (nd (ob37 P) (nd (ob60 P) (nd (ob101 P) (nd (ob1 P) .nil .nil) (nd (ob251 P) .nil .nil)) (nd (ob0 P) (nd (ob212 P) .nil .nil) .nil)) (nd (ob83 P) (nd (ob0 P) (nd (ob194 P) .nil .nil) (nd (ob0 P) .nil .nil)) (nd (ob157 P) (nd (ob231 P) .nil .nil) .nil))))) (nd (ob6 P) (nd (ob11 P) (nd (ob25 P) (nd (ob46 P) (nd (ob0 P) (nd (ob164 P) .nil .nil) (nd (ob237 P) .nil .nil)) (nd (ob1 P) (nd (ob0 P) .nil .nil) (nd (ob278 P) .nil .nil))) (nd (ob69 P) (nd (ob109 P) (nd (ob183 P) .nil .nil) (nd (ob1 P) .nil .nil)) (nd (ob146 P) (nd (ob0 P) .nil .nil) .nil))) (nd (ob0 P) (nd (ob56 P) (nd (ob99 P) (nd (ob173 P) .nil .nil) (nd (ob247 P) .nil .nil)) (nd (ob0 P) (nd (ob210 P) .nil .nil) .nil)) (nd (ob1 P) (nd (ob119 P) (nd (ob1 P) .nil .nil) (nd (ob0 P) .nil .nil)) (nd (ob0 P) (nd (ob228 P) .nil .nil) .nil)))) (nd (ob0 P) (nd (ob29 P) (nd (ob0 P) (nd (ob94 P) (nd (ob0 P) .nil .nil) (nd (ob242 P) .nil .nil)) (nd (ob132 P) (nd (ob205 P) .nil .nil) (nd (ob1 P) .nil .nil))) (nd (ob74 P) (nd (ob114 P) (nd (ob0 P) .nil .nil) (nd (ob263 P) .nil .nil)) (nd (ob151 P) (nd (ob1 P) .nil .nil) .nil))) (nd (ob1 P) (nd (ob64 P) (nd (ob104 P) (nd (ob178 P) .nil .nil) (nd (ob0 P) .nil .nil)) (nd (ob141 P) (nd (ob215 P) .nil .nil) .nil)) (nd (ob85 P) (nd (ob0 P) (nd (ob196 P) .nil .nil) (nd (ob273 P) .nil .nil)) (nd (ob1 P) (nd (ob0 P) .nil .nil) .nil)))))) (nd (boot_o_6 P) (nd (boot_o_10 P) (nd (ob10 P) (nd (ob23 P) (nd (ob44 P) (nd (ob1 P) (nd (ob0 P) .nil .nil) (nd (ob236 P) .nil .nil)) (nd (ob127 P) (nd (ob1 P) .nil .nil) (nd (ob0 P) .nil .nil))) (nd (ob67 P) (nd (ob107 P) (nd (ob181 P) .nil .nil) (nd (ob258 P) .nil .nil)) (nd (ob0 P) (nd (ob218 P) .nil .nil) .nil))) (nd (ob34 P) (nd (ob55 P) (nd (ob0 P) (nd (ob172 P) .nil .nil) (nd (ob245 P) .nil .nil)) (nd (ob1 P) (nd (ob0 P) .nil .nil) .nil)) (nd (ob80 P) (nd (ob117 P) (nd (ob191 P) .nil .nil) (nd (ob1 P) .nil .nil)) (nd (ob154 P) (nd (ob0 P) .nil .nil) .nil)))) (nd (ob1 P) (nd (ob1 P) (nd (ob8 P) (nd (ob93 P) (nd (ob1 P) .nil .nil) (nd (ob0 P) .nil .nil)) (nd (ob0 P) (nd (ob204 P) .nil .nil) (nd (ob282 P) .nil .nil))) (nd (ob72 P) (nd (ob0 P) (nd (ob186 P) .nil .nil) (nd (ob0 P) .nil .nil)) (nd (ob149 P) (nd (ob223 P) .nil .nil) .nil))) (nd (ob39 P) (nd (ob62 P) (nd (ob102 P) (nd (ob0 P) .nil .nil) (nd (ob253 P) .nil .nil)) (nd (ob140 P) (nd (ob213 P) .nil .nil) .nil)) (nd (ob0 P) (nd (ob122 P) (nd (ob0 P) .nil .nil) (nd (ob271 P) .nil .nil)) (nd (ob159 P) (nd (ob1 P) .nil .nil) .nil))))) (nd (ob3 P) (nd (ob13 P) (nd (ob0 P) (nd (ob48 P) (nd (ob91 P) (nd (ob165 P) .nil .nil) (nd (ob239 P) .nil .nil)) (nd (ob0 P) (nd (ob202 P) .nil .nil) (nd (ob0 P) .nil .nil))) (nd (ob1 P) (nd (ob111 P) (nd (ob1 P) .nil .nil) (nd (ob0 P) .nil .nil)) (nd (ob0 P) (nd (ob220 P) .nil .nil) .nil))) (nd (ob36 P) (nd (ob58 P) (nd (ob0 P) (nd (ob175 P) .nil .nil) (nd (ob249 P) .nil .nil)) (nd (ob138 P) (nd (ob0 P) .nil .nil) .nil)) (nd (ob0 P) (nd (ob1 P) (nd (ob0 P) .nil .nil) (nd (ob269 P) .nil .nil)) (nd (ob156 P) (nd (ob229 P) .nil .nil) .nil)))) (nd (ob19 P) (nd (ob30 P) (nd (ob53 P) (nd (ob96 P) (nd (ob170 P) .nil .nil) (nd (ob0 P) .nil .nil)) (nd (ob133 P) (nd (ob207 P) .nil .nil) (nd (ob284 P) .nil .nil))) (nd (ob76 P) (nd (ob0 P) (nd (ob188 P) .nil .nil) (nd (ob264 P) .nil .nil)) (nd (ob1 P) (nd (ob0 P) .nil .nil) .nil))) (nd (ob0 P) (nd (ob0 P) (nd (ob1 P) (nd (ob0 P) .nil .nil) (nd (ob255 P) .nil .nil)) (nd (ob143 P) (nd (ob1 P) .nil .nil) .nil)) (nd (ob86 P) (nd (ob124 P) (nd (ob197 P) .nil .nil) (nd (ob275 P) .nil .nil)) (nd (ob0 P) (nd (ob234 P) .nil .nil) .nil)))))))
noncomputable def hF (P : Params) : Heap := ⟨#[boot_o_0 P, boot_o_1 P, ob4 P, ob5 P, boot_o_4 P, boot_o_5 P, boot_o_6 P, boot_o_7 P, boot_o_8 P, boot_o_9 P, boot_o_10 P, ob0 P, ob6 P, ob2 P, ob3 P, ob7 P, ob8 P, ob9 P, ob10 P, ob0 P, ob11 P, ob12 P, ob13 P, ob14 P, ob15 P, ob16 P, ob1 P, ob17 P, ob0 P, ob18 P, ob19 P, ob20 P, ob21 P, ob22 P, ob23 P, ob24 P, ob25 P, ob26 P, ob0 P, ob8 P, ob27 P, ob0 P, ob1 P, ob28 P, ob29 P, ob0 P, ob30 P, ob31 P, ob32 P, ob33 P, ob34 P, ob35 P, ob0 P, ob8 P, ob36 P, ob0 P, ob37 P, ob38 P, ob39 P, ob0 P, ob1 P, ob40 P, ob0 P, ob41 P, ob42 P, ob43 P, ob44 P, ob45 P, ob46 P, ob47 P, ob48 P, ob49 P, ob50 P, ob0 P, ob8 P, ob51 P, ob0 P, ob52 P, ob53 P, ob54 P, ob0 P, ob1 P, ob55 P, ob0 P, ob56 P, ob57 P, ob58 P, ob59 P, ob60 P, ob61 P, ob62 P, ob63 P, ob64 P, ob65 P, ob0 P, ob8 P, ob66 P, ob0 P, ob67 P, ob68 P, ob69 P, ob0 P, ob1 P, ob70 P, ob0 P, ob71 P, ob72 P, ob73 P, ob74 P, ob75 P, ob76 P, ob77 P, ob78 P, ob79 P, ob80 P, ob0 P, ob1 P, ob81 P, ob0 P, ob82 P, ob83 P, ob84 P, ob0 P, ob1 P, ob85 P, ob0 P, ob86 P, ob87 P, ob88 P, ob0 P, ob1 P, ob89 P, ob0 P, ob90 P, ob91 P, ob92 P, ob0 P, ob1 P, ob93 P, ob0 P, ob94 P, ob95 P, ob96 P, ob0 P, ob1 P, ob97 P, ob0 P, ob98 P, ob99 P, ob100 P, ob0 P, ob1 P, ob101 P, ob0 P, ob102 P, ob103 P, ob104 P, ob0 P, ob1 P, ob105 P, ob0 P, ob106 P, ob107 P, ob108 P, ob109 P, ob110 P, ob111 P, ob0 P, ob1 P, ob112 P, ob0 P, ob113 P, ob114 P, ob115 P, ob0 P, ob1 P, ob116 P, ob0 P, ob117 P, ob118 P, ob119 P, ob0 P, ob1 P, ob120 P, ob0 P, ob121 P, ob122 P, ob123 P, ob0 P, ob1 P, ob124 P, ob0 P, ob125 P, ob126 P, ob127 P, ob0 P, ob1 P, ob128 P, ob0 P, ob129 P, ob130 P, ob131 P, ob0 P, ob1 P, ob132 P, ob0 P, ob133 P, ob134 P, ob135 P, ob0 P, ob1 P, ob136 P, ob0 P, ob137 P, ob138 P, ob139 P, ob0 P, ob1 P, ob140 P, ob0 P, ob141 P, ob142 P, ob143 P, ob0 P, ob1 P, ob144 P, ob0 P, ob145 P, ob146 P, ob147 P, ob0 P, ob1 P, ob148 P, ob0 P, ob149 P, ob150 P, ob151 P, ob0 P, ob1 P, ob152 P, ob0 P, ob153 P, ob154 P, ob155 P, ob0 P, ob1 P, ob156 P, ob0 P, ob157 P, ob158 P, ob159 P, ob0 P, ob1 P, ob160 P, ob0 P, ob161 P, ob162 P, ob163 P, ob0 P, ob1 P, ob164 P, ob0 P, ob165 P, ob166 P, ob167 P, ob0 P, ob1 P, ob168 P, ob0 P, ob169 P, ob170 P, ob171 P, ob0 P, ob1 P, ob172 P, ob0 P, ob173 P, ob174 P, ob175 P, ob0 P, ob1 P, ob176 P, ob0 P, ob177 P, ob178 P, ob179 P, ob0 P, ob1 P, ob180 P, ob0 P, ob181 P, ob182 P, ob183 P, ob0 P, ob1 P, ob184 P, ob0 P, ob185 P, ob186 P, ob187 P, ob0 P, ob1 P, ob188 P, ob0 P, ob189 P, ob190 P, ob191 P, ob0 P, ob1 P, ob192 P, ob0 P, ob193 P, ob194 P, ob195 P, ob0 P, ob1 P, ob196 P, ob0 P, ob197 P, ob198 P, ob199 P, ob0 P, ob1 P, ob200 P, ob0 P, ob201 P, ob202 P, ob203 P, ob0 P, ob1 P, ob204 P, ob0 P, ob205 P, ob206 P, ob207 P, ob0 P, ob1 P, ob208 P, ob0 P, ob209 P, ob210 P, ob211 P, ob0 P, ob1 P, ob212 P, ob0 P, ob213 P, ob214 P, ob215 P, ob0 P, ob1 P, ob216 P, ob0 P, ob217 P, ob218 P, ob219 P, ob0 P, ob1 P, ob220 P, ob0 P, ob221 P, ob222 P, ob223 P, ob0 P, ob1 P, ob224 P, ob0 P, ob225 P, ob226 P, ob227 P, ob0 P, ob8 P, ob228 P, ob0 P, ob229 P, ob230 P, ob231 P, ob0 P, ob1 P, ob232 P, ob0 P, ob233 P, ob234 P, ob235 P, ob0 P, ob1 P, ob236 P, ob0 P, ob237 P, ob238 P, ob239 P, ob0 P, ob1 P, ob240 P, ob0 P, ob241 P, ob242 P, ob243 P, ob0 P, ob1 P, ob244 P, ob0 P, ob245 P, ob246 P, ob247 P, ob248 P, ob249 P, ob250 P, ob251 P, ob252 P, ob253 P, ob254 P, ob0 P, ob1 P, ob255 P, ob0 P, ob256 P, ob257 P, ob258 P, ob0 P, ob1 P, ob259 P, ob0 P, ob260 P, ob261 P, ob262 P, ob0 P, ob1 P, ob263 P, ob0 P, ob264 P, ob265 P, ob266 P, ob0 P, ob1 P, ob267 P, ob0 P, ob268 P, ob269 P, ob270 P, ob0 P, ob1 P, ob271 P, ob272 P, ob273 P, ob274 P, ob275 P, ob0 P, ob1 P, ob276 P, ob0 P, ob277 P, ob278 P, ob279 P, ob0 P, ob1 P, ob280 P, ob281 P, ob282 P, ob0 P, ob1 P, ob283 P, ob284 P, ob285 P], lf0⟩
noncomputable def KK (P : Params) : Frag := (nat_lit 2, ob4 P) :: (nat_lit 3, ob5 P) :: (nat_lit 15, ob7 P) :: (nat_lit 18, ob10 P) :: (nat_lit 23, ob14 P) :: (nat_lit 24, ob15 P) :: (nat_lit 25, ob16 P) :: (nat_lit 27, ob17 P) :: (nat_lit 28, ob0 P) :: (nat_lit 30, ob19 P) :: (nat_lit 31, ob20 P) :: (nat_lit 32, ob21 P) :: (nat_lit 33, ob22 P) :: (nat_lit 34, ob23 P) :: (nat_lit 35, ob24 P) :: (nat_lit 45, ob0 P) :: (nat_lit 46, ob30 P) :: (nat_lit 47, ob31 P) :: (nat_lit 48, ob32 P) :: (nat_lit 49, ob33 P) :: (nat_lit 59, ob0 P) :: (nat_lit 61, ob40 P) :: (nat_lit 62, ob0 P) :: (nat_lit 64, ob42 P) :: (nat_lit 65, ob43 P) :: (nat_lit 66, ob44 P) :: (nat_lit 67, ob45 P) :: (nat_lit 68, ob46 P) :: (nat_lit 69, ob47 P) :: (nat_lit 70, ob48 P) :: (nat_lit 80, ob0 P) :: (nat_lit 82, ob55 P) :: (nat_lit 83, ob0 P) :: (nat_lit 85, ob57 P) :: (nat_lit 86, ob58 P) :: (nat_lit 87, ob59 P) :: (nat_lit 88, ob60 P) :: (nat_lit 89, ob61 P) :: (nat_lit 90, ob62 P) :: (nat_lit 91, ob63 P) :: (nat_lit 101, ob0 P) :: (nat_lit 103, ob70 P) :: (nat_lit 104, ob0 P) :: (nat_lit 106, ob72 P) :: (nat_lit 107, ob73 P) :: (nat_lit 108, ob74 P) :: (nat_lit 109, ob75 P) :: (nat_lit 110, ob76 P) :: (nat_lit 111, ob77 P) :: (nat_lit 112, ob78 P) :: (nat_lit 115, ob0 P) :: (nat_lit 117, ob81 P) :: (nat_lit 118, ob0 P) :: (nat_lit 120, ob83 P) :: (nat_lit 121, ob84 P) :: (nat_lit 122, ob0 P) :: (nat_lit 124, ob85 P) :: (nat_lit 125, ob0 P) :: (nat_lit 127, ob87 P) :: (nat_lit 128, ob88 P) :: (nat_lit 129, ob0 P) :: (nat_lit 131, ob89 P) :: (nat_lit 132, ob0 P) :: (nat_lit 134, ob91 P) :: (nat_lit 135, ob92 P) :: (nat_lit 136, ob0 P) :: (nat_lit 138, ob93 P) :: (nat_lit 139, ob0 P) :: (nat_lit 141, ob95 P) :: (nat_lit 142, ob96 P) :: (nat_lit 143, ob0 P) :: (nat_lit 145, ob97 P) :: (nat_lit 146, ob0 P) :: (nat_lit 148, ob99 P) :: (nat_lit 149, ob100 P) :: (nat_lit 150, ob0 P) :: (nat_lit 152, ob101 P) :: (nat_lit 153, ob0 P) :: (nat_lit 155, ob103 P) :: (nat_lit 156, ob104 P) :: (nat_lit 157, ob0 P) :: (nat_lit 159, ob105 P) :: (nat_lit 160, ob0 P) :: (nat_lit 162, ob107 P) :: (nat_lit 163, ob108 P) :: (nat_lit 164, ob109 P) :: (nat_lit 165, ob110 P) :: (nat_lit 166, ob111 P) :: (nat_lit 167, ob0 P) :: (nat_lit 169, ob112 P) :: (nat_lit 170, ob0 P) :: (nat_lit 172, ob114 P) :: (nat_lit 173, ob115 P) :: (nat_lit 174, ob0 P) :: (nat_lit 176, ob116 P) :: (nat_lit 177, ob0 P) :: (nat_lit 179, ob118 P) :: (nat_lit 180, ob119 P) :: (nat_lit 181, ob0 P) :: (nat_lit 183, ob120 P) :: (nat_lit 184, ob0 P) :: (nat_lit 186, ob122 P) :: (nat_lit 187, ob123 P) :: (nat_lit 188, ob0 P) :: (nat_lit 190, ob124 P) :: (nat_lit 191, ob0 P) :: (nat_lit 193, ob126 P) :: (nat_lit 194, ob127 P) :: (nat_lit 195, ob0 P) :: (nat_lit 197, ob128 P) :: (nat_lit 198, ob0 P) :: (nat_lit 200, ob130 P) :: (nat_lit 201, ob131 P) :: (nat_lit 202, ob0 P) :: (nat_lit 204, ob132 P) :: (nat_lit 205, ob0 P) :: (nat_lit 207, ob134 P) :: (nat_lit 208, ob135 P) :: (nat_lit 209, ob0 P) :: (nat_lit 211, ob136 P) :: (nat_lit 212, ob0 P) :: (nat_lit 214, ob138 P) :: (nat_lit 215, ob139 P) :: (nat_lit 216, ob0 P) :: (nat_lit 218, ob140 P) :: (nat_lit 219, ob0 P) :: (nat_lit 221, ob142 P) :: (nat_lit 222, ob143 P) :: (nat_lit 223, ob0 P) :: (nat_lit 225, ob144 P) :: (nat_lit 226, ob0 P) :: (nat_lit 228, ob146 P) :: (nat_lit 229, ob147 P) :: (nat_lit 230, ob0 P) :: (nat_lit 232, ob148 P) :: (nat_lit 233, ob0 P) :: (nat_lit 235, ob150 P) :: (nat_lit 236, ob151 P) :: (nat_lit 237, ob0 P) :: (nat_lit 239, ob152 P) :: (nat_lit 240, ob0 P) :: (nat_lit 242, ob154 P) :: (nat_lit 243, ob155 P) :: (nat_lit 244, ob0 P) :: (nat_lit 246, ob156 P) :: (nat_lit 247, ob0 P) :: (nat_lit 249, ob158 P) :: (nat_lit 250, ob159 P) :: (nat_lit 251, ob0 P) :: (nat_lit 253, ob160 P) :: (nat_lit 254, ob0 P) :: (nat_lit 256, ob162 P) :: (nat_lit 257, ob163 P) :: (nat_lit 258, ob0 P) :: (nat_lit 260, ob164 P) :: (nat_lit 261, ob0 P) :: (nat_lit 263, ob166 P) :: (nat_lit 264, ob167 P) :: (nat_lit 265, ob0 P) :: (nat_lit 267, ob168 P) :: (nat_lit 268, ob0 P) :: (nat_lit 270, ob170 P) :: (nat_lit 271, ob171 P) :: (nat_lit 272, ob0 P) :: (nat_lit 274, ob172 P) :: (nat_lit 275, ob0 P) :: (nat_lit 277, ob174 P) :: (nat_lit 278, ob175 P) :: (nat_lit 279, ob0 P) :: (nat_lit 281, ob176 P) :: (nat_lit 282, ob0 P) :: (nat_lit 284, ob178 P) :: (nat_lit 285, ob179 P) :: (nat_lit 286, ob0 P) :: (nat_lit 288, ob180 P) :: (nat_lit 289, ob0 P) :: (nat_lit 291, ob182 P) :: (nat_lit 292, ob183 P) :: (nat_lit 293, ob0 P) :: (nat_lit 295, ob184 P) :: (nat_lit 296, ob0 P) :: (nat_lit 298, ob186 P) :: (nat_lit 299, ob187 P) :: (nat_lit 300, ob0 P) :: (nat_lit 302, ob188 P) :: (nat_lit 303, ob0 P) :: (nat_lit 305, ob190 P) :: (nat_lit 306, ob191 P) :: (nat_lit 307, ob0 P) :: (nat_lit 309, ob192 P) :: (nat_lit 310, ob0 P) :: (nat_lit 312, ob194 P) :: (nat_lit 313, ob195 P) :: (nat_lit 314, ob0 P) :: (nat_lit 316, ob196 P) :: (nat_lit 317, ob0 P) :: (nat_lit 319, ob198 P) :: (nat_lit 320, ob199 P) :: (nat_lit 321, ob0 P) :: (nat_lit 323, ob200 P) :: (nat_lit 324, ob0 P) :: (nat_lit 326, ob202 P) :: (nat_lit 327, ob203 P) :: (nat_lit 328, ob0 P) :: (nat_lit 330, ob204 P) :: (nat_lit 331, ob0 P) :: (nat_lit 333, ob206 P) :: (nat_lit 334, ob207 P) :: (nat_lit 335, ob0 P) :: (nat_lit 337, ob208 P) :: (nat_lit 338, ob0 P) :: (nat_lit 340, ob210 P) :: (nat_lit 341, ob211 P) :: (nat_lit 342, ob0 P) :: (nat_lit 344, ob212 P) :: (nat_lit 345, ob0 P) :: (nat_lit 347, ob214 P) :: (nat_lit 348, ob215 P) :: (nat_lit 349, ob0 P) :: (nat_lit 351, ob216 P) :: (nat_lit 352, ob0 P) :: (nat_lit 354, ob218 P) :: (nat_lit 355, ob219 P) :: (nat_lit 356, ob0 P) :: (nat_lit 358, ob220 P) :: (nat_lit 359, ob0 P) :: (nat_lit 361, ob222 P) :: (nat_lit 362, ob223 P) :: (nat_lit 363, ob0 P) :: (nat_lit 365, ob224 P) :: (nat_lit 366, ob0 P) :: (nat_lit 368, ob226 P) :: (nat_lit 369, ob227 P) :: (nat_lit 377, ob0 P) :: (nat_lit 379, ob232 P) :: (nat_lit 380, ob0 P) :: (nat_lit 382, ob234 P) :: (nat_lit 383, ob235 P) :: (nat_lit 384, ob0 P) :: (nat_lit 386, ob236 P) :: (nat_lit 387, ob0 P) :: (nat_lit 389, ob238 P) :: (nat_lit 390, ob239 P) :: (nat_lit 391, ob0 P) :: (nat_lit 393, ob240 P) :: (nat_lit 394, ob0 P) :: (nat_lit 396, ob242 P) :: (nat_lit 397, ob243 P) :: (nat_lit 398, ob0 P) :: (nat_lit 400, ob244 P) :: (nat_lit 401, ob0 P) :: (nat_lit 403, ob246 P) :: (nat_lit 404, ob247 P) :: (nat_lit 405, ob248 P) :: (nat_lit 406, ob249 P) :: (nat_lit 407, ob250 P) :: (nat_lit 408, ob251 P) :: (nat_lit 409, ob252 P) :: (nat_lit 412, ob0 P) :: (nat_lit 414, ob255 P) :: (nat_lit 415, ob0 P) :: (nat_lit 417, ob257 P) :: (nat_lit 418, ob258 P) :: (nat_lit 419, ob0 P) :: (nat_lit 421, ob259 P) :: (nat_lit 422, ob0 P) :: (nat_lit 424, ob261 P) :: (nat_lit 425, ob262 P) :: (nat_lit 426, ob0 P) :: (nat_lit 428, ob263 P) :: (nat_lit 429, ob0 P) :: (nat_lit 431, ob265 P) :: (nat_lit 432, ob266 P) :: (nat_lit 433, ob0 P) :: (nat_lit 435, ob267 P) :: (nat_lit 436, ob0 P) :: (nat_lit 438, ob269 P) :: (nat_lit 439, ob270 P) :: (nat_lit 440, ob0 P) :: (nat_lit 442, ob271 P) :: (nat_lit 443, ob272 P) :: (nat_lit 445, ob274 P) :: (nat_lit 446, ob275 P) :: (nat_lit 447, ob0 P) :: (nat_lit 449, ob276 P) :: (nat_lit 450, ob0 P) :: (nat_lit 452, ob278 P) :: (nat_lit 453, ob279 P) :: (nat_lit 454, ob0 P) :: (nat_lit 457, ob281 P) :: (nat_lit 458, ob282 P) :: (nat_lit 459, ob0 P) :: (nat_lit 462, ob284 P) :: (nat_lit 463, ob285 P) :: []
noncomputable def kas : List Addr := [2, 3, 15, 18, 23, 24, 25, 27, 28, 30, 31, 32, 33, 34, 35, 45, 46, 47, 48, 49, 59, 61, 62, 64, 65, 66, 67, 68, 69, 70, 80, 82, 83, 85, 86, 87, 88, 89, 90, 91, 101, 103, 104, 106, 107, 108, 109, 110, 111, 112, 115, 117, 118, 120, 121, 122, 124, 125, 127, 128, 129, 131, 132, 134, 135, 136, 138, 139, 141, 142, 143, 145, 146, 148, 149, 150, 152, 153, 155, 156, 157, 159, 160, 162, 163, 164, 165, 166, 167, 169, 170, 172, 173, 174, 176, 177, 179, 180, 181, 183, 184, 186, 187, 188, 190, 191, 193, 194, 195, 197, 198, 200, 201, 202, 204, 205, 207, 208, 209, 211, 212, 214, 215, 216, 218, 219, 221, 222, 223, 225, 226, 228, 229, 230, 232, 233, 235, 236, 237, 239, 240, 242, 243, 244, 246, 247, 249, 250, 251, 253, 254, 256, 257, 258, 260, 261, 263, 264, 265, 267, 268, 270, 271, 272, 274, 275, 277, 278, 279, 281, 282, 284, 285, 286, 288, 289, 291, 292, 293, 295, 296, 298, 299, 300, 302, 303, 305, 306, 307, 309, 310, 312, 313, 314, 316, 317, 319, 320, 321, 323, 324, 326, 327, 328, 330, 331, 333, 334, 335, 337, 338, 340, 341, 342, 344, 345, 347, 348, 349, 351, 352, 354, 355, 356, 358, 359, 361, 362, 363, 365, 366, 368, 369, 377, 379, 380, 382, 383, 384, 386, 387, 389, 390, 391, 393, 394, 396, 397, 398, 400, 401, 403, 404, 405, 406, 407, 408, 409, 412, 414, 415, 417, 418, 419, 421, 422, 424, 425, 426, 428, 429, 431, 432, 433, 435, 436, 438, 439, 440, 442, 443, 445, 446, 447, 449, 450, 452, 453, 454, 457, 458, 459, 462, 463]
theorem kpf (P : Params) : kas = (KK P).map (·.1) := by kernel_rfl
noncomputable def kpB : List Nat := [1, 2, 3, 4, 5, 6, 7, 8, 9, 10, 11, 12, 14, 15, 16, 18, 19, 20, 21, 23, 24, 25, 26, 27, 28, 29, 30, 31, 32, 33, 34, 35, 36, 37, 38, 39, 40, 42, 43, 44, 45, 46, 47, 48, 49, 50, 52, 54, 55, 56, 57, 59, 60, 61, 62]
noncomputable def vw : Program := { pg with main := { pg.main with body := [f1 1, f1 2, f1 3, f1 4, f1 5, f1 6, f1 7, f1 8, f1 9, f1 10, f1 11, f1 12, f1 14, f1 15, f1 16, f1 18, f1 19, f1 20, f1 21, f1 23, f1 24, f1 25, f1 26, f1 27, f1 28, f1 29, f1 30, f1 31, f1 32, f1 33, f1 34, f1 35, f1 36, f1 37, f1 38, f1 39, f1 40, f1 42, f1 43, f1 44, f1 45, f1 46, f1 47, f1 48, f1 49, f1 50, f1 52, f1 54, f1 55, f1 56, f1 57, f1 59, f1 60, f1 61, f1 62] } }
noncomputable abbrev lo : List Str := ["SnobolError", "plain_count"]
noncomputable def ev0 : Env := ⟨pg.main.scope, mainNs, mainNs, [], Str.empty, none, .ref 13, some 14, 0⟩
noncomputable def cE : Code := .body (behindTheImports pg) ev0
noncomputable def B0 : List Frame := [topFrame ⟨0, 0, 0, 0⟩]
noncomputable def an0 : Option Value := some (.ref 6)
noncomputable def sA (w : World) (os : OsState) : Shared := ⟨hA w.params, #[], drn0, 187, os⟩
noncomputable def uA (w : World) (os : OsState) : SharedT := ⟨tA w.params, 15, lf0, #[], drn0, 187, os⟩
noncomputable def uF (w : World) (os : OsState) : SharedT := ⟨tF w.params, 464, lf0, #[], drn0, 865, os⟩
noncomputable def sF (w : World) (os : OsState) : Shared := ⟨hF w.params, #[], drn0, 865, os⟩
theorem r_pre (w : World) (os : OsState) : topGo treeTable pg w 11 an0 12 ⟨boot_heap w.params, #[], boot_drawn, boot_toks, os⟩ (topStub pg) = some (sA w os, ⟨denote treeTable cE, cE, ⟨0, 0, 0, 0⟩, B0⟩) := by kernel_rfl
theorem r_block (w : World) (os : OsState) : segRun treeTable pg w 11 an0 1 1 (sA w os) (blockOf (behindTheImports pg) ev0 cE ⟨0, 0, 0, 0⟩ B0) = some (.next, (uA w os).abs, cE, ⟨0, 0, 0, 0⟩) := by kernel_rfl
theorem r_main (w : World) (os : OsState) : segRunT treeTable pg w 11 an0 1 2969 (uA w os) (piecesOf (behindTheImports pg) ev0 cE ⟨0, 0, 0, 0⟩ B0) = some (.next, uF w os, cE, Pos.mk 316 0 333 66) := by
  rw [Fast.te10110043849684766642, Fast.te14364793385576792824]
  kernel_rfl
theorem r_fin (w : World) (os : OsState) : topRun treeTable pg w 11 an0 2 (uF w os).abs (restOf [] ev0 cE (Pos.mk 316 0 333 66) B0) = some (sF w os) := by kernel_rfl
theorem r_all (w : World) (os : OsState) : topRun treeTable pg w 11 an0 (12 + (1 + (2969 + 2))) ⟨boot_heap w.params, #[], boot_drawn, boot_toks, os⟩ (topStub pg) = some (sF w os) := by
  have h1 := piece_app (rest := []) (segRun_of (r_main w os)) (r_fin w os)
  rw [List.append_nil] at h1
  exact go_top (r_pre w os) (piece_block (r_block w os) h1)
theorem o_op : opening pg = plainProg pg.main.scope.names := by kernel_rfl
theorem o_fence (s : Shared) : fenceModules? pg s = some s := by kernel_rfl
theorem o_size (w : World) : ((boot_heap w.params).isNs mainGlobals && (#[] : Array GenState).size == 0, (boot_heap w.params).objs.size, (boot_heap w.params).nsMap mainGlobals "__annotations__") = (true, 11, an0) := by kernel_rfl
end Mine

open PySem PySem.W PyProof.Rows PySem.Calls
namespace Mine
set_option autoImplicit false
set_option backward.match.sparseCases false
set_option linter.unusedVariables false
set_option maxRecDepth 1000000
set_option maxHeartbeats 0
noncomputable abbrev hk : Hook := kmHook KK kas kpf [441]
noncomputable def Xt0 (s : Shared) : Bool := xlAt vw [] s && recOk PySem.Challenge.rw_xm0955_03.row.toRowW.records s
theorem l_a (w : World) (os : OsState) : (staticsOk (importedModules pg.main.body) (boot_heap w.params) (hF w.params) && namesBound pg (hF w.params) && gensDone (sF w os) && laidKept (boot_heap w.params) (hF w.params)) = true := by kernel_rfl
theorem l_b (w : World) (os : OsState) : openSeen vw lo (importedModules pg.main.body) Xt0 true (sF w os) = openGood vw lo := by kernel_rfl
theorem l_c (w : World) (os : OsState) : hk.obs (sF w os) = hk.val w := by kernel_rfl
theorem left0 : LeftO pg vw lo Xt0 hk.obs hk.val 6062 := LeftO.of_pieces (boot_open o_op rfl o_fence) o_size r_all (by rfl) (fun w => funext fun os => by
  have a := l_a w os
  have b := l_b w os
  have c := l_c w os
  exact Prod.ext a (Prod.ext b c))
theorem said0 : OpenLaw.wellSaid PySem.Challenge.rw_xm0955_03 = true := by kernel_rfl
end Mine

open PySem PySem.W PyProof.Rows PySem.Calls
namespace Mine
set_option autoImplicit false
set_option backward.match.sparseCases false
set_option linter.unusedVariables false
set_option maxRecDepth 100000
noncomputable def faL : List Nat := [418, 425, 432, 439, 107, 383, 397, 404, 194, 201, 208, 229, 250, 271, 285, 306, 313, 320, 327, 334, 341, 348, 355, 362, 369, 121, 187, 390, 65, 446, 453, 458]
noncomputable def caL : List Nat := [110, 407, 68, 47]
noncomputable def faN (k : Nat) : Addr := (at? faL k).getD 0
noncomputable def caN (k : Nat) : Addr := (at? caL k).getD 0
noncomputable def cNS : List Names := [cns_give_names, cns_three_pieces, cns_spliced, cns_replace_once, cns_NameRef___init, cns_PlainHost___init, cns_PlainHost_assign, cns_PlainHost_step, cns_is_delayed, cns_settled, cns_chars_end, cns_rpos_end, cns_rem_end, cns_run_end, cns_break_end, cns_one_end, cns_plain_end, cns_match_plain, cns_match_at, cns_tried, cns_advanced, cns_led_in, cns_led_out, cns_steered, cns_taken, cns_is_fail, cns_pattern_of, cns_PlainHost_value_of, cns_Pattern___init, cns_law_put, cns_law_one_of, cns_law_orders]
/-- what is to be known of a function, told two times -/
noncomputable abbrev Fx := Bool × List Stmt × Option Obj × ((Nat → Value) → List (Str × Addr) → Value → Value → Option Addr → Value → Value → Sem (List (Str × Value)))
noncomputable def fL (K : Frag) (FA CA : Nat → Addr) (k : Nat) (ns : Names) (fn : Fn) : Fx :=
  let fd := fdOf (objAt K (FA k)); let cd := cdOf fd
  (fnB K FA CA cd ns fn && (codeIn K fd.code cd.qual && keepIn K (.ref (FA k)) && noFre fn), S.ers ns fn.body, K.lookup (FA k), fun v cl doc pm an cdv ct => bindArgs (fnX cd.name cd.qual cd.params cd.body cd.scope cl .none .none doc pm an cdv ct) ⟨(List.range fn.np).map v, []⟩)
noncomputable def fR (K : Frag) (FA : Nat → Addr) (k : Nat) (ns : Names) (fn : Fn) : Fx :=
  let o := objAt K (FA k); let fd := fdOf o; let cd := cdOf fd
  (true, cd.body, some ⟨o.cls, o.dict, .func (fnX cd.name cd.qual cd.params cd.body cd.scope [] .none .none fd.doc fd.pyModule fd.annotations fd.code fd.closureTuple), o.slots⟩, fun v _ _ _ _ _ _ => pure (((ns.take fn.np).map (·.1)).zip ((List.range fn.np).map v)))
noncomputable def fAll (f : Nat → Names → Fn → Fx) : Nat → List Names → List Fn → List Fx
  | k, ns :: l, fn :: r => f k ns fn :: fAll f (k + 1) l r
  | _, _, _ => []
theorem fAll_at {f g : Nat → Names → Fn → Fx} : ∀ {nl : List Names} {l : List Fn} {i k : Nat} {fn : Fn}, nl.length = l.length → fAll f i nl l = fAll g i nl l → at? l k = some fn → ∃ ns, f (i + k) ns fn = g (i + k) ns fn
  | _, [], i, k, fn, hl, h, e => (no e).elim
  | [], _ :: _, i, k, fn, hl, h, e => absurd hl (Nat.succ_ne_zero _).symm
  | ns :: nl, fn' :: l, i, k, fn, hl, h, e => by
    obtain ⟨h1, h2⟩ := List.cons.inj (show f i ns fn' :: fAll f (i + 1) nl l = g i ns fn' :: fAll g (i + 1) nl l from h)
    cases k with
    | zero => cases e; exact ⟨ns, h1⟩
    | succ k =>
      obtain ⟨ns', h3⟩ := fAll_at (Nat.succ.inj hl) h2 (show at? l k = some fn from e)
      rw [show i + 1 + k = i + (k + 1) by omega] at h3
      exact ⟨ns', h3⟩
theorem fx_all (P : Params) : fAll (fL (KK P) faN caN) 0 cNS cFT = fAll (fR (KK P) faN) 0 cNS cFT := by kernel_rfl
theorem fnAt_of {G : St} {k : Nat} {fn : Fn} {ns : Names} (h : fL G.K G.FA G.CA k ns fn = fR G.K G.FA k ns fn)
    (hN : ∀ i k' js, FS.nst i k' js ∈ fn.slots → ∀ L', NestOk G (envX (cdOf (fdOf (objAt G.K (G.FA k)))).qual (cdOf (fdOf (objAt G.K (G.FA k)))).scope L' (G.FA k) (fdOf (objAt G.K (G.FA k))).code (cellsFrom (L' + 1) (cdOf (fdOf (objAt G.K (G.FA k)))).scope.names [])) ns i k' js) : ∃ cd ns oc od osl doc pm an cdv ct, FnAt1 G k fn cd ns oc od osl doc pm an cdv ct := by
  obtain ⟨h1, h⟩ := Prod.mk.inj h
  obtain ⟨h2, h⟩ := Prod.mk.inj h
  obtain ⟨h3, h4⟩ := Prod.mk.inj h
  obtain ⟨a1, a2⟩ := Bool.and_eq_true_iff.mp h1
  obtain ⟨a2, a4⟩ := Bool.and_eq_true_iff.mp a2
  obtain ⟨a2, a3⟩ := Bool.and_eq_true_iff.mp a2
  refine ⟨_, _, _, _, _, _, _, _, _, _, fnB_ok a1 h2 fun cl doc pm an cdv ct vals hv => ?_, h3, a2, noFre_ok a4, hN, a3⟩
  have e : (List.range fn.np).map (fun i => (vals[i]?).getD .none) = vals := by
    rw [← hv]
    refine List.ext_getElem? fun i => ?_
    rw [List.getElem?_map]
    by_cases hi : i < vals.length
    · rw [List.getElem?_range hi]; show some ((vals[i]?).getD .none) = _; rw [List.getElem?_eq_getElem hi]; rfl
    · rw [List.getElem?_eq_none (by simpa using Nat.not_lt.mp hi), List.getElem?_eq_none (Nat.not_lt.mp hi)]; rfl
  have := congrFun (congrFun (congrFun (congrFun (congrFun (congrFun (congrFun h4 fun i => (vals[i]?).getD .none) cl) doc) pm) an) cdv) ct
  simp only [e] at this
  exact this
noncomputable def GG (prog : Program) (w : World) (bl : List (Addr × List Value)) : St where
  K := KK w.params
  FA := faN
  CA := caN
  TB := [⟨445, 441, ⟨303, 4, 304, 59⟩, "_law_put.<locals>.text_of"⟩]
  BL := bl
  prog := prog
  w := w
noncomputable def nstB : Nat → Fn → Bool
  | k, fn => noNst fn || Nat.beq k 29
theorem nst_all : allN (fun k => ((at? cFT k).map (nstB k)).getD true) 32 = true := by kernel_rfl
theorem cls_all (P : Params) : allN (fun k => ((at? cCT k).map fun c => clsB (KK P) faN caN k c && keepIn (KK P) (.ref (caN k))).getD true) 4 = true := by kernel_rfl
theorem gv_ok (P : Params) : allN (fun g => match at? cGV g, gnL[g]? with | some (some v), some x => gB (KK P) faN caN x v | _, _ => true) 11 = true := by kernel_rfl
theorem copied : allN (fun a => !copiedNames.contains (an a)) 20 = true := by decide +kernel
theorem isi_all (P : Params) : allN (fun k => allN (fun c => Nat.beq k c || (clsAsk (KK P) (caN k) && isNotC (KK P) (caN k) (caN c))) 4) 4 = true := by kernel_rfl
theorem tx_B (P : Params) : fnB (KK P) faN caN (cdAt 0) cns_text_of cf_text_of = true := by kernel_rfl
theorem tx_S : S.ers cns_text_of cf_text_of.body = (cdAt 0).body := by kernel_rfl
theorem tx_A (cl : List (Str × Addr)) (doc pm : Value) (an : Option Addr) (cdv ct : Value) (v0 : Value) : bindArgs (fnX (cdAt 0).name (cdAt 0).qual (cdAt 0).params (cdAt 0).body (cdAt 0).scope cl .none .none doc pm an cdv ct) ⟨[v0], []⟩ = pure (((cns_text_of.take cf_text_of.np).map (·.1)).zip [v0]) := by kernel_rfl
theorem tx_c : ((cf_text_of.slots.all fun g => !isCelF g) && (cdAt 0).scope.names.all fun x => !(x.2 == .cell)) = true := by kernel_rfl
theorem nst_law_put : cf_law_put.slots.all (fun f => !isNst f || (match f with | .nst i k js => Nat.beq i 5 && Nat.beq k 0 && eqL js [1] | _ => false)) = true := by kernel_rfl
section
variable (prog : Program) (w : World) (bl : List (Addr × List Value))
theorem nest29 (L' : Addr) : NestOk (GG prog w bl) (envX (cdOf (fdOf (objAt (KK w.params) (faN 29)))).qual (cdOf (fdOf (objAt (KK w.params) (faN 29)))).scope L' (faN 29) (fdOf (objAt (KK w.params) (faN 29))).code (cellsFrom (L' + 1) (cdOf (fdOf (objAt (KK w.params) (faN 29)))).scope.names [])) cns_law_put 5 0 [1] := by
  have hc : (fdOf (objAt (KK w.params) (faN 29))).code = .ref 445 := by kernel_rfl
  rw [hc]
  refine ⟨_, _, L', faN 29, ⟨445, 441, ⟨303, 4, 304, 59⟩, "_law_put.<locals>.text_of"⟩, _, rfl, List.mem_cons_self .., by kernel_rfl, by kernel_rfl, by kernel_rfl, by kernel_rfl, by kernel_rfl, by kernel_rfl, by kernel_rfl, by kernel_rfl, by decide, fun f hf => ?_⟩
  refine (closureFor_free (f := f) fun p hp hfr => ?_).trans ?_
  · have : (cdAt 0).scope.names = cns_text_of := by kernel_rfl
    rw [this] at hp
    rcases List.mem_cons.mp hp with rfl | hp
    · cases hfr
    rcases List.mem_cons.mp hp with rfl | hp
    · exact hf _ (List.mem_singleton.mpr rfl)
    · cases hp
  · have : frees (cdAt 0).scope.names = [cns_law_put.at 1] := by kernel_rfl
    rw [this]; rfl
theorem cls_at {k : Nat} {c : Cl} (e : at? cCT k = some c) : clsB (KK w.params) faN caN k c = true ∧ keepIn (KK w.params) (.ref (caN k)) = true := by
  have := allN_ok (cls_all w.params) k (show k < 4 from lenOk_of ((at?_eq _ _).symm.trans e))
  rw [e] at this
  exact Bool.and_eq_true_iff.mp this
theorem fn_at {k : Nat} {fn : Fn} (e : at? cFT k = some fn) : ∃ cd ns oc od osl doc pm an cdv ct, FnAt1 (GG prog w bl) k fn cd ns oc od osl doc pm an cdv ct := by
  by_cases hk : k = 29
  · subst hk
    cases e
    exact fnAt_of (G := GG prog w bl) (ns := cns_law_put) (by kernel_rfl) fun i k' js hm L' => by
      have h := List.all_eq_true.mp nst_law_put _ hm
      simp only [isNst, Bool.not_true, Bool.false_or, Bool.and_eq_true] at h
      obtain ⟨⟨h1, h2⟩, h3⟩ := h
      obtain rfl := (eqL_iff _ _).mp h3
      rw [Nat.eq_of_beq_eq_true h1, Nat.eq_of_beq_eq_true h2]
      exact nest29 prog w bl L'
  · obtain ⟨ns, h⟩ := fAll_at rfl (fx_all w.params) e
    rw [Nat.zero_add] at h
    refine fnAt_of (G := GG prog w bl) h fun i k' js hm => ?_
    have := allN_ok nst_all k (show k < 32 from lenOk_of ((at?_eq _ _).symm.trans e))
    rw [e] at this
    rcases Bool.or_eq_true_iff.mp this with h1 | h1
    · exact absurd hm (noNst_ok h1 i k' js)
    · exact absurd (Nat.eq_of_beq_eq_true h1) hk
theorem static1 : Static (GG prog w bl) cFT cNF cCT cGV where
  hT := by simp [GG]
  hC := {
    ok := fun k c e => (clsB_ok (G := GG prog w bl) (cls_at w e).1).1
    fns := fun k c e => (clsB_ok (G := GG prog w bl) (cls_at w e).1).2
    names := fun a ha => by simpa using allN_ok copied a ha
    isi := fun k c hk hc hn => by
      have h := allN_ok (f := fun c => Nat.beq k c || (clsAsk (KK w.params) (caN k) && isNotC (KK w.params) (caN k) (caN c))) (allN_ok (isi_all w.params) k (Nat.lt_succ_of_le hk)) c (Nat.lt_succ_of_le hc)
      rcases Bool.or_eq_true_iff.mp h with h | h
      · exact absurd (Nat.eq_of_beq_eq_true h) hn
      · exact Bool.and_eq_true_iff.mp h }
  hG := fun g x v hx hv => by
    have hg : g < 11 := lenOk_of hx
    have := allN_ok (gv_ok w.params) g hg
    rw [hv, hx] at this
    exact gB_ok (G := GG prog w bl) this
  nf := fun k fn e => by
    match k with
    | 0 =>
      cases e
      obtain ⟨c1, c2⟩ := Bool.and_eq_true_iff.mp tx_c
      exact ⟨⟨cns_text_of, fnB_ok (G := GG prog w bl) (tx_B w.params) tx_S fun cl doc pm an cdv ct vals h => by obtain ⟨v0, rfl⟩ := List.length_eq_one_iff.mp h; exact tx_A cl doc pm an cdv ct v0⟩, noNst_ok (by rfl), (fun g hg e => by
        have := List.all_eq_true.mp c1 g hg
        rw [e] at this; cases this), fun x hx e => by
        have := List.all_eq_true.mp c2 x hx
        rw [e] at this; cases this⟩
    | k + 1 => cases e
  cls := fun k c e => (cls_at w e).2
  fn := fun k fn e => fn_at prog w bl e
end
end Mine

open PySem PySem.W PyProof.Rows PySem.Calls
namespace Mine
set_option autoImplicit false
set_option backward.match.sparseCases false
set_option linter.unusedVariables false
set_option maxRecDepth 100000
section
variable {G : St} {A : Around} {env : Env} {h₀ : Heap} {L : Addr} {ns : Names} {m : Str → Option Value} {N : Led} {ρ : Rho}
theorem slots_forget {sl : List Slot} (hL : env.locals = L) (hk : env.kindOf (ns.at 0) = some .local) (S : Slots G L env ns m N ρ sl) : Slots G L env ns m N ρ (forget sl) := by
  cases sl with
  | nil => exact S
  | cons x sl =>
    exact ⟨S.len, S.nd, S.dbg, fun i y e => by
      cases i with
      | zero => cases e; exact .locN hL hk
      | succ i => exact S.ok (i + 1) y e⟩
end
end Mine

open PySem PySem.W PyProof.Rows PySem.Calls
namespace Mine
set_option autoImplicit false
set_option backward.match.sparseCases false
set_option linter.unusedVariables false
set_option maxRecDepth 100000
section
variable {G : St} {FT NF : List Fn} {CT : List Cl} {GV : List (Option MV)} {mm : Memo} {A : Around} {env : Env} {h₀ : Heap} {L : Addr} {m : Str → Option Value} {N : Led} {ρ : Rho} {s : Shared} {ns : Names}
/-- the first row of a law, a list of ints put into a name: no token need be there before it -/
theorem first_ok (Z : Static G FT NF CT GV) (hM : MemoOk G mm) {n i k : Nat} {c : Int} {np cp lp p : Pos} {es : List E} {sl sl1 : List Slot} {σ σ1 : List MO} {fl : Fl} (H : EnvOk G A env h₀ L (n + 4)) (hL : env.locals = L)
    (S : Slots G L env ns m N ρ sl) (I : Inv G h₀ L m N ρ σ s.heap (s.toks + 1)) (h : (run FT NF CT GV mm (n + 4)).s (.asg (.name i np) (.list (.cst (.int c) k cp :: es) lp) p) sl σ = some (fl, sl1, σ1)) :
    WpS G A h₀ L env ns m (exec ((Mine.S.asg (.name i np) (.list (.cst (.int c) k cp :: es) lp) p).er ns) env) sl1 σ1 (FlR G fl) N ρ s := by
  have hs := sound_run Z hM
  replace h : ((run FT NF CT GV mm (n + 3)).e (.list (.cst (.int c) k cp :: es) lp) sl σ).bind (fun x => ((run FT NF CT GV mm (n + 3)).a (.name i np) x.1 sl x.2).bind fun y => some (Fl.next, y)) = some (fl, sl1, σ1) := h
  obtain ⟨x, e1, h⟩ := bind_some h
  obtain ⟨y, e2, h⟩ := bind_some h
  cases h
  replace e1 : (((run FT NF CT GV mm (n + 1)).es es sl σ).bind fun y => some (MV.int c :: y.1, y.2)).bind (fun x => newL x.2 (x.1.map MV.wk)) = some x := e1
  obtain ⟨z, e3, e1⟩ := bind_some e1
  obtain ⟨q, e4, e3⟩ := bind_some e3
  cases e3
  have nr : NR (.list (.cst (.int c) k cp :: es) lp) := fun x hx => by cases hx
  show WpS G A h₀ L env ns m (exec (.Assign [(T.name i np).er ns] ((Mine.E.list (.cst (.int c) k cp :: es) lp).er ns) p) env) _ _ _ _ _ _
  rw [arm_exec_Assign]
  refine WpS.stand ?_
  rw [swapsNo (sl := sl) nr rfl]
  intro Q E qq
  refine wpAny_bind (wpAny_pure ?_)
  simp only [Bool.false_eq_true, if_false]
  refine wpAny_bind ?_
  show wpAny _ _ (eval (.List (Mine.E.ers ns (.cst (.int c) k cp :: es)) lp) env) _ _ _
  rw [arm_eval_List]
  refine wpAny_bind (wpAny_standAt ?_)
  rw [star_er (fun x hx => by cases hx)]
  refine wpAny_bind (spliced_cons (wpAny_Constant_int (k := k) (pos := cp) ?_))
  refine (hs (n + 1)).es (s := { s with toks := s.toks + 1 }) (H.le (by omega)) S I e4 _ _ fun us h₂ tk₂ N₂ ρ₂ I₂ x₂ r₂ => ?_
  refine newL_ok (s := { s with heap := h₂, toks := tk₂ }) (ws := .int c s.toks :: us) e1 (.cons (.int c _) r₂.wk) I₂ (fun hz Q E q => newList_K I₂.F I₂.W (fun D h' F' W' hlt => q D h' tk₂ F' W' hlt) (by rw [sizeLine_eq]; omega)) _ _ fun u h₃ tk₃ N₃ ρ₃ I₃ x₃ r₃ => ?_
  have x23 := x₂.trans x₃
  rw [storesNo (S.mono x23) nr rfl]
  refine wpAny_bind (wpAny_pure ?_)
  show wpAny _ _ (assignAll u ((assignEach [(T.name i np).er ns] env).map (·.2)) >>= fun _ => pure Flow.next) _ _ _
  rw [assignEach1]
  exact wpAny_bind (((hs (n + 3)).a (s := { s with heap := h₃, toks := tk₃ }) (H.le (by omega)) hL (S.mono x23) I₃ r₃ e2) _ _ fun _ h₄ tk₄ N₄ ρ₄ m₄ I₄ x₄ S₄ _ => wpAny_pure (qq _ h₄ tk₄ N₄ ρ₄ m₄ I₄ (x23.trans x₄) S₄ rfl))
/-- the body of the law: its two first rows, the script forgotten, then the rest -/
theorem body_ok (Z : Static G FT NF CT GV) (hM : MemoOk G mm) {n i k : Nat} {c : Int} {np cp lp p : Pos} {es : List E} {s2 : Mine.S} {rest : List Mine.S}
    {sl1 sl2 sl3 : List Slot} {sl : List Slot} {σ σ1 σ2 σ3 : List MO} {fl : Fl} (H : EnvOk G A env h₀ L (n + 4)) (hL : env.locals = L) (hk : env.kindOf (ns.at 0) = some .local)
    (S : Slots G L env ns m N ρ sl) (I : Inv G h₀ L m N ρ σ s.heap (s.toks + 1))
    (e1 : (run FT NF CT GV mm (n + 4)).s (.asg (.name i np) (.list (.cst (.int c) k cp :: es) lp) p) sl σ = some (.next, sl1, σ1)) (e2 : (run FT NF CT GV mm (n + 4)).s s2 sl1 σ1 = some (.next, sl2, σ2)) (e3 : (run FT NF CT GV mm (n + 4)).ss rest (forget sl2) σ2 = some (fl, sl3, σ3)) :
    WpS G A h₀ L env ns m (execs (Mine.S.ers ns (.asg (.name i np) (.list (.cst (.int c) k cp :: es) lp) p :: s2 :: rest)) env) sl3 σ3 (FlR G fl) N ρ s := by
  intro Q E q
  have hs := sound_run Z hM (n + 4)
  refine wpAny_execs_cons ((first_ok Z hM H hL S I e1) _ _ fun f h₁ tk N₁ ρ₁ m₁ I₁ x₁ S₁ r₁ => ?_)
  rw [show f = .next from r₁]
  refine wpAny_execs_cons ((hs.s H hL S₁ I₁ e2) _ _ fun g h₂ tk₂ N₂ ρ₂ m₂ I₂ x₂ S₂ r₂ => ?_)
  rw [show g = .next from r₂]
  exact (hs.ss H hL (slots_forget hL hk S₂) I₂ e3) _ _ fun f₃ h₃ tk₃ N₃ ρ₃ m₃ I₃ x₃ S₃ r₃ => q f₃ h₃ tk₃ N₃ ρ₃ m₃ I₃ (x₁.trans (x₂.trans x₃)) S₃ r₃
end
end Mine

open PySem PySem.W PyProof.Rows PySem.Calls
namespace Mine
set_option autoImplicit false
set_option backward.match.sparseCases false
set_option linter.unusedVariables false
set_option maxRecDepth 100000
set_option maxHeartbeats 4000000
theorem sqs (M a b : Nat) : ((List.range 62).map fun k => hdQ (scr M a b k)) = List.replicate 62 (hdQ (scr M a b 0)) := by kernel_rfl
theorem sameQ (M a b k : Nat) (h : k < 62) : hdQ (scr M a b k) = hdQ (scr M a b 0) := by
  have e := congrArg (fun l => l[k]?) (sqs M a b)
  simp only [List.getElem?_map, List.getElem?_range h, List.getElem?_replicate, if_pos h, Option.map_some, Option.some.injEq] at e
  exact e
end Mine

open PySem PySem.W PyProof.Rows PySem.Calls
namespace Mine
set_option autoImplicit false
set_option backward.match.sparseCases false
set_option linter.unusedVariables false
set_option maxRecDepth 100000
set_option maxHeartbeats 4000000
noncomputable def fM : Nat → Nat
  | 0 => 2
  | 1 => 8
  | _ => 64
noncomputable def rr1 (a : Nat) : Bool := tlQ (hdQ [.ab 3 a])
noncomputable def rr2 (a b : Nat) : Bool := tlQ (hdQ (scr (fM a) a b 0))
theorem q0 : tlQ (hdQ []) = true := (by decide +kernel)
theorem alls {f : Nat → Bool} {n : Nat} (h1 : f n = true) (h2 : allN f n = true) : allN f (n + 1) = true := Bool.and_eq_true_iff.mpr ⟨h1, h2⟩
theorem q1 : allN rr1 3 = true := alls (by decide +kernel) (alls (by decide +kernel) (alls (by decide +kernel) ((rfl : allN (rr1) 0 = true))))
theorem w2_0 : allN (rr2 0) 2 = true := alls (by decide +kernel) (alls (by decide +kernel) ((rfl : allN (rr2 0) 0 = true)))
theorem w2_1 : allN (rr2 1) 8 = true := alls (by decide +kernel) (alls (by decide +kernel) (alls (by decide +kernel) (alls (by decide +kernel) (alls (by decide +kernel) (alls (by decide +kernel) (alls (by decide +kernel) (alls (by decide +kernel) ((rfl : allN (rr2 1) 0 = true)))))))))
theorem w2_2_0 : allN (rr2 2) 4 = true := alls (by decide +kernel) (alls (by decide +kernel) (alls (by decide +kernel) (alls (by decide +kernel) ((rfl : allN (rr2 2) 0 = true)))))
theorem w2_2_4 : allN (rr2 2) 8 = true := alls (by decide +kernel) (alls (by decide +kernel) (alls (by decide +kernel) (alls (by decide +kernel) (w2_2_0))))
theorem w2_2_8 : allN (rr2 2) 12 = true := alls (by decide +kernel) (alls (by decide +kernel) (alls (by decide +kernel) (alls (by decide +kernel) (w2_2_4))))
theorem w2_2_12 : allN (rr2 2) 16 = true := alls (by decide +kernel) (alls (by decide +kernel) (alls (by decide +kernel) (alls (by decide +kernel) (w2_2_8))))
theorem w2_2_16 : allN (rr2 2) 20 = true := alls (by decide +kernel) (alls (by decide +kernel) (alls (by decide +kernel) (alls (by decide +kernel) (w2_2_12))))
theorem w2_2_20 : allN (rr2 2) 24 = true := alls (by decide +kernel) (alls (by decide +kernel) (alls (by decide +kernel) (alls (by decide +kernel) (w2_2_16))))
theorem w2_2_24 : allN (rr2 2) 28 = true := alls (by decide +kernel) (alls (by decide +kernel) (alls (by decide +kernel) (alls (by decide +kernel) (w2_2_20))))
theorem w2_2_28 : allN (rr2 2) 32 = true := alls (by decide +kernel) (alls (by decide +kernel) (alls (by decide +kernel) (alls (by decide +kernel) (w2_2_24))))
theorem w2_2_32 : allN (rr2 2) 36 = true := alls (by decide +kernel) (alls (by decide +kernel) (alls (by decide +kernel) (alls (by decide +kernel) (w2_2_28))))
theorem w2_2_36 : allN (rr2 2) 40 = true := alls (by decide +kernel) (alls (by decide +kernel) (alls (by decide +kernel) (alls (by decide +kernel) (w2_2_32))))
theorem w2_2_40 : allN (rr2 2) 44 = true := alls (by decide +kernel) (alls (by decide +kernel) (alls (by decide +kernel) (alls (by decide +kernel) (w2_2_36))))
theorem w2_2_44 : allN (rr2 2) 48 = true := alls (by decide +kernel) (alls (by decide +kernel) (alls (by decide +kernel) (alls (by decide +kernel) (w2_2_40))))
theorem w2_2_48 : allN (rr2 2) 52 = true := alls (by decide +kernel) (alls (by decide +kernel) (alls (by decide +kernel) (alls (by decide +kernel) (w2_2_44))))
theorem w2_2_52 : allN (rr2 2) 56 = true := alls (by decide +kernel) (alls (by decide +kernel) (alls (by decide +kernel) (alls (by decide +kernel) (w2_2_48))))
theorem w2_2_56 : allN (rr2 2) 60 = true := alls (by decide +kernel) (alls (by decide +kernel) (alls (by decide +kernel) (alls (by decide +kernel) (w2_2_52))))
theorem w2_2_60 : allN (rr2 2) 64 = true := alls (by decide +kernel) (alls (by decide +kernel) (alls (by decide +kernel) (alls (by decide +kernel) (w2_2_56))))
theorem w2_2 : allN (rr2 2) 64 = true := w2_2_60
theorem prs2 : ∀ {a b : Nat}, a < 3 → b < fM a → rr2 a b = true
  | 0, b, _, h => allN_ok w2_0 b h
  | 1, b, _, h => allN_ok w2_1 b h
  | 2, b, _, h => allN_ok w2_2 b h
  | a + 3, _, h, _ => absurd h (by omega)
theorem fM_pos : ∀ a, 0 < fM a
  | 0 => (by decide : 0 < 2)
  | 1 => (by decide : 0 < 8)
  | _ + 2 => (by decide : 0 < 64)
end Mine

open PySem PySem.W PyProof.Rows PySem.Calls
namespace Mine
set_option autoImplicit false
set_option backward.match.sparseCases false
set_option linter.unusedVariables false
set_option maxRecDepth 100000
set_option maxHeartbeats 4000000
/-- what is told of the script -/
noncomputable def toldOf : List Int → List MV
  | [] => []
  | [x] => [.ab 3 (x.natAbs % 3)]
  | x :: y :: r => scr (fM (x.natAbs % 3)) (x.natAbs % 3) (y.natAbs % fM (x.natAbs % 3)) r.length
theorem told_run (is : List Int) (h : is.length ≤ 63) : tlQ (hdQ (toldOf is)) = true := by
  match is, h with
  | [], _ => exact q0
  | [x], _ => exact allN_ok q1 _ (Nat.mod_lt _ (by decide))
  | x :: y :: r, h =>
    show tlQ (hdQ (scr _ _ _ r.length)) = true
    rw [sameQ _ _ _ _ (by simp at h; omega)]
    exact prs2 (Nat.mod_lt _ (by decide)) (Nat.mod_lt _ (fM_pos _))
theorem anys {G : St} {N : Led} {ρ : Rho} : ∀ {vs : List Value} {is : List Int}, IntsAre vs is → RVs G N ρ vs (List.replicate is.length .any)
  | _, _, .nil => .nil
  | _, _, .cons n t h => .cons (.any _) (anys h)
theorem told_rvs {G : St} {N : Led} {ρ : Rho} {vs : List Value} {is : List Int} (h : IntsAre vs is) : RVs G N ρ vs (toldOf is) := by
  cases h with
  | nil => exact .nil
  | cons n t h =>
    cases h with
    | nil => exact .cons (.ab rfl) .nil
    | cons n' t' h => exact .cons (.ab rfl) (.cons (.ab rfl) (anys h))
end Mine

open PySem PySem.W PyProof.Rows PySem.Calls
namespace Mine
set_option autoImplicit false
set_option backward.match.sparseCases false
set_option linter.unusedVariables false
set_option maxRecDepth 100000
noncomputable def lawNames : Names := cns_law.dropLast
theorem gl_of {G : St} {x : Str} {mv : MV} (h : gB G.K G.FA G.CA x mv = true) : GlbOk G x mv := gB_ok h
theorem nd4 (L : Nat) (h : 441 < L) : [L + 1 + 1 + 1, L + 1 + 1, L + 1, 441].Nodup := by simp; omega
theorem ap3 (L : Nat) : [((L + 1, L + 1) : Addr × Addr), (L + 1 + 1, L + 1 + 1), (L + 1 + 1 + 1, L + 1 + 1 + 1)].Pairwise Off2 := by
  simp only [List.pairwise_cons, List.mem_cons, List.not_mem_nil, Off2, forall_eq_or_imp, forall_eq, false_imp_iff, implies_true, and_true, List.Pairwise.nil]
  refine ⟨⟨⟨?_, ?_, ?_, ?_⟩, ?_, ?_, ?_, ?_⟩, ?_, ?_, ?_, ?_⟩ <;> exact fun (e : (_ : Nat) = _) => by omega
section
variable {prog : Program} {w : World} {base : Heap} {L fa a : Addr} {cd : Value} {name : Str} {scope : Scope} {m : Str → Option Value} {vs : List Value} {is : List Int} {N : Led} {ρ : Rho}
theorem law_slots (hn : scope.names = lawNames) (hk : scope.kind = .function) (hI : IntsAre vs is) (hm : m "script" = some (.ref a)) (hρ : ρ.l = [(L + 1, L + 1), (L + 1 + 1, L + 1 + 1), (L + 1 + 1 + 1, L + 1 + 1 + 1)]) :
    Slots (GG prog w [(a, vs)]) L (envOfC name scope L fa cd) cns_law m N ρ (lawL (toldOf is)) := by
  have kd : ∀ x, (envOfC name scope L fa cd).kindOf x = lawNames.lookup x := fun x => by show scope.names.lookup x = _; rw [hn]
  have cl : ∀ x, (envOfC name scope L fa cd).cells.lookup x = (cellsFrom (L + 1) lawNames []).lookup x := fun x => by show (cellsFrom (L + 1) scope.names []).lookup x = _; rw [hn]
  refine ⟨rfl, ndB2_ok (by decide +kernel), fun i hi => ?_, fun i x e => ?_⟩
  · have := List.all_eq_true.mp (show dbgB cns_law = true by decide +kernel) _ (List.getElem_mem hi)
    rw [at_of (List.getElem?_eq_getElem hi)]
    simpa using this
  · match i, e with
    | 0, e => cases e; exact .locS rfl ((kd _).trans (by kernel_rfl)) hm (.bl (List.mem_singleton.mpr rfl) (told_rvs hI))
    | 1, e => cases e; exact .locN rfl ((kd _).trans (by kernel_rfl))
    | 2, e => cases e; exact .locN rfl ((kd _).trans (by kernel_rfl))
    | 3, e => cases e; exact .locN rfl ((kd _).trans (by kernel_rfl))
    | 4, e => cases e; exact .locN rfl ((kd _).trans (by kernel_rfl))
    | 5, e => cases e; exact .locN rfl ((kd _).trans (by kernel_rfl))
    | 6, e => cases e; exact .locN rfl ((kd _).trans (by kernel_rfl))
    | 7, e => cases e; exact .cel (c := L + 1) ((kd _).trans (by kernel_rfl)) ((cl _).trans (by kernel_rfl)) (by rw [hρ]; rfl)
    | 8, e => cases e; exact .locN rfl ((kd _).trans (by kernel_rfl))
    | 9, e => cases e; exact .locN rfl ((kd _).trans (by kernel_rfl))
    | 10, e => cases e; exact .locN rfl ((kd _).trans (by kernel_rfl))
    | 11, e => cases e; exact .cel (c := L + 1 + 1) ((kd _).trans (by kernel_rfl)) ((cl _).trans (by kernel_rfl)) (by rw [hρ]; rfl)
    | 12, e => cases e; exact .cel (c := L + 1 + 1 + 1) ((kd _).trans (by kernel_rfl)) ((cl _).trans (by kernel_rfl)) (by rw [hρ]; rfl)
    | 13, e => cases e; exact .locN rfl ((kd _).trans (by kernel_rfl))
    | 14, e => cases e; exact .glb ((kd _).trans (by kernel_rfl)) (gl_of (by kernel_rfl))
    | 15, e => cases e; exact .glb ((kd _).trans (by kernel_rfl)) (gl_of (by kernel_rfl))
    | 16, e => cases e; exact .glb ((kd _).trans (by kernel_rfl)) (gl_of (by kernel_rfl))
    | 17, e => cases e; exact .glb ((kd _).trans (by kernel_rfl)) (gl_of (by kernel_rfl))
    | 18, e => cases e; exact .glb ((kd _).trans (by kernel_rfl)) (gl_of (by kernel_rfl))
    | 19, e => cases e; exact .glb ((kd _).trans (by kernel_rfl)) (gl_of (by kernel_rfl))
    | 20, e => cases e; exact .glb ((kd _).trans (by kernel_rfl)) (gl_of (by kernel_rfl))
    | 21, e => cases e; exact .glb ((kd _).trans (by kernel_rfl)) (gl_of (by kernel_rfl))
    | 22, e => cases e; exact .nid (by kernel_rfl)
    | i + 23, e => cases e
theorem law_first : cb_law = bs1 :: bs2 :: cb_law.drop 2 := by kernel_rfl
theorem law_run {s : Shared} {o1 o2 o3 : Obj} {p : Program} {loose : List Str} {mean mg mb} {body : List Stmt} (hn : scope.names = lawNames) (hk : scope.kind = .function) (hb : body = S.ers cns_law cb_law)
    (d1 : o1.data = .cell none) (d2 : o2.data = .cell none) (d3 : o3.data = .cell none) (X : (KK w.params).In base) (T : Top p loose mean mg mb base) (F : Fr base L s.heap m)
    (W : News base L s.heap [(L + 1 + 1 + 1, o1), (L + 1 + 1, o2), (L + 1, o3), (441, tabObj #[])]) (hl : base.IsList a vs.toArray) (hI : IntsAre vs is) (hlen : is.length ≤ 63) (hc : CodeHd base 445 441) (lt : 441 < L)
    (hm : m "script" = some (.ref a)) (Q : Flow → Shared → Prop) (E : Value → Shared → Prop)
    (q : ∀ h' tk N' m', Fr base L h' m' → News base L h' N' → (∃ ps, ((441 : Addr), tabObj ps) ∈ N') → Q (.ret (.bool true)) { s with heap := h', toks := tk }) :
    wpAny (model prog w) (callerA.deeper (envOfC name scope L fa cd)) (execs body (envOfC name scope L fa cd)) Q E s := by
  obtain ⟨sl1, σ1, sl2, σ2, sl3, σ3, e1, e2, e3⟩ := evals (told_run is hlen)
  have Z := static1 prog w [(a, vs)]
  have B : Below callerA base [] base := below_caller base
  have H : EnvOk (GG prog w [(a, vs)]) (callerA.deeper (envOfC name scope L fa cd)) (envOfC name scope L fa cd) base L 440 :=
    { kind := hk, gl := rfl, bi := rfl, fr := rfl, X := X, T := ⟨_, _, _, _, _, T⟩, hd := rfl, B := ⟨callerA, base, [], _, B, Around.frames_deeper B.stack, rfl, hk⟩,
      tabs := fun t ht => by rw [List.mem_singleton.mp ht]; exact hc, bls := fun p hp => by rw [List.mem_singleton.mp hp]; exact hl,
      dep := by show 302 + 440 < recursionLimit; decide, uni := by show 4 + _ + 8 * 440 + 100 < cLine; decide }
  have I : Inv (GG prog w [(a, vs)]) base L m [(L + 1 + 1 + 1, o1), (L + 1 + 1, o2), (L + 1, o3), (441, tabObj #[])] ⟨[(L + 1, L + 1), (L + 1 + 1, L + 1 + 1), (L + 1 + 1 + 1, L + 1 + 1 + 1)], [], [], []⟩ lawS s.heap (s.toks + 1) :=
    { F := F, W := W, nd := nd4 L lt, len := rfl, ap := ap3 L,
      so := fun i mo e => by
        match i, e with
        | 0, e => cases e; exact ⟨_, rfl, .cell (by simp) d3 .none⟩
        | 1, e => cases e; exact ⟨_, rfl, .cell (by simp) d2 .none⟩
        | 2, e => cases e; exact ⟨_, rfl, .cell (by simp) d1 .none⟩
        | i + 3, e => cases e
      tb := fun t ht => by rw [List.mem_singleton.mp ht]; exact ⟨_, by simp, .inl rfl⟩
      bk := ⟨Nat.succ_pos _, (fun t h => nomatch h), (fun t h => nomatch h), (fun t h => nomatch h)⟩
      fz := fun a h => nomatch h }
  have S := law_slots (prog := prog) (w := w) (L := L) (name := name) (fa := fa) (cd := cd) (N := [(L + 1 + 1 + 1, o1), (L + 1 + 1, o2), (L + 1, o3), (441, tabObj #[])]) (ρ := ⟨[(L + 1, L + 1), (L + 1 + 1, L + 1 + 1), (L + 1 + 1 + 1, L + 1 + 1 + 1)], [], [], []⟩) hn hk hI hm rfl
  have R := body_ok (s := s) (n := 436) Z (mmR_ok Z) H rfl (by show scope.names.lookup _ = _; rw [hn]; kernel_rfl) S I e1 e2 e3
  rw [hb, law_first]
  refine R Q E fun f h' tk N' ρ' m' I' x' S' r' => ?_
  obtain ⟨u, rfl, ru⟩ := (show ∃ u, f = .ret u ∧ RV _ N' ρ' u (.bool true) from r')
  cases ru
  obtain ⟨ps, hps, _⟩ := I'.tb ⟨445, 441, ⟨303, 4, 304, 59⟩, "_law_put.<locals>.text_of"⟩ (List.mem_singleton.mpr rfl)
  exact q h' tk N' m' I'.F I'.W ⟨ps, hps⟩
end
end Mine

open PySem PySem.W PyProof.Rows PySem.Calls
set_option maxRecDepth 100000 in
set_option maxHeartbeats 8000000 in
theorem PySem.Challenge.cw_xm0955_03_holds : PySem.Challenge.rw_xm0955_03.Holds := by
  w_on
  refine holds_law Mine.said0 fun said => ?_
  refine holds_open (q := Mine.vw) (loose := Mine.lo) (Xt := Mine.Xt0) (XP := XL Mine.vw []) (Yf := Hook.obs (kmHook Mine.KK Mine.kas Mine.kpf [441])) (Ya := Hook.val (kmHook Mine.KK Mine.kas Mine.kpf [441])) (YP := Hook.says (kmHook Mine.KK Mine.kas Mine.kpf [441])) (N := 6062) Mine.left0 (Hook.of (kmHook Mine.KK Mine.kas Mine.kpf [441])) (Hook.keeps (kmHook Mine.KK Mine.kas Mine.kpf [441])) (fun s e => xl_of s (Bool.and_eq_true_iff.mp e).1) XL.keeps (by rfl) (by rfl) (by rfl) (fun s e => recFacts_of (Bool.and_eq_true_iff.mp e).2) (by rfl) (by assumption) (by decide +kernel) ⟨rfl, rfl, rfl, rfl, rfl, by decide +kernel⟩ ?hw ?hc
  case hw => w_witness2
  k_go0
  refine Mine.law_run (by kernel_rfl) (by kernel_rfl) (by kernel_rfl) ?_ ?_ ?_ (by assumption) (by assumption) (by assumption) (by assumption) (by assumption) (by assumption) (by omega) (by assumption) (by assumption) (by kernel_rfl) _ _ ?_
  · exact Eq.trans (by assumption) (by kernel_rfl)
  · exact Eq.trans (by assumption) (by kernel_rfl)
  · exact Eq.trans (by assumption) (by kernel_rfl)
  · intro h' tk N' m' F' W' hps
    obtain ⟨ps, hps⟩ := hps
    refine ⟨goodW_bool (m := m') F' (by assumption) (raisesW_false ?_) ?_, GrownAt.of W' hps, True.intro⟩
    · wrow_none_raised
    · kc_post

