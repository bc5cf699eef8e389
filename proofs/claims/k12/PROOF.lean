import PyProof.Rows.All
import Wide.All
import OpenK.AllK
import Wide.FinOn
import HandS.ForMost
import HandS.More
import PyProof.NeKinds
import KE.KDictSum
import HandS.Conv
import HandS.RevTup
import PyProof.SumAny
import HandS.TupSets
import KE.SortData
import HandS.Exc
import HandS.ExcOwn
import HandS.ExcInit
import HandS.ClsMeth
import KE.KExcInit
import HandS.ExcField
import HandS.IsInst
import KE.KExcIs
import KE.KDictPairs
import HandS.Wide
import HandS.TupAny
import HandS.NoneIn
import HandS.DictComp
import HandS.Walk
import KE.GoesEnum
import KE.KDictWalk
import KE.DataMinMax
import HandS.WordsExc
import HandS.HeadHook3
import PySem.Challenge.RW_backframes_k12_whole_rows_of_sources_ref
set_option Elab.async false
set_option linter.all false
set_option maxRecDepth 100000
set_option maxHeartbeats 4000000
/-! Rules that the law wants beside the layer's own: a list beside [], a tuple beside (), tuple(d). -/
namespace K12
open PySem PySem.Spec PyProof.Rows L2

section
variable {X : Cx}
/-- xs == [] -/
def rEqNil (K : PySem.W.Frag) : R2 := fun x y H Q => ∃ a b xs, x = .ref a ∧ y = .ref b ∧ SqL K H a xs ∧ SqL K H b [] ∧ Q (.bl xs.isEmpty) H
/-- xs != [] -/
def rNeNil (K : PySem.W.Frag) : R2 := fun x y H Q => ∃ a b xs, x = .ref a ∧ y = .ref b ∧ SqL K H a xs ∧ SqL K H b [] ∧ Q (.bl (!xs.isEmpty)) H
theorem nil_its {its : List Value} (r : Vals [] its) : its = [] := by
  cases r
  rfl
theorem op_eqNil (hu : X.A.units < cLine) : OpR X (compareOp .Eq) (rEqNil X.K) := by
  intro pins s σ H x y v u Q I rx ry ⟨a, b, xs, ex, ey, ha, hb, q⟩
  subst ex ey
  cases rx
  cases ry
  obtain ⟨its, r1, p1, _⟩ := I.list ha
  obtain ⟨its2, r2, p2, _⟩ := I.list hb
  have e2 := nil_its r2
  subst e2
  cases r1 with
  | nil => exact PySem.SeqAt.eq_listAt (e := fun _ => true) p1.isList p2.isList rfl hu (fun j h1 _ => absurd h1 (Nat.not_lt_zero _)) ⟨.bl true, H, I, rfl, q⟩
  | cons _ _ => exact PySem.SeqAt.eq_list_lengthsAt p1.isList p2.isList (by simp) hu ⟨.bl false, H, I, rfl, q⟩
theorem op_neNil (hu : X.A.units < cLine) : OpR X (compareOp .NotEq) (rNeNil X.K) := by
  intro pins s σ H x y v u Q I rx ry ⟨a, b, xs, ex, ey, ha, hb, q⟩
  subst ex ey
  cases rx
  cases ry
  obtain ⟨its, r1, p1, _⟩ := I.list ha
  obtain ⟨its2, r2, p2, _⟩ := I.list hb
  have e2 := nil_its r2
  subst e2
  cases r1 with
  | nil => exact PySem.SeqAt.RcNeAt.lists (e := fun _ => true) p1.isList p2.isList rfl hu (fun j h1 _ => absurd h1 (Nat.not_lt_zero _)) _ _ _ _ ⟨.bl false, H, I, rfl, q⟩
  | cons _ _ => exact PySem.SeqAt.RcNeAt.lists_lengths p1.isList p2.isList (by simp) hu _ _ _ _ ⟨.bl true, H, I, rfl, q⟩
/-- t == (), t not empty -/
def rEqUnit (K : PySem.W.Frag) : R2 := fun x y H Q => ∃ a b z xs, x = .ref a ∧ y = .ref b ∧ SqT K H a (z :: xs) ∧ SqT K H b [] ∧ Q (.bl false) H
theorem op_eqUnit (hu : X.A.units < cLine) : OpR X (compareOp .Eq) (rEqUnit X.K) := by
  intro pins s σ H x y v u Q I rx ry ⟨a, b, z, xs, ex, ey, ha, hb, q⟩
  subst ex ey
  cases rx
  cases ry
  obtain ⟨its, r1, p1, _⟩ := I.tuple ha
  obtain ⟨its2, r2, p2, _⟩ := I.tuple hb
  have e2 := nil_its r2
  subst e2
  cases r1 with
  | @cons _ _ v' us' _ _ =>
    refine PySem.SeqAt.eq_tupleAt (e := fun _ => true) p1 p2 hu (fun j _ h2 => absurd h2 (by simp)) ?_
    exact ⟨.bl false, H, I, (by show Value.bool _ = Value.bool false; simp), q⟩
/-- tuple(d), d a tracked dict -/
def rTupD : List V → Hp → VK → Prop := fun xs H Q => ∃ p kvs, xs = [.ref p] ∧ H p = some (.dK kvs) ∧ ∀ q, H q = none → Q (.ref q) (upd H q (.tup (kvs.map fun kv => kV kv.1)))
end
end K12

namespace K12
open PySem PySem.Spec PyProof.Rows
section
variable {prog : Program} {w : World} {A : Around} {E : Value → Shared → Prop} {s : Shared} {r d : Addr} {n : Nat} {P : Nat → Value → Prop} {OK : Heap → Prop}
/-- tuple(d) by the new type's call -/
theorem code_tupd {Q₁ : Value → Shared → Prop} (K : PySem.W.KdlSrc prog w "dict" r d n P OK) (hh : A.handled = none) (hok : OK s.heap) (hn : n ≤ sizeLine)
    (h : ∀ (h' : Heap) (tk : Nat) (acc : Array Value), (∀ b o, s.heap.get? b = some o → h'.get? b = some o) → ItemsOf P acc n →
      Q₁ (.ref h'.objs.size) { s with heap := h'.push { cls := .type "tuple", data := .seq acc }, toks := tk }) :
    codeAny (model prog w) A (.call (.builtin "tuple.__new__") ⟨[.type "tuple", .ref r], []⟩) (wants Q₁ E) s := by
  refine codeAny_of_tree ?_
  show wpAny _ A.in1 (do checkBuiltinCall "tuple.__new__" ⟨[.type "tuple", .ref r], []⟩; again (.builtin "tuple.__new__" ⟨[.type "tuple", .ref r], []⟩)) _ _ s
  refine wpAny_bind (wpAny_of_eq (F.newCall_tuple_1 _) (wpAny_pure ⟨plainId_quiet F.plain_tuple_new _, codeAny_builtin F.entry_tuple_new ?_⟩))
  rw [Around.under_plainId F.plain_tuple_new _]
  have k1 := sub_tuple_self
  have k2 := init_tuple_lookup
  have k3 := madeHere_tuple
  have k4 : s.TypeIs (.ref r) "dict" := K.type s hok
  have k5 : A.in1.handled = none := hh
  wp_walk using wpAny_typeOf k4, PySem.W.kdu_collect (A := A.in1) K k5 hok hn
  intro h' tk acc hk hacc
  show wpAny _ _ (Builtin.Tuple.tupleExact acc.toList.toArray >>= fun v => ret v) _ _ _
  unfold Builtin.Tuple.tupleExact
  refine wpAny_bind (wpAny_newObj_type ?_ (by show acc.toList.toArray.size ≤ sizeLine; rw [Array.toArray_toList, hacc.1]; exact hn))
  refine wpAny_pure ?_
  rw [Array.toArray_toList]
  exact h h' tk acc hk hacc
theorem call_tupd {Q : Value → Shared → Prop} (K : PySem.W.KdlSrc prog w "dict" r d n P OK) (hh : A.handled = none) (hok : OK s.heap) (hn : n ≤ sizeLine)
    (h : ∀ (h' : Heap) (tk : Nat) (acc : Array Value), (∀ b o, s.heap.get? b = some o → h'.get? b = some o) → ItemsOf P acc n →
      Q (.ref h'.objs.size) { s with heap := h'.push { cls := .type "tuple", data := .seq acc }, toks := tk }) :
    wpAny (model prog w) A (call (.type "tuple") [.ref r]) Q E s := by
  refine callType_codes (Q₁ := fun obj s₁ => s₁.TypeIs obj "tuple" ∧ Q obj s₁) F.called_tuple (F.typeCall_tuple_1 _) F.entry_object_init
    (code_tupd (A := A.in1) K hh hok hn fun h' tk acc hk hacc => ⟨⟨_, Heap.get?_push_size _ rfl, rfl⟩, h h' tk acc hk hacc⟩) fun obj s₁ ho => ?_
  exact ⟨ho.1, F.args_object_init_2 obj _, object_init_meets F.called_tuple.init.lookup F.called_tuple.made (by decide) prog w A.in1 _ s₁ ⟨ho.1, rfl, ho.2⟩⟩
end
end K12
namespace K12
open PySem PySem.Spec PyProof.Rows L2
theorem pget {α β : Type} {R : α → β → Prop} {xs : List α} {ys : List β} (h : Paired R xs ys) : ∀ {i : Nat} {x : α}, xs[i]? = some x → ∃ y, ys[i]? = some y ∧ R x y := by
  induction h with
  | nil => intro i x e; simp at e
  | cons r _ ih =>
    intro i x e
    cases i with
    | zero => simp at e; subst e; exact ⟨_, rfl, r⟩
    | succ i => exact ih (by simpa using e)
theorem pget2 {α β : Type} {R : α → β → Prop} {xs : List α} {ys : List β} (h : Paired R xs ys) : ∀ {i : Nat} {y : β}, ys[i]? = some y → ∃ x, xs[i]? = some x ∧ R x y := by
  induction h with
  | nil => intro i x e; simp at e
  | cons r _ ih =>
    intro i x e
    cases i with
    | zero => simp at e; subst e; exact ⟨_, rfl, r⟩
    | succ i => exact ih (by simpa using e)
theorem keys_vals {P : Program} {w : World} {kvs : List (Key × V)} {vs : List (Key × Value)} (rk : KV kvs vs) {acc : Array Value} (h : ItemsOf (fun i v => ∃ k x, vs[i]? = some (k, x) ∧ (mixKind P w).is k v = true) acc vs.length) :
    Vals (kvs.map fun kv => kV kv.1) acc.toList := by
  have hl : kvs.length = vs.length := Paired.length rk
  have ha : acc.toList.length = vs.length := by rw [Array.length_toList]; exact h.1
  refine vals_of_at (by rw [List.length_map, ha, hl]) fun j x u h1 h2 => ?_
  obtain ⟨k, y, e1, e2⟩ := h.2 j u (by rw [← Array.getElem?_toList]; exact h2)
  rw [List.getElem?_map] at h1
  cases e3 : kvs[j]? with
  | none => rw [e3] at h1; cases h1
  | some kv =>
    rw [e3] at h1
    have h1' : kV kv.1 = x := Option.some.inj h1
    obtain ⟨q, eq, er, _⟩ := pget rk e3
    rw [eq] at e1
    cases e1
    subst h1'
    dsimp only at er
    rw [er]
    exact keyIs_rel e2
theorem call_tupD {X : Cx} (hc : X.calm = true) : CallR X (.type "tuple") rTupD := by
  intro pins s σ H xs us Q I r ⟨p, kvs, e, hk, q⟩
  subst e
  obtain ⟨u, eu, rx⟩ := vals1 r
  subst eu
  obtain rfl : u = Value.ref p := rx
  obtain ⟨z, lo, vs, rk, hd⟩ := (show ObjOk X.prog X.w H s.heap p (.dK kvs) from I.hok p _ hk)
  obtain ⟨ep, hat⟩ := hd.dictAt
  have hl : kvs.length = vs.length := Paired.length rk
  refine call_tupd (PySem.W.kdl_dict (knd := mixKind X.prog X.w) (kvs := vs) (ep := ep) lo) (I.ok.hd hc) hat (by rw [← hl]; exact z) fun h' tk acc hkeep hacc => ?_
  have J : Inv X pins σ H { s with heap := h', toks := tk } := I.kept (t' := tk) hkeep
  refine ⟨.ref h'.objs.size, upd H h'.objs.size (.tup (kvs.map fun kv => kV kv.1)), J.laid (t' := tk) (fun b o e => Heap.get?_push_of_some _ e) (Nat.le_refl _) ?_, rfl, q _ (J.hok.fresh (Nat.le_refl _))⟩
  refine (show ObjOk X.prog X.w _ _ _ (.tup (kvs.map fun kv => kV kv.1)) from ⟨by rw [List.length_map]; exact z, acc.toList, keys_vals rk hacc, ?_⟩)
  rw [Array.toArray_toList]
  exact IsTup.new _ _
end K12

/-! tuple(d) of a written dict with text keys. -/
namespace K12
open PySem PySem.Spec PyProof.Rows L2
def keyStr (e : DictEntry) : Str := match e.key with | .str x _ => x | _ => Str.empty
def KTup (K : PySem.W.Frag) (w : World) (d : Addr) (ks : List Str) : Prop :=
  ∃ es n, K.lookup d = some ⟨.type "dict", none, .dict es n, #[]⟩ ∧ PySem.W.KeysLit w.params es.toList ∧ (d == sysModules) = false ∧ es.toList.map keyStr = ks ∧ ks.Nodup
def rTupK (K : PySem.W.Frag) (w : World) (d : Addr) : List V → Hp → VK → Prop := fun xs H Q => ∃ ks, xs = [.ref d] ∧ KTup K w d ks ∧ ks.length ≤ 1000 ∧ ∀ q, H q = none → Q (.ref q) (upd H q (.tup (ks.map V.str)))
theorem lit_pairs {P : Program} {w : World} : ∀ (l : List DictEntry), PySem.W.KeysLit w.params l → Pairs (strKind P w) l (l.map fun e => (keyStr e, e.val))
  | [], _ => .nil
  | e :: r, ⟨⟨x, t, e1, _⟩, hr⟩ => by
    refine .cons ?_ rfl (lit_pairs r hr)
    show (strKind P w).is (keyStr e) e.key = true
    have e2 : keyStr e = x := by unfold keyStr; rw [e1]
    rw [e2, e1]
    exact strKind_is P w x t
theorem call_tupK {X : Cx} {d : Addr} (hc : X.calm = true) : CallR X (.type "tuple") (rTupK X.K X.w d) := by
  intro pins s σ H xs us Q I r ⟨ks, e, ⟨es, n, hl, hk, low, hks, hn⟩, hz, q⟩
  subst e
  obtain ⟨u, eu, rx⟩ := vals1 r
  subst eu
  obtain rfl : u = Value.ref d := rx
  obtain ⟨o, es', ep, ho, hx, hd, hkeys, _⟩ := PySem.W.mapOf_K (prog := X.prog) (w := X.w) I.kIn hl hk
  have hat : s.heap.DictAt (strKind X.prog X.w) d (es.toList.map fun e => (keyStr e, e.val)) n := by
    have ho2 := I.kIn _ _ hl
    refine ⟨_, es, ho2, ⟨rfl, rfl, rfl⟩, rfl, ?_, lit_pairs es.toList hk, ?_⟩
    · rw [ho] at ho2
      cases ho2
      have hd' : Data.dict es n = Data.dict es' ep := hd
      cases hd'
      exact hkeys
    · rw [List.map_map]
      have : (es.toList.map ((fun x : Str × Value => x.1) ∘ fun e => (keyStr e, e.val))) = es.toList.map keyStr := rfl
      rw [this, hks]
      exact hn
  have hlen : (es.toList.map fun e => (keyStr e, e.val)).length = ks.length := by rw [← hks, List.length_map, List.length_map]
  refine call_tupd (PySem.W.kdl_dict (knd := strKind X.prog X.w) (ep := n) low) (I.ok.hd hc) hat (by rw [hlen, sizeLine_eq]; omega) fun h' tk acc hkeep hacc => ?_
  have J : Inv X pins σ H { s with heap := h', toks := tk } := I.kept (t' := tk) hkeep
  refine ⟨.ref h'.objs.size, upd H h'.objs.size (.tup (ks.map V.str)), J.laid (t' := tk) (fun b o e => Heap.get?_push_of_some _ e) (Nat.le_refl _) ?_, rfl, q _ (J.hok.fresh (Nat.le_refl _))⟩
  refine (show ObjOk X.prog X.w _ _ _ (.tup (ks.map V.str)) from ⟨by rw [List.length_map, sizeLine_eq]; omega, acc.toList, ?_, ?_⟩)
  · have ha : acc.toList.length = ks.length := by rw [Array.length_toList, hacc.1, hlen]
    refine vals_of_at (by rw [List.length_map, ha]) fun j x u h1 h2 => ?_
    obtain ⟨k, y, e1, e2⟩ := hacc.2 j u (by rw [← Array.getElem?_toList]; exact h2)
    rw [List.getElem?_map] at e1 h1
    rw [← hks, List.getElem?_map] at h1
    cases e3 : es.toList[j]? with
    | none => rw [e3] at e1; cases e1
    | some de =>
      rw [e3] at e1 h1
      have e4 : (keyStr de, de.val) = (k, y) := Option.some.inj e1
      have h4 : V.str (keyStr de) = x := Option.some.inj h1
      have e5 : keyStr de = k := congrArg Prod.fst e4
      subst h4
      rw [e5]
      obtain ⟨t, q⟩ := Value.isStrOf_shape (x := k) (v := u) e2
      exact ⟨t, q⟩
  · rw [Array.toArray_toList]
    exact IsTup.new _ _
end K12

/-! sum(lists, []). -/
namespace K12
open PySem PySem.Spec PyProof.Rows
/-- the plain list object -/
abbrev lob (its : List Value) (n : Nat) : Obj := { cls := .type "list", dict := none, data := .seq its.toArray n, slots := #[] }
theorem args_sum2 (a b : Value) : argsOk "sum" ⟨[a, b], []⟩ := by unfold argsOk; kernel_rfl
section
variable {prog : Program} {w : World} {A : Around} {E : Value → Shared → Prop} {R : Result → Shared → Prop} {g : Array GenState} {d : Drawn} {os : OsState}
theorem sum_loopL (hh : A.in1.handled = none) {I l S : Addr} (hl : l ≠ I) (hSI : S ≠ I) (hSl : S ≠ l) (items : Array Value) (L : Nat → Addr) (c : Nat → List Value) (m : Nat → Nat) (pre : Nat → List Value)
    (hval : ∀ (i : Nat) (v : Value), items[i]? = some v → v = Value.ref (L i)) (h0 : Heap) (hL : ∀ i, i < items.size → h0.get? (L i) = some (lob (c i) (m i))) (hpre : ∀ i, i < items.size → pre (i + 1) = pre i ++ c i) (hlen : ∀ i, i ≤ items.size → (pre i).length ≤ 1000)
    (hS0 : h0.get? S = none) (hI0 : h0.get? I = none) :
    ∀ (k i : Nat) (h : Heap) (tk : Nat) (T mT cS : Nat), items.size - i = k → i ≤ items.size → h.IsListIter I l i → h.IsList l items → (∀ b o, h0.get? b = some o → h.get? b = some o) →
      h.get? S = some (lob [Value.ref T] cS) → h.get? T = some (lob (pre i) mT) → T ≠ S → T ≠ I →
      (∀ h' tk' T' m', (∀ b o, h0.get? b = some o → h'.get? b = some o) → h'.get? T' = some (lob (pre items.size) m') → (T' = T ∨ I < T') → R (.ok (.ret (Value.ref T'))) ⟨h', g, d, tk', os⟩) →
      codeAny (model prog w) A (.builtin "sum.loop" ⟨[.ref I, .ref S, rawInt 2, rawInt 0], []⟩) R ⟨h, g, d, tk, os⟩ := by
  have W := (Walks.list (prog := prog) (w := w) (A := A.in1) hh I l hl items).toS
  intro k
  induction k with
  | zero =>
    intro i h tk T mT cS hk hi hit hls hkp hS hT hTS hTI hR
    have hin : i = items.size := by omega
    subst hin
    refine codeAny_builtin F.entry_sum_loop ?_
    rw [Around.under_plainId F.plain_sum_loop _]
    show wpAny _ A.in1 (seqItems? (.ref S) >>= _) _ _ _
    refine wpAny_bind (wpAny_seqItems hS rfl ?_)
    show wpAny _ A.in1 (tryCatch (pyNext (.ref I)) _ >>= _) _ _ _
    refine wpAny_bind (wpAny_tryCatch (W.done _ _ _ ⟨hit, hls⟩ fun s' hm => ?_))
    have e := Moved.eq_with hm
    rw [e]
    refine wpAny_pure (hR s'.heap s'.toks T mT (fun b o e2 => hm.heap b o (fun hb => ?_) (hkp b o e2)) (hm.heap T _ (fun hb => hTI (List.mem_singleton.mp hb)) hT) (.inl rfl))
    rw [List.mem_singleton.mp hb, hI0] at e2
    cases e2
  | succ k ih =>
    intro i h tk T mT cS hk hi hit hls hkp hS hT hTS hTI hR
    have hlt : i < items.size := by omega
    refine codeAny_builtin F.entry_sum_loop ?_
    rw [Around.under_plainId F.plain_sum_loop _]
    show wpAny _ A.in1 (seqItems? (.ref S) >>= _) _ _ _
    refine wpAny_bind (wpAny_seqItems hS rfl ?_)
    show wpAny _ A.in1 (tryCatch (pyNext (.ref I)) _ >>= _) _ _ _
    refine wpAny_bind (wpAny_tryCatch (W.item i _ _ _ hlt ⟨hit, hls⟩ fun v s' hP hst' hm => ?_))
    obtain rfl := hval i v hP
    have e := Moved.eq_with hm
    obtain ⟨h1, g1, d1, t1, o1⟩ := s'
    dsimp only at e hst' hm
    cases e
    obtain ⟨hit1, hls1⟩ := hst'
    have mv : ∀ b o, b ≠ I → h.get? b = some o → h1.get? b = some o := fun b o hb e => hm.heap b o (fun z => hb (List.mem_singleton.mp z)) e
    have hS1 := mv S _ hSI hS
    have hT1 := mv T _ hTI hT
    have hk1 : ∀ b o, h0.get? b = some o → h1.get? b = some o := fun b o e => mv b o (fun z => by rw [z, hI0] at e; cases e) (hkp b o e)
    have hLi := hk1 _ _ (hL i hlt)
    have hz := hlen (i + 1) hlt
    have hp := hpre i hlt
    rw [hp, List.length_append] at hz
    show wpAny _ A.in1 ((holding [Value.ref (L i)] (binaryOp .Add (.ref T) (.ref (L i)))).attempt >>= _) _ _ _
    refine wpAny_bind (wpAny_attempt (wpAny_holding (PySem.P.add_list (s := ⟨h1, g, d, t1, os⟩) hT1 hLi ?_ (by rw [List.size_toArray, List.size_toArray, sizeLine_eq]; omega))))
    show wpAny _ A.in1 (updateSeq S (fun _ => #[.ref h1.objs.size]) >>= _) _ _ _
    have sz1 : I < h1.objs.size := by
      obtain ⟨oi, hoi, _⟩ := hit1
      exact Heap.lt_size hoi
    have nS : h1.objs.size ≠ S := Nat.ne_of_gt (Heap.lt_size hS1)
    have nI : h1.objs.size ≠ I := by
      obtain ⟨oi, hoi, _⟩ := hit1
      exact Nat.ne_of_gt (Heap.lt_size hoi)
    have hS2 := Heap.get?_push_of_some { cls := .type "list", data := .seq ((pre i).toArray ++ (c i).toArray) } hS1
    refine wpAny_bind (wpAny_updateSeq hS2 rfl ?_)
    have hS3 := Heap.get?_update_self (Obj.mapSeq fun _ => #[Value.ref h1.objs.size]) hS2 rfl
    refine wpAny_bind (wpAny_letGo ?_)
    have up : ∀ b o, b ≠ S → h1.get? b = some o →
        (((h1.push { cls := .type "list", data := .seq ((pre i).toArray ++ (c i).toArray) }).update S (Obj.mapSeq fun _ => #[Value.ref h1.objs.size])).update S (Obj.mapSeq fun _ => #[Value.ref h1.objs.size])).get? b = some o := fun b o hb e =>
      (Heap.get?_update_other _ _ (Ne.symm hb)).trans ((Heap.get?_update_other _ _ (Ne.symm hb)).trans (Heap.get?_push_of_some _ e))
    refine wpAny_bind (wpAny_updateSeq hS3 rfl (wpAny_pure ⟨plainId_quiet F.plain_sum_loop _, ih (i + 1) _ t1 h1.objs.size 0 _ (by omega) hlt (hit1.at fun o e => up I o (Ne.symm hSI) e) (hls1.at fun o e => up l o (Ne.symm hSl) e) (fun b o e => up b o (fun z => by rw [z, hS0] at e; cases e) (hk1 b o e)) (Heap.get?_update_self _ hS3 rfl) ?_ nS nI fun h' tk' T' m' q1 q2 q3 => hR h' tk' T' m' q1 q2 ?_⟩))
    · refine (Heap.get?_update_other _ _ (Ne.symm nS)).trans ((Heap.get?_update_other _ _ (Ne.symm nS)).trans ?_)
      rw [Heap.get?_push_size _ rfl, hp]
      simp
    · right
      rcases q3 with q3 | q3
      · rw [q3]; exact sz1
      · exact q3
end
end K12

namespace K12
open PySem PySem.Spec PyProof.Rows
def preL (c : Nat → List Value) : Nat → List Value
  | 0 => []
  | i + 1 => preL c i ++ c i
theorem preL_flat {cs : List (List Value)} : ∀ i, i ≤ cs.length → preL (fun i => cs.getD i []) i = (cs.take i).flatten
  | 0, _ => rfl
  | i + 1, h => by
    have h1 : i < cs.length := h
    show preL (fun i => cs.getD i []) i ++ cs.getD i [] = _
    rw [preL_flat i (Nat.le_of_lt h1), List.take_succ, List.getElem?_eq_getElem h1, List.flatten_append]
    simp [List.getD, List.getElem?_eq_getElem h1]
theorem flat_le {α : Type} (cs : List (List α)) (i : Nat) : (cs.take i).flatten.length ≤ cs.flatten.length := by
  have e : cs.flatten = (cs.take i).flatten ++ (cs.drop i).flatten := by rw [← List.flatten_append, List.take_append_drop]
  rw [e, List.length_append]
  omega
section
variable {prog : Program} {w : World} {A : Around} {E : Value → Shared → Prop} {s : Shared}
theorem call_sumL {l p : Addr} {items : Array Value} (bs : List Addr) (cs : List (List Value)) (ms : List Nat) {Q : Value → Shared → Prop} {mp : Nat} (hh : A.handled = none) (hl : s.heap.IsList l items) (hit : items.toList = bs.map Value.ref) (hcs : cs.length = bs.length)
    (hL : ∀ i (b : Addr), bs[i]? = some b → s.heap.get? b = some (lob (cs.getD i []) (ms.getD i 0))) (hp : s.heap.get? p = some (lob [] mp)) (hz : cs.flatten.length ≤ 1000)
    (h : ∀ h' tk T m, (∀ b o, s.heap.get? b = some o → h'.get? b = some o) → h'.get? T = some (lob cs.flatten m) → (T = p ∨ s.heap.objs.size < T) → Q (.ref T) { s with heap := h', toks := tk }) :
    wpAny (model prog w) A (call (.builtin "sum") [.ref l, .ref p]) Q E s := by
  have hisz : items.size = bs.length := by
    have q := congrArg List.length hit
    rw [Array.length_toList, List.length_map] at q
    exact q
  refine call_function_tree F.kind_sum F.plain_sum F.entry_sum (args_sum2 _ _) ?_
  unfold Builtin.«sum»
  simp only [List.length_cons, List.length_nil]
  rw [if_neg (by decide)]
  refine wpAny_bind (wpAny_of_eq (show Builtin.Builtins.bindParams "sum" ["start"] 0 { pos := [.ref p], kw := [] } = pure [some (.ref p)] from rfl) ?_)
  refine wpAny_bind (wpAny_pyIter_list hl ?_)
  refine wpAny_bind (wpAny_pure ?_)
  have hp1 := Heap.get?_push_of_some { cls := .type "list_iterator", data := .fields #[.ref l, .int 0 0] } hp
  have hT : Shared.TypeIs { s with heap := s.heap.push { cls := .type "list_iterator", data := .fields #[.ref l, .int 0 0] } } (.ref p) "list" := ⟨_, hp1, rfl⟩
  simp only [List.forIn_cons, List.forIn_nil]
  refine wpAny_bind (wpAny_bind (wpAny_bind (wpAny_isInstance (T := "list") (b := false) hT (by rw [isSubtype_type]; kernel_rfl) ?_)))
  simp only [Bool.false_eq_true, if_false]
  refine wpAny_pure (wpAny_bind (wpAny_bind (wpAny_isInstance (T := "list") (b := false) hT (by rw [isSubtype_type]; kernel_rfl) ?_)))
  simp only [Bool.false_eq_true, if_false]
  refine wpAny_pure (wpAny_bind (wpAny_bind (wpAny_isInstance (T := "list") (b := false) hT (by rw [isSubtype_type]; kernel_rfl) ?_)))
  simp only [Bool.false_eq_true, if_false]
  refine wpAny_pure (wpAny_pure ?_)
  refine wpAny_bind (wpAny_newObj_type ?_)
  obtain ⟨ol, hol, _⟩ := id hl
  have z1 : (s.heap.push { cls := .type "list_iterator", data := .fields #[.ref l, .int 0 0] }).objs.size = s.heap.objs.size + 1 := Heap.size_push ..
  have nI : s.heap.get? s.heap.objs.size = none := Heap.get?_none_of_le (Nat.le_refl _)
  have nS : s.heap.get? (s.heap.objs.size + 1) = none := Heap.get?_none_of_le (Nat.le_succ _)
  have lls := Heap.lt_size hol
  have lps := Heap.lt_size hp
  refine wpAny_pure ⟨plainId_quiet F.plain_sum_loop _, sum_loopL (A := A) (I := s.heap.objs.size) (l := l) (S := (s.heap.push { cls := .type "list_iterator", data := .fields #[.ref l, .int 0 0] }).objs.size) hh (Nat.ne_of_lt lls) (by rw [z1]; exact Nat.succ_ne_self _) (by rw [z1]; exact Nat.ne_of_gt (Nat.lt_succ_of_lt lls)) items
    (fun i => bs.getD i 0) (fun i => cs.getD i []) (fun i => ms.getD i 0) (preL (fun i => cs.getD i [])) (fun i v hv => ?_) s.heap (fun i hi => ?_) (fun i hi => rfl) (fun i hi => ?_) (by rw [z1]; exact nS) nI items.size 0 _ _ p mp _ rfl (Nat.zero_le _) ?_ ((hl.push _).push _)
    (fun b o e => Heap.get?_push_of_some _ (Heap.get?_push_of_some _ e)) (Heap.get?_push_size _ rfl) (Heap.get?_push_of_some _ hp1) (by rw [z1]; exact Nat.ne_of_lt (Nat.lt_succ_of_lt lps)) (Nat.ne_of_lt lps) fun h' tk' T' m' q1 q2 q3 => ?_⟩
  · have q : items.toList[i]? = some v := by rw [Array.getElem?_toList]; exact hv
    rw [hit, List.getElem?_map] at q
    cases hb : bs[i]? with
    | none => rw [hb] at q; cases q
    | some b =>
      rw [hb] at q
      have e : Value.ref b = v := Option.some.inj q
      rw [← e]
      simp [List.getD, hb]
  · have hi2 : i < bs.length := by rw [← hisz]; exact hi
    have hb : bs[i]? = some bs[i] := List.getElem?_eq_getElem hi2
    have q := hL i _ hb
    show s.heap.get? (bs.getD i 0) = _
    have e : bs.getD i 0 = bs[i] := by simp [List.getD, hb]
    rw [e]
    exact q
  · rw [preL_flat i (by rw [hcs, ← hisz]; exact hi)]
    exact Nat.le_trans (flat_le cs i) hz
  · exact ⟨_, Heap.get?_push_of_some _ (Heap.get?_push_size _ rfl), rfl, rfl⟩
  · rw [preL_flat items.size (by rw [hcs, hisz]; exact Nat.le_refl _), hisz, ← hcs, List.take_length] at q2
    exact h h' tk' T' m' q1 q2 q3
end
end K12
namespace K12
open PySem PySem.Spec PyProof.Rows L2
/-- sum(xs, []) of lists xs; the answer may be the start itself -/
def rSumL (K : PySem.W.Frag) : List V → Hp → VK → Prop := fun vs H Q => ∃ (a p : Addr) (bs : List Addr) (cs : List (List V)), vs = [.ref a, .ref p] ∧ SqL K H a (bs.map V.ref) ∧ Paired (fun b xs => H b = some (.lst xs)) bs cs ∧ H p = some (.lst []) ∧ cs.flatten.length ≤ 1000 ∧
  ∀ (T : Addr) (H' : Hp), (T = p ∨ H T = none) → Same H H' → H' T = some (.lst cs.flatten) → Q (.ref T) H'
theorem vals_flat {css : List (List V)} {vss : List (List Value)} (h : Paired Vals css vss) : Vals css.flatten vss.flatten := by
  induction h with
  | nil => exact .nil
  | cons r _ ih => exact r.append ih
theorem call_sumL_ok {X : Cx} (hc : X.calm = true) : CallR X (.builtin "sum") (rSumL X.K) := by
  intro pins s σ H vs us Q I r ⟨a, p, bs, cs, e, ha, hb, hp, hz, q⟩
  subst e
  obtain ⟨u1, u2, rfl, r1, r2⟩ := vals2 r
  cases (show u1 = Value.ref a from r1)
  cases (show u2 = Value.ref p from r2)
  obtain ⟨its, rv, pl, lenA⟩ := I.list ha
  obtain ⟨_, itp, mp, rp, _, ep⟩ := I.lstM hp
  have ep2 := nil_its rp
  subst ep2
  have its_eq : its = bs.map Value.ref := by
    have aux : ∀ (bs : List Addr) (its : List Value), Vals (bs.map V.ref) its → its = bs.map Value.ref := by
      intro bs
      induction bs with
      | nil => intro its h; exact nil_its h
      | cons b bs ih =>
        intro its h
        cases h with
        | cons r t =>
          cases r
          rw [ih _ t, List.map_cons]
    exact aux bs its rv
  have hv : ∃ vss : List (List Value), ∃ ms : List Nat, Paired Vals cs vss ∧ vss.length = bs.length ∧ ∀ i (b : Addr), bs[i]? = some b → s.heap.get? b = some (lob (vss.getD i []) (ms.getD i 0)) := by
    clear q hz rv its_eq ha pl lenA
    induction hb with
    | nil => exact ⟨[], [], .nil, rfl, fun i b e => by simp at e⟩
    | @cons b xs bs cs hb _ ih =>
      obtain ⟨vss, ms, h1, h2, h3⟩ := ih
      obtain ⟨_, it, m, rv, _, e⟩ := I.lstM hb
      refine ⟨it :: vss, m :: ms, .cons rv h1, by rw [List.length_cons, List.length_cons, h2], fun i b' e' => ?_⟩
      cases i with
      | zero =>
        simp at e'
        subst e'
        exact e
      | succ i => exact h3 i b' (by simpa using e')
  obtain ⟨vss, ms, h1, h2, h3⟩ := hv
  have hf := vals_flat h1
  have hlf := hf.length
  refine call_sumL (p := p) bs vss ms (I.ok.hd hc) pl.isList its_eq h2 h3 ep (by rw [← hlf]; exact hz) fun h' tk T m hk hT hTp => ?_
  rcases hTp with e | e
  · subst e
    have e2 := hk _ _ ep
    rw [hT] at e2
    have e3 : vss.flatten = [] := by
      have q2 := Option.some.inj e2
      injection q2 with _ _ q3 _
      injection q3 with q4 _
      have q5 := congrArg Array.toList q4
      simpa using q5
    have e4 : cs.flatten = [] := by
      rw [e3] at hlf
      exact List.length_eq_zero_iff.mp hlf
    exact ⟨.ref T, H, I.kept (t' := tk) hk, rfl, q T H (.inl rfl) (Same.refl H) (by rw [e4]; exact hp)⟩
  · have nT : H T = none := I.hok.fresh (Nat.le_of_lt e)
    have J : Inv X pins σ (upd H T (.lst cs.flatten)) { s with heap := h', toks := tk } := I.laid (t' := tk) hk (Nat.le_of_lt e) (show ObjOk X.prog X.w _ _ _ (.lst cs.flatten) from ⟨by rw [sizeLine_eq]; omega, vss.flatten, m, hf, hT⟩)
    exact ⟨.ref T, _, J, rfl, q T _ (.inr nT) (fun b o e2 => by rw [upd_ne (ne_of_none e2 nT)]; exact e2) upd_same⟩
end K12

/-! A set made of tuples of texts, as far as the law needs it: its members are among those that were put in. -/
namespace K12
open PySem PySem.Spec PyProof.Rows L2
abbrev sHash (P : Program) (w : World) (k : List Str) : Int := tupleKeyHash (strKind P w) k
abbrev IsS (P : Program) (w : World) (h : Heap) (k : List Str) (a : Addr) : Prop := IsTupleKey (strKind P w) h k a
abbrev Mem := Addr × List Str
def entS (P : Program) (w : World) (p : Mem) : Int × Value := (sHash P w p.2, Value.ref p.1)
section
variable {P : Program} {w : World} {A : Around} {E : Value → Shared → Prop} {s : Shared}
theorem texts_of {k : List Str} {vs : List Value} (h : ItemsAre (strKind P w) k vs) : ∀ v ∈ vs, ∃ x t, v = Value.str x t := by
  induction h with
  | nil => intro v hv; cases hv
  | cons h1 _ ih =>
    intro v hv
    rcases List.mem_cons.mp hv with e | hv
    · obtain ⟨t, e2⟩ := Value.isStrOf_shape h1
      exact ⟨_, t, e.trans e2⟩
    · exact ih v hv
theorem cls_text (n : Nat) (x : Str) (t : Tok) : ofAClassStatement n (.str x t) = pure false := by cases n <;> rfl
theorem byv_text (n : Nat) (x : Str) (t : Tok) : hashByValue n (.str x t) = pure false := by cases n <;> rfl
theorem cls_pair {k : List Str} {b : Addr} {Q : Bool → Shared → Prop} (hk : IsS P w s.heap k b) (q : Q false s) : wpAny (model P w) A (ofAClassStatement 8 (.ref b)) Q E s := by
  have ty := hk.typeIs
  obtain ⟨o, items, n, ho, _, hd, hi⟩ := hk
  have tx := texts_of hi
  unfold ofAClassStatement
  refine wpAny_bind (wpAny_typeOf ty ?_)
  dsimp only
  rw [if_pos (show (("tuple" : String) == "tuple") = true by decide)]
  refine wpAny_bind (wpAny_pure ?_)
  rw [if_neg (by decide)]
  show wpAny _ _ (seqItems? (.ref b) >>= _) _ _ s
  refine wpAny_bind (wpAny_seqItems ho hd ?_)
  dsimp only
  refine wpAny_bind ?_
  show wpAny _ _ (forIn items _ _) _ _ s
  rw [← Array.forIn_toList]
  refine wpAny_forIn_list _ (fun left acc s' => acc.1 = none ∧ s' = s ∧ ∀ v ∈ left, ∃ x t, v = Value.str x t) _ (fun v left acc s' ⟨h1, h2, h3⟩ => ?_) (fun acc s' ⟨h1, h2, _⟩ => ?_) _ _ ⟨rfl, rfl, tx⟩
  · subst h2
    obtain ⟨x, t, e⟩ := h3 v (List.mem_cons_self ..)
    subst e
    rw [cls_text]
    refine wpAny_bind (wpAny_pure ?_)
    rw [if_neg Bool.false_ne_true]
    exact wpAny_pure ⟨rfl, rfl, fun u hu => h3 u (List.mem_cons_of_mem _ hu)⟩
  · subst h2
    obtain ⟨a1, a2⟩ := acc
    cases h1
    exact wpAny_pure q
theorem byv_pair {k : List Str} {b : Addr} {Q : Bool → Shared → Prop} (hk : IsS P w s.heap k b) (q : ∀ z, Q z s) : wpAny (model P w) A (hashByValue 8 (.ref b)) Q E s := by
  have ty := hk.typeIs
  obtain ⟨o, items, n, ho, _, hd, hi⟩ := hk
  have tx := texts_of hi
  unfold hashByValue
  refine wpAny_bind (wpAny_specialOf ty F.slot_tuple_hash.lookup ?_)
  show wpAny _ _ (seqItems? (.ref b) >>= _) _ _ s
  refine wpAny_bind (wpAny_seqItems ho hd ?_)
  refine wpAny_bind ?_
  show wpAny _ _ (forIn items _ _) _ _ s
  rw [← Array.forIn_toList]
  generalize items.toList = its at tx
  cases its with
  | nil => exact wpAny_pure (wpAny_pure (q true))
  | cons v r =>
    obtain ⟨x, t, e⟩ := tx v (List.mem_cons_self ..)
    subst e
    rw [List.forIn_cons, byv_text]
    refine wpAny_bind (wpAny_bind (wpAny_pure ?_))
    rw [if_pos (by decide)]
    exact wpAny_pure (wpAny_pure (wpAny_pure (q false)))
end
end K12

namespace K12
open PySem PySem.Spec PyProof.Rows L2
section
variable {P : Program} {w : World} {A : Around} {E : Value → Shared → Prop} {s : Shared}
/-- a search among such tuples would show nothing of the table -/
theorem hid_pair {k : List Str} {b : Addr} {Q : Bool → Shared → Prop} (hk : IsS P w s.heap k b) {ys : List Value} (hy : ∀ y ∈ ys, ∃ k' c, y = Value.ref c ∧ IsS P w s.heap k' c) (q : Q false s) :
    wpAny (model P w) A (searchCouldBeSeen (.ref b) ys) Q E s := by
  unfold searchCouldBeSeen
  refine wpAny_bind (wpAny_forIn_list _ (fun left acc s' => acc.1 = none ∧ s' = s ∧ ∀ y ∈ left, ∃ k' c, y = Value.ref c ∧ IsS P w s.heap k' c) _ (fun v left acc s' ⟨h1, h2, h3⟩ => ?_) (fun acc s' ⟨h1, h2, _⟩ => ?_) _ _ ⟨rfl, rfl, hy⟩)
  · subst h2
    obtain ⟨k', c, e, hc⟩ := h3 v (List.mem_cons_self ..)
    subst e
    have more := fun u hu => h3 u (List.mem_cons_of_mem _ hu)
    dsimp only
    cases hv : (b == c || (carriedByValue (.ref b) && carriedByValue (.ref c))) with
    | true =>
      refine wp_if_pos (by first | exact hv | rfl) ?_
      exact wpAny_pure ⟨rfl, rfl, more⟩
    | false =>
      refine wp_if_neg Bool.false_ne_true ?_
      refine wpAny_bind (wpAny_eqIsQuiet_tuple hk ?_)
      rw [if_neg (by decide)]
      refine wpAny_bind (wpAny_eqIsQuiet_tuple hc ?_)
      rw [if_neg (by decide)]
      refine wpAny_bind (cls_pair hk ?_)
      rw [if_neg Bool.false_ne_true]
      refine wpAny_bind (cls_pair hc ?_)
      rw [if_neg Bool.false_ne_true]
      exact wpAny_pure ⟨rfl, rfl, more⟩
  · subst h2
    obtain ⟨a1, a2⟩ := acc
    cases h1
    exact wpAny_pure q
/-- the set at a: its rows are the members L -/
structure SetP (P : Program) (w : World) (h : Heap) (a : Addr) (L : List Mem) (es : Array (Int × Value)) (ep : Nat) (t : SetTable) : Prop where
  here : ∃ o, h.get? a = some o ∧ o.ExactSet ∧ o.data = .set es ep t
  rows : es.toList = L.map (entS P w)
  tab : TabOk t (L.map fun p => sHash P w p.2)
  mem : ∀ p ∈ L, IsS P w h p.2 p.1
  led : w.params.followText "set-order" = true ∨ t.led = true
  room : L.length * 5 < t.mask * 3
variable {a : Addr} {L : List Mem} {es : Array (Int × Value)} {ep : Nat} {t : SetTable}
theorem SetP.count (R : SetP P w s.heap a L es ep t) : es.size = L.length := by
  have e := congrArg List.length R.rows
  simpa using e
theorem fits_of {L : List Mem} {es : Array (Int × Value)} {t : SetTable} (T : TabOk t (L.map fun p => sHash P w p.2)) (hc : es.size = L.length) (hl : L.length ≤ t.mask) : t.fits es.size = true := by
  have h1 := T.sz
  rw [List.length_map] at h1
  have h2 : t.fill = t.place.size := by
    unfold SetTable.fill
    rw [T.dm]
    rfl
  unfold SetTable.fits
  rw [h2, h1, hc]
  simp [hl]
theorem SetP.fit (R : SetP P w s.heap a L es ep t) : t.fits es.size = true := fits_of R.tab R.count (by have := R.room; omega)
theorem SetP.row (R : SetP P w s.heap a L es ep t) {i : Nat} {p : Mem} (e : L[i]? = some p) : es[i]? = some (sHash P w p.2, Value.ref p.1) := by
  rw [← Array.getElem?_toList, R.rows, List.getElem?_map, e]
  rfl
theorem nth_dummy (m : Nat) : ∀ (n : Nat) (p : SetTable.Probe), p.dummy = none → (nth m p n).dummy = none
  | 0, _, h => h
  | n + 1, p, h => nth_dummy m n (adv m p) (by unfold adv; split <;> exact h)
/-- the search behind c steps: it meets an equal one, or comes to the first free slot -/
theorem seek (R : SetP P w s.heap a L es ep t) {x : Addr} {k : List Str} (hx : IsS P w s.heap k x) (hu : A.units < cLine) {K : Nat} (hKf : K < 10 * SetTable.turns t.mask) (hK : way t.mask (sHash P w k) K ∉ t.place.toList)
    (hb : ∀ c, c < K → way t.mask (sHash P w k) c ∈ t.place.toList) {Q : SetFound → Shared → Prop} (hin : L ≠ [] → Q (.there none) s) (hout : Q (.free (way t.mask (sHash P w k) K) false) s) :
    ∀ (f c : Nat) (st : Option SetTable.Probe), st.getD (t.probeStart (sHash P w k)) = nth t.mask (runAt t.mask (SetTable.bits (sHash P w k) % (t.mask + 1)) (SetTable.bits (sHash P w k))) c → c ≤ K → K - c < f →
      wpAny (model P w) A (setSearchFrom a (.ref x) (sHash P w k) true f st) Q E s
  | 0, _, _, _, _, hf => absurd hf (Nat.not_lt_zero _)
  | f + 1, c, st, hst, hc, hf => by
    obtain ⟨o, ho, hex, hd⟩ := R.here
    generalize hB : runAt t.mask (SetTable.bits (sHash P w k) % (t.mask + 1)) (SetTable.bits (sHash P w k)) = B at hst
    have hw : ∀ q, way t.mask (sHash P w k) q = (nth t.mask B q).j := fun q => by rw [← hB]
    have jn : ∀ q, nth t.mask (nth t.mask B c) q = nth t.mask B (c + q) := fun q => (nth_add t.mask c B q).symm
    have wj : ∀ q, (nth t.mask (nth t.mask B c) q).j = way t.mask (sHash P w k) (c + q) := fun q => by rw [jn, hw]
    rw [setSearchFrom_succ]
    refine wpAny_bind (wpAny_setState_of ho hd R.fit ?_)
    dsimp only
    refine wp_if_neg (by unfold SetTable.gaveWay; rw [mask_odd R.tab.mok]; decide) ?_
    have hdum : (nth t.mask B c).dummy = none := nth_dummy _ _ _ (by rw [← hB]; rfl)
    have spec := go_spec t R.tab.ris R.tab.dm (fun i => (es[i]?.map (·.1)).getD 0) (sHash P w k) (10 * SetTable.turns t.mask) (K - c) (nth t.mask B c) hdum (by omega)
      (fun q hq => by rw [wj]; exact hb (c + q) (by omega)) (by rw [wj, show c + (K - c) = K by omega]; exact hK)
    rcases spec with ⟨q, i, hq, hi, _, _, hpr⟩ | ⟨_, hpr⟩
    · have hp2 : t.probe (fun i => (es[i]?.map (·.1)).getD 0) (sHash P w k) (st.getD (t.probeStart (sHash P w k))) = some (.candidate (way t.mask (sHash P w k) (c + q)) i (nth t.mask B (c + (q + 1)))) := by
        rw [hst, ← wj, ← jn]
        exact hpr
      rw [hp2]
      dsimp only
      rw [wj] at hi
      have hil : i < L.length := by
        have h1 := (List.getElem?_eq_some_iff.mp hi).1
        have h2 := R.tab.sz
        rw [Array.length_toList] at h1
        rw [List.length_map] at h2
        omega
      have hne : L ≠ [] := fun z => by rw [z] at hil; exact absurd hil (Nat.not_lt_zero _)
      obtain ⟨p, hp⟩ : ∃ p, L[i]? = some p := ⟨_, List.getElem?_eq_getElem hil⟩
      have hpt := R.mem p (List.mem_of_getElem? hp)
      have go : wpAny (model P w) A (searchRest a (.ref x) (sHash P w k) true f es t (way t.mask (sHash P w k) (c + q)) i (nth t.mask B (c + (q + 1)))) Q E s := by
        unfold searchRest
        rw [R.row hp]
        dsimp only
        refine wpAny_bind (wpAny_holding (wpAny_eqBool_tuple hu hpt hx ?_))
        refine wpAny_bind (wpAny_setState_of ho hd R.fit ?_)
        dsimp only
        cases hk : decide (p.2 = k) with
        | true =>
          refine wp_if_pos rfl ?_
          exact wpAny_pure (hin hne)
        | false =>
          refine wp_if_neg (by decide) ?_
          rw [sameMem]
          dsimp only
          have hsl : t.slot (way t.mask (sHash P w k) (c + q)) = .live i := slot_live R.tab.ris hi
          simp only [if_true, hsl, R.row hp]
          refine wpAny_bind (wpAny_isSame_ref_self (wpAny_bind (wpAny_pure ?_)))
          simp only [if_true]
          refine wp_if_neg Bool.false_ne_true ?_
          exact seek R hx hu hKf hK hb hin hout f (c + (q + 1)) _ (by rw [hB]; rfl) (by omega) (by omega)
      cases hl : t.led with
      | true =>
        refine wp_if_neg (by decide) ?_
        exact go
      | false =>
        refine wp_if_pos rfl ?_
        refine wpAny_bind (hid_pair hx (fun y hy => ?_) ?_)
        · obtain ⟨e, he, ee⟩ := List.mem_map.mp hy
          have he1 : e ∈ es := by
            have z : e ∈ es ∧ e.1 = sHash P w k := by simpa using he
            exact z.1
          have he2 : e ∈ es.toList := by simpa using he1
          rw [R.rows] at he2
          obtain ⟨p2, hp2, e2⟩ := List.mem_map.mp he2
          refine ⟨p2.2, p2.1, ?_, R.mem p2 hp2⟩
          rw [← ee, ← e2]
          rfl
        · refine wp_if_neg Bool.false_ne_true ?_
          exact go
    · have hp2 : t.probe (fun i => (es[i]?.map (·.1)).getD 0) (sHash P w k) (st.getD (t.probeStart (sHash P w k))) = some (.empty (way t.mask (sHash P w k) K) none) := by
        have e2 : way t.mask (sHash P w k) K = (nth t.mask (nth t.mask B c) (K - c)).j := by rw [wj, show c + (K - c) = K by omega]
        rw [hst, e2]
        exact hpr
      rw [hp2]
      exact wpAny_pure hout
end
end K12

namespace K12
open PySem PySem.Spec PyProof.Rows L2
section
variable {P : Program} {w : World} {A : Around} {E : Value → Shared → Prop} {s : Shared} {a : Addr} {L : List Mem} {es : Array (Int × Value)} {ep : Nat} {t : SetTable}
/-- the search as adding asks for it -/
theorem seek_add (R : SetP P w s.heap a L es ep t) {x : Addr} {k : List Str} (hx : IsS P w s.heap k x) (hu : A.units < cLine) {Q : SetFound → Shared → Prop} (hin : L ≠ [] → Q (.there none) s)
    (hout : ∀ K, way t.mask (sHash P w k) K ∉ t.place.toList → (∀ c, c < K → way t.mask (sHash P w k) c ∈ t.place.toList) → Q (.free (way t.mask (sHash P w k) K) false) s) :
    wpAny (model P w) A (setSearch a (.ref x) (sHash P w k) true) Q E s := by
  have hr := R.room
  obtain ⟨K, h1, h2, h3⟩ := R.tab.first (by rw [List.length_map]; omega) (sHash P w k)
  have hz : 10 * SetTable.turns t.mask ≤ 1420 := by
    unfold SetTable.turns
    rcases R.tab.mok with e | e | e <;> omega
  unfold setSearch
  exact seek R hx hu h1 h2 h3 hin (hout K h2 h3) 100000 0 none rfl (Nat.zero_le _) (by omega)
theorem tup_apart {h h' : Heap} {k : List Str} {a b : Addr} {o : Obj} (hb : IsS P w h k b) (ho : h.get? a = some o) (hd : o.data = .set es ep t) (hs : Heap.SameBut a h h') : IsS P w h' k b := by
  obtain ⟨o', items, n, ho', r1, hd', r2⟩ := hb
  have ne : b ≠ a := fun z => by
    rw [z, ho] at ho'
    have z2 : o = o' := Option.some.inj ho'
    rw [← z2, hd] at hd'
    exact nomatch hd'
  exact ⟨o', items, n, (hs.2 b ne).trans ho', r1, hd', r2⟩
theorem map_back {α β : Type} (f : α → β) : ∀ (L : List α) (o : List Nat) (E' : List β), E' = L.map f → (∀ i ∈ o, i < L.length) → ∃ L2 : List α, o.filterMap (fun i => E'[i]?) = L2.map f ∧ (∀ p ∈ L2, p ∈ L) ∧ L2.length = o.length ∧ ∀ (g : β → Int), (L2.map fun p => g (f p)) = o.map fun i => ((E'[i]?).map g).getD 0
  | L, [], _, _, _ => ⟨[], rfl, fun p hp => (by cases hp), rfl, fun _ => rfl⟩
  | L, i :: o, E', he, hi => by
    obtain ⟨L2, h1, h2, h3, h4⟩ := map_back f L o E' he fun j hj => hi j (List.mem_cons_of_mem _ hj)
    have hil := hi i (List.mem_cons_self ..)
    have e1 : E'[i]? = some (f L[i]) := by rw [he, List.getElem?_map, List.getElem?_eq_getElem hil]; rfl
    refine ⟨L[i] :: L2, ?_, fun p hp => ?_, ?_, fun g => ?_⟩
    · rw [List.filterMap_cons_some e1, h1, List.map_cons]
    · rcases List.mem_cons.mp hp with e | hp
      · rw [e]; exact List.getElem_mem hil
      · exact h2 p hp
    · rw [List.length_cons, List.length_cons, h3]
    · rw [List.map_cons, List.map_cons, h4 g, e1]
      rfl
/-- the table laid anew -/
theorem lay_anew {o : Obj} (ho : s.heap.get? a = some o) (hex : o.ExactSet) (hd : o.data = .set es ep t) (hrows : es.toList = L.map (entS P w)) (T : TabOk t (L.map fun p => sHash P w p.2)) (hcap : L.length ≤ t.mask) (hm : ∀ p ∈ L, IsS P w s.heap p.2 p.1)
    (hled : w.params.followText "set-order" = true ∨ t.led = true) {wanted M : Nat} (hw : SetTable.sizeAbove wanted - 1 = M) (hM : MaskOk M) (hw2 : SetTable.sizeAbove wanted ≤ 128) (hn : L.length * 5 < M * 3) {Q : Unit → Shared → Prop}
    (hQ : ∀ h' L' es' ep' t', Heap.SameBut a s.heap h' → SetP P w h' a L' es' ep' t' → (∀ p ∈ L', p ∈ L) → L'.length = L.length → Q () { s with heap := h' }) : wpAny (model P w) A (setRelay a wanted) Q E s := by
  have hc : es.size = L.length := by
    have e := congrArg List.length hrows
    simpa using e
  obtain ⟨t', order, e, hp, T2, em, el, _, _⟩ := relaid_ok t (hs := es.map (·.1)) (wanted := wanted) hw hM (by rw [Array.size_map, hc]; omega)
  rw [Array.size_map, hc] at hp
  obtain ⟨L2, r1, r2, r3, r4⟩ := map_back (entS P w) L order.toList es.toList hrows fun i hi => List.mem_range.mp (hp.mem_iff.mp hi)
  have hlo : order.toList.length = L.length := by rw [hp.length_eq, List.length_range]
  have hes : (order.filterMap (es[·]?)).toList = L2.map (entS P w) := by
    rw [← r1, Array.toList_filterMap]
    congr 1
    funext i
    rw [Array.getElem?_toList]
  have hs2 : (order.filterMap (es[·]?)).size = es.size := by
    have q := congrArg List.length hes
    rw [Array.length_toList, List.length_map, r3, hlo] at q
    rw [q, hc]
  have hT3 : TabOk t' (L2.map fun p => sHash P w p.2) := by
    have q := r4 (fun z => z.1)
    have q2 : (L2.map fun p => sHash P w p.2) = L2.map fun p => (entS P w p).1 := rfl
    rw [q2, q]
    have q3 : (order.toList.map fun i => ((es.toList[i]?).map (fun z => z.1)).getD 0) = order.toList.map fun i => (es.map (·.1)).getD i 0 := by
      congr 1
      funext i
      rw [Array.getElem?_toList, Array.getD_eq_getD_getElem?, Array.getElem?_map]
    rw [q3]
    exact T2
  rw [setRelay_eq]
  refine wpAny_bind (wpAny_setState_of ho hd (fits_of T hc hcap) ?_)
  dsimp only
  refine wp_if_neg (by rw [sizeLine_eq]; omega) ?_
  rw [e]
  dsimp only
  refine wpAny_bind ?_
  refine wp_if_neg (by rw [hs2]; simp) ?_
  refine wpAny_pure ?_
  dsimp only
  refine wpAny_storeSet_of ho hd ?_ (by rw [hs2, hc, sizeLine_eq]; rcases hM with e | e | e <;> omega)
  have sb : Heap.SameBut a s.heap (s.heap.update a (Obj.putSet (order.filterMap (es[·]?)) t')) := Heap.SameBut.update ..
  refine hQ _ L2 _ _ t' sb ⟨⟨_, store_at ho hd, ⟨hex.1, hex.2.1, hex.2.2⟩, rfl⟩, hes, hT3, fun p hpm => tup_apart (hm p (r2 p hpm)) ho hd sb, by rw [el]; exact hled, ?_⟩ r2 (by rw [r3, hlo])
  rw [r3, hlo, em]
  exact hn
end
end K12

namespace K12
open PySem PySem.Spec PyProof.Rows L2
theorem tab_plain {t : SetTable} {hs : List Int} (T : TabOk t hs) (b : Bool) : TabOk (if b = true then t else { t with plain := false }) hs := by
  cases b with
  | true => exact T
  | false => exact ⟨T.ris, T.dm, T.sz, T.mok, T.bd, T.reach⟩
section
variable {P : Program} {w : World} {A : Around} {E : Value → Shared → Prop} {s : Shared} {a : Addr} {L : List Mem} {es : Array (Int × Value)} {ep : Nat} {t : SetTable}
theorem ins_mem {α : Type} {L : List α} {p : Nat} {x y : α} (h : y ∈ L.take p ++ x :: L.drop p) : y = x ∨ y ∈ L := by
  rcases List.mem_append.mp h with h | h
  · exact .inr (List.mem_of_mem_take h)
  · rcases List.mem_cons.mp h with h | h
    · exact .inl h
    · exact .inr (List.mem_of_mem_drop h)
theorem ins_len {α : Type} (L : List α) (p : Nat) (x : α) : (L.take p ++ x :: L.drop p).length = L.length + 1 := by
  rw [List.length_append, List.length_cons, List.length_take, List.length_drop]
  omega
/-- a tuple put into the set -/
theorem put_in (R : SetP P w s.heap a L es ep t) {x : Addr} {k : List Str} (hx : IsS P w s.heap k x) (hu : A.units < cLine) (few : L.length + 1 < 64) {Q : Bool → Shared → Prop}
    (hQ : ∀ b h' L' es' ep' t', Heap.SameBut a s.heap h' → SetP P w h' a L' es' ep' t' → (∀ p ∈ L', p = (x, k) ∨ p ∈ L) → L' ≠ [] → L'.length ≤ L.length + 1 → Q b { s with heap := h' }) :
    wpAny (model P w) A (setAddHashed a (.ref x) (sHash P w k)) Q E s := by
  obtain ⟨o, ho, hex, hd⟩ := R.here
  have hc := R.count
  have hr := R.room
  unfold setAddHashed
  refine wpAny_holding ?_
  rw [show (100000 : Nat) = 99999 + 1 from rfl, setAddHashedIn_succ]
  refine wpAny_bind (wpAny_setState_of ho hd R.fit ?_)
  dsimp only
  refine wp_if_neg (by simp [byScan, Value.scannable]) ?_
  refine wpAny_bind (seek_add R hx hu (fun hne => ?_) fun K hK hb => ?_)
  · exact wpAny_pure (hQ false s.heap L es ep t (Heap.SameBut.refl a s.heap) R (fun p hp => .inr hp) hne (Nat.le_succ _))
  · dsimp only
    refine wpAny_bind (wpAny_setState_of ho hd R.fit ?_)
    dsimp only
    obtain ⟨q1, q2, q3, q4, q5, _, _, _, q9⟩ := R.tab.put hK hb
    generalize hpt : t.put (way t.mask (sHash P w k) K) = pt at q1 q3 q4 q5 q9 ⊢
    obtain ⟨t1, p⟩ := pt
    dsimp only at q1 q3 q4 q5 q9 ⊢
    subst q1
    generalize hpp : SetTable.below t.place (way t.mask (sHash P w k) K) = p at q2 q3 ⊢
    have hrows : (SetTable.insertAt es p (sHash P w k, Value.ref x)).toList = (L.take p ++ (x, k) :: L.drop p).map (entS P w) := by
      rw [SetTable.toList_insertAt, R.rows, List.map_append, List.map_cons, List.map_take, List.map_drop]
      rfl
    have hhs : (L.take p ++ (x, k) :: L.drop p).map (fun p => sHash P w p.2) = (L.map fun p => sHash P w p.2).take p ++ sHash P w k :: (L.map fun p => sHash P w p.2).drop p := by
      rw [List.map_append, List.map_cons, List.map_take, List.map_drop]
    rw [← hhs] at q3
    have hln := ins_len L p (x, k)
    have hmm : ∀ q ∈ L.take p ++ (x, k) :: L.drop p, q = (x, k) ∨ q ∈ L := fun q hq => ins_mem hq
    have hnn : L.take p ++ (x, k) :: L.drop p ≠ [] := fun z => by rw [z] at hln; exact absurd hln (by simp)
    generalize L.take p ++ (x, k) :: L.drop p = L1 at hrows q3 hln hmm hnn
    generalize SetTable.insertAt es p (sHash P w k, Value.ref x) = es1 at hrows ⊢
    have hc1 : es1.size = L1.length := by
      have e := congrArg List.length hrows
      simpa using e
    -- the mark of what is hashed by value may go
    have go : ∀ z : Bool, wpAny (model P w) A (do
        storeSet a es1 (if z = true then t1 else { t1 with plain := false })
        if (!false && (if z = true then t1 else { t1 with plain := false }).tooFull) = true then setRelay a (SetTable.grown (es.size + 1))
        return true) Q E s := by
      intro z
      have T2 := tab_plain q3 z
      have em : (if z = true then t1 else { t1 with plain := false }).mask = t.mask := by cases z <;> exact q4
      have el : (if z = true then t1 else { t1 with plain := false }).led = t.led := by cases z <;> exact q5
      have ef : (if z = true then t1 else { t1 with plain := false }).fill = L.length + 1 := by
        rw [List.length_map] at q9
        cases z <;> exact q9
      generalize (if z = true then t1 else { t1 with plain := false }) = t2 at T2 em el ef ⊢
      refine wpAny_bind (wpAny_storeSet_of ho hd ?_ (by rw [hc1, hln, sizeLine_eq]; omega))
      have sb : Heap.SameBut a s.heap (s.heap.update a (Obj.putSet es1 t2)) := Heap.SameBut.update ..
      have ho1 := store_at (es' := es1) (t' := t2) ho hd
      generalize s.heap.update a (Obj.putSet es1 t2) = h1 at sb ho1 ⊢
      have mem1 : ∀ q ∈ L1, IsS P w h1 q.2 q.1 := fun q hq => by
        rcases hmm q hq with e | hq
        · rw [e]; exact tup_apart hx ho hd sb
        · exact tup_apart (R.mem q hq) ho hd sb
      have led1 : w.params.followText "set-order" = true ∨ t2.led = true := by rw [el]; exact R.led
      cases hf : t2.tooFull with
      | true =>
        refine wp_if_pos rfl ?_
        have hfull : (L.length + 1) * 5 ≥ t2.mask * 3 := by
          unfold SetTable.tooFull at hf
          rw [decide_eq_true_eq, ef] at hf
          exact hf
        rw [hc]
        have two : (t.mask = 7 ∧ L.length = 4) ∨ (t.mask = 31 ∧ L.length = 18) := by
          rw [em] at hfull
          rcases R.tab.mok with e | e | e
          · left; rw [e] at hfull hr; exact ⟨e, by omega⟩
          · right; rw [e] at hfull hr; exact ⟨e, by omega⟩
          · exfalso; rw [e] at hfull; omega
        have grow : ∀ M, SetTable.sizeAbove (SetTable.grown (L.length + 1)) - 1 = M → MaskOk M → SetTable.sizeAbove (SetTable.grown (L.length + 1)) ≤ 128 → (L.length + 1) * 5 < M * 3 →
            wpAny (model P w) A (setRelay a (SetTable.grown (L.length + 1)) >>= fun _ => pure true) Q E { s with heap := h1 } := fun M g1 g2 g3 g4 => by
          refine wpAny_bind (lay_anew (s := { s with heap := h1 }) ho1 ⟨hex.1, hex.2.1, hex.2.2⟩ rfl hrows T2 (by rw [hln, em]; rcases two with ⟨e, e2⟩ | ⟨e, e2⟩ <;> omega) mem1 led1 g1 g2 g3 (by rw [hln]; exact g4) fun h2 L2 es2 ep2 t3 sb2 R2 s2 n2 => ?_)
          exact wpAny_pure (hQ true h2 L2 es2 ep2 t3 (sb.trans sb2) R2 (fun q hq => hmm q (s2 q hq)) (fun z => hnn (List.length_eq_zero_iff.mp (by rw [← n2, z]; rfl))) (by rw [n2, hln]; exact Nat.le_refl _))
        rcases two with ⟨_, e2⟩ | ⟨_, e2⟩
        · exact grow 31 (by rw [e2, size_20]) (.inr (.inl rfl)) (by rw [e2, size_20]; decide) (by omega)
        · exact grow 127 (by rw [e2, size_76]) (.inr (.inr rfl)) (by rw [e2, size_76]; decide) (by omega)
      | false =>
        refine wp_if_neg (by decide) ?_
        refine wpAny_pure (hQ true h1 L1 es1 (ep + 1) t2 sb ⟨⟨_, ho1, ⟨hex.1, hex.2.1, hex.2.2⟩, rfl⟩, hrows, T2, mem1, led1, ?_⟩ hmm hnn (by rw [hln]; exact Nat.le_refl _))
        unfold SetTable.tooFull at hf
        rw [decide_eq_false_iff_not, ef] at hf
        rw [hln]
        omega
    cases hpl : t1.plain with
    | true =>
      refine wpAny_bind ?_
      exact byv_pair hx go
    | false =>
      refine wpAny_bind ?_
      exact wpAny_pure (go true)
end
end K12

/-! set(xs), sorted(set) of tuples of texts. -/
namespace K12
open PySem PySem.Spec PyProof.Rows L2
section
variable {P : Program} {w : World} {A : Around} {E : Value → Shared → Prop} {R : Result → Shared → Prop} {g : Array GenState} {d : Drawn} {os : OsState}
theorem pair_keep {h h' : Heap} {k : List Str} {b : Addr} (x : IsS P w h k b) (hk : ∀ o, h.get? b = some o → h'.get? b = some o) : IsS P w h' k b := by
  obtain ⟨o, items, n, ho, r⟩ := x
  exact ⟨o, items, n, hk o ho, r⟩
theorem SetP.keep {h h' : Heap} {a : Addr} {L : List Mem} {es : Array (Int × Value)} {ep : Nat} {t : SetTable} (S : SetP P w h a L es ep t) (ha : ∀ o, h.get? a = some o → h'.get? a = some o) (hm : ∀ p ∈ L, IsS P w h' p.2 p.1) : SetP P w h' a L es ep t := by
  obtain ⟨o, ho, r⟩ := S.here
  exact ⟨⟨o, ha o ho, r⟩, S.rows, S.tab, hm, S.led, S.room⟩
theorem set_loop (hh : A.in1.handled = none) {I l S : Addr} (hl : l ≠ I) (hSI : S ≠ I) (hSl : S ≠ l) (items : Array Value) (ks : List Mem) (hval : ∀ (i : Nat) (v : Value), items[i]? = some v → ∃ p, ks[i]? = some p ∧ v = Value.ref p.1) (few : items.size < 60)
    (h0 : Heap) (hk : ∀ p ∈ ks, IsS P w h0 p.2 p.1) (hS0 : h0.get? S = none) (hI0 : h0.get? I = none) (hu : A.in1.units < cLine) :
    ∀ (k i : Nat) (h : Heap) (tk : Nat) (L : List Mem) (es : Array (Int × Value)) (ep : Nat) (t : SetTable), items.size - i = k → i ≤ items.size → h.IsListIter I l i → h.IsList l items → (∀ b o, h0.get? b = some o → h.get? b = some o) →
      SetP P w h S L es ep t → (∀ p ∈ L, p ∈ ks) → (0 < i → L ≠ []) → L.length ≤ i →
      (∀ h' tk' L' es' ep' t', (∀ b o, h0.get? b = some o → h'.get? b = some o) → SetP P w h' S L' es' ep' t' → (∀ p ∈ L', p ∈ ks) → (0 < items.size → L' ≠ []) → L'.length ≤ items.size → R (.ok (.ret .none)) ⟨h', g, d, tk', os⟩) →
      codeAny (model P w) A (.builtin "set.update.loop" ⟨[.ref S, .ref I], []⟩) R ⟨h, g, d, tk, os⟩ := by
  have W := (Walks.list (prog := P) (w := w) (A := A.in1) hh I l hl items).toS
  intro k
  induction k with
  | zero =>
    intro i h tk L es ep t e1 e2 hit hls hkp hP hsub hne hlen hR
    have hin : i = items.size := by omega
    subst hin
    refine codeAny_builtin F.entry_set_update_loop ?_
    rw [Around.under_plainId F.plain_set_update_loop _]
    show wpAny _ A.in1 (pyNext (.ref I) >>= _) _ _ _
    refine wpAny_bind (W.done _ _ _ ⟨hit, hls⟩ fun s' hm => ?_)
    show wpAny _ A.in1 (ret Value.none) _ _ _
    rw [Moved.eq_with hm]
    have kp : ∀ b o, h0.get? b = some o → s'.heap.get? b = some o := fun b o e => hm.heap b o (fun z => by rw [List.mem_singleton.mp z, hI0] at e; cases e) (hkp b o e)
    exact wpAny_pure (hR _ _ L es ep t kp (hP.keep (fun o e => hm.heap S o (fun z => hSI (List.mem_singleton.mp z)) e) fun p hp => pair_keep (hk p (hsub p hp)) fun o => kp _ o) hsub hne hlen)
  | succ k ih =>
    intro i h tk L es ep t e1 e2 hit hls hkp hP hsub hne hlen hR
    have hlt : i < items.size := by omega
    refine codeAny_builtin F.entry_set_update_loop ?_
    rw [Around.under_plainId F.plain_set_update_loop _]
    show wpAny _ A.in1 (pyNext (.ref I) >>= _) _ _ _
    refine wpAny_bind (W.item i _ _ _ hlt ⟨hit, hls⟩ fun v s' hv hst hm => ?_)
    obtain ⟨p, hp, rfl⟩ := hval i v hv
    have e := Moved.eq_with hm
    obtain ⟨h1, g1, d1, t1, o1⟩ := s'
    dsimp only at e hst hm
    cases e
    have kp : ∀ b o, h0.get? b = some o → h1.get? b = some o := fun b o e => hm.heap b o (fun z => by rw [List.mem_singleton.mp z, hI0] at e; cases e) (hkp b o e)
    have hpm : p ∈ ks := List.mem_of_getElem? hp
    have hx : IsS P w h1 p.2 p.1 := pair_keep (hk p hpm) fun o => kp _ o
    have hP1 : SetP P w h1 S L es ep t := hP.keep (fun o e => hm.heap S o (fun z => hSI (List.mem_singleton.mp z)) e) fun q hq => pair_keep (hk q (hsub q hq)) fun o => kp _ o
    show wpAny _ A.in1 (holding [Value.ref p.1] (setAdd S (.ref p.1)) >>= _) _ _ _
    refine wpAny_bind (wpAny_holding ?_)
    unfold setAdd
    refine wpAny_holding (wpAny_bind (wpAny_pyHash_tuple hu hx ?_))
    refine put_in (s := ⟨h1, g, d, t1 + (p.2.length + 1), os⟩) hP1 hx hu (by omega) fun b h2 L2 es2 ep2 t2 sb hP2 m2 n2 l2 => ?_
    have kp2 : ∀ b o, h0.get? b = some o → h2.get? b = some o := fun b o e => (sb.2 b (fun z => by rw [z, hS0] at e; cases e)).trans (kp b o e)
    refine wpAny_pure ⟨plainId_quiet F.plain_set_update_loop _, ih (i + 1) h2 _ L2 es2 ep2 t2 (by omega) hlt (hst.1.at fun o e => (sb.2 I (Ne.symm hSI)).trans e) (hst.2.at fun o e => (sb.2 l (Ne.symm hSl)).trans e) kp2 hP2 (fun q hq => ?_) (fun _ => n2) (by omega) hR⟩
    rcases m2 q hq with e | hq
    · rw [e]; exact hpm
    · exact hsub q hq
end
section
variable {P : Program} {w : World} {A : Around} {E : Value → Shared → Prop} {s : Shared}
theorem fresh_set {h : Heap} {a : Addr} (ho : h.get? a = some { cls := .type "set", dict := none, data := .set #[] 0 (.fresh 0 0 (!w.params.followText "set-order")) }) : SetP P w h a [] #[] 0 (.fresh 0 0 (!w.params.followText "set-order")) where
  here := ⟨_, ho, ⟨rfl, rfl, rfl⟩, rfl⟩
  rows := rfl
  tab := ⟨List.Pairwise.nil, rfl, rfl, .inl rfl, fun x hx => (by cases hx), fun i h j hi => (by simp at hi)⟩
  mem := fun p hp => (by cases hp)
  led := by
    cases h : w.params.followText "set-order" with
    | true => exact .inl rfl
    | false => exact .inr rfl
  room := by
    show 0 * 5 < 7 * 3
    decide
end
end K12

namespace K12
open PySem PySem.Spec PyProof.Rows L2
section
variable {P : Program} {w : World} {A : Around} {E : Value → Shared → Prop} {s : Shared}
/-- an empty set's object -/
abbrev sob (w : World) : Obj := { cls := .type "set", dict := none, data := .set #[] 0 (.fresh 0 0 (!w.params.followText "set-order")) }
theorem call_setP {l : Addr} {items : Array Value} (ks : List Mem) {Q : Value → Shared → Prop} (hh : A.handled = none) (hl : s.heap.IsList l items) (hit : items.toList = ks.map fun p => Value.ref p.1) (hk : ∀ p ∈ ks, IsS P w s.heap p.2 p.1)
    (few : ks.length < 60) (hu : A.units + 3 < cLine)
    (h : ∀ h' tk L es ep t, (∀ b o, s.heap.get? b = some o → h'.get? b = some o) → SetP P w h' s.heap.objs.size L es ep t → (∀ p ∈ L, p ∈ ks) → (ks ≠ [] → L ≠ []) → L.length ≤ ks.length → Q (.ref s.heap.objs.size) { s with heap := h', toks := tk }) :
    wpAny (model P w) A (call (.type "set") [.ref l]) Q E s := by
  have hisz : items.size = ks.length := by
    have q := congrArg List.length hit
    simpa using q
  have hS0 : (s.heap.push (sob w)).get? s.heap.objs.size = some (sob w) := Heap.get?_push_size _ rfl
  obtain ⟨c, tl, hmro⟩ := F.called_set.mro
  have f1 := F.called_set.made
  have f2 := F.called_set.sub
  refine wpAny_call (codeAny_of_tree ?_)
  show wpAny _ _ (callAny (.type "set") _) _ _ _
  refine wpAny_pure ⟨Code.quiet_builtin _ (by decide +kernel), codeAny_builtin F.entry_type_call ?_⟩
  rw [Around.under_plain (weight_type_call_type "set" [.ref l] []) rfl]
  have f3 := F.called_set.notType
  have f4 := F.called_set.canCreate
  have f5 := F.typeCall_set_1 (.ref l)
  repeat (any_goals (first | assumption | wp_step))
  refine codeAny_mono (code_set_led1 (.ref l) (E := E) (Q₁ := fun obj s₁ => obj = .ref s.heap.objs.size ∧ s₁ = { s with heap := s.heap.push (sob w) }) ⟨rfl, rfl⟩) fun r s₁ hr => ?_
  cases r with
  | error e => exact hr
  | ok fl =>
    cases fl with
    | next => exact hr.elim
    | brk => exact hr.elim
    | cont => exact hr.elim
    | ret obj =>
      obtain ⟨rfl, rfl⟩ := hr
      have tyS : Shared.TypeIs { s with heap := s.heap.push (sob w) } (.ref s.heap.objs.size) "set" := ⟨_, hS0, rfl⟩
      have f6 := F.called_set.init.lookup
      have f7 := F.called_set.init.bind (.ref s.heap.objs.size)
      repeat (any_goals (first | assumption | wp_step))
      refine codeAny_mono (codeAny_call_builtin (R := wants (fun r s₂ => r = .none ∧ ∃ h' tk L es ep t, s₂ = { s with heap := h', toks := tk } ∧ (∀ b o, s.heap.get? b = some o → h'.get? b = some o) ∧ SetP P w h' s.heap.objs.size L es ep t ∧ (∀ p ∈ L, p ∈ ks) ∧ (ks ≠ [] → L ≠ []) ∧ L.length ≤ ks.length) E)
        F.called_set.init.plain F.entry_set_init (check_set_init_1 tyS ?_)) fun r₂ s₂ hr₂ => ?_
      · obtain ⟨ol, hol, hcl, nl, hdl⟩ := hl
        obtain ⟨ocls, odict, odata, oslots⟩ := ol
        dsimp only at hcl hdl
        subst hcl hdl
        have lls := Heap.lt_size hol
        have hol2 : (s.heap.push (sob w)).get? l = some { cls := .type "list", dict := odict, data := .seq items nl, slots := oslots } := Heap.get?_push_of_some _ hol
        have f8 := F.sub_list_set
        have f9 := F.sub_list_frozenset
        have ne : (Value.type "list" == Value.type "dict") = false := by decide
        have hl1 : (s.heap.push (sob w)).IsList l items := ⟨_, hol2, rfl, nl, rfl⟩
        unfold Builtin.«set.__init__» noKeywords Builtin.Frozenset.updateFrom
        generalize hPI : pyIter = PI
        wp_walk
        subst hPI
        refine wpAny_pyIter_list hl1 (wpAny_bind (wpAny_runValue ?_))
        have z1 : (s.heap.push (sob w)).objs.size = s.heap.objs.size + 1 := Heap.size_push ..
        have nI : s.heap.get? (s.heap.push (sob w)).objs.size = none := Heap.get?_none_of_le (by rw [z1]; exact Nat.le_succ _)
        have nS : s.heap.get? s.heap.objs.size = none := Heap.get?_none_of_le (Nat.le_refl _)
        refine set_loop (A := A.in1.in1) (I := (s.heap.push (sob w)).objs.size) (l := l) (S := s.heap.objs.size) (by simp [hh]) (by rw [z1]; exact Nat.ne_of_lt (Nat.lt_succ_of_lt lls)) (by rw [z1]; exact Nat.ne_of_lt (Nat.lt_succ_self _)) (Nat.ne_of_gt lls) items ks (fun i v hv => ?_) (by rw [hisz]; exact few) s.heap hk nS nI hu
          items.size 0 _ _ [] #[] 0 _ rfl (Nat.zero_le _) ⟨_, Heap.get?_push_size _ rfl, rfl, rfl⟩ (hl1.push _) (fun b o e => Heap.get?_push_of_some _ (Heap.get?_push_of_some _ e)) (fresh_set (Heap.get?_push_of_some _ hS0)) (fun p hp => by cases hp) (fun z => absurd z (Nat.lt_irrefl 0)) (Nat.zero_le _)
          fun h' tk' L es ep t q1 q2 q3 q4 q5 => ?_
        · have q : items.toList[i]? = some v := by rw [Array.getElem?_toList]; exact hv
          rw [hit, List.getElem?_map] at q
          cases e : ks[i]? with
          | none => rw [e] at q; cases q
          | some p =>
            rw [e] at q
            exact ⟨p, rfl, (Option.some.inj q).symm⟩
        · show wpAny _ _ _ _ _ _
          refine wpAny_pure ?_
          show wpAny _ _ (ret Value.none) _ _ _
          exact wpAny_pure ⟨rfl, h', tk', L, es, ep, t, rfl, q1, q2, q3, fun z => q4 (by rw [hisz]; exact List.length_pos_iff.mpr z), by rw [← hisz]; exact q5⟩
      · cases r₂ with
        | error e => exact hr₂
        | ok fl₂ =>
          cases fl₂ with
          | next => exact hr₂.elim
          | brk => exact hr₂.elim
          | cont => exact hr₂.elim
          | ret r =>
            obtain ⟨rfl, h', tk, L, es, ep, t, rfl, q1, q2, q3, q4, q5⟩ := hr₂
            repeat (any_goals (first | assumption | wp_step))
            exact h _ _ _ _ _ _ q1 q2 q3 q4 q5
end
end K12

/-! sorted(set) of pairs of texts, and both as rules. -/
namespace K12
open PySem PySem.Spec PyProof.Rows L2
abbrev Pr := Addr × Str × Str
def encPr (p : Pr) : PyData := .tuple [.str p.2.1, .str p.2.2]
def pm (p : Pr) : Mem := (p.1, [p.2.1, p.2.2])
section
variable {P : Program} {w : World} {A : Around} {E : Value → Shared → Prop} {s : Shared}
theorem pair_reads {h : Heap} {p : Pr} (x : IsS P w h [p.2.1, p.2.2] p.1) : Reads h (.ref p.1) (encPr p) [] := by
  obtain ⟨o, items, n, ho, hc, hd, hi⟩ := x
  generalize he : items.toList = its at hi
  cases hi with
  | cons h1 r1 =>
    cases r1 with
    | cons h2 r2 =>
      cases r2
      obtain ⟨t1, e1⟩ := Value.isStrOf_shape h1
      obtain ⟨t2, e2⟩ := Value.isStrOf_shape h2
      subst e1 e2
      exact .tuple ho hc hd (by rw [he]; exact .cons (as := []) (bs := []) (.str _ _) (.cons (as := []) (bs := []) (.str _ _) .nil))
theorem prs_of : ∀ (vs : List Value) (L : List Mem), (∀ v ∈ vs, ∃ q ∈ L, v = Value.ref q.1) → (∀ q ∈ L, ∃ x y, q.2 = [x, y]) → ∃ bs : List Pr, PySem.W.EachIs (fun v b => v = Value.ref b.1 ∧ pm b ∈ L) vs bs
  | [], _, _, _ => ⟨[], .nil⟩
  | v :: vs, L, hv, hp => by
    obtain ⟨q, hq, e⟩ := hv v (List.mem_cons_self ..)
    obtain ⟨x, y, e2⟩ := hp q hq
    obtain ⟨bs, h⟩ := prs_of vs L (fun u hu => hv u (List.mem_cons_of_mem _ hu)) hp
    refine ⟨(q.1, x, y) :: bs, .cons ⟨e, ?_⟩ h⟩
    have z : pm (q.1, x, y) = q := Prod.ext rfl e2.symm
    rw [z]
    exact hq
theorem each_all {α β : Type} {R : α → β → Prop} : ∀ {as : List α} {bs : List β}, PySem.W.EachIs R as bs → ∀ b ∈ bs, ∃ a, R a b
  | _, _, .nil, _, h => (by cases h)
  | _, _, .cons r t, b, h => by
    rcases List.mem_cons.mp h with e | h
    · subst e; exact ⟨_, r⟩
    · exact each_all t b h
theorem sorted_setP {a : Addr} {L : List Mem} {es : Array (Int × Value)} {ep : Nat} {t : SetTable} {Q : Value → Shared → Prop} (R : SetP P w s.heap a L es ep t) (hp : ∀ q ∈ L, ∃ x y, q.2 = [x, y]) (few : L.length < 60) (hh : A.handled = none) (hu : A.units + 10 < cLine)
    (hQ : ∀ s' p (out : List Value) (c : Nat), (∀ b o, s.heap.get? b = some o → s'.heap.get? b = some o) → s'.gens = s.gens → s'.os = s.os → s.heap.objs.size ≤ p → s'.heap.get? p = some (seqObj "list" out.toArray c) →
      out.length = L.length → (∀ v ∈ out, ∃ q ∈ L, v = Value.ref q.1) → Q (.ref p) s') :
    wpAny (model P w) A (call (.builtin "sorted") [.ref a]) Q E s := by
  obtain ⟨o, ho, hex, hd⟩ := R.here
  have hc := R.count
  refine Calls.call_function_entry kind_sorted plain_sorted entry_sorted (args_sorted1 _) ?_
  unfold Builtin.«sorted»
  refine wpAny_bind (m := checkCount "sorted" 1 1 _) (wpAny_pure ?_)
  refine wpAny_bind (collect_set (A := A.in1) hh ⟨o, ho, hex.1, hd⟩ R.fit (by unfold scanBound; omega) R.tab.ris R.led fun s1 vs k1 hz g1 o1 pmm => ?_)
  have hes : es.toList.map (·.2) = L.map fun q => Value.ref q.1 := by
    rw [R.rows, List.map_map]
    rfl
  rw [hes] at pmm
  have hvl : vs.length = L.length := by rw [pmm.length_eq, List.length_map]
  obtain ⟨bs, hb⟩ := prs_of vs L (fun v hv => by
    obtain ⟨q, hq, e⟩ := List.mem_map.mp (pmm.mem_iff.mp hv)
    exact ⟨q, hq, e.symm⟩) hp
  have hbl := hb.length
  refine wpAny_bind (wpAny_newList ?_ (by rw [sizeLine_eq]; omega))
  have hoL : (s1.heap.push (seqObj "list" vs.toArray 0)).get? s1.heap.objs.size = some (seqObj "list" vs.toArray 0) := Heap.get?_push_size _ rfl
  refine wpAny_bind (wpAny_holding (PySem.W.list_sort_data (s := { s1 with heap := s1.heap.push (seqObj "list" vs.toArray 0) }) (enc := encPr) (bs := bs) hoL hb ?_ (PySem.W.AllAlike.of fun b b' => by simp [encPr, PySem.W.alike, PySem.W.alikeAll]) (PySem.W.Sortable.tuples fun b => ⟨_, _, rfl⟩) (by rw [sizeLine_eq]; omega) (fun b _ => ?_) fun out e1 e2 => ?_))
  · refine hb.mono fun v b ⟨e, hm⟩ => ⟨[], ?_, by simp⟩
    rw [e]
    exact pair_reads (P := P) (w := w) (pair_keep (R.mem _ hm) fun o e => Heap.get?_push_of_some _ (k1 _ o e))
  · have e : (encPr b).depth ≤ 2 := by simp [encPr, PyData.depth, PyData.depthAll]
    have e3 : A.in1.units ≤ A.units + 1 := by first | exact Nat.le_refl _ | simp | (unfold Around.in1; simp)
    omega
  · obtain ⟨c, hcc⟩ := sortedHeap_at (vs := vs) (out := out.toArray) hoL
    refine wpAny_pure ⟨_, rfl, hQ _ s1.heap.objs.size out c (fun b u e => ?_) g1 o1 hz hcc (by rw [e1, ← hbl, hvl]) fun v hv => ?_⟩
    · have q := k1 b u e
      have hlt := Heap.lt_size q
      show (sortedHeap (s1.heap.push (seqObj "list" vs.toArray 0)) s1.heap.objs.size vs out.toArray).get? b = some u
      rw [sortedHeap_old (Nat.ne_of_lt hlt) (by rw [size_push']; exact Nat.lt_succ_of_lt hlt)]
      exact Heap.get?_push_of_some _ q
    · obtain ⟨b, _, e, hm⟩ := e2.left v hv
      exact ⟨pm b, hm, e⟩
end
end K12

namespace K12
open PySem PySem.Spec PyProof.Rows L2
/-- the set at a by itself, its members' own objects not told -/
def SetA (P : Program) (w : World) (a : Addr) (L : List Mem) (h : Heap) : Prop := ∃ (es : Array (Int × Value)) (ep : Nat) (t : SetTable), (∃ o, h.get? a = some o ∧ o.ExactSet ∧ o.data = .set es ep t) ∧ es.toList = L.map (entS P w) ∧
  TabOk t (L.map fun p => sHash P w p.2) ∧ (w.params.followText "set-order" = true ∨ t.led = true) ∧ L.length * 5 < t.mask * 3
def SetHO (P : Program) (w : World) (a : Addr) (L : List Mem) : HO := .ext (SetA P w a L)
theorem setHO_ok {P : Program} {w : World} {H : Hp} {h : Heap} {a : Addr} {L : List Mem} (R : SetA P w a L h) : ObjOk P w H h a (SetHO P w a L) := by
  have ⟨es, ep, t, ⟨o, ho, r⟩, q⟩ := R
  refine ⟨R, ⟨o, ho⟩, fun h1 h2 p k => ?_⟩
  obtain ⟨es', ep', t', ⟨o', ho', r'⟩, q'⟩ := p
  exact ⟨es', ep', t', ⟨o', k o' ho', r'⟩, q'⟩
theorem strs_items {P : Program} {w : World} : ∀ {k : List Str} {us : List Value}, Vals (k.map V.str) us → ItemsAre (strKind P w) k us
  | [], _, .nil => .nil
  | _ :: _, _, .cons r t => by
    obtain ⟨tk, rfl⟩ := r
    exact .cons (strKind_is P w _ tk) (strs_items t)
theorem refs_map {α : Type} (f : α → Addr) : ∀ {ks : List α} {us : List Value}, Vals (ks.map fun p => V.ref (f p)) us → us = ks.map fun p => Value.ref (f p)
  | [], _, .nil => rfl
  | _ :: _, _, .cons r t => by
    cases r
    rw [refs_map f t]
    rfl
theorem inv_pair {X : Cx} {pins : List (Addr × Obj)} {σ : L2.St} {H : Hp} {s : Shared} {b : Addr} {x y : Str} (I : L2.Inv X pins σ H s) (h : SqT X.K H b [V.str x, V.str y]) : IsS X.prog X.w s.heap [x, y] b := by
  obtain ⟨its, r, ⟨o, ho, hc, n, hd⟩, _⟩ := I.tuple h
  exact ⟨o, its.toArray, n, ho, hc, hd, strs_items (k := [x, y]) r⟩
/-- set(xs), xs a list of pairs of texts -/
def rSetP (K : PySem.W.Frag) (P : Program) (w : World) : List V → Hp → VK → Prop := fun xs H Q => ∃ (l : Addr) (ks : List Pr), xs = [.ref l] ∧ SqL K H l (ks.map fun p => V.ref p.1) ∧ (∀ p ∈ ks, SqT K H p.1 [.str p.2.1, .str p.2.2]) ∧ ks.length < 60 ∧
  ∀ a L, H a = none → (∀ q ∈ L, ∃ p ∈ ks, q = pm p) → (ks ≠ [] → L ≠ []) → L.length ≤ ks.length → Q (.ref a) (upd H a (SetHO P w a L))
theorem call_setP_ok {X : Cx} (hc : X.calm = true) (hu : X.A.units + 3 < cLine) : CallR X (.type "set") (rSetP X.K X.prog X.w) := by
  intro pins s σ H xs us Q I r ⟨l, ks, e, hl, hk, few, q⟩
  subst e
  obtain ⟨u, eu, rx⟩ := vals1 r
  subst eu
  obtain rfl : u = Value.ref l := rx
  obtain ⟨its, rv, pl, _⟩ := I.list hl
  have hn : H s.heap.objs.size = none := I.hok.fresh (Nat.le_refl _)
  refine call_setP (P := X.prog) (w := X.w) (ks.map pm) (I.ok.hd hc) pl.isList (by rw [refs_map (fun p : Pr => p.1) rv, List.map_map]; rfl) (fun p hp => ?_) (by rw [List.length_map]; exact few) hu fun h' tk L es ep t hk2 hP m n z => ?_
  · obtain ⟨p', hp', e⟩ := List.mem_map.mp hp
    rw [← e]
    exact inv_pair I (hk p' hp')
  · refine ⟨.ref s.heap.objs.size, upd H s.heap.objs.size (SetHO X.prog X.w s.heap.objs.size L), I.laid (t' := tk) hk2 (Nat.le_refl _) (setHO_ok ⟨es, ep, t, hP.here, hP.rows, hP.tab, hP.led, hP.room⟩), rfl, q _ L hn (fun p hp => ?_) (fun hne => n fun z => hne (List.map_eq_nil_iff.mp z)) (by rw [List.length_map] at z; exact z)⟩
    obtain ⟨p', hp', e⟩ := List.mem_map.mp (m p hp)
    exact ⟨p', hp', e.symm⟩
/-- sorted(set) -/
def rSrtP (K : PySem.W.Frag) (P : Program) (w : World) : List V → Hp → VK → Prop := fun xs H Q => ∃ (a : Addr) (L : List Mem), xs = [.ref a] ∧ H a = some (SetHO P w a L) ∧ (∀ q ∈ L, ∃ x y, q.2 = [x, y] ∧ SqT K H q.1 [.str x, .str y]) ∧ L.length < 60 ∧
  ∀ p ys, H p = none → ys.length = L.length → (∀ y ∈ ys, ∃ q ∈ L, y = V.ref q.1) → Q (.ref p) (upd H p (.lst ys))
theorem refs_back : ∀ {out : List Value}, (∀ v ∈ out, ∃ a, v = Value.ref a) → ∃ as : List Addr, out = as.map Value.ref
  | [], _ => ⟨[], rfl⟩
  | v :: out, h => by
    obtain ⟨a, e⟩ := h v (List.mem_cons_self ..)
    obtain ⟨as, e2⟩ := refs_back (out := out) fun u hu => h u (List.mem_cons_of_mem _ hu)
    exact ⟨a :: as, by rw [e, e2]; rfl⟩
theorem vals_refs : ∀ (as : List Addr), Vals (as.map V.ref) (as.map Value.ref)
  | [] => .nil
  | _ :: as => .cons rfl (vals_refs as)
theorem call_srtP {X : Cx} (hc : X.calm = true) (hu : X.A.units + 10 < cLine) : CallR X (.builtin "sorted") (rSrtP X.K X.prog X.w) := by
  intro pins s σ H xs us Q I r ⟨a, L, e, ha, hm, few, q⟩
  subst e
  obtain ⟨u, eu, rx⟩ := vals1 r
  subst eu
  obtain rfl : u = Value.ref a := rx
  obtain ⟨es, ep, t, h1, h2, h3, h4, h5⟩ : SetA X.prog X.w a L s.heap := (I.hok a _ ha).1
  have R : SetP X.prog X.w s.heap a L es ep t := ⟨h1, h2, h3, fun p hp => (by
    obtain ⟨x, y, e, hq⟩ := hm p hp
    rw [e]
    exact inv_pair I hq), h4, h5⟩
  refine sorted_setP R (fun p hp => let ⟨x, y, e, _⟩ := hm p hp; ⟨x, y, e⟩) few (I.ok.hd hc) hu fun s' p out c k g o hp hg hlen hmem => ?_
  obtain ⟨as, eo⟩ := refs_back (out := out) fun v hv => let ⟨z, _, e⟩ := hmem v hv; ⟨z.1, e⟩
  have hn : H p = none := I.hok.fresh hp
  have hal : as.length = L.length := by rw [← hlen, eo, List.length_map]
  have J : Inv X pins σ (upd H p (.lst (as.map V.ref))) { s with heap := s'.heap, gens := s'.gens, drawn := s'.drawn, toks := s'.toks } :=
    I.call (ch := []) (Un.laid k hp hn) (I.hok.laid k hp ⟨by rw [List.length_map, hal, sizeLine_eq]; omega, out, c, by rw [eo]; exact vals_refs as, hg⟩) (by rw [g]; exact I.bare) (fun _ z => nomatch z)
  have e : s' = { s with heap := s'.heap, gens := s'.gens, drawn := s'.drawn, toks := s'.toks } := by
    cases s'
    cases s
    cases o
    rfl
  rw [e]
  refine ⟨.ref p, _, J, rfl, q p (as.map V.ref) hn (by rw [List.length_map, hal]) fun y hy => ?_⟩
  obtain ⟨b, hb, e⟩ := List.mem_map.mp hy
  obtain ⟨z, hz, e2⟩ := hmem (Value.ref b) (by rw [eo]; exact List.mem_map.mpr ⟨b, hb, rfl⟩)
  cases e2
  exact ⟨z, hz, e.symm⟩
end K12

/-! An own error over a class over ArithmeticError, whose __init__ calls the base's and stores two fields. -/
namespace K12
open PySem PySem.Spec PySem.Calls PyProof.Rows PySem.HandSPX Builtin Builtin.ObjectAttr
abbrev aeTail : List Value := [.type "ArithmeticError", .type "Exception", .type "BaseException", .type "object"]
section
variable {prog : Program} {w : World} {A : Around} {R : Result → Shared → Prop} {hp : Heap} {g : Array GenState} {d : Drawn} {t : Nat} {os : OsState}
/-- the first field of an error: its dict is made -/
theorem err_set0 {K : W.Frag} {name : Str} {tk : Tok} {v : Value} {x C : Addr} {fv : Array Value} {cd : ClassData} (X : K.In hp) (hx : hp.get? x = some { cls := .ref C, data := .fields fv }) (hcd : W.clsIn K C = some cd)
    (hpass : refuseLoop (.ref x) "__setattr__" cd.mro = pure ()) (hobj : cd.mro.contains (.type "object") = true) (hne : cd.mro.isEmpty = false) (hdict : cd.hasDict = true) (hno : W.findIn K (.ref C) name = some none)
    (hq : ∀ h' tk' dx, (∀ b o, b ≠ x → hp.get? b = some o → h'.get? b = some o) → hp.objs.size ≤ dx → dx ≠ x → h'.get? x = some { cls := .ref C, dict := some dx, data := .fields fv } →
      h'.Ns1 dx (fun y => if y = name then some v else none) → R (.ok (.ret .none)) ⟨h', g, d, tk', os⟩) :
    codeAny (model prog w) A (.call (.builtin "object.__setattr__") ⟨[.ref x, .str name tk, v], []⟩) R ⟨hp, g, d, t, os⟩ := by
  have J : W.InstAt hp x { cls := .ref C, data := .fields fv } C none := ⟨hx, rfl, rfl, trivial⟩
  have lt := Heap.lt_size hx
  have isO : W.Looks (model prog w) hp (isInstance (.ref x) (.type "object")) true :=
    J.type.andThen (W.looks_mroIn X (by unfold W.mroIn; rw [hcd, Option.bind_some, hne, if_neg Bool.false_ne_true, hobj]))
  have lm : W.Looks (model prog w) hp (mroOf (.ref C)) cd.mro := (W.looks_clsIn X hcd).andThen .now
  have lc : W.Looks (model prog w) hp (classData C) cd := W.looks_clsIn X hcd
  have ln : W.Looks (model prog w) hp (storeTaker? none) none := .now
  refine codeAny_call_builtin F.store_object.slot.plain F.store_object.entry
    (@W.check_slot (model prog w) _ _ ⟨hp, g, d, t, os⟩ "object.__setattr__" "object" "__setattr__" (.ref x) [.str name tk, v] [] _ F.store_object.kind F.store_object.split isO (F.store_object.args (.ref x) (.str name tk) v) ?_)
  rw [W.osa_eq, refuse_eq]
  refine wpAny_bind (wpAny_bind (J.type.at (wpAny_bind (lm.at ?_))))
  rw [hpass]
  refine wpAny_pure (wpAny_bind (J.type.at (wpAny_bind ((W.looks_findIn X hno).at (wpAny_bind (ln.at ?_))))))
  show wpAny _ _ (storeInOwnDict (.ref x) (.ref C) (.str name tk) name v false) _ _ _
  obtain ⟨c1, c2, c3, c4, c5, c6, c7, c8, c9, c10, c11⟩ := cd
  dsimp only at hdict
  subst hdict
  unfold storeInOwnDict ownDictForStores
  repeat (first | with_reducible refine store_in_new ?_ ?_ | with_reducible refine wpAny_loadPart_at hx ?_ | with_reducible refine lc.at ?_ | wp_step)
  · exact ⟨_, #[], _, (Heap.get?_update_ne _ _ _ _ (Nat.ne_of_gt lt)).trans (Heap.get?_push_at rfl rfl), rfl, fun e he => absurd he (by simp), fun _ => rfl⟩
  · intro h' tk' hn hs
    refine hq h' tk' hp.objs.size (fun b o hb e => ?_) (Nat.le_refl _) (Nat.ne_of_gt lt) ?_ hn
    · exact (hs.2 b (Nat.ne_of_lt (Heap.lt_size e))).trans ((Heap.get?_update_ne _ _ _ _ hb).trans (Heap.get?_push_of_some _ e))
    · exact (hs.2 x (Nat.ne_of_lt lt)).trans (Heap.get?_update_self _ (Heap.get?_push_of_some _ hx) rfl)
/-- a further field -/
theorem err_set1 {K : W.Frag} {name : Str} {tk : Tok} {v : Value} {x C dx : Addr} {fv : Array Value} {cd : ClassData} {m0 : Str → Option Value} {nl : List Str} (X : K.In hp) (hx : hp.get? x = some { cls := .ref C, dict := some dx, data := .fields fv })
    (hns : hp.Ns1 dx m0) (hw : Within m0 nl) (hz : nl.length ≤ 1000) (hcd : W.clsIn K C = some cd)
    (hpass : refuseLoop (.ref x) "__setattr__" cd.mro = pure ()) (hobj : cd.mro.contains (.type "object") = true) (hne : cd.mro.isEmpty = false) (hdict : cd.hasDict = true) (hno : W.findIn K (.ref C) name = some none)
    (hq : ∀ h' tk', (∀ b o, b ≠ dx → hp.get? b = some o → h'.get? b = some o) → h'.Ns1 dx (fun y => if y = name then some v else m0 y) → R (.ok (.ret .none)) ⟨h', g, d, tk', os⟩) :
    codeAny (model prog w) A (.call (.builtin "object.__setattr__") ⟨[.ref x, .str name tk, v], []⟩) R ⟨hp, g, d, t, os⟩ := by
  obtain ⟨oD, _, _, hoD, _, _⟩ := hns.count hw
  have J : W.InstAt hp x { cls := .ref C, dict := some dx, data := .fields fv } C (some oD) := ⟨hx, rfl, rfl, hoD⟩
  have isO : W.Looks (model prog w) hp (isInstance (.ref x) (.type "object")) true :=
    J.type.andThen (W.looks_mroIn X (by unfold W.mroIn; rw [hcd, Option.bind_some, hne, if_neg Bool.false_ne_true, hobj]))
  have lm : W.Looks (model prog w) hp (mroOf (.ref C)) cd.mro := (W.looks_clsIn X hcd).andThen .now
  have lc : W.Looks (model prog w) hp (classData C) cd := W.looks_clsIn X hcd
  have ln : W.Looks (model prog w) hp (storeTaker? none) none := .now
  refine codeAny_call_builtin F.store_object.slot.plain F.store_object.entry
    (@W.check_slot (model prog w) _ _ ⟨hp, g, d, t, os⟩ "object.__setattr__" "object" "__setattr__" (.ref x) [.str name tk, v] [] _ F.store_object.kind F.store_object.split isO (F.store_object.args (.ref x) (.str name tk) v) ?_)
  rw [W.osa_eq, refuse_eq]
  refine wpAny_bind (wpAny_bind (J.type.at (wpAny_bind (lm.at ?_))))
  rw [hpass]
  refine wpAny_pure (wpAny_bind (J.type.at (wpAny_bind ((W.looks_findIn X hno).at (wpAny_bind (ln.at ?_))))))
  show wpAny _ _ (storeInOwnDict (.ref x) (.ref C) (.str name tk) name v false) _ _ _
  obtain ⟨c1, c2, c3, c4, c5, c6, c7, c8, c9, c10, c11⟩ := cd
  dsimp only at hdict
  subst hdict
  unfold storeInOwnDict ownDictForStores
  repeat (first | with_reducible refine PySem.OEX.store_in_old hns hw hz ?_ | with_reducible refine wpAny_loadPart_at hx ?_ | with_reducible refine lc.at ?_ | wp_step)
  intro h' tk' hn hs
  exact hq h' tk' (fun b o hb e => (hs.2 b hb).trans e) hn
end
end K12

namespace K12
open PySem PySem.Spec PyProof.Rows L2
/-- what the written part says of the error's class -/
structure AxC (K : PySem.W.Frag) (C : Addr) : Prop where
  cls : ∃ nm q N bs bm sn sub ab col dd k0 k1 k2 k3 k5, K.lookup C = some (excClassObj nm q C N bs bm true sn sub ab col dd k0 k1 k2 k3 k5 "ArithmeticError.__new__") ∧ PySem.W.excTail aeTail bm = true
  sa : PySem.W.findIn K (.ref C) "__setattr__" = some (some (.builtin "object.__setattr__"))
  exC : PySem.W.subIn K (.ref C) (.type "BaseException") = some true
  tyC : PySem.W.typeIn K (.ref C) = some (.type "type")
  kC : PySem.W.keepIn K (.ref C) = true
/-- the class's data, and what a store asks of its order -/
theorem AxC.data {K : PySem.W.Frag} {C : Addr} (T : AxC K C) : ∃ cd, PySem.W.clsIn K C = some cd ∧ cd.hasDict = true ∧ (∀ self, refuseLoop self "__setattr__" cd.mro = pure ()) ∧ cd.mro.contains (.type "object") = true ∧ cd.mro.isEmpty = false := by
  obtain ⟨nm, q, N, bs, bm, sn, sub, ab, col, dd, k0, k1, k2, k3, k5, hC, ht⟩ := T.cls
  refine ⟨{ name := nm, bases := bs, mro := .ref C :: bm, ns := N, qualname := q, hasDict := true, slotNames := sn, subclasses := sub, abstract := ab, collection := col, hasDel := false }, ?_, rfl, fun self => ?_, ?_, rfl⟩
  · unfold PySem.W.clsIn
    rw [hC]
  · exact PySem.W.excTail_pass (bmB := aeTail) self (PySem.F.store_ArithmeticError.passes self) (.ref C :: bm) ht
  · exact (PySem.W.excTail_contains (bmB := aeTail) "object" (.ref C :: bm) ht).trans (by decide +kernel)
section
variable {X : Cx} {pins : List (Addr × Obj)} {σ : L2.St} {H : Hp} {s : Shared} {a C dx : Addr} {f : Str} {y : V} {u : Value} {fs : List (Str × V)} {Q : Unit → Shared → Prop} {E : Value → Shared → Prop} {A : Around}
theorem aset0 (T : AxC X.K C) (I : Inv X pins σ H s) (e : H a = some (exo a C none)) (hno : PySem.W.findIn X.K (.ref C) f = some none) (ry : L2.RelV y u)
    (h : ∀ dx s', H dx = none → dx ≠ a → Inv X pins σ (upd (upd H dx (exd dx [(f, y)])) a (exo a C (some dx))) s' → Q () s') : wpAny (model X.prog X.w) A (setAttr (.ref a) f u) Q E s := by
  obtain ⟨cd, c1, c2, c3, c4, c5⟩ := T.data
  obtain ⟨t1, ho⟩ := exo_at I.hok e
  obtain ⟨hp, g, d, t, os⟩ := s
  refine PySem.W.set_plain I.kIn (ox := { cls := .ref C, dict := none, data := .fields #[.ref t1, .none, .none, .none, .bool false, .none] }) (od := none) ⟨ho, rfl, rfl, trivial⟩ T.sa ?_
  refine err_set0 I.kIn ho c1 (c3 _) c4 c5 c2 hno fun h' tk' dx k dn dne hx hn => ?_
  have hnd : H dx = none := I.hok.fresh dn
  have nd : ∀ {b : Addr} {o : Obj}, hp.get? b = some o → b ≠ dx := fun q => Nat.ne_of_lt (Nat.lt_of_lt_of_le (Heap.lt_size q) dn)
  have na : ∀ {b : Addr}, H b = none → b ≠ a := fun n z => by rw [z, e] at n; cases n
  have un : Un X.fs [] H (upd (upd H dx (exd dx [(f, y)])) a (exo a C (some dx))) hp h' := by
    constructor
    · exact fun b o q n _ _ => k b o (na n) q
    · exact fun b o q n _ _ => ⟨o.slots, k b o (na n) q⟩
    · exact fun b o q n _ => by rw [upd_ne (na n), upd_ne (nd q)]; exact n
    · intro b o q _
      by_cases hb : b = a
      · exact ⟨_, by rw [hb]; exact hx⟩
      · exact ⟨o, k b o hb q⟩
    · exact fun b xs q => by rw [upd_ne (at_ne e q exo_tup), upd_ne (ne_of_none q hnd)]; exact q
    · exact fun b o v q => by rw [upd_ne (at_ne e q exo_frz), upd_ne (ne_of_none q hnd)]; exact q
    · exact fun b ps q => ⟨#[], by rw [upd_ne (at_ne e q exo_tbl), upd_ne (ne_of_none q hnd), q]; simp⟩
  refine h dx _ hnd dne (I.un (t' := tk') un fun b o q => ?_)
  by_cases hb : b = a
  · subst hb
    rw [upd_same] at q
    cases q
    exact exo_ok hx
  · rw [upd_ne hb] at q
    by_cases hd : b = dx
    · subst hd
      rw [upd_same] at q
      cases q
      exact exd_ok hn (relO_put (fs := []) ry fun g => True.intro)
    · rw [upd_ne hd] at q
      refine (I.hok b o q).stay (fun c v hc z => k c v ?_ z) (fun c hc => ?_) fun c xs hc => ?_
      · rcases hc with hc | hc
        · rw [hc]; exact hb
        · exact at_ne e hc exo_own
      · rw [upd_ne (at_ne e hc exo_own), upd_ne (ne_of_none hc hnd)]; exact hc
      · rw [upd_ne (at_ne e hc exo_tup), upd_ne (ne_of_none hc hnd)]; exact hc
theorem aset1 (T : AxC X.K C) (I : Inv X pins σ H s) (e : H a = some (exo a C (some dx))) (ed : H dx = some (exd dx fs)) (hl : fs.length ≤ 900) (hno : PySem.W.findIn X.K (.ref C) f = some none) (ry : L2.RelV y u)
    (h : ∀ s', Inv X pins σ (upd H dx (exd dx ((f, y) :: fs))) s' → Q () s') : wpAny (model X.prog X.w) A (setAttr (.ref a) f u) Q E s := by
  obtain ⟨cd, c1, c2, c3, c4, c5⟩ := T.data
  obtain ⟨t1, ho⟩ := exo_at I.hok e
  obtain ⟨mA, hns, rel⟩ := exd_at I.hok ed
  have hw := within_of rel
  obtain ⟨hp, g, d, t, os⟩ := s
  obtain ⟨oD, _, _, hoD, _, _⟩ := hns.count hw
  refine PySem.W.set_plain I.kIn (ox := { cls := .ref C, dict := some dx, data := .fields #[.ref t1, .none, .none, .none, .bool false, .none] }) (od := some oD) ⟨ho, rfl, rfl, hoD⟩ T.sa ?_
  refine err_set1 I.kIn ho hns hw (by rw [List.length_map]; omega) c1 (c3 _) c4 c5 c2 hno fun h' tk' k hn => ?_
  have hd : ∃ o, h'.get? dx = some o := let ⟨o, _, _, e', _⟩ := hn; ⟨o, e'⟩
  exact h _ (I.write (t' := tk') (x := dx) (e := dx) (o := exd dx ((f, y) :: fs)) (by rw [ed]; exact True.intro) (.inl rfl) k hd (exd_ok hn (relO_put ry rel)))
/-- the base's __init__ lays the args anew -/
theorem abase {us : List Value} {Q : Value → Shared → Prop} (T : AxC X.K C) (I : Inv X pins σ H s) (e : H a = some (exo a C none)) (hl : us.length ≤ sizeLine) (h : ∀ s', Inv X pins σ H s' → Q .none s') :
    wpAny (model X.prog X.w) A (call (.builtin "ArithmeticError.__init__") (.ref a :: us)) Q E s := by
  obtain ⟨nm, q, N, bs, bm, sn, sub, ab, col, dd, k0, k1, k2, k3, k5, hC, ht⟩ := T.cls
  obtain ⟨t1, ho⟩ := exo_at I.hok e
  obtain ⟨hp, g, d, t, os⟩ := s
  refine wpAny_call (PySem.HandSPX.init_base F.excBase_ArithmeticError (fun Y => PySem.W.excTail_contains Y bm ht) (I.kIn _ _ hC) ho hl fun h' t2 k hx => ?_)
  have J := I.write (t' := t) (x := a) (e := a) (o := exo a C none) (by rw [e]; exact True.intro) (.inl rfl) k ⟨_, hx⟩ (exo_ok hx)
  have same : upd H a (exo a C none) = H := by
    funext b
    by_cases hb : b = a
    · rw [hb, upd_same, e]
    · rw [upd_ne hb]
  rw [same] at J
  exact h _ J
end
/-- B.__init__(self, ..), B a class of ours whose __init__ is the built-in one -/
def tBaseI (K : PySem.W.Frag) (ta : TA) : TE := fun σ H Q => ta σ H fun vs H1 => ∃ (a C : Addr) (ws : List V), vs = .ref a :: ws ∧ ws.length ≤ 1000 ∧ AxC K C ∧ H1 a = some (exo a C none) ∧ Q .non H1
/-- self.f = e in an error's __init__ -/
def tSetE (K : PySem.W.Frag) (f : Str) (to te : TE) : TS := fun D σ H => te σ H fun y H1 => to σ H1 fun x H2 => ∃ a C : Addr, x = .ref a ∧ AxC K C ∧ PySem.W.findIn K (.ref C) f = some none ∧
  ((H2 a = some (exo a C none) ∧ ∀ dx, H2 dx = none → dx ≠ a → D.nx σ (upd (upd H2 dx (exd dx [(f, y)])) a (exo a C (some dx)))) ∨
    ∃ (dx : Addr) (fs : List (Str × V)), H2 a = some (exo a C (some dx)) ∧ H2 dx = some (exd dx fs) ∧ fs.length ≤ 900 ∧ D.nx σ (upd H2 dx (exd dx ((f, y) :: fs))))
section
variable {X : Cx} {o e : PySem.Expr} {es : List PySem.Expr} {to te : TE} {ta : TA} {f x : Str} {p p' p1 p2 pos : Pos} {B : Addr}
theorem pe_baseI {pl : Sem Bool} (hg : Gl X x) (hm : X.mg x = some (.ref B)) (hx : (x == ("__debug__" : Str)) = false) (ga : PySem.W.specialIn X.K (.ref B) "__getattribute__" = some (some (.builtin "type.__getattribute__"))) (rd : PySem.W.readsIn X.K B (.type "type") = true)
    (fi : PySem.W.findCls X.K (.ref B) (.type "type") "__init__" = some (.val (.builtin "ArithmeticError.__init__"))) (ha : PA X (e :: es) ta)
    (hc : eval (.Call (.Attribute (.Name x p1) "__init__" p2) (e :: es) [] pos) X.env = (do
      let ov ← eval (.Name x p1) X.env
      standAt p2.atName
      let (f, first) ← holding [ov] (getMethod ov "__init__" pl)
      callWith pos f first (backTo pos (starEach (e :: es) X.env)) (backToKw pos (keywordEach [] X.env))) := by rfl)
    (he : starEach (e :: es) X.env = (false, eval e X.env) :: starEach es X.env := by rfl) (hpl : (backTo pos (starEach es X.env)).any (·.1) = false := by rfl) :
    PE X (.Call (.Attribute (.Name x p1) "__init__" p2) (e :: es) [] pos) (tBaseI X.K ta) := by
  refine ⟨fun pins s σ H Q I h => ?_⟩
  refine PySem.W.methodCall_KW (ld_glob I hg hm ?_ hx) hc
  refine PySem.W.method_cls I.kIn ga (PySem.W.cls_value I.kIn rd fi (by decide +kernel) ?_)
  show wpAny _ _ (callWith pos (Value.builtin "ArithmeticError.__init__") [] (backTo pos (starEach (e :: es) X.env)) []) _ _ _
  refine PyProof.Rows.callWith_method1 (thn (ha.run pos pins _ σ H _ (I.tok _) h) fun us s1 ⟨vs, H1, I1, r1, a, C, ws, ev, hl, T, ea, q⟩ => ?_) he hpl
  subst ev
  cases r1 with
  | @cons _ u0 _ ur ra rw' =>
    obtain rfl : u0 = Value.ref a := ra
    refine abase T I1 ea ?_ fun s' J => ⟨.non, H1, J, rfl, q⟩
    rw [← Paired.length rw', sizeLine_eq]
    omega
theorem ps_setE (ho : PE X o to) (he : PE X e te) (hs : swapsWith e (some (.Attribute o f p')) pos.line X.env = pure false := by rfl) : PS X (.Assign [.Attribute o f p'] e pos) (tSetE X.K f to te) := by
  refine ⟨fun pins s σ H D I h => ?_⟩
  refine plainObj_wpAny_Assign_Attribute (thn (he.run pins s σ H _ I h) fun v s1 ⟨y, H1, I1, r1, q1⟩ => thn (ho.run pins s1 σ H1 _ I1 q1) fun u s2 ⟨x, H2, I2, r2, a, C, ex, T, hno, q⟩ => ?_) hs
  subst ex
  obtain rfl : u = Value.ref a := r2
  rcases q with ⟨ea, q⟩ | ⟨dx, fs, ea, ed, hl, q⟩
  · exact aset0 T I2 ea hno r1 fun dx s' n ne J => ⟨σ, _, J, q dx n ne⟩
  · exact aset1 T I2 ea ed hl hno r1 fun s' J => ⟨σ, _, J, q⟩
end
end K12

namespace K12
open PySem PySem.Spec PyProof.Rows L2
section
variable {X : Cx} {e : PySem.Expr} {es : List PySem.Expr} {ta : TA} {p pos pos2 : Pos}
/-- C(e, ..): C's own __init__ keeps sp -/
theorem pmk_ax {CX : CXT} {x : Str} {C fI : Addr} {k : Nat} {fd : FuncData} {ps : List Str} {sp : Sp} (T : AxC X.K C) (iC : PySem.W.findIn X.K (.ref C) "__init__" = some (some (.ref fI))) (tI : PySem.W.typeIn X.K (.ref fI) = some (.type "function"))
    (F1 : FnOk X.prog X.w X.K X.mg X.base CX k fI fd ps sp) (hr : Room (k + 1) X.A) (hb : Binds X.K fd ps []) (hx : Passes CX X (fun _ _ _ => False)) (hg : Gl X x) (hm : X.mg x = some (.ref C)) (ha : PA X (e :: es) ta)
    (hdb : (x == ("__debug__" : Str)) = false := by decide) (he : starEach (e :: es) X.env = (false, eval e X.env) :: starEach es X.env := by rfl) (hpl : (backTo pos (starEach es X.env)).any (·.1) = false := by rfl) :
    PMk X (.Call (.Name x p) (e :: es) [] pos) (tMkO C sp [] ta) := by
  intro pins s σ H Q I h
  obtain ⟨nm, q, N, bs, bm, sn, sub, ab, col, dd, k0, k1, k2, k3, k5, hC, ht⟩ := T.cls
  refine wpAny_Call_Name_kw (ld_glob I hg hm ?_ hdb)
  refine PySem.W.callWith_K (h₀ := X.base) I.ok.mod.kin T.kC (thn (ha.run pos pins s σ H _ I h) fun us s1 ⟨vs, H1, I1, r1, hz, q1⟩ => ⟨I1.kIn, ?_⟩) he hpl
  show wpAny _ _ (call (.ref C) us) _ _ _
  obtain ⟨hp, g, dr, tk, os⟩ := s1
  generalize hA : hp.objs.size + 1 = a
  have hsz : hp.objs.size ≤ a := by rw [← hA]; exact Nat.le_succ _
  have hn : H1 a = none := I1.hok.fresh hsz
  have hq := q1 a hn
  have kk : ∀ b o, hp.get? b = some o → ((hp.push (PySem.W.kdv_tup us)).push (PySem.HandSPX.excO C hp.objs.size)).get? b = some o := fun b o e => Heap.get?_push_of_some _ (Heap.get?_push_of_some _ e)
  have hget : ((hp.push (PySem.W.kdv_tup us)).push (PySem.HandSPX.excO C hp.objs.size)).get? a = some (PySem.HandSPX.excO C hp.objs.size) := by
    rw [← hA]
    heap_get
  have I2 : Inv X pins σ (upd H1 a (exo a C none)) ⟨(hp.push (PySem.W.kdv_tup us)).push (PySem.HandSPX.excO C hp.objs.size), g, dr, tk, os⟩ := I1.laid (t' := tk) kk hsz (exo_ok hget)
  have r2 : Vals (V.ref a :: (vs ++ [])) (Value.ref a :: (us ++ [])) := .cons rfl (r1.append .nil)
  have hl : (Value.ref a :: us ++ []).length = ps.length := by
    have z := r2.length
    rw [F1.len _ _ _ _ hq] at z
    exact z.symm
  have hus : us.length ≤ sizeLine := by
    rw [← Paired.length r1, sizeLine_eq]
    omega
  refine wpAny_call (PySem.HandSPX.call_own F.excBase_ArithmeticError (fun Y => PySem.W.excTail_contains Y bm ht) (I1.kIn _ _ hC) (PySem.W.looks_findIn I1.kIn iC) (fun self => PySem.W.bind_fn I1.kIn self tI) hus ?_)
  show codeAny _ _ (.call (.ref fI) ⟨.ref (hp.objs.size + 1) :: us, []⟩) _ _
  rw [hA]
  have bd := hb _ (Value.ref a :: us) I2.kIn hl
  rw [List.cons_append] at bd
  refine codeAny_mono (F1.run _ X.stack _ _ ⟨Value.ref a :: us, []⟩ (Value.ref a :: (us ++ [])) _ _ (fun _ _ _ => False) (hr.make C us []) (I2.env0.make C us []) bd r2 hq) fun r s' hq' => ?_
  cases r with
  | error er => exact hx pins σ _ _ er s' I2 hq'
  | ok fl =>
    cases fl with
    | next => exact False.elim hq'
    | brk => exact False.elim hq'
    | cont => exact False.elim hq'
    | ret u =>
      obtain ⟨v, H2, os2, bare2, un2, hok2, rv, ev, d, fs, ea, ed, hd1, q2⟩ := hq'
      subst ev
      obtain ⟨h2, g2, d2, t2, os'⟩ := s'
      exact ⟨rv, mk_end (raises_own T.exC T.tyC) I1 hsz kk un2 hok2 os2 bare2 ea ed hd1 q2⟩
end
/-- the promise of such an __init__(self, part, at) -/
def spErr (C : Addr) : Sp := fun vs H Q _ => ∃ (a : Addr) (x y : V), vs = [.ref a, x, y] ∧ H a = some (exo a C none) ∧
  ∀ d H', H d = none → d ≠ a → (∀ b, b ≠ a → b ≠ d → H' b = H b) → H' a = some (exo a C (some d)) → H' d = some (exd d [("at", y), ("part", x)]) → Q .non H'
end K12

/-! try: .. except C as n: suite, with more clauses behind that are not come to; isinstance of the caught error; C(..) at the slots. -/
namespace K12
open PySem PySem.Spec PyProof.Rows L2
/-- the first clause takes it; slot i is the clause's name -/
def wFirst (K : PySem.W.Frag) (c : Value) (i : Nat) (ts : Addr → Value → Option Addr → TS) (D : Ends) : WX := fun cls d σ H => PySem.W.exmOne K cls c = some true ∧
  ∀ a, H a = none → ts a cls d { nx := fun σ' H' => D.nx (σ'.set i none) H', rt := D.rt, bk := fun σ' H' => D.bk (σ'.set i none) H', ct := fun σ' H' => D.ct (σ'.set i none) H' } (σ.set i (some (.ref a))) H
section
variable {X : Cx} {x n : Str} {c : Value} {i : Nat} {body suite : List Stmt} {b0 : Stmt} {np pos pos' : Pos} {tb : WX → TS} {ts : Addr → Value → Option Addr → TS} {more : List ExceptHandler}
theorem ps_try_first (hs : X.stack = X.env :: X.outer) (hf : X.env.frame = some X.env.locals) (hN : X.N.Nodup) (hi : X.N[i]? = some n) (hln : X.env.kindOf n = some .local) (hc : Names X x c)
    (hb : ∀ (W : WX) (pn : List (Addr × Obj)) (xe : Value → Shared → Prop), Takes (X.tr pn xe) W → PassesOwn (model X.prog X.w) X.A X.env xe → PSs (X.tr pn xe) body (tb W))
    (hsu : ∀ (a : Addr) (oe : Obj) (cls : Value) (d : Option Addr) (pn : List (Addr × Obj)), Zc cls d oe → (∃ vs, oe.data = .fields vs) → PSs (X.suite a ((a, oe) :: pn)) (b0 :: suite) (ts a cls d)) :
    PS X (.Try body (.ExceptHandler (some (.Name x np)) (some n) (b0 :: suite) pos' :: more) [] [] pos) (fun D σ H => tb (wFirst X.K c i ts D) D σ H) := by
  refine ⟨fun pins s σ H D I h => ?_⟩
  have ok := I.ok
  have hfr : X.A.frames = some (X.env :: X.outer) := by rw [ok.frames, hs]
  refine wpAny_Try_except (wpAny_mono ((hb (wFirst X.K c i ts D) (X.pn ++ pins) (fun e s1 => wpAny (model X.prog X.w) X.A (noteFrame e X.env) (fun _ s2 => wpAny (model X.prog X.w) X.A (setFlight e none) (fun _ s3 =>
    wpAny (model X.prog X.w) X.A (handleBy e X.env (.ExceptHandler (some (.Name x np)) (some n) (b0 :: suite) pos' :: more)) (SP X pins D) X.xe s3) X.xe s2) X.xe s1) (fun u s' xx => ?_) PassesOwn.looking).run [] s σ H D (I.toTry _) h) (fun f s1 hsp => ?_) (fun e s1 he => he))
  · obtain ⟨a, B, sI, pins', σ', H', cls, d, rfl, J', nb, up, sky, na, os, ag, w1, w2⟩ := xx
    have J : Inv X pins σ' H' sI := J'.ofTry ok
    rw [show (X.tr (X.pn ++ pins) _).stack = X.env :: X.outer from hs] at sky
    show wpAny (model X.prog X.w) X.A (noteFrame (.ref a) X.env) _ _ _
    refine Sky.land Zc.steady hfr hf sky fun h3 fl3 up3 => ?_
    have J3 : Inv X pins σ' H' { s' with heap := h3 } := J.landed nb fl3.1 (up.trans up3) os ag
    obtain ⟨oe3, vs3, he3, hz3, hd3⟩ := fl3.there
    have nfr : a ∉ frs (X.env :: X.outer) := fun hm => by
      obtain ⟨_, o', e', hnf⟩ := fl3.2.2.1.mem hm
      rw [he3] at e'
      cases e'
      exact hnf _ hd3
    have nL : a ≠ X.env.locals := fun z => nfr (List.mem_filterMap.mpr ⟨X.env, List.mem_cons_self, by rw [hf, z]⟩)
    have nF : a ∉ X.fs := fun hm => by
      obtain ⟨e, he, q⟩ := List.mem_filterMap.mp hm
      exact nfr (List.mem_filterMap.mpr ⟨e, List.mem_cons_of_mem _ he, q⟩)
    have S3 := J3.suite he3 hd3 na nL nF
    refine wpAny_handleBy_cons (codeAny_handlers_test ?_) (by intro q; cases q)
    have LT : PySem.W.Looks (model X.prog X.w) h3 (typeOf (.ref a)) cls := fun A Q E s k q => wpAny_typeOf_ref (k _ _ he3) (by rw [hz3.1]; exact q)
    have LM := PySem.W.exm_one (M := model X.prog X.w) (J3.kIn) LT w1
    have ask : ∀ {Q : Value → Shared → Prop} {E : Value → Shared → Prop}, Q c { s' with heap := h3 } → wpAny (model X.prog X.w) (X.A.mark (some (.ref a))) (eval (.Name x np) X.env) Q E { s' with heap := h3 } := fun q => by
      obtain ⟨hg, hdbg, hm | ⟨hm, hv, hnn⟩⟩ := hc
      · exact ld_glob (X := X.suite a ((a, oe3) :: (X.pn ++ pins))) S3 hg hm q hdbg
      · exact ld_blt (X := X.suite a ((a, oe3) :: (X.pn ++ pins))) S3 hg hm hv q hnn hdbg
    refine ask (LM.here (codeAny_handlers_suite_as ?_))
    refine HandSPX.lands_againZ fl3 fun h4 fl4 up4 => ?_
    have J4 : Inv X pins σ' H' { s' with heap := h4 } := J.landed nb fl4.1 ((up.trans up3).trans up4) os ag
    obtain ⟨oe4, vs4, he4, hz4, hd4⟩ := fl4.there
    have S4 := J4.suite he4 hd4 na nL nF
    refine store_ok (X := X.suite a ((a, oe4) :: (X.pn ++ pins))) (v := .ref a) S4 hN hi (.inl hln) rfl (fun s5 S5 => ?_) (.inr hln)
    refine wpAny_mono ((hsu a oe4 cls d (X.pn ++ pins) hz4 ⟨_, hd4⟩).run [] s5 _ H' _ S5 (w2 a na)) (fun f s6 hsp => ?_) (fun _ _ z => False.elim z)
    have fin : ∀ {σ6 : L2.St} {H6 : Hp} {Q : Shared → Prop}, Inv (X.suite a ((a, oe4) :: (X.pn ++ pins))) [] σ6 H6 s6 → (∀ s7, Inv X pins (σ6.set i none) H6 s7 → Q s7) →
        wpAny (model X.prog X.w) X.A (do bindName X.env n .none; unbindBehindTheSuite X.env n pos') (fun _ s7 => Q s7) X.xe s6 := fun S6 hq => gone_ok (S6.unsuite ok) hN hi hln hq
    cases f with
    | next => obtain ⟨σ6, H6, S6, q6⟩ := hsp; exact fin S6 fun s7 J7 => ⟨_, _, J7, q6⟩
    | brk => obtain ⟨σ6, H6, S6, q6⟩ := hsp; exact fin S6 fun s7 J7 => ⟨_, _, J7, q6⟩
    | cont => obtain ⟨σ6, H6, S6, q6⟩ := hsp; exact fin S6 fun s7 J7 => ⟨_, _, J7, q6⟩
    | ret u => obtain ⟨v6, σ6, H6, S6, r6, q6⟩ := hsp; exact fin S6 fun s7 J7 => ⟨_, _, _, J7, r6, q6⟩
  · cases f with
    | next => obtain ⟨σ', H', J', q⟩ := hsp; exact wpAny_execs_nil ⟨σ', H', J'.ofTry ok, q⟩
    | brk => obtain ⟨σ', H', J', q⟩ := hsp; exact ⟨σ', H', J'.ofTry ok, q⟩
    | cont => obtain ⟨σ', H', J', q⟩ := hsp; exact ⟨σ', H', J'.ofTry ok, q⟩
    | ret u => obtain ⟨v, σ', H', J', r, q⟩ := hsp; exact ⟨v, σ', H', J'.ofTry ok, r, q⟩
end
end K12

namespace K12
open PySem PySem.Spec PyProof.Rows L2
/-- what the error's class must say, so that isinstance asks its instances rightly -/
structure IsE (K : PySem.W.Frag) (C : Addr) : Prop where
  cl : (PySem.W.clsIn K C).isSome = true
  ga : PySem.W.findIn K (.ref C) "__getattribute__" = some (some (.builtin "BaseException.__getattribute__"))
  gg : PySem.W.findIn K (.ref C) "__getattr__" = some none
  sb : PySem.W.subIn K (.ref C) (.type "BaseException") = some true
  ca : PySem.W.findIn K (.ref C) "__class__" = some (some (.builtin "object.__class__"))
  sg : PySem.W.specialIn K (.builtin "object.__class__") "__get__" = some (some (.builtin "getset_descriptor.__get__"))
  tk : PySem.W.takesIn K (.builtin "object.__class__") = some true
  mr : PySem.W.mroIn K C (.type "object") = some true
/-- isinstance(e, c), e the caught error at a, of the class at C, its dict at dd -/
def rIsErr (K : PySem.W.Frag) (C a dd : Addr) : List V → Hp → VK → Prop := fun xs H Q => ∃ (c : V) (cv : Value) (b : Bool) (fs : List (Str × V)), xs = [.ref a, c] ∧ ClsV c cv ∧ PySem.W.kitOne K (.ref C) cv = some b ∧ H dd = some (.xd fs) ∧ Q (.bl b) H
theorem call_isErr {X : Cx} {a C dd : Addr} {oe : Obj} {pn : List (Addr × Obj)} (T : IsE X.K C) (hz : Zc (.ref C) (some dd) oe) (hf : ∃ vs, oe.data = .fields vs) : CallR (X.suite a ((a, oe) :: pn)) (.builtin "isinstance") (rIsErr X.K C a dd) := by
  intro pins s σ H xs us Q I r ⟨c, cv, b, fs, e, hcv, hk, hd, q⟩
  subst e
  obtain ⟨u1, u2, rfl, r1, r2⟩ := vals2 r
  cases (show u1 = Value.ref a from r1)
  have e2 := hcv.eq r2
  subst e2
  obtain ⟨hget, _⟩ := I.pin (a, oe) (List.mem_append.mpr (.inl List.mem_cons_self))
  obtain ⟨vs, hv⟩ := hf
  obtain ⟨mA, ⟨od, es, ep, ho, hr⟩, _⟩ : ObjOk X.prog X.w H s.heap dd (.xd fs) := I.hok dd _ hd
  have J : PySem.W.InstAt s.heap a oe C (some od) := ⟨hget, hz.1, by unfold PySem.W.notCls; rw [hv], by rw [hz.2]; exact ho⟩
  exact PySem.W.kia_one (PySem.W.kitx_exc T.cl T.ga T.gg T.sb T.ca T.sg T.tk T.mr) I.kIn J hk (fun z => nomatch z) fun tk => ⟨.bl b, H, I.kept (t' := tk) fun _ _ z => z, rfl, q⟩
section
variable {X : Cx} {CX : CXT} {k : Nat} {f C : Addr} {fd : FuncData} {ps : List Str} {sp : Sp} {E : L2.St → XK} {x : Str} {p pos : Pos} {e : PySem.Expr} {es : List PySem.Expr} {t : TA}
/-- C(e, ..), C a class of ours; what its __init__ lets out is wished for at the slots -/
def tMakeS (C : Addr) (sp : Sp) (E : L2.St → XK) (t : TA) : TE := fun σ H Q => t σ H fun vs H1 => ∀ x dx, H1 x = none → H1 dx = none → dx ≠ x → sp (.ref x :: vs) (upd (upd H1 dx (.own x)) x (.ins C dx [])) (fun v H2 => v = .non ∧ Q (.ref x) H2) (E σ)
theorem pe_makeS (M : Mk X.K C f) (F : FnOk X.prog X.w X.K X.mg X.base CX k f fd ps sp) (hr : Room (k + 1) X.A) (hg : Gl X x) (hm : X.mg x = some (.ref C)) (hb : Binds X.K fd ps []) (hx : ∀ σ, PassesAt CX X σ (E σ))
    (ha : PA X (e :: es) t) (hdb : (x == ("__debug__" : Str)) = false := by decide) (he : starEach (e :: es) X.env = (false, eval e X.env) :: starEach es X.env := by rfl) (hpl : (backTo pos (starEach es X.env)).any (·.1) = false := by rfl) :
    PE X (.Call (.Name x p) (e :: es) [] pos) (tMakeS C sp E t) := by
  refine ⟨fun pins s σ H Q I h => ?_⟩
  refine wpAny_Call_Name_kw (ld_glob I hg hm ?_ hdb)
  refine PySem.W.callWith_K (h₀ := X.base) I.ok.mod.kin M.kp (thn (ha.run pos pins s σ H _ I h) fun us s1 ⟨vs, H1, I1, r, q⟩ => ⟨I1.kIn, ?_⟩) he hpl
  have hq := q (s1.heap.objs.size + 1) s1.heap.objs.size (I1.hok.fresh (Nat.le_succ _)) (I1.hok.fresh (Nat.le_refl _)) (Nat.ne_of_lt (Nat.lt_succ_self _))
  have I2 := Inv.made (C := C) I1
  have r2 : Vals (V.ref (s1.heap.objs.size + 1) :: vs) (Value.ref (s1.heap.objs.size + 1) :: us) := .cons rfl r
  have hl : (Value.ref (s1.heap.objs.size + 1) :: us ++ []).length = ps.length := by
    have z := r2.length
    rw [F.len _ _ _ _ hq] at z
    rw [List.append_nil]
    exact z.symm
  have bd := hb _ (Value.ref (s1.heap.objs.size + 1) :: us) I2.kIn hl
  rw [List.append_nil] at bd
  refine wpAny_call (make_map (f := f) I1.kIn M.makes M.init (beq_iff_eq.mp M.fn) (codeAny_mono (F.run _ X.stack _ _ ⟨Value.ref (s1.heap.objs.size + 1) :: us, []⟩ (Value.ref (s1.heap.objs.size + 1) :: us) _ _ (E σ) (hr.make C us [])
    (I2.env0.make C us []) bd r2 hq) fun r s' hq' => ?_))
  cases r with
  | error er => exact hx σ pins _ _ er s' I2 hq'
  | ok fl =>
    cases fl with
    | next => exact False.elim hq'
    | brk => exact False.elim hq'
    | cont => exact False.elim hq'
    | ret u =>
      obtain ⟨v, H', I3, rv, ev, q3⟩ := I2.after hq'
      subst ev
      exact ⟨rv, ⟨V.ref (s1.heap.objs.size + 1), H', I3, rfl, q3⟩⟩
end
end K12

/-! d.update(xs), xs a list of pairs; xs + ys where xs is only read. -/
namespace K12
open PySem PySem.Spec PyProof.Rows L2
def rUpdP (K : PySem.W.Frag) : V → List V → Hp → VK → Prop := fun x vs H Q => ∃ (d a : Addr) (kvs : List (Key × V)) (ps : List Addr) (prs : List (Key × V)), x = .ref d ∧ vs = [.ref a] ∧ H d = some (.dK kvs) ∧ H a = some (.lst (ps.map V.ref)) ∧ Paired (fun p kv => H p = some (.tup [kV kv.1, kv.2])) ps prs ∧
  kvs.length + prs.length ≤ 1000 ∧ Q .non (upd H d (.dK (mergeK kvs prs)))
theorem key_val {P : Program} {w : World} {k : Key} {u : Value} (h : L2.RelV (kV k) u) : (mixKind P w).is k u = true := by
  cases k with
  | inl i => obtain ⟨t, rfl⟩ := h; exact mixKind_int P w i t
  | inr x => obtain ⟨t, rfl⟩ := h; exact mixKind_str P w x t
theorem mt_update {X : Cx} (hc : X.calm = true) : MtR X "dict.update" (rUpdP X.K) := by
  intro pins s σ H x vs v us Q I rx rv ⟨d, a, kvs, ps, prs, ex, ev, hd, ha, hp, hz, q⟩
  subst ex ev
  cases rx
  obtain ⟨u, eu, ru⟩ := vals1 rv
  subst eu
  cases ru
  obtain ⟨z, lo, vals, rk, hm⟩ := (show ObjOk X.prog X.w H s.heap d (.dK kvs) from I.hok d _ hd)
  obtain ⟨zz, its, n, r, hl, e⟩ := I.lstM ha
  have ei := refs_at r
  subst ei
  have hlen : kvs.length = vals.length := Paired.length rk
  have hpl : ps.length = prs.length := Paired.length hp
  have base : ∃ xs : List (Value × Value), xs.length = prs.length ∧ ∀ (j : Nat) (kv : Key × V), prs[j]? = some kv → ∃ u y, xs[j]? = some (u, y) ∧ L2.RelV (kV kv.1) u ∧ L2.RelV kv.2 y ∧ ∃ p, ps[j]? = some p ∧ s.heap.IsTuple p #[u, y] := by
    clear hz q e hpl r hl ha zz
    induction hp with
    | nil => exact ⟨[], rfl, fun j kv e => by simp at e⟩
    | @cons p kv ps prs h _ ih =>
      obtain ⟨xs, h1, h2⟩ := ih
      obtain ⟨its, rv, ht, _⟩ := I.tuple (SqT.of h)
      obtain ⟨u, y, ei, ru, ry⟩ := vals2 rv
      subst ei
      refine ⟨(u, y) :: xs, by rw [List.length_cons, List.length_cons, h1], fun j kv' e => ?_⟩
      cases j with
      | zero =>
        simp at e
        subst e
        exact ⟨u, y, rfl, ru, ry, p, rfl, ht⟩
      | succ j => exact h2 j kv' (by simpa using e)
  obtain ⟨xs, x1, x2⟩ := base
  let kvx : List (Key × Value) := (prs.zip xs).map fun q => (q.1.1, q.2.2)
  have hkx : KV prs kvx := by
    have aux : ∀ (prs : List (Key × V)) (xs : List (Value × Value)), xs.length = prs.length → (∀ (j : Nat) (kv : Key × V), prs[j]? = some kv → ∃ u y, xs[j]? = some (u, y) ∧ L2.RelV kv.2 y) → KV prs ((prs.zip xs).map fun q => (q.1.1, q.2.2)) := by
      intro prs
      induction prs with
      | nil => intro xs _ _; exact .nil
      | cons kv prs ih =>
        intro xs hl h
        cases xs with
        | nil => cases hl
        | cons x xs =>
          obtain ⟨u, y, e1, e2⟩ := h 0 kv rfl
          have e3 : x = (u, y) := Option.some.inj e1
          subst e3
          exact .cons ⟨rfl, e2⟩ (ih xs (by simpa using hl) fun j kv' e => h (j + 1) kv' (by simpa using e))
    exact aux prs xs x1 fun j kv e => let ⟨u, y, h1, _, h3, _⟩ := x2 j kv e; ⟨u, y, h1, h3⟩
  have hkl : kvx.length = prs.length := hkx.length.symm
  have tup_ne : ∀ (j : Nat) (p : Addr), ps[j]? = some p → d ≠ p := fun j p e => by
    obtain ⟨kv, _, h2⟩ := pget hp e
    exact ne_of hd h2 (by intro z; cases z)
  refine PySem.call_update_pairs (knd := mixKind X.prog X.w) (acc := vals) (kvs := kvx) (PySem.PairArg.list a (ps.map Value.ref).toArray (fun j => ps.getD j 0) xs) (I.ok.hd hc) ⟨⟨_, n, e, rfl, rfl, rfl⟩, by simp [x1, hpl], fun j u y hj => ?_⟩ (fun hm2 => ?_) ⟨by rw [hkl, x1], fun j u y hj => ?_⟩ hm (by rw [← hlen, x1, sizeLine_eq]; omega) fun h' tk hd' k => ?_
  · have hjl : j < prs.length := by rw [← x1]; exact (List.getElem?_eq_some_iff.mp hj).1
    obtain ⟨u', y', e1, _, _, p, e2, e3⟩ := x2 j _ (List.getElem?_eq_getElem hjl)
    rw [hj] at e1
    cases e1
    have e4 : ps.getD j 0 = p := by simp [List.getD, e2]
    show (ps.map Value.ref).toArray[j]? = some (.ref (ps.getD j 0)) ∧ PairAt s.heap (ps.getD j 0) u y
    rw [e4]
    exact ⟨by simp [e2], .inl e3⟩
  · rcases List.mem_cons.mp hm2 with z | z
    · exact ne_of hd ha (by intro z; cases z) z
    · obtain ⟨j, hj, e2⟩ := List.mem_map.mp z
      have hjl : j < ps.length := by rw [hpl, ← x1]; exact List.mem_range.mp hj
      have e4 : ps.getD j 0 = ps[j] := by simp [List.getD, hjl]
      rw [e4] at e2
      exact tup_ne j _ (List.getElem?_eq_getElem hjl) e2.symm
  · have hjl : j < prs.length := by rw [← x1]; exact (List.getElem?_eq_some_iff.mp hj).1
    obtain ⟨u', y', e1, e5, _, _⟩ := x2 j _ (List.getElem?_eq_getElem hjl)
    have hj : xs[j]? = some (u, y) := hj
    rw [hj] at e1
    cases e1
    refine ⟨prs[j].1, ?_, key_val e5⟩
    show ((prs.zip xs).map fun q => (q.1.1, q.2.2))[j]? = _
    have hz2 : (prs.zip xs)[j]? = some (prs[j], (u, y)) := List.getElem?_zip_eq_some.mpr ⟨List.getElem?_eq_getElem hjl, hj⟩
    rw [List.getElem?_map, hz2]
    rfl
  · have hl2 : (mergeK kvs prs).length ≤ sizeLine := Nat.le_trans (length_mergeK prs kvs) (by rw [sizeLine_eq]; omega)
    have J := I.write (t' := tk) (x := d) (e := d) (o := .dK (mergeK kvs prs)) (h' := h') (by rw [hd]; exact True.intro) (.inl rfl) (fun b o hb e => k b o hb (by simp) e) (let ⟨o, es, ep, ho, _⟩ := hd'; ⟨o, ho⟩) ⟨hl2, lo, _, KV.merge hkx rk, hd'⟩
    exact ⟨.non, _, J, rfl, q⟩
end K12
namespace K12
open PySem PySem.Spec PyProof.Rows L2
/-- xs + ys, both only read -/
def rCatR (K : PySem.W.Frag) : R2 := fun x y H Q => ∃ l b xs zs, x = .ref l ∧ y = .ref b ∧ SqL K H l xs ∧ SqL K H b zs ∧ xs.length + zs.length ≤ sizeLine ∧ ∀ p, H p = none → Q (.ref p) (upd H p (.lst (xs ++ zs)))
theorem op_catR {X : Cx} : OpR X (binaryOp .Add) (rCatR X.K) := by
  intro pins s σ H x y v u Q I rx ry ⟨l, b, xs, zs, ex, ey, hl, hb, hz, q⟩
  subst ex ey
  cases rx
  cases ry
  obtain ⟨its, r, ⟨⟨c1, d1, k1, s1⟩, n1, h1, h2, _, h4⟩, _⟩ := I.list hl
  obtain ⟨its2, r2, ⟨⟨c2, d2, k2, s2⟩, n2, g1, g2, _, g4⟩, _⟩ := I.list hb
  dsimp only at h2 h4 g2 g4
  subst h2 h4 g2 g4
  have e1 := r.length
  have e2 := r2.length
  refine concat_meets ⟨_, h1, rfl⟩ ⟨_, g1, rfl⟩ noFill_list_add seq_list_add PySem.F.slot_list_add PySem.F.entry_list_add (PySem.F.args_list_add_2 _ _) (list_addW l b its.toArray its2.toArray n1 n2 d1 d2 s1 s2 (by rw [List.size_toArray, List.size_toArray]; omega)) ⟨h1, g1, ?_⟩
  have e : its.toArray ++ its2.toArray = (its ++ its2).toArray := by simp
  rw [e]
  exact ⟨.ref _, _, I.lnew (t' := s.toks) (r.append r2) (by rw [List.length_append]; omega), rfl, q _ I.fresh⟩
end K12

/-! The base: the heap with some addresses hidden, the data by its content, the rows. -/
namespace K12
open PySem PySem.Spec PyProof.Rows L2
def topS (i : Nat) : Stmt := PySem.Challenge.pw_backframes_k12_whole_rows_of_sources_ref.main.body.getD i (.Pass ⟨0, 0, 0, 0⟩)
/-- H without what stands at S -/
def hid (S : List Addr) (H : Hp) : Hp := fun a => if a ∈ S then none else H a
/-- as it was, but for what stands at S -/
def Sm (S : List Addr) (H H' : Hp) : Prop := Same (hid S H) (hid S H')
theorem hid_some {S : List Addr} {H : Hp} {a : Addr} {o : HO} (h : hid S H a = some o) : H a = some o ∧ a ∉ S := by
  unfold hid at h
  by_cases c : a ∈ S
  · rw [if_pos c] at h; cases h
  · rw [if_neg c] at h; exact ⟨h, c⟩
theorem hid_in {S : List Addr} {H : Hp} {a : Addr} (c : a ∈ S) : hid S H a = Option.none := by unfold hid; rw [if_pos c]
theorem hid_out {S : List Addr} {H : Hp} {a : Addr} (c : a ∉ S) : hid S H a = H a := by unfold hid; rw [if_neg c]
theorem hid_get {S : List Addr} {H : Hp} {a : Addr} {o : HO} (h : H a = some o) (c : a ∉ S) : hid S H a = some o := by rw [hid_out c]; exact h
theorem hid_sub (S : List Addr) (H : Hp) : Same (hid S H) H := fun _ _ h => (hid_some h).1
theorem hid_nil (H : Hp) : hid [] H = H := by funext a; exact hid_out (by simp)
theorem hid_less {S T : List Addr} (H : Hp) (st : ∀ a ∈ S, a ∈ T) : Same (hid T H) (hid S H) := fun a o h => hid_get (hid_some h).1 fun m => (hid_some h).2 (st a m)
/-- what is not there may be hidden -/
theorem hid_more {S : List Addr} {H : Hp} {l : Addr} (h : H l = Option.none) : hid (l :: S) H = hid S H := by
  funext a
  by_cases c : a ∈ S
  · rw [hid_in c, hid_in (List.mem_cons_of_mem _ c)]
  · rw [hid_out c]
    by_cases e : a = l
    · subst e; rw [hid_in List.mem_cons_self, h]
    · rw [hid_out (fun m => (List.mem_cons.mp m).elim e c)]
theorem Sm.refl (S : List Addr) (H : Hp) : Sm S H H := Same.refl _
theorem Sm.trans {S : List Addr} {H H1 H2 : Hp} (a : Sm S H H1) (b : Sm S H1 H2) : Sm S H H2 := Same.trans a b
theorem Sm.of {S : List Addr} {H H' : Hp} (a : Same H H') : Sm S H H' := fun b o h => hid_get (a _ _ (hid_some h).1) (hid_some h).2
theorem Sm.more {S T : List Addr} {H H' : Hp} (a : Sm S H H') (st : ∀ a ∈ S, a ∈ T) : Sm T H H' := fun b o h =>
  hid_get (hid_some (a b o (hid_less H st b o h))).1 (hid_some h).2
theorem Sm.get {S : List Addr} {H H' : Hp} (a : Sm S H H') {p : Addr} {o : HO} (h : H p = some o) (c : p ∉ S) : H' p = some o := (hid_some (a p o (hid_get h c))).1
theorem Sm.free {S : List Addr} {H H' : Hp} (a : Sm S H H') {p : Addr} (h : H' p = Option.none) (c : p ∉ S) : H p = Option.none := by
  cases q : H p with
  | none => rfl
  | some o => rw [a.get q c] at h; cases h
/-- a new or hidden place is written -/
theorem Sm.put {S : List Addr} {H H' : Hp} {o : HO} (a : Sm S H H') {p : Addr} (h : hid S H p = Option.none) : Sm S H (upd H' p o) := fun b u e => by
  have nb : b ≠ p := fun q => by rw [q, h] at e; cases e
  exact hid_get (by rw [upd_ne nb]; exact (hid_some (a b u e)).1) (hid_some e).2
theorem Sm.putIn {S : List Addr} {H H' : Hp} {o : HO} (a : Sm S H H') {p : Addr} (h : p ∈ S) : Sm S H (upd H' p o) := a.put (hid_in h)
theorem Sm.putNew {S : List Addr} {H H' : Hp} {o : HO} (a : Sm S H H') {p : Addr} (h : H' p = Option.none) : Sm S H (upd H' p o) := a.put (by
  by_cases c : p ∈ S
  · exact hid_in c
  · rw [hid_out c]; exact a.free h c)
theorem Sm.putOwn {S : List Addr} {H H' : Hp} {o : HO} (a : Sm S H H') {p : Addr} (h : H p = Option.none) : Sm S H (upd H' p o) := a.put (by
  by_cases c : p ∈ S
  · exact hid_in c
  · rw [hid_out c]; exact h)
theorem same_new {H H' : Hp} {p : Addr} {o : HO} (a : Same H H') (h : H' p = Option.none) : Same H (upd H' p o) := fun b u e => by
  rw [upd_ne (ne_of_none (a _ _ e) h)]
  exact a _ _ e
theorem same_own {H H' : Hp} {p : Addr} {o : HO} (a : Same H H') (h : H p = Option.none) : Same H (upd H' p o) := fun b u e => by
  rw [upd_ne (ne_of_none e h)]
  exact a _ _ e

/-! ### the well -/
def Well (H : Hp) (w : Addr) : Prop := ∃ a b c : Int, H w = some (.lst [.int a, .int b, .int c])
theorem Well.keep {H H' : Hp} {w : Addr} (W : Well H w) (s : Same H H') : Well H' w := by
  obtain ⟨a, b, c, h⟩ := W
  exact ⟨a, b, c, s _ _ h⟩
theorem Well.ne {H : Hp} {w p : Addr} (W : Well H w) (h : H p = Option.none) : p ≠ w := fun e => by
  obtain ⟨a, b, c, q⟩ := W
  rw [e, q] at h
  cases h
theorem Well.put {H : Hp} {w p : Addr} {o : HO} (W : Well H w) (h : p ≠ w) : Well (upd H p o) w := by
  obtain ⟨a, b, c, q⟩ := W
  exact ⟨a, b, c, by rw [upd_ne h.symm]; exact q⟩
/-- only the well has changed, and new things are there -/
structure Dr (w : Addr) (H H' : Hp) : Prop where
  sm : Sm [w] H H'
  wl : Well H' w
theorem Dr.refl {w : Addr} {H : Hp} (W : Well H w) : Dr w H H := ⟨Sm.refl _ _, W⟩
theorem Dr.trans {w : Addr} {H H1 H2 : Hp} (a : Dr w H H1) (b : Dr w H1 H2) : Dr w H H2 := ⟨a.sm.trans b.sm, b.wl⟩
theorem Dr.of {w : Addr} {H H' : Hp} (W : Well H w) (s : Same H H') : Dr w H H' := ⟨.of s, W.keep s⟩
theorem Dr.same {w : Addr} {H H1 H2 : Hp} (a : Dr w H H1) (s : Same H1 H2) : Dr w H H2 := ⟨a.sm.trans (.of s), a.wl.keep s⟩
theorem Dr.get {w : Addr} {H H' : Hp} (a : Dr w H H') {p : Addr} {o : HO} (h : H p = some o) (c : p ≠ w) : H' p = some o := a.sm.get h (by simpa using c)
theorem Dr.new {w : Addr} {H H' : Hp} {p : Addr} {o : HO} (a : Dr w H H') (h : H' p = Option.none) : Dr w H (upd H' p o) := ⟨a.sm.putNew h, a.wl.put (a.wl.ne h)⟩
theorem Dr.own {w : Addr} {H H' : Hp} {p : Addr} {o : HO} (a : Dr w H H') (h : H p = Option.none) (c : p ≠ w) : Dr w H (upd H' p o) := ⟨a.sm.putOwn h, a.wl.put c⟩
theorem Dr.free {w : Addr} {H H' : Hp} {p : Addr} (a : Dr w H H') (h : H' p = Option.none) : H p = Option.none := a.sm.free h (by simpa using a.wl.ne h)
theorem Dr.seq {K : PySem.W.Frag} {w : Addr} {H H' : Hp} {p : Addr} {xs : List V} (a : Dr w H H') (h : SqL K (hid [w] H) p xs) : SqL K H' p xs := Same.seq ((show Same _ _ from a.sm).trans (hid_sub _ _)) h
theorem Dr.up {w : Addr} {H H' : Hp} (a : Dr w H H') : Same (hid [w] H) (hid [w] H') := a.sm
theorem Dr.down {w : Addr} {H H' : Hp} (a : Dr w H H') : Same (hid [w] H) H' := (show Same _ _ from a.sm).trans (hid_sub _ _)

/-! ### lists by their content -/
end K12
namespace PySem
open K12 L2
theorem Paired.imp {α β : Type} {R S : α → β → Prop} (f : ∀ a b, R a b → S a b) : ∀ {xs : List α} {ys : List β}, Paired R xs ys → Paired S xs ys
  | _, _, .nil => .nil
  | _, _, .cons r t => .cons (f _ _ r) (Paired.imp f t)
theorem Paired.app {α β : Type} {R : α → β → Prop} : ∀ {xs xs' : List α} {ys ys' : List β}, Paired R xs ys → Paired R xs' ys' → Paired R (xs ++ xs') (ys ++ ys')
  | _, _, _, _, .nil, s => s
  | _, _, _, _, .cons r t, s => .cons r (Paired.app t s)
theorem Paired.one {α β : Type} {R : α → β → Prop} {x : α} {y : β} (r : R x y) : Paired R [x] [y] := .cons r .nil
theorem Paired.get {α β : Type} {R : α → β → Prop} {xs : List α} {ys : List β} {i : Nat} {x : α} (h : Paired R xs ys) (e : xs[i]? = some x) : ∃ y, ys[i]? = some y ∧ R x y := K12.pget h e
theorem Paired.get2 {α β : Type} {R : α → β → Prop} : ∀ {xs : List α} {ys : List β} {i : Nat} {y : β} , Paired R xs ys → ys[i]? = some y → ∃ x, xs[i]? = some x ∧ R x y
  | _, _, _, _, .nil, e => by simp at e
  | _, _, 0, _, .cons r _, e => by simp at e; subst e; exact ⟨_, rfl, r⟩
  | _, _, i + 1, y, .cons _ t, e => by
    obtain ⟨x, h1, h2⟩ := Paired.get2 (i := i) (y := y) t (by simpa using e)
    exact ⟨x, by simpa using h1, h2⟩
theorem Paired.mem {α β : Type} {R : α → β → Prop} : ∀ {xs : List α} {ys : List β} {x : α}, Paired R xs ys → x ∈ xs → ∃ y, y ∈ ys ∧ R x y
  | _, _, _, .nil, e => by simp at e
  | _, _, x, .cons r t, e => by
    rcases List.mem_cons.mp e with q | q
    · subst q; exact ⟨_, List.mem_cons_self, r⟩
    · obtain ⟨y, h1, h2⟩ := Paired.mem t q
      exact ⟨y, List.mem_cons_of_mem _ h1, h2⟩
theorem Paired.take {α β : Type} {R : α → β → Prop} : ∀ (n : Nat) {xs : List α} {ys : List β}, Paired R xs ys → Paired R (xs.take n) (ys.take n)
  | 0, _, _, _ => .nil
  | _ + 1, _, _, .nil => .nil
  | n + 1, _, _, .cons r t => .cons r (Paired.take n t)
theorem Paired.drop {α β : Type} {R : α → β → Prop} : ∀ (n : Nat) {xs : List α} {ys : List β}, Paired R xs ys → Paired R (xs.drop n) (ys.drop n)
  | 0, _, _, r => r
  | _ + 1, _, _, .nil => .nil
  | n + 1, _, _, .cons _ t => Paired.drop n t
theorem Paired.len {α β : Type} {R : α → β → Prop} {xs : List α} {ys : List β} (h : Paired R xs ys) : xs.length = ys.length := Paired.length h
theorem Paired.set {α β : Type} {R : α → β → Prop} {x : α} {y : β} (q : R x y) : ∀ (i : Nat) {xs : List α} {ys : List β}, Paired R xs ys → Paired R (xs.set i x) (ys.set i y)
  | _, _, _, .nil => .nil
  | 0, _, _, .cons _ t => .cons q t
  | n + 1, _, _, .cons r t => .cons r (Paired.set q n t)
/-- every thing of xs is of one kind -/
theorem Paired.all {α : Type} {R : V → α → Prop} {xs : List V} (h : ∀ x ∈ xs, ∃ a, R x a) : ∃ ys, Paired R xs ys := by
  induction xs with
  | nil => exact ⟨[], .nil⟩
  | cons x r ih =>
    obtain ⟨a, ha⟩ := h x List.mem_cons_self
    obtain ⟨ys, hy⟩ := ih fun z m => h z (List.mem_cons_of_mem _ m)
    exact ⟨a :: ys, .cons ha hy⟩
end PySem
namespace K12
open PySem PySem.Spec PyProof.Rows L2
def Mono {α : Type} (R : Hp → V → α → Prop) : Prop := ∀ H H' v x, Same H H' → R H v x → R H' v x
def LsAt {α : Type} (R : Hp → V → α → Prop) (H : Hp) (a : Addr) (xs : List α) : Prop := ∃ vs, H a = some (.lst vs) ∧ Paired (R H) vs xs
theorem LsAt.mono {α : Type} {R : Hp → V → α → Prop} (m : Mono R) {H H' : Hp} {a : Addr} {xs : List α} (s : Same H H') (h : LsAt R H a xs) : LsAt R H' a xs := by
  obtain ⟨vs, h1, h2⟩ := h
  exact ⟨vs, s _ _ h1, h2.imp fun _ _ r => m _ _ _ _ s r⟩

/-! ### the parts of a source by their content -/
abbrev Dcl := Str × Bool
def kd (b : Bool) : Str := if b = true then "object" else "number"
theorem kd_inj {a b : Bool} : kd a = kd b ↔ a = b := by
  cases a <;> cases b <;> first | (exact ⟨fun _ => rfl, fun _ => rfl⟩) | (refine ⟨fun h => absurd h (by decide +kernel), fun h => nomatch h⟩)
def DclV (H : Hp) (v : V) (d : Dcl) : Prop := ∃ p, v = .ref p ∧ H p = some (.tup [.str d.1, .str (kd d.2)])
theorem DclV.mono : Mono DclV := fun H H' v x s ⟨p, e, h⟩ => ⟨p, e, s _ _ h⟩
abbrev DclsAt := LsAt DclV
theorem DclsAt.mono {H H' : Hp} {a : Addr} {xs : List Dcl} (s : Same H H') (h : DclsAt H a xs) : DclsAt H' a xs := LsAt.mono DclV.mono s h
abbrev Cl := Str × List Dcl
def ClV (H : Hp) (v : V) (c : Cl) : Prop := ∃ p f, v = .ref p ∧ H p = some (.tup [.str c.1, .ref f]) ∧ DclsAt H f c.2
theorem ClV.mono : Mono ClV := fun H H' v x s ⟨p, f, e, h, d⟩ => ⟨p, f, e, s _ _ h, d.mono s⟩
abbrev ClsAt := LsAt ClV
theorem ClsAt.mono {H H' : Hp} {a : Addr} {xs : List Cl} (s : Same H H') (h : ClsAt H a xs) : ClsAt H' a xs := LsAt.mono ClV.mono s h
structure Hd where
  name : Str
  ins : List Dcl
  outs : List Dcl
  res : Bool
def HdAt (H : Hp) (p : Addr) (h : Hd) : Prop := ∃ i o, H p = some (.tup [.str h.name, .ref i, .ref o, .str (kd h.res)]) ∧ DclsAt H i h.ins ∧ DclsAt H o h.outs
theorem HdAt.mono {H H' : Hp} {p : Addr} {x : Hd} (s : Same H H') : HdAt H p x → HdAt H' p x := fun ⟨i, o, h, d1, d2⟩ => ⟨i, o, s _ _ h, d1.mono s, d2.mono s⟩
def HdV (H : Hp) (v : V) (h : Hd) : Prop := ∃ p, v = .ref p ∧ HdAt H p h
theorem HdV.mono : Mono HdV := fun H H' v x s ⟨p, e, h⟩ => ⟨p, e, h.mono s⟩
abbrev HdsAt := LsAt HdV
theorem HdsAt.mono {H H' : Hp} {a : Addr} {xs : List Hd} (s : Same H H') (h : HdsAt H a xs) : HdsAt H' a xs := LsAt.mono HdV.mono s h
/-- a row's part: a text, a number, a list of names -/
inductive Cell where
  | s (x : Str) | n (i : Int) | l (xs : List Str)
def CellV (H : Hp) (v : V) : Cell → Prop
  | .s x => v = .str x
  | .n i => v = .int i
  | .l xs => ∃ q, v = .ref q ∧ xs.length ≤ 100 ∧ H q = some (.lst (xs.map V.str))
theorem CellV.mono : Mono CellV := fun H H' v x s h => by
  cases x with
  | s x => exact h
  | n i => exact h
  | l xs => obtain ⟨q, e, z, h⟩ := h; exact ⟨q, e, z, s _ _ h⟩
inductive Rw where
  | number (x : Str) (i : Int)
  | nil (x : Str)
  | copy (x y : Str)
  | arith (op : Str) (x y z : Str)
  | same (x y z : Str)
  | new (x c : Str)
  | get (x y f : Str)
  | put (x f y : Str)
  | call (x g : Str) (as : List Str)
  | see (x : Str)
  | iff (x : Str) (i : Int)
  | jump (i : Int)
  | ret (x : Str)
def ariths : List Str := ["add", "sub", "times", "less"]
def Rw.cells : Rw → List Cell
  | .number x i => [.s "number", .s x, .n i]
  | .nil x => [.s "nil", .s x]
  | .copy x y => [.s "copy", .s x, .s y]
  | .arith op x y z => [.s op, .s x, .s y, .s z]
  | .same x y z => [.s "same", .s x, .s y, .s z]
  | .new x c => [.s "new", .s x, .s c]
  | .get x y f => [.s "get", .s x, .s y, .s f]
  | .put x f y => [.s "put", .s x, .s f, .s y]
  | .call x g as => [.s "call", .s x, .s g, .l as]
  | .see x => [.s "see", .s x]
  | .iff x i => [.s "if", .s x, .n i]
  | .jump i => [.s "jump", .n i]
  | .ret x => [.s "return", .s x]
def RwAt (H : Hp) (p : Addr) (r : Rw) : Prop := ∃ vs, H p = some (.tup vs) ∧ Paired (CellV H) vs r.cells ∧ ∀ op x y z, r = .arith op x y z → op ∈ ariths
theorem RwAt.mono {H H' : Hp} {p : Addr} {r : Rw} (s : Same H H') : RwAt H p r → RwAt H' p r := fun ⟨vs, h, c, a⟩ => ⟨vs, s _ _ h, c.imp fun _ _ q => CellV.mono _ _ _ _ s q, a⟩
def RwV (H : Hp) (v : V) (r : Rw) : Prop := ∃ p, v = .ref p ∧ RwAt H p r
theorem RwV.mono : Mono RwV := fun H H' v x s ⟨p, e, h⟩ => ⟨p, e, h.mono s⟩
abbrev RwsAt := LsAt RwV
theorem RwsAt.mono {H H' : Hp} {a : Addr} {xs : List Rw} (s : Same H H') (h : RwsAt H a xs) : RwsAt H' a xs := LsAt.mono RwV.mono s h
/-- a function's five parts but for the rows, whose list stands at L -/
def FnAt (H : Hp) (p : Addr) (h : Hd) (L : Addr) : Prop := ∃ i o, H p = some (.tup [.str h.name, .ref i, .ref o, .str (kd h.res), .ref L]) ∧ DclsAt H i h.ins ∧ DclsAt H o h.outs
theorem FnAt.mono {H H' : Hp} {p L : Addr} {x : Hd} (s : Same H H') : FnAt H p x L → FnAt H' p x L := fun ⟨i, o, h, d1, d2⟩ => ⟨i, o, s _ _ h, d1.mono s, d2.mono s⟩
def FnV (H : Hp) (v : V) (f : Hd × Addr) : Prop := ∃ p, v = .ref p ∧ FnAt H p f.1 f.2
theorem FnV.mono : Mono FnV := fun H H' v x s ⟨p, e, h⟩ => ⟨p, e, h.mono s⟩
abbrev FnsAt := LsAt FnV
theorem FnsAt.mono {H H' : Hp} {a : Addr} {xs : List (Hd × Addr)} (s : Same H H') (h : FnsAt H a xs) : FnsAt H' a xs := LsAt.mono FnV.mono s h

/-! ### which rows are right -/
def look (ds : List Dcl) (x : Str) : Option Bool := (ds.find? fun d => decide (d.1 = x)).map (·.2)
def Hd.all (h : Hd) : List Dcl := h.ins ++ h.outs
def Hd.kind (h : Hd) (x : Str) : Option Bool := look h.all x
def flds (cs : List Cl) : List Dcl := cs.flatMap (·.2)
def calledOf (hs : List Hd) (g : Str) : Option Hd := hs.find? fun h => decide (h.name = g)
def isRow (cs : List Cl) (hs : List Hd) (h : Hd) (n : Nat) : Rw → Bool
  | .number x i => decide (h.kind x = some false) && decide (-1000000000 ≤ i ∧ i ≤ 1000000000)
  | .nil x => decide (h.kind x = some true)
  | .copy x y => (h.kind x).isSome && (h.kind y).isSome && decide (h.kind x = h.kind y)
  | .arith _ x y z => decide (h.kind x = some false) && decide (h.kind y = some false) && decide (h.kind z = some false)
  | .same x y z => decide (h.kind x = some false) && (h.kind y).isSome && decide (h.kind y = h.kind z)
  | .new x c => decide (h.kind x = some true) && decide (c ∈ cs.map (·.1))
  | .get x y f => decide (h.kind y = some true) && (look (flds cs) f).isSome && decide (h.kind x = look (flds cs) f)
  | .put x f y => decide (h.kind x = some true) && (look (flds cs) f).isSome && decide (h.kind y = look (flds cs) f)
  | .call x g as => match calledOf hs g with
    | none => false
    | some q => decide (as.map h.kind = q.ins.map fun d => some d.2) && decide (h.kind x = some q.res)
  | .see x => (h.kind x).isSome
  | .iff x i => decide (h.kind x = some false) && decide (0 ≤ i ∧ i ≤ (n : Int) - 1)
  | .jump i => decide (0 ≤ i ∧ i ≤ (n : Int) - 1)
  | .ret x => decide (h.kind x = some h.res)
def Rw.isLast : Rw → Bool
  | .jump _ => true
  | .ret _ => true
  | _ => false

/-! ### the defs of the text -/
/-- def x stands at the top under its name -/
def Dfn (K : PySem.W.Frag) (mg : Str → Option Value) (x qual : Str) (st : Stmt) (ps : List Str) : Prop := ∃ f fd, Fun K x qual st f fd ∧ mg x = some (.ref f) ∧ Binds K fd ps []
/-- def x can be called: its promise sp at level k -/
def Cal (P : Program) (w : World) (K : PySem.W.Frag) (mg : Str → Option Value) (base : Heap) (CX : CXT) (k : Nat) (x : Str) (ps : List Str) (sp : Sp) : Prop :=
  ∃ f fd, mg x = some (.ref f) ∧ PySem.W.keepIn K (.ref f) = true ∧ Binds K fd ps [] ∧ FnOk P w K mg base CX k f fd ps sp
/-- built-ins that the text has not named anew -/
structure Txt (mg : Str → Option Value) : Prop where
  len : mg "len" = none
  range : mg "range" = none
  int : mg "int" = none
  list : mg "list" = none
  min : mg "min" = none
  max : mg "max" = none
  sorted : mg "sorted" = none
  set : mg "set" = none
  sum : mg "sum" = none
  dict : mg "dict" = none
  tuple : mg "tuple" = none
  all : mg "all" = none
  enumerate : mg "enumerate" = none
  isinstance : mg "isinstance" = none
  str : mg "str" = none
  bool : mg "bool" = none
  arit : mg "ArithmeticError" = none
end K12

namespace PySem
open K12 L2
theorem Paired.perm {α β : Type} {R : α → β → Prop} {xs ys : List α} (p : List.Perm xs ys) : ∀ {ds : List β}, Paired R xs ds → ∃ es, List.Perm ds es ∧ Paired R ys es := by
  induction p with
  | nil => intro ds h; exact ⟨ds, List.Perm.refl _, h⟩
  | cons x _ ih =>
    intro ds h
    cases h with
    | cons r t =>
      obtain ⟨es, e1, e2⟩ := ih t
      exact ⟨_ :: es, e1.cons _, .cons r e2⟩
  | swap x y l =>
    intro ds h
    cases h with
    | cons r t =>
      cases t with
      | cons r2 t2 => exact ⟨_, List.Perm.swap .., .cons r2 (.cons r t2)⟩
  | trans _ _ ih1 ih2 =>
    intro ds h
    obtain ⟨es, e1, e2⟩ := ih1 h
    obtain ⟨fs, f1, f2⟩ := ih2 e2
    exact ⟨fs, e1.trans f1, f2⟩
theorem Paired.split {α β : Type} {R : α → β → Prop} : ∀ {xs ys : List α} {ds : List β}, Paired R (xs ++ ys) ds → ∃ es fs, ds = es ++ fs ∧ Paired R xs es ∧ Paired R ys fs
  | [], ys, ds, h => ⟨[], ds, rfl, .nil, h⟩
  | x :: xs, ys, ds, h => by
    cases (show Paired R (x :: (xs ++ ys)) ds from h) with
    | cons r t =>
      obtain ⟨es, fs, e, h1, h2⟩ := Paired.split (xs := xs) t
      exact ⟨_ :: es, fs, by rw [e]; rfl, .cons r h1, h2⟩
theorem Paired.ofMap {α β : Type} {f : β → α} : ∀ (ds : List β), Paired (fun v x => v = f x) (ds.map f) ds
  | [] => .nil
  | _ :: r => .cons rfl (Paired.ofMap r)
theorem Paired.toMap {α β : Type} {f : β → α} : ∀ {vs : List α} {ds : List β}, Paired (fun v x => v = f x) vs ds → vs = ds.map f
  | _, _, .nil => rfl
  | _, _, .cons r t => by rw [r, Paired.toMap t]; rfl
theorem Paired.none_iff {α β : Type} {R : α → β → Prop} {xs : List α} {ys : List β} (h : Paired R xs ys) : xs = [] ↔ ys = [] := by
  cases h with
  | nil => simp
  | cons _ _ => simp
end PySem
namespace K12
open PySem PySem.Spec PyProof.Rows L2
theorem ix_perm {α : Type} : ∀ {l : List α} {n : Nat} {x : α}, l[n]? = some x → List.Perm (x :: l.eraseIdx n) l
  | [], n, x, h => by simp at h
  | a :: l, 0, x, h => by
    simp at h
    subst h
    exact List.Perm.refl _
  | a :: l, n + 1, x, h => by
    have ih := ix_perm (l := l) (n := n) (x := x) (by simpa using h)
    exact (List.Perm.swap a x _).trans (ih.cons a)
theorem sIx_k {n d : Nat} {k : Int} (h : 0 ≤ k) : HT.sIx n d (some k) = min k.toNat n := by
  show (if k < 0 then _ else _) = _
  rw [if_neg (by omega)]
theorem cut_take {xs : List V} {k : Int} (h : 0 ≤ k) : cutV xs none (some k) = xs.take k.toNat := by
  unfold cutV
  rw [sIx_k h, HT.sIx_none, List.drop_zero, Nat.sub_zero]
  by_cases c : k.toNat ≤ xs.length
  · rw [Nat.min_eq_left c]
  · rw [Nat.min_eq_right (by omega), List.take_of_length_le (Nat.le_refl _), List.take_of_length_le (by omega)]
theorem cut_drop {xs : List V} {k : Int} (h : 0 ≤ k) : cutV xs (some k) none = xs.drop k.toNat := by
  unfold cutV
  rw [sIx_k h, HT.sIx_none]
  by_cases c : k.toNat ≤ xs.length
  · rw [Nat.min_eq_left c, List.take_of_length_le (by rw [List.length_drop]; omega)]
  · rw [Nat.min_eq_right (by omega), List.drop_of_length_le (Nat.le_refl _), List.drop_of_length_le (by omega)]
    simp
theorem cut_mid {xs : List V} {k m : Int} (h : 0 ≤ k) (h2 : k ≤ m) : cutV xs (some k) (some m) = (xs.drop k.toNat).take (m.toNat - k.toNat) := by
  unfold cutV
  rw [sIx_k h, sIx_k (by omega)]
  by_cases c : k.toNat ≤ xs.length
  · rw [Nat.min_eq_left c]
    by_cases c2 : m.toNat ≤ xs.length
    · rw [Nat.min_eq_left c2]
    · rw [Nat.min_eq_right (by omega), List.take_of_length_le (by rw [List.length_drop]; omega), List.take_of_length_le (by rw [List.length_drop]; omega)]
  · rw [show min k.toNat xs.length = xs.length by omega, List.drop_of_length_le (Nat.le_refl _), List.drop_of_length_le (by omega)]
    simp
theorem map_ix {α β : Type} {f : α → β} {xs : List α} {i : Nat} {y : β} (h : (xs.map f)[i]? = some y) : ∃ x, xs[i]? = some x ∧ y = f x := by
  rw [List.getElem?_map] at h
  cases e : xs[i]? with
  | none => rw [e] at h; cases h
  | some u => rw [e] at h; exact ⟨u, rfl, (Option.some.inj h).symm⟩
theorem take_more {α : Type} : ∀ {l : List α} {i : Nat} {x : α}, l[i]? = some x → l.take (i + 1) = l.take i ++ [x]
  | [], i, x, h => by simp at h
  | a :: l, 0, x, h => by
    have e : a = x := Option.some.inj h
    subst e
    rfl
  | a :: l, i + 1, x, h => by
    have ih := take_more (l := l) (i := i) (x := x) h
    show a :: l.take (i + 1) = a :: l.take i ++ [x]
    rw [ih]
    rfl
theorem ix_lt {α : Type} {l : List α} {i : Nat} {x : α} (h : l[i]? = some x) : i < l.length := (List.getElem?_eq_some_iff.mp h).1
theorem ix_mem {α : Type} {l : List α} {i : Nat} {x : α} (h : l[i]? = some x) : x ∈ l := List.mem_of_getElem? h
/-- a new pair (name, kind) -/
theorem dcl_new {S : List Addr} {H : Hp} {p : Addr} {d : Dcl} (np : p ∉ S) : DclV (hid S (upd H p (.tup [.str d.1, .str (kd d.2)]))) (.ref p) d := ⟨p, rfl, hid_get upd_same np⟩
theorem hid_new {S : List Addr} {H : Hp} {p : Addr} {o : HO} (h : H p = Option.none) : Same (hid S H) (hid S (upd H p o)) := (Sm.refl S H).putNew h
theorem sz {n : Nat} (h : n ≤ 100000) : n ≤ sizeLine := Nat.le_trans h (by decide)
theorem sz' {n : Nat} (h : n ≤ 100000) : n < sizeLine := Nat.lt_of_le_of_lt h (by decide)
theorem nd_perm_left {α β : Type} {f : α → β} {es fs ds : List α} (p : List.Perm ds (es ++ fs)) (n : (ds.map f).Nodup) : (es.map f).Nodup := by
  have q := (p.map f).nodup_iff.mp n
  rw [List.map_append] at q
  exact (List.nodup_append.mp q).1
end K12

namespace K12
open PySem PySem.Spec PyProof.Rows L2
abbrev sMix : Stmt := topS 38
abbrev sWell : Stmt := topS 39
abbrev sDraw : Stmt := topS 40
abbrev sPick : Stmt := topS 41
abbrev sSome : Stmt := topS 42
def spMix : Sp := fun vs H Q _ => ∃ c l : Int, vs = [.int c, .int l] ∧ ∀ z, Q (.int z) H
def spWell (K : PySem.W.Frag) : Sp := fun vs H Q _ => ∃ (a : Addr) (ns : List Int) (k : Int), vs = [.ref a, .int k] ∧ SqL K H a (ns.map V.int) ∧ ns.length ≤ 63 ∧ 0 ≤ k ∧ k < 63 ∧ ∀ p H', H p = none → Same H H' → Well H' p → Q (.ref p) H'
def spDraw : Sp := fun vs H Q _ => ∃ (w : Addr) (m : Int), vs = [.ref w, .int m] ∧ Well H w ∧ 0 < m ∧ m < 1073741824 ∧ ∀ n H', 0 ≤ n → n < m → Dr w H H' → Q (.int n) H'
def spPick (K : PySem.W.Frag) : Sp := fun vs H Q _ => ∃ (w a : Addr) (xs : List V), vs = [.ref w, .ref a] ∧ Well H w ∧ SqL K (hid [w] H) a xs ∧ xs ≠ [] ∧ xs.length < 1000000 ∧ ∀ x ∈ xs, ∀ H', Dr w H H' → Q x H'
def spSome (K : PySem.W.Frag) : Sp := fun vs H Q _ => ∃ (w a : Addr) (xs : List V) (m : Int), vs = [.ref w, .ref a, .int m] ∧ Well H w ∧ SqL K (hid [w] H) a xs ∧ xs.length < 1000 ∧ 0 ≤ m ∧ m < 1000000 ∧
  ∀ p ys rest H', Dr w H H' → H p = none → H' p = some (.lst ys) → List.Perm (ys ++ rest) xs → (ys.length : Int) ≤ m → Q (.ref p) H'
theorem mod_in {x m : Int} (h : 0 < m) (h' : m ≤ 2 ^ 64) : -(2 ^ 64) < x % m ∧ x % m < 2 ^ 64 := by
  have a := Int.emod_nonneg x (show m ≠ 0 by omega)
  have b := Int.emod_lt_of_pos x h
  omega
section
variable {P : Program} {w : World} {K : PySem.W.Frag} {mg : Str → Option Value} {base : Heap}
theorem scMix : FnScope ["_law_cell", "_law_lap", "_law_blend"] ["_law_cell", "_law_lap"] (defScope sMix) := ⟨rfl, rfl, rfl, by decide +kernel, rfl, by decide +kernel, by decide +kernel⟩
theorem cal_mix (T : Txt mg) (D : Dfn K mg "_law_mix" "_law_mix" sMix ["_law_cell", "_law_lap"]) : Cal P w K mg base CX0 1 "_law_mix" ["_law_cell", "_law_lap"] spMix := by
  obtain ⟨f, fd, F, m, b⟩ := D
  refine ⟨f, fd, m, F.kp, b, F.ok scMix (fun vs H Q E h => ?_) (fun cdv A outer s H vs Q E hr h => ?_)⟩
  · obtain ⟨c, l, rfl, _⟩ := h
    rfl
  · obtain ⟨c, l, rfl, k⟩ := h
    refine ⟨_, pss_cons (ps_set (i := 2) scMix.nd rfl (.inl rfl) (pe_op op_add (pe_op op_add (pe_op op_add (pe_op op_mod (pe_callTy call_int1 (by rfl) T.int (by decide +kernel) (pa_cons (pv 0) pa_nil)) pe_int) (pe_op op_mul pe_int (pv 1)))
        (pe_op op_mod (pe_callTy call_int1 (by rfl) T.int (by decide +kernel) (pa_cons (pe_op op_fdivW (pv 0) pe_int) pa_nil)) pe_int)) pe_int))
      (pss_cons (ps_set (i := 2) scMix.nd rfl (.inl rfl) (pe_op op_mod (pe_callTy call_int1 (by rfl) T.int (by decide +kernel) (pa_cons (pe_op op_mul (pv 2) pe_int) pa_nil)) pe_int))
      (pss_cons (ps_set (i := 2) scMix.nd rfl (.inl rfl) (pe_op op_mod (pe_callTy call_int1 (by rfl) T.int (by decide +kernel) (pa_cons (pe_op op_mul (pv 2) (pe_op op_add (pe_op op_add (pe_op op_fdivW (pv 2) pe_int) pe_int) (pv 1))) pa_nil)) pe_int))
      (pss_one (ps_ret (pe_op op_mod (pe_callTy call_int1 (by rfl) T.int (by decide +kernel) (pa_cons (pe_op op_mul (pv 2) (pe_op op_add (pe_op op_fdivW (pv 2) pe_int) pe_int)) pa_nil)) pe_int))))), ?_⟩
    refine ⟨_, rfl, .inl ⟨_, rfl, _, _, rfl, rfl, (show (0 : Int) < 2147483629 from by decide), _, rfl, _, _, rfl, rfl, .inl ⟨by decide, by decide⟩, _, _, rfl, rfl, _, rfl, _, _, rfl, rfl, wide_div (b := 32) (by decide) (by decide) (by decide) (by decide), .inl ⟨_, rfl, _, _, rfl, rfl, (show (0 : Int) < 1000003 from by decide), _, _, rfl, rfl, _, _, rfl, rfl, ?_⟩⟩⟩
    refine ⟨_, rfl, _, _, rfl, rfl, .inr ⟨by decide, by decide⟩, .inl ⟨_, rfl, _, _, rfl, rfl, (show (0 : Int) < 2147483629 from by decide), ?_⟩⟩
    refine ⟨_, rfl, _, rfl, _, _, rfl, rfl, wide_div (b := 32) (by decide) (by decide) (by decide) (by decide), _, _, rfl, rfl, _, rfl, _, _, rfl, rfl, _, _, rfl, rfl, .inl (mod_in (by decide) (by decide)), .inl ⟨_, rfl, _, _, rfl, rfl, (show (0 : Int) < 2147483587 from by decide), ?_⟩⟩
    refine ⟨_, rfl, _, rfl, _, _, rfl, rfl, wide_div (b := 32) (by decide) (by decide) (by decide) (by decide), _, _, rfl, rfl, _, _, rfl, rfl, .inl (mod_in (by decide) (by decide)), .inl ⟨_, rfl, _, _, rfl, rfl, (show (0 : Int) < 2147483563 from by decide), ?_⟩⟩
    exact k _
theorem scDraw : FnScope ["_law_well_here", "_law_many", "_law_drawn"] ["_law_well_here", "_law_many"] (defScope sDraw) := ⟨rfl, rfl, rfl, by decide +kernel, rfl, by decide +kernel, by decide +kernel⟩
theorem cal_draw (T : Txt mg) (D : Dfn K mg "_law_draw" "_law_draw" sDraw ["_law_well_here", "_law_many"]) (CM : Cal P w K mg base CX0 1 "_law_mix" ["_law_cell", "_law_lap"] spMix) :
    Cal P w K mg base CX0 2 "_law_draw" ["_law_well_here", "_law_many"] spDraw := by
  obtain ⟨f, fd, F, m, b⟩ := D
  obtain ⟨f1, fd1, m1, kp1, b1, G1⟩ := CM
  refine ⟨f, fd, m, F.kp, b, F.ok scDraw (fun vs H Q E h => ?_) (fun cdv A outer s H vs Q E hr h => ?_)⟩
  · obtain ⟨_, _, rfl, _⟩ := h
    rfl
  · obtain ⟨p, many, rfl, ⟨x, y, z, hw⟩, l0, l1, k⟩ := h
    refine ⟨_, pss_cons (ps_if (pt_cmpR op_gt (pe_ix ix_list (pv 0) pe_int (fun _ _ => rfl)) pe_int (nomark _))
        (pss_cons (ps_set (i := 2) scDraw.nd rfl (.inl rfl) (pe_op op_mod (pe_callTy call_int1 (by rfl) T.int (by decide +kernel) (pa_cons (pe_ix ix_list (pv 0) pe_int (fun _ _ => rfl)) pa_nil)) (pv 1)))
        (pss_cons (ps_asg (pe_op op_fdivW (pe_ix ix_list (pv 0) pe_int (fun _ _ => rfl)) (pv 1)) (pg_sub (pv 0) pe_int set_list))
        (pss_one (ps_ret (pv 2))))) pss_nil)
      (pss_cons (ps_asg (pe_op op_add (pe_ix ix_list (pv 0) pe_int (fun _ _ => rfl)) pe_int) (pg_sub (pv 0) pe_int set_list))
      (pss_one (ps_ret (pe_op op_mod (pe_callTy call_int1 (by rfl) T.int (by decide +kernel) (pa_cons (pe_call G1 hr (by rfl) m1 kp1 b1 .nil pass0 (pa_cons (pe_ix ix_list (pv 0) pe_int (fun _ _ => rfl)) (pa_cons (pe_ix ix_list (pv 0) pe_int (fun _ _ => rfl)) pa_nil))) pa_nil)) (pv 1))))), ?_⟩
    refine ⟨_, rfl, p, _, _, _, rfl, rfl, SqL.of hw, at_of (j := 0) rfl rfl, _, _, rfl, rfl, _, rfl, ?_⟩
    refine ite2 (fun _ => ?_) (fun _ => ?_)
    · refine ⟨_, rfl, p, _, _, _, rfl, rfl, SqL.of hw, at_of (j := 0) rfl rfl, .inl ⟨_, rfl, _, rfl, _, _, rfl, rfl, l0, ?_⟩⟩
      refine ⟨_, rfl, p, _, _, _, rfl, rfl, SqL.of hw, at_of (j := 0) rfl rfl, _, rfl, _, _, rfl, rfl, wide_div (b := 30) l0 (by omega) (by decide) (by decide), _, rfl, p, _, _, 0, rfl, rfl, hw, rfl, _, rfl, ?_⟩
      exact k _ _ (Int.emod_nonneg _ (by omega)) (Int.emod_lt_of_pos _ l0) ⟨(Sm.refl _ _).putIn List.mem_cons_self, _, _, _, upd_same⟩
    · refine ⟨_, rfl, p, _, _, _, rfl, rfl, SqL.of hw, at_of (j := 2) rfl rfl, _, _, rfl, rfl, _, rfl, p, _, _, 2, rfl, rfl, hw, rfl, ?_⟩
      refine ⟨_, rfl, p, _, _, _, rfl, rfl, SqL.of upd_same, at_of (j := 1) rfl rfl, _, rfl, p, _, _, _, rfl, rfl, SqL.of upd_same, at_of (j := 2) rfl rfl, _, _, rfl, fun n => ?_⟩
      refine .inl ⟨_, rfl, _, rfl, _, _, rfl, rfl, l0, ?_⟩
      exact k _ _ (Int.emod_nonneg _ (by omega)) (Int.emod_lt_of_pos _ l0) ⟨(Sm.refl _ _).putIn List.mem_cons_self, _, _, _, upd_same⟩
theorem scPick : FnScope ["_law_well_here", "_law_items"] ["_law_well_here", "_law_items"] (defScope sPick) := ⟨rfl, rfl, rfl, by decide +kernel, rfl, by decide +kernel, by decide +kernel⟩
theorem cal_pick (T : Txt mg) (D : Dfn K mg "_law_pick" "_law_pick" sPick ["_law_well_here", "_law_items"]) (CM : Cal P w K mg base CX0 2 "_law_draw" ["_law_well_here", "_law_many"] spDraw) :
    Cal P w K mg base CX0 3 "_law_pick" ["_law_well_here", "_law_items"] (spPick K) := by
  obtain ⟨f, fd, F, m, b⟩ := D
  obtain ⟨f1, fd1, m1, kp1, b1, G1⟩ := CM
  refine ⟨f, fd, m, F.kp, b, F.ok scPick (fun vs H Q E h => ?_) (fun cdv A outer s H vs Q E hr h => ?_)⟩
  · obtain ⟨_, _, _, rfl, _⟩ := h
    rfl
  · obtain ⟨p, a, xs, rfl, W, hs, ne, lz, k⟩ := h
    have hl : 0 < xs.length := List.length_pos_iff.mpr ne
    refine ⟨_, pss_one (ps_ret (pe_ix ix_list (pv 1) (pe_call G1 hr (by rfl) m1 kp1 b1 .nil pass0 (pa_cons (pv 0) (pa_cons (pe_callB call_len_seq (by rfl) T.len PySem.boot_len (pa_cons (pv 1) pa_nil)) pa_nil))) (fun _ _ => rfl))), ?_⟩
    refine ⟨_, rfl, _, rfl, _, rfl, a, xs, rfl, .inl ((Dr.refl W).seq hs), p, _, rfl, W, by omega, by omega, fun n H' n0 n1 d => ?_⟩
    have hn : n.toNat < xs.length := by omega
    refine ⟨a, xs, n, xs[n.toNat], rfl, rfl, d.seq hs, at_of (j := n.toNat) (by omega) (List.getElem?_eq_getElem hn), ?_⟩
    exact k _ (List.getElem_mem hn) _ d
end
end K12

namespace K12
open PySem PySem.Spec PyProof.Rows L2
section
variable {P : Program} {w : World} {K : PySem.W.Frag} {mg : Str → Option Value} {base : Heap}
theorem scWell : FnScope ["_law_script", "_law_k", "_law_cell"] ["_law_script", "_law_k"] (defScope sWell) := ⟨rfl, rfl, rfl, by decide +kernel, rfl, by decide +kernel, by decide +kernel⟩
theorem bit_in {c : Bool} : -(2 ^ 64) < (if c = true then (1 : Int) else 0) ∧ (if c = true then (1 : Int) else 0) < 2 ^ 64 := by cases c <;> decide
theorem cal_well (T : Txt mg) (D : Dfn K mg "_law_well" "_law_well" sWell ["_law_script", "_law_k"]) : Cal P w K mg base CX0 1 "_law_well" ["_law_script", "_law_k"] (spWell K) := by
  obtain ⟨f, fd, F, m, b⟩ := D
  refine ⟨f, fd, m, F.kp, b, F.ok scWell (fun vs H Q E h => ?_) (fun cdv A outer s H vs Q E hr h => ?_)⟩
  · obtain ⟨_, _, _, rfl, _⟩ := h
    rfl
  · obtain ⟨a, ns, j, rfl, hs, hl, j0, j1, k⟩ := h
    have hu := hu_of hr
    refine ⟨_, pss_cons (ps_set (i := 2) scWell.nd rfl (.inl rfl) (pe_op op_add (pe_ix ix_list (pe_op op_catR (pv 0) (pe_lst (pa_cons pe_int pa_nil))) pe_int (fun _ _ => rfl)) (pe_op op_mul pe_int (pv 1))))
      (pss_cons (ps_if (pt_cmpR op_lt (pv 1) (pe_callB call_len_seq (by rfl) T.len PySem.boot_len (pa_cons (pv 0) pa_nil)) (nomark _))
        (pss_one (ps_set (i := 2) scWell.nd rfl (.inl rfl) (pe_ix ix_list (pv 0) (pv 1) (fun _ _ => rfl)))) pss_nil)
      (pss_one (ps_ret (pe_lst (pa_cons (pe_op op_mul (pv 2) (pe_callTy call_int1 (by rfl) T.int (by decide +kernel) (pa_cons (pe_cmpR op_ge (pv 2) (pe_op op_pow pe_int pe_int) (nomark _)) pa_nil))) (pa_cons (pv 2) (pa_cons pe_int pa_nil))))))), ?_⟩
    refine ⟨_, rfl, sz (by show 1 ≤ 100000; decide), fun l hl => ?_⟩
    have s1 : Same H (upd H l (.lst [V.int 0])) := same_new (Same.refl _) hl
    refine ⟨a, l, _, _, rfl, rfl, s1.seq hs, SqL.of upd_same, sz (by rw [List.length_map]; show _ + 1 ≤ 100000; omega), fun p hp => ?_⟩
    have s2 := same_new (o := HO.lst (ns.map V.int ++ [V.int 0])) s1 hp
    obtain ⟨z, hz⟩ : ∃ z : Int, (ns.map V.int ++ [V.int 0])[0]? = some (V.int z) := by
      cases ns with
      | nil => exact ⟨0, rfl⟩
      | cons x r => exact ⟨x, rfl⟩
    refine ⟨p, _, _, _, rfl, rfl, SqL.of upd_same, at_of (j := 0) rfl hz, _, rfl, _, _, rfl, rfl, .inl ⟨by decide, by decide⟩, _, _, rfl, rfl, ?_⟩
    refine ⟨_, rfl, _, rfl, _, _, rfl, .inl (s2.seq hs), _, _, rfl, rfl, _, rfl, ?_⟩
    refine ite2 (fun c => ?_) (fun _ => ?_)
    · have hj : j.toNat < ns.length := by
        have := of_decide_eq_true c
        rw [List.length_map] at this
        omega
      refine ⟨_, rfl, _, rfl, a, _, _, _, rfl, rfl, s2.seq hs, at_of (j := j.toNat) (by omega) (by rw [List.getElem?_map, List.getElem?_eq_getElem hj]; rfl), ?_⟩
      refine ⟨_, rfl, _, rfl, _, _, rfl, rfl, ⟨by decide, by decide, by decide⟩, _, _, rfl, rfl, .inr ⟨_, rfl, _, _, rfl, rfl, .inr bit_in, _, rfl, sz (by show 3 ≤ 100000; decide), fun q hq => ?_⟩⟩
      exact k _ _ (s2.free hq) (same_new s2 hq) ⟨_, _, _, upd_same⟩
    · refine ⟨_, rfl, _, rfl, _, _, rfl, rfl, ⟨by decide, by decide, by decide⟩, _, _, rfl, rfl, .inr ⟨_, rfl, _, _, rfl, rfl, .inr bit_in, _, rfl, sz (by show 3 ≤ 100000; decide), fun q hq => ?_⟩⟩
      exact k _ _ (s2.free hq) (same_new s2 hq) ⟨_, _, _, upd_same⟩
theorem scSome : FnScope ["_law_well_here", "_law_items", "_law_most", "_law_left", "_law_found", "_law_turn"] ["_law_well_here", "_law_items", "_law_most"] (defScope sSome) := ⟨rfl, rfl, rfl, by decide +kernel, rfl, by decide +kernel, by decide +kernel⟩
theorem cal_some (T : Txt mg) (D : Dfn K mg "_law_some" "_law_some" sSome ["_law_well_here", "_law_items", "_law_most"]) (CM : Cal P w K mg base CX0 2 "_law_draw" ["_law_well_here", "_law_many"] spDraw) :
    Cal P w K mg base CX0 3 "_law_some" ["_law_well_here", "_law_items", "_law_most"] (spSome K) := by
  obtain ⟨f, fd, F, m, b⟩ := D
  obtain ⟨f1, fd1, m1, kp1, b1, G1⟩ := CM
  refine ⟨f, fd, m, F.kp, b, F.ok scSome (fun vs H Q E h => ?_) (fun cdv A outer s H vs Q E hr h => ?_)⟩
  · obtain ⟨_, _, _, _, rfl, _⟩ := h
    rfl
  · obtain ⟨p, a, xs, most, rfl, W, hs, lz, m0, m9, k⟩ := h
    refine ⟨_, pss_cons (ps_par (by rfl) scSome.nd (i := 3) (j := 4) rfl rfl (by decide) rfl rfl (pa_cons (pe_callTy call_list_of (by rfl) T.list (by decide +kernel) (pa_cons (pv 1) pa_nil)) (pa_cons (pe_lst pa_nil) pa_nil)) (by rfl))
      (pss_cons (ps_for PassesOwn.never rfl (pi_range1 (by rfl) T.range (pa_cons (pe_callB (call_min2 rfl) (by rfl) T.min (by decide +kernel) (pa_cons (pe_callB call_len_seq (by rfl) T.len PySem.boot_len (pa_cons (pv 3) pa_nil))
            (pa_cons (pe_call G1 hr (by rfl) m1 kp1 b1 .nil pass0 (pa_cons (pv 0) (pa_cons (pe_op op_add (pv 2) pe_int) pa_nil))) pa_nil))) pa_nil)) (pg_name (i := 5) scSome.nd rfl (.inl rfl))
          (pss_one (ps_expr (pe_bm PySem.F.plainAttrs_list PySem.F.slot_list_append PySem.F.type_list_append mt_append (pv 4) (pa_cons
            (pe_bm PySem.F.plainAttrs_list PySem.F.slot_list_pop PySem.F.type_list_pop mt_popAt (pv 3) (pa_cons (pe_call G1 hr (by rfl) m1 kp1 b1 .nil pass0 (pa_cons (pv 0) (pa_cons (pe_callB call_len_seq (by rfl) T.len PySem.boot_len (pa_cons (pv 3) pa_nil)) pa_nil))) pa_nil)) pa_nil)))))
      (pss_one (ps_ret (pv 4)))), ?_⟩
    refine ⟨_, rfl, a, _, rfl, .inl ((Dr.refl W).seq hs), fun l hl => ?_⟩
    refine ⟨sz (Nat.zero_le _), fun q hq => ?_⟩
    have nql : q ≠ l := fun e => by rw [e, upd_same] at hq; cases hq
    have hq0 : H q = none := by rw [upd_ne nql] at hq; exact hq
    have nl := W.ne hl
    have nq := W.ne hq0
    have d2 : Dr p H (upd (upd H l (.lst xs)) q (.lst [])) := ((Dr.refl W).new hl).new hq
    have e1 : (upd (upd H l (.lst xs)) q (.lst [])) l = some (.lst xs) := by rw [upd_ne nql.symm, upd_same]
    refine ⟨_, _, rfl, ?_⟩
    refine ⟨_, rfl, l, _, rfl, .inl (SqL.of e1), _, rfl, _, rfl, _, _, rfl, rfl, p, _, rfl, d2.wl, by omega, by omega, fun n H3 n0 n1 d3 => ?_⟩
    refine ⟨_, _, rfl, ?_⟩
    have e2 : H3 l = some (.lst xs) := d3.get e1 nl
    have e3 : H3 q = some (.lst []) := d3.get upd_same nq
    have b2 : (if n < ((xs.length : Nat) : Int) then n else ((xs.length : Nat) : Int)) ≤ xs.length ∧ 0 ≤ (if n < ((xs.length : Nat) : Int) then n else ((xs.length : Nat) : Int)) ∧ (if n < ((xs.length : Nat) : Int) then n else ((xs.length : Nat) : Int)) ≤ most := by
      split <;> omega
    revert b2
    generalize (if n < ((xs.length : Nat) : Int) then n else ((xs.length : Nat) : Int)) = z
    intro b2
    refine ⟨z, rfl, by omega, by omega, ?_⟩
    refine for_range (n := z.toNat) (fun i σ H' => ∃ (v : Option V) (ys zs : List V), σ = [some (.ref p), some (.ref a), some (.int most), some (.ref l), some (.ref q), v] ∧ Dr p H H' ∧ H' l = some (.lst zs) ∧ H' q = some (.lst ys) ∧ ys.length = i ∧ List.Perm (ys ++ zs) xs)
      ⟨none, [], xs, rfl, d2.trans d3, e2, e3, rfl, List.Perm.refl _⟩ ?_ ?_
    · rintro i σ H' hi ⟨v, ys, zs, rfl, d, hz, hy, ly, pm⟩
      have len : ys.length + zs.length = xs.length := by
        have := pm.length_eq
        rwa [List.length_append] at this
      refine ⟨_, rfl, .inl ⟨rfl, _, SqL.of hy⟩, _, rfl, .inl ⟨rfl, _, SqL.of hz⟩, _, rfl, _, rfl, l, _, rfl, .inl (SqL.of hz), p, _, rfl, d.wl, by omega, by omega, fun j H4 j0 j1 d4 => ?_⟩
      have hj : j.toNat < zs.length := by omega
      have hz4 : H4 l = some (.lst zs) := d4.get hz nl
      have hy4 : H4 q = some (.lst ys) := d4.get hy nq
      refine ⟨l, zs, j, j.toNat, zs[j.toNat], rfl, rfl, hz4, by omega, by omega, ?_, List.getElem?_eq_getElem hj, ?_⟩
      · exact seqIndex_of j0 (by omega)
      · refine ⟨q, ys, _, rfl, rfl, by rw [upd_ne nql]; exact hy4, sz' (by omega), ?_⟩
        refine ⟨_, _, _, rfl, ((d.trans d4).own hl nl).own hq0 nq, by rw [upd_ne nql.symm, upd_same], upd_same, by rw [List.length_append, ly]; rfl, ?_⟩
        refine List.Perm.trans ?_ pm
        rw [List.append_assoc]
        exact List.Perm.append_left ys (ix_perm (List.getElem?_eq_getElem hj))
    · rintro σ H' ⟨v, ys, zs, rfl, d, hz, hy, ly, pm⟩
      refine ⟨_, rfl, ?_⟩
      exact k q ys zs H' d hq0 hy pm (by omega)
end
end K12

namespace K12
open PySem PySem.Spec PyProof.Rows L2
/-- H' is H with a new thing o at p -/
structure New (H : Hp) (p : Addr) (o : HO) (H' : Hp) : Prop where
  free : H p = none
  eq : H' = upd H p o
theorem New.at {H H' : Hp} {p : Addr} {o : HO} (n : New H p o H') : H' p = some o := by rw [n.eq]; exact upd_same
theorem New.same {H H' : Hp} {p : Addr} {o : HO} (n : New H p o H') : Same H H' := by rw [n.eq]; exact same_new (Same.refl _) n.free
theorem New.ne {H H' : Hp} {p q : Addr} {o u : HO} (n : New H p o H') (h : H q = some u) : q ≠ p := ne_of_none h n.free
theorem New.old {H H' : Hp} {p b : Addr} {o : HO} (n : New H p o H') (h : H' b = Option.none) : H b = Option.none := n.same.free h
theorem New.nb {H H' : Hp} {p b : Addr} {o : HO} (n : New H p o H') (h : H' b = Option.none) : b ≠ p := fun e => by rw [e, n.at] at h; cases h
theorem New.dr {H0 H H' : Hp} {p w : Addr} {o : HO} (n : New H p o H') (d : Dr w H0 H) : Dr w H0 H' := d.same n.same
theorem New.hid {S : List Addr} {H H' : Hp} {p : Addr} {o : HO} (n : New H p o H') : Same (hid S H) (hid S H') := Sm.of n.same
/-- H' is H with o at p, where something stood -/
structure Put (H : Hp) (p : Addr) (o : HO) (H' : Hp) : Prop where
  eq : H' = upd H p o
theorem Put.at {H H' : Hp} {p : Addr} {o : HO} (n : Put H p o H') : H' p = some o := by rw [n.eq]; exact upd_same
theorem Put.ne {H H' : Hp} {p b : Addr} {o : HO} (n : Put H p o H') (h : b ≠ p) : H' b = H b := by rw [n.eq]; exact upd_ne h
theorem Put.hid {S : List Addr} {H H' : Hp} {p : Addr} {o : HO} (n : Put H p o H') (m : p ∈ S) : Same (hid S H) (hid S H') := by rw [n.eq]; exact (Sm.refl S H).putIn m
/-- the well, and what is hidden stands there -/
structure Wl (w : Addr) (S : List Addr) (H : Hp) : Prop where
  wl : Well H w
  mem : w ∈ S
  there : ∀ a ∈ S, H a ≠ none
theorem Wl.of {w : Addr} {H : Hp} (W : Well H w) : Wl w [w] H := ⟨W, List.mem_cons_self, fun a m => by
  obtain ⟨_, _, _, h⟩ := W
  rw [List.mem_singleton.mp m, h]
  exact fun z => nomatch z⟩
theorem Wl.nin {w p : Addr} {S : List Addr} {H : Hp} (c : Wl w S H) (h : H p = Option.none) : p ∉ S := fun m => c.there p m h
theorem Wl.new {w p : Addr} {S : List Addr} {H H' : Hp} {o : HO} (c : Wl w S H) (n : New H p o H') : Wl w (p :: S) H' := ⟨c.wl.keep n.same, List.mem_cons_of_mem _ c.mem, fun a m => by
  rcases List.mem_cons.mp m with e | e
  · rw [e, n.at]; exact fun z => nomatch z
  · intro z; exact c.there a e (n.old z)⟩
theorem Wl.same {w : Addr} {S : List Addr} {H H' : Hp} (c : Wl w S H) (s : Same H H') : Wl w S H' := ⟨c.wl.keep s, c.mem, fun a m z => c.there a m (s.free z)⟩
theorem Wl.put {w p : Addr} {S : List Addr} {H H' : Hp} {o : HO} (c : Wl w S H) (n : Put H p o H') (h : p ≠ w) : Wl w S H' := ⟨by rw [n.eq]; exact c.wl.put h, c.mem, fun a m z => by
  by_cases e : a = p
  · rw [e, n.at] at z; cases z
  · rw [n.ne e] at z; exact c.there a m z⟩
theorem Wl.dr {w : Addr} {S : List Addr} {H H' : Hp} (c : Wl w S H) (d : Dr w H H') : Wl w S H' := ⟨d.wl, c.mem, fun a m z => by
  by_cases e : a = w
  · obtain ⟨_, _, _, h⟩ := d.wl
    rw [e, h] at z
    cases z
  · exact c.there a m (d.free z)⟩
theorem Wl.less {w : Addr} {S : List Addr} {H : Hp} (c : Wl w S H) : ∀ a ∈ [w], a ∈ S := fun a m => by rw [List.mem_singleton.mp m]; exact c.mem
theorem Wl.up {w : Addr} {S : List Addr} {H H' H0 : Hp} (c : Wl w S H0) (d : Dr w H H') : Same (hid S H) (hid S H') := d.sm.more c.less
theorem Wl.sub {w : Addr} {S : List Addr} {H : Hp} (c : Wl w S H) : Same (hid S H) (hid [w] H) := hid_less H c.less
theorem Wl.nw {w p : Addr} {S : List Addr} {H : Hp} (c : Wl w S H) (h : H p = Option.none) : p ≠ w := c.wl.ne h
theorem less1 (S : List Addr) (l : Addr) : ∀ a ∈ S, a ∈ l :: S := fun a m => List.mem_cons_of_mem _ m
theorem Sm.drop {l : Addr} {T : List Addr} {H H' : Hp} (s : Sm (l :: T) H H') (h : H l = Option.none) : Sm T H H' := fun b o e => by
  have nb : b ≠ l := fun z => by rw [z] at e; rw [(hid_some e).1] at h; cases h
  have q := hid_some (s b o (hid_get (hid_some e).1 fun m => (List.mem_cons.mp m).elim nb (hid_some e).2))
  exact hid_get q.1 (hid_some e).2
theorem Wl.up1 {w l : Addr} {S : List Addr} {H H' H0 : Hp} (c : Wl w S H0) (s : Sm [l, w] H H') : Same (K12.hid (l :: S) H) (K12.hid (l :: S) H') := Sm.more s fun a m => by
  rcases List.mem_cons.mp m with e | e
  · rw [e]; exact List.mem_cons_self
  · exact List.mem_cons_of_mem _ (c.less a e)
theorem Sm.two {w l : Addr} {H H' : Hp} (d : Dr w H H') : Sm [l, w] H H' := d.sm.more (less1 _ _)
theorem Put.sm {T : List Addr} {H H' : Hp} {p : Addr} {o : HO} (n : Put H p o H') (m : p ∈ T) : Sm T H H' := n.hid m
theorem New.sm {T : List Addr} {H H' : Hp} {p : Addr} {o : HO} (n : New H p o H') : Sm T H H' := Sm.of n.same
/-- hiding a new thing hides nothing of the old -/
theorem New.hid1 {S : List Addr} {H H' : Hp} {p : Addr} {o : HO} (n : New H p o H') : Same (K12.hid S H) (K12.hid (p :: S) H') := fun a u h => hid_get (n.same _ _ (hid_some h).1) fun m => by
  rcases List.mem_cons.mp m with e | e
  · exact n.ne (hid_some h).1 e
  · exact (hid_some h).2 e
theorem Same.seqT {K : PySem.W.Frag} {H H' : Hp} {a : Addr} {xs : List V} (e : Same H H') (h : SqT K H a xs) : SqT K H' a xs := by
  rcases h with (h | ⟨o, h⟩) | h
  · exact .inl (.inl (e _ _ h))
  · exact .inl (.inr ⟨o, e _ _ h⟩)
  · exact .inr h
section
variable {X : Cx}
theorem PE.imp {e : PySem.Expr} {t t' : TE} (h : PE X e t) (i : ∀ σ H Q, t' σ H Q → t σ H Q) : PE X e t' := ⟨fun pins s σ H Q I q => h.run pins s σ H Q I (i σ H Q q)⟩
def tTupN (t : TA) : TE := fun σ H Q => t σ H fun xs H1 => xs.length ≤ sizeLine ∧ ∀ p H', New H1 p (.tup xs) H' → Q (.ref p) H'
def tLstN (t : TA) : TE := fun σ H Q => t σ H fun xs H1 => xs.length ≤ sizeLine ∧ ∀ p H', New H1 p (.lst xs) H' → Q (.ref p) H'
theorem tTupN_eq (t : TA) : tTupN t = tTup t := by
  funext σ H Q
  have e : (fun (xs : List V) (H1 : Hp) => xs.length ≤ sizeLine ∧ ∀ p H', New H1 p (.tup xs) H' → Q (.ref p) H') = (fun xs H1 => xs.length ≤ sizeLine ∧ ∀ p, H1 p = none → Q (.ref p) (upd H1 p (.tup xs))) := by
    funext xs H1
    exact propext ⟨fun h => ⟨h.1, fun p hp => h.2 p _ ⟨hp, rfl⟩⟩, fun h => ⟨h.1, fun p H' n => by rw [n.eq]; exact h.2 p n.free⟩⟩
  exact congrArg (t σ H) e
theorem tLstN_eq (t : TA) : tLstN t = tLst t := by
  funext σ H Q
  have e : (fun (xs : List V) (H1 : Hp) => xs.length ≤ sizeLine ∧ ∀ p H', New H1 p (.lst xs) H' → Q (.ref p) H') = (fun xs H1 => xs.length ≤ sizeLine ∧ ∀ p, H1 p = none → Q (.ref p) (upd H1 p (.lst xs))) := by
    funext xs H1
    exact propext ⟨fun h => ⟨h.1, fun p hp => h.2 p _ ⟨hp, rfl⟩⟩, fun h => ⟨h.1, fun p H' n => by rw [n.eq]; exact h.2 p n.free⟩⟩
  exact congrArg (t σ H) e
theorem pe_tupN {es : List PySem.Expr} {t : TA} {x1} {pos : Pos} (h : PA X es t) : PE X (.Tuple es x1 pos) (tTupN t) := by
  rw [tTupN_eq]
  exact pe_tup h
theorem pe_lstN {es : List PySem.Expr} {t : TA} {pos : Pos} (h : PA X es t) : PE X (.List es pos) (tLstN t) := by
  rw [tLstN_eq]
  exact pe_lst h
/-- xs[lo:hi] of a list -/
def rSlN (K : PySem.W.Frag) : V → Option Int → Option Int → Hp → VK → Prop := fun x lo hi H Q => ∃ a xs, x = .ref a ∧ SqL K H a xs ∧ ∀ p H', New H p (.lst (cutV xs lo hi)) H' → Q (.ref p) H'
theorem sl_listN : SlR X (rSlN X.K) := by
  intro pins s σ H x v vl vu lo hi sl Q I rx hs pl pu ⟨a, xs, e, h, q⟩
  exact sl_list pins s σ H x v vl vu lo hi sl Q I rx hs pl pu ⟨a, xs, e, h, fun p hp => q p _ ⟨hp, rfl⟩⟩
/-- list(xs) -/
def rLoN (K : PySem.W.Frag) : List V → Hp → VK → Prop := fun xs H Q => ∃ p ys, xs = [.ref p] ∧ (SqL K H p ys ∨ SqT K H p ys) ∧ ∀ l H', New H l (.lst ys) H' → Q (.ref l) H'
theorem call_listN : CallR X (.type "list") (rLoN X.K) := by
  intro pins s σ H xs us Q I r ⟨p, ys, e, h, q⟩
  exact call_list_of pins s σ H xs us Q I r ⟨p, ys, e, h, fun l hl => q l _ ⟨hl, rfl⟩⟩
/-- tuple(xs), xs a list -/
def rToN (K : PySem.W.Frag) : List V → Hp → VK → Prop := fun xs H Q => ∃ p ys, xs = [.ref p] ∧ SqL K H p ys ∧ ∀ l H', New H l (.tup ys) H' → Q (.ref l) H'
theorem call_tupleN : CallR X (.type "tuple") (rToN X.K) := by
  intro pins s σ H xs us Q I r ⟨p, ys, e, h, q⟩
  exact call_tuple_of pins s σ H xs us Q I r ⟨p, ys, e, .inl ⟨h, fun l hl => q l _ ⟨hl, rfl⟩⟩⟩
/-- xs + ys -/
def rCatN (K : PySem.W.Frag) : R2 := fun x y H Q => ∃ l b xs zs, x = .ref l ∧ y = .ref b ∧ SqL K H l xs ∧ SqL K H b zs ∧ xs.length + zs.length ≤ sizeLine ∧ ∀ p H', New H p (.lst (xs ++ zs)) H' → Q (.ref p) H'
theorem op_catN : OpR X (binaryOp .Add) (rCatN X.K) := by
  intro pins s σ H x y v u Q I rx ry ⟨l, b, xs, zs, ex, ey, hl, hb, hz, q⟩
  exact op_catR pins s σ H x y v u Q I rx ry ⟨l, b, xs, zs, ex, ey, hl, hb, hz, fun p hp => q p _ ⟨hp, rfl⟩⟩
/-- t + u, neither empty -/
def rCatTN (K : PySem.W.Frag) : R2 := fun x y H Q => ∃ a b xs ys, x = .ref a ∧ y = .ref b ∧ SqT K H a xs ∧ SqT K H b ys ∧ xs ≠ [] ∧ ys ≠ [] ∧ xs.length + ys.length ≤ sizeLine ∧ ∀ p H', New H p (.tup (xs ++ ys)) H' → Q (.ref p) H'
theorem op_catTN : OpR X (binaryOp .Add) (rCatTN X.K) := by
  intro pins s σ H x y v u Q I rx ry ⟨a, b, xs, ys, ex, ey, ha, hb, n1, n2, hz, q⟩
  exact op_catT pins s σ H x y v u Q I rx ry ⟨a, b, xs, ys, ex, ey, ha, hb, n1, hz, fun e => absurd e n2, fun _ p hp => q p _ ⟨hp, rfl⟩⟩
/-- xs.append(y) -/
def rAppN : V → List V → Hp → VK → Prop := fun x vs H Q => ∃ l xs y, x = .ref l ∧ vs = [y] ∧ H l = some (.lst xs) ∧ xs.length < sizeLine ∧ ∀ H', Put H l (.lst (xs ++ [y])) H' → Q .non H'
theorem mt_appN : MtM X "list.append" rAppN := by
  intro pins s σ H x xs v us Q I rx rv ⟨l, zs, y, e1, e2, h, hz, q⟩
  exact mt_append pins s σ H x xs v us Q I rx rv ⟨l, zs, y, e1, e2, h, hz, q _ ⟨rfl⟩⟩
end

/-- one turn's new item -/
def LcNew (D : Addr) (i : Nat) (Pv : Nat → List V → Hp → Prop) : V → Hp → Prop := fun y H4 => ∃ acc, H4 D = some (.lst acc) ∧ acc.length ≤ i ∧ ∀ H5, Put H4 D (.lst (acc ++ [y])) H5 → Pv (i + 1) (acc ++ [y]) H5
/-- one turn without a new item -/
def LcOld (D : Addr) (i : Nat) (Pv : Nat → List V → Hp → Prop) : Hp → Prop := fun H3 => ∃ acc, H3 D = some (.lst acc) ∧ acc.length ≤ i + 1 ∧ Pv (i + 1) acc H3
theorem lcNew_eq {D : Addr} {i : Nat} {Pv : Nat → List V → Hp → Prop} (h : i ≤ 100000) :
    LcNew D i Pv = fun y H4 => ∃ acc, H4 D = some (.lst acc) ∧ acc.length < sizeLine ∧ LcOld D i Pv (upd H4 D (.lst (acc ++ [y]))) := by
  funext y H4
  refine propext ⟨fun ⟨acc, h1, h2, h3⟩ => ⟨acc, h1, sz' (Nat.le_trans h2 h), _, upd_same, by rw [List.length_append]; exact Nat.succ_le_succ h2, h3 _ ⟨rfl⟩⟩, fun ⟨acc, h1, h2, bcc, h3, h4, h5⟩ => ⟨acc, h1, ?_, fun H5 n => ?_⟩⟩
  · rw [upd_same] at h3
    cases h3
    rw [List.length_append] at h4
    exact Nat.le_of_succ_le_succ h4
  · rw [upd_same] at h3
    cases h3
    rw [n.eq]
    exact h5
theorem lc_map {K : PySem.W.Frag} {a : Addr} {xs : List V} {g : TG} {tt : TT} {te : TE} {vs : List Nat} {σ : L2.St} {H1 : Hp} {D : Addr} {Qd : Hp → Prop} (Pv : Nat → List V → Hp → Prop) (hx : xs.length ≤ 100000) (hD : H1 D = none)
    (h0 : ∀ H', New H1 D (.lst []) H' → Pv 0 [] H') (hl : ∀ i ys H, i ≤ xs.length → H D = some (.lst ys) → Pv i ys H → SqL K H a xs)
    (hs : ∀ i x ys H, xs[i]? = some x → H D = some (.lst ys) → ys.length ≤ i → Pv i ys H → g x (wipe σ vs) H fun σ2 H2 => wipe σ2 vs = wipe σ vs ∧ tt σ2 H2 fun b H3 =>
      if b = true then te σ2 H3 (LcNew D i Pv) else LcOld D i Pv H3) (hd : ∀ ys H, H D = some (.lst ys) → ys.length ≤ xs.length → Pv xs.length ys H → Qd H) :
    ∃ W : Nat → Nat → Hp → Prop, (∃ m, W 0 m (upd H1 D (.lst []))) ∧ ∀ i m H, W i m H →
      ((Itl K a).stop i H ∧ Qd H) ∨ ((Itl K a).go i H ∧ ∃ Nx : Hp → Prop, (∀ H', Nx H' → ∃ m', m' < m ∧ W (i + 1) m' H') ∧ ∀ x H', (Itl K a).yld i H x H' → g x (wipe σ vs) H' fun σ2 H2 => wipe σ2 vs = wipe σ vs ∧ tt σ2 H2 fun b H3 =>
        if b = true then te σ2 H3 fun y H4 => ∃ acc, H4 D = some (.lst acc) ∧ acc.length < sizeLine ∧ Nx (upd H4 D (.lst (acc ++ [y]))) else Nx H3) := by
  refine lc_list (K := K) (a := a) (xs := xs) (fun i H => ∃ ys, H D = some (.lst ys) ∧ ys.length ≤ i ∧ Pv i ys H) ⟨[], upd_same, Nat.le_refl _, h0 _ ⟨hD, rfl⟩⟩ (fun i H hi ⟨ys, h1, _, h3⟩ => hl i ys H hi h1 h3) (fun i x H hi ⟨ys, h1, h2, h3⟩ => ?_) (fun H ⟨ys, h1, h2, h3⟩ => hd ys H h1 h2 h3)
  have q := hs i x ys H hi h1 h2 h3
  rw [lcNew_eq (Nat.le_trans (Nat.le_of_lt (ix_lt hi)) hx)] at q
  exact q
theorem lc_mapR {lo : Int} {n : Nat} {g : TG} {tt : TT} {te : TE} {vs : List Nat} {σ : L2.St} {H1 : Hp} {D : Addr} {Qd : Hp → Prop} (Pv : Nat → List V → Hp → Prop) (hx : n ≤ 100000) (hD : H1 D = none)
    (h0 : ∀ H', New H1 D (.lst []) H' → Pv 0 [] H')
    (hs : ∀ i ys H, i < n → H D = some (.lst ys) → ys.length ≤ i → Pv i ys H → g (.int (lo + i)) (wipe σ vs) H fun σ2 H2 => wipe σ2 vs = wipe σ vs ∧ tt σ2 H2 fun b H3 =>
      if b = true then te σ2 H3 (LcNew D i Pv) else LcOld D i Pv H3) (hd : ∀ ys H, H D = some (.lst ys) → ys.length ≤ n → Pv n ys H → Qd H) :
    ∃ W : Nat → Nat → Hp → Prop, (∃ m, W 0 m (upd H1 D (.lst []))) ∧ ∀ i m H, W i m H →
      ((Itr lo n).stop i H ∧ Qd H) ∨ ((Itr lo n).go i H ∧ ∃ Nx : Hp → Prop, (∀ H', Nx H' → ∃ m', m' < m ∧ W (i + 1) m' H') ∧ ∀ x H', (Itr lo n).yld i H x H' → g x (wipe σ vs) H' fun σ2 H2 => wipe σ2 vs = wipe σ vs ∧ tt σ2 H2 fun b H3 =>
        if b = true then te σ2 H3 fun y H4 => ∃ acc, H4 D = some (.lst acc) ∧ acc.length < sizeLine ∧ Nx (upd H4 D (.lst (acc ++ [y]))) else Nx H3) := by
  refine lc_range (lo := lo) (n := n) (fun i H => ∃ ys, H D = some (.lst ys) ∧ ys.length ≤ i ∧ Pv i ys H) ⟨[], upd_same, Nat.le_refl _, h0 _ ⟨hD, rfl⟩⟩ (fun i H hi ⟨ys, h1, h2, h3⟩ => ?_) (fun H ⟨ys, h1, h2, h3⟩ => hd ys H h1 h2 h3)
  have q := hs i ys H hi h1 h2 h3
  rw [lcNew_eq (Nat.le_trans (Nat.le_of_lt hi) hx)] at q
  exact q
section
variable {X : Cx}
abbrev g2 (K : PySem.W.Frag) (i j : Nat) : TG := gTup K 2 (gCons (gName i) (gCons (gName j) gNil))
/-- the target a, b -/
theorem pg_two {x y : Str} {p1 p2 pos : Pos} {kk : Nat} (i j : Nat) (hc : X.calm = true) (nd : X.N.Nodup) (hi : X.N[i]? = some x) (hj : X.N[j]? = some y) (lx : Loc X.env.scope x) (ly : Loc X.env.scope y)
    (fx : X.fn x = true ∨ X.env.scope.names.lookup x = some .local := by first | exact .inl rfl | exact .inr rfl | assumption) (fy : X.fn y = true ∨ X.env.scope.names.lookup y = some .local := by first | exact .inl rfl | exact .inr rfl | assumption) :
    PG X (.Tuple [.Name x p1, .Name y p2] kk pos) (gTup X.K 2 (gCons (gName i) (gCons (gName j) gNil))) :=
  pg_tup hc (pgs_cons (pg_name nd hi lx fx) (pgs_cons (pg_name nd hj ly fy) pgs_nil))
end
end K12

namespace K12
open PySem PySem.Spec PyProof.Rows L2
abbrev sNamed : Stmt := topS 45
abbrev sAllNames : Stmt := topS 55
/-- the names of one kind -/
def namesOf (h : Hd) (b : Bool) : List Str := (h.all.filter fun d => decide (d.2 = b)).map (·.1)
def spNamed : Sp := fun vs H Q _ => ∃ (p : Addr) (h : Hd) (b : Bool), vs = [.ref p, .str (kd b)] ∧ HdAt H p h ∧ h.all.length ≤ 100 ∧ ∀ q H', Same H H' → H q = none → H' q = some (.lst ((namesOf h b).map V.str)) → Q (.ref q) H'
def spAllNames : Sp := fun vs H Q _ => ∃ (p : Addr) (h : Hd), vs = [.ref p] ∧ HdAt H p h ∧ h.all.length ≤ 100 ∧ ∀ q H', Same H H' → H q = none → H' q = some (.lst ((h.all.map (·.1)).map V.str)) → Q (.ref q) H'
section
variable {P : Program} {w : World} {K : PySem.W.Frag} {mg : Str → Option Value} {base : Heap}
theorem scNamed : FnScope ["_law_head", "_law_kind", "_law_name", "_law_its"] ["_law_head", "_law_kind"] (defScope sNamed) := ⟨rfl, rfl, rfl, by decide +kernel, rfl, by decide +kernel, by decide +kernel⟩
theorem cal_named (T : Txt mg) (D : Dfn K mg "_law_named" "_law_named" sNamed ["_law_head", "_law_kind"]) : Cal P w K mg base CX0 1 "_law_named" ["_law_head", "_law_kind"] spNamed := by
  obtain ⟨f, fd, F, m, b⟩ := D
  refine ⟨f, fd, m, F.kp, b, F.ok scNamed (fun vs H Q E h => ?_) (fun cdv A outer s H vs Q E hr h => ?_)⟩
  · obtain ⟨_, _, _, rfl, _⟩ := h
    rfl
  · obtain ⟨p, h, b, rfl, ⟨i, o, hp, ⟨vi, hi, pi⟩, ⟨vo, ho, po⟩⟩, hz, k⟩ := h
    refine ⟨_, pss_one (ps_ret (pe_lc (own := [("_law_name", 2), ("_law_its", 3)]) (g := g2 K 2 3) rfl scNamed.nd
      (pi_list (pe_op op_catN (pe_ix ix_tup (pv 0) pe_int (fun _ _ => rfl)) (pe_ix ix_tup (pv 0) pe_int (fun _ _ => rfl))))
      (blkOk_by (N := ["_law_head", "_law_kind", "_law_name", "_law_its"]) (sc := defScope sNamed) (by decide +kernel))
      (fun _ _ _ _ _ => pg_two 2 3 rfl scNamed.nd rfl rfl (.inl rfl) (.inl rfl))
      (fun _ _ _ _ _ => pts_one (pt_cmpR op_eq (pv 3) (pv 1) (nomark _))) (fun _ _ _ _ _ => pv 2))), ?_⟩
    have lz : vi.length + vo.length ≤ 100 := by
      have := pi.len; have := po.len
      unfold Hd.all at hz
      rw [List.length_append] at hz
      omega
    refine ⟨_, rfl, p, _, _, _, rfl, rfl, SqT.of hp, at_of (j := 1) rfl rfl, _, rfl, p, _, _, _, rfl, rfl, SqT.of hp, at_of (j := 2) rfl rfl, i, o, _, _, rfl, rfl, SqL.of hi, SqL.of ho, sz (by omega), fun c H1 n1 => ?_⟩
    have PA : Paired (DclV H1) (vi ++ vo) h.all := (pi.imp fun _ _ r => DclV.mono _ _ _ _ n1.same r).app (po.imp fun _ _ r => DclV.mono _ _ _ _ n1.same r)
    refine ⟨c, rfl, ⟨_, SqL.of n1.at⟩, fun D hD => lc_map (K := K) (a := c) (xs := vi ++ vo) (fun i ys H' => Same H1 H' ∧ ys = (((h.all.take i).filter fun d => decide (d.2 = b)).map (·.1)).map V.str) (by rw [List.length_append]; omega) hD
      (fun H' n => ⟨n.same, rfl⟩) (fun i ys H' _ _ I => SqL.of (I.1 _ _ n1.at)) ?_ ?_⟩
    · rintro i x ys H' hx hD' hl ⟨s, rfl⟩
      obtain ⟨d, hd, q, rfl, hq⟩ := PA.get hx
      refine ⟨q, _, rfl, SqT.of (s _ _ hq), rfl, _, _, rfl, _, _, rfl, rfl, rfl, _, rfl, _, rfl, rfl, _, rfl, ?_⟩
      have e : decide (V.str (kd d.2) = V.str (kd b)) = decide (d.2 = b) := by
        by_cases c : d.2 = b
        · rw [c]; simp
        · rw [decide_eq_false c, decide_eq_false fun z => c (kd_inj.mp (V.str.inj z))]
      show if decide (V.str (kd d.2) = V.str (kd b)) = true then _ else _
      rw [e]
      refine ite2 (fun t => ?_) (fun t => ?_)
      · refine ⟨_, rfl, _, hD', hl, fun H5 n => ⟨?_, ?_⟩⟩
        · rw [n.eq]; exact same_own s hD
        · rw [take_more hd, List.filter_append, List.map_append, List.map_append]
          simp [t]
      · refine ⟨_, hD', Nat.le_succ_of_le hl, s, ?_⟩
        rw [take_more hd, List.filter_append, List.map_append, List.map_append]
        simp [t]
    · rintro ys H' hD' _ ⟨s, rfl⟩
      refine k D H' (n1.same.trans s) (n1.old hD) ?_
      rw [hD', PA.len, List.take_length]
      rfl
theorem scAllNames : FnScope ["_law_head", "_law_name", "_law_kind"] ["_law_head"] (defScope sAllNames) := ⟨rfl, rfl, rfl, by decide +kernel, rfl, by decide +kernel, by decide +kernel⟩
theorem cal_allNames (T : Txt mg) (D : Dfn K mg "_law_all_names" "_law_all_names" sAllNames ["_law_head"]) : Cal P w K mg base CX0 1 "_law_all_names" ["_law_head"] spAllNames := by
  obtain ⟨f, fd, F, m, b⟩ := D
  refine ⟨f, fd, m, F.kp, b, F.ok scAllNames (fun vs H Q E h => ?_) (fun cdv A outer s H vs Q E hr h => ?_)⟩
  · obtain ⟨_, _, rfl, _⟩ := h
    rfl
  · obtain ⟨p, h, rfl, ⟨i, o, hp, ⟨vi, hi, pi⟩, ⟨vo, ho, po⟩⟩, hz, k⟩ := h
    refine ⟨_, pss_one (ps_ret (pe_lc (own := [("_law_name", 1), ("_law_kind", 2)]) (g := g2 K 1 2) (tt := tYes) rfl scAllNames.nd
      (pi_list (pe_op op_catN (pe_ix ix_tup (pv 0) pe_int (fun _ _ => rfl)) (pe_ix ix_tup (pv 0) pe_int (fun _ _ => rfl))))
      (blkOk_by (N := ["_law_head", "_law_name", "_law_kind"]) (sc := defScope sAllNames) (by decide +kernel))
      (fun _ _ _ _ _ => pg_two 1 2 rfl scAllNames.nd rfl rfl (.inl rfl) (.inl rfl))
      (fun _ _ _ _ _ => pts_nil) (fun _ _ _ _ _ => pv 1))), ?_⟩
    have lz : vi.length + vo.length ≤ 100 := by
      have := pi.len; have := po.len
      unfold Hd.all at hz
      rw [List.length_append] at hz
      omega
    refine ⟨_, rfl, p, _, _, _, rfl, rfl, SqT.of hp, at_of (j := 1) rfl rfl, _, rfl, p, _, _, _, rfl, rfl, SqT.of hp, at_of (j := 2) rfl rfl, i, o, _, _, rfl, rfl, SqL.of hi, SqL.of ho, sz (by omega), fun c H1 n1 => ?_⟩
    have PA : Paired (DclV H1) (vi ++ vo) h.all := (pi.imp fun _ _ r => DclV.mono _ _ _ _ n1.same r).app (po.imp fun _ _ r => DclV.mono _ _ _ _ n1.same r)
    refine ⟨c, rfl, ⟨_, SqL.of n1.at⟩, fun D hD => lc_map (K := K) (a := c) (xs := vi ++ vo) (fun i ys H' => Same H1 H' ∧ ys = ((h.all.take i).map (·.1)).map V.str) (by rw [List.length_append]; omega) hD
      (fun H' n => ⟨n.same, rfl⟩) (fun i ys H' _ _ I => SqL.of (I.1 _ _ n1.at)) ?_ ?_⟩
    · rintro i x ys H' hx hD' hl ⟨s, rfl⟩
      obtain ⟨d, hd, q, rfl, hq⟩ := PA.get hx
      refine ⟨q, _, rfl, SqT.of (s _ _ hq), rfl, _, _, rfl, _, _, rfl, rfl, rfl, ?_⟩
      refine ⟨_, rfl, _, hD', hl, fun H5 n => ⟨?_, ?_⟩⟩
      · rw [n.eq]; exact same_own s hD
      · rw [take_more hd, List.map_append, List.map_append]
        rfl
    · rintro ys H' hD' _ ⟨s, rfl⟩
      refine k D H' (n1.same.trans s) (n1.old hD) ?_
      rw [hD', PA.len, List.take_length]
end
end K12

namespace K12
open PySem PySem.Spec PyProof.Rows L2
abbrev sClasses : Stmt := topS 43
def fieldList : List Dcl := [("a", false), ("b", true), ("c1", false), ("next", true), ("number", true)]
def clsNames : List Str := ["cell", "pair", "k", "node9", "abcdefgh", "class"]
structure GoodCl (c : Cl) : Prop where
  nm : c.1 ∈ clsNames
  le : c.2.length ≤ 4
  nd : (c.2.map (·.1)).Nodup
  fl : ∀ d ∈ c.2, d ∈ fieldList
structure GoodCls (cs : List Cl) : Prop where
  le : cs.length ≤ 6
  nd : (cs.map (·.1)).Nodup
  each : ∀ c ∈ cs, GoodCl c
def spClasses : Sp := fun vs H Q _ => ∃ (w : Addr) (S : List Addr), vs = [.ref w] ∧ Wl w S H ∧ ∀ a cs H', Dr w H H' → ClsAt (hid S H') a cs → GoodCls cs → Q (.ref a) H'
theorem ClsAt.put {H : Hp} {S : List Addr} {l : Addr} {vs : List V} {cs : List Cl} (h : H l = some (.lst vs)) (hl : l ∉ S) (p : Paired (ClV (hid S H)) vs cs) : ClsAt (hid S H) l cs := ⟨vs, hid_get h hl, p⟩
section
variable {P : Program} {w : World} {K : PySem.W.Frag} {mg : Str → Option Value} {base : Heap}
theorem scClasses : FnScope ["_law_well_here", "_law_fields", "_law_found", "_law_name"] ["_law_well_here"] (defScope sClasses) := ⟨rfl, rfl, rfl, by decide +kernel, rfl, by decide +kernel, by decide +kernel⟩
theorem cal_classes (T : Txt mg) (D : Dfn K mg "_law_classes" "_law_classes" sClasses ["_law_well_here"]) (CS : Cal P w K mg base CX0 3 "_law_some" ["_law_well_here", "_law_items", "_law_most"] (spSome K)) :
    Cal P w K mg base CX0 4 "_law_classes" ["_law_well_here"] spClasses := by
  obtain ⟨f, fd, F, m, b⟩ := D
  obtain ⟨f1, fd1, m1, kp1, b1, G1⟩ := CS
  refine ⟨f, fd, m, F.kp, b, F.ok scClasses (fun vs H Q E h => ?_) (fun cdv A outer s H vs Q E hr h => ?_)⟩
  · obtain ⟨_, _, rfl, _⟩ := h
    rfl
  · obtain ⟨p, S, rfl, W, k⟩ := h
    refine ⟨_, pss_cons (ps_set (i := 1) scClasses.nd rfl (.inl rfl) (pe_lstN (pa_cons (pe_tupN (pa_cons pe_str (pa_cons pe_str pa_nil))) (pa_cons (pe_tupN (pa_cons pe_str (pa_cons pe_str pa_nil))) (pa_cons (pe_tupN (pa_cons pe_str (pa_cons pe_str pa_nil)))
        (pa_cons (pe_tupN (pa_cons pe_str (pa_cons pe_str pa_nil))) (pa_cons (pe_tupN (pa_cons pe_str (pa_cons pe_str pa_nil))) pa_nil)))))))
      (pss_cons (ps_set (i := 2) scClasses.nd rfl (.inl rfl) (pe_lstN pa_nil))
      (pss_cons (ps_for PassesOwn.never rfl (pi_list (pe_call G1 hr (by rfl) m1 kp1 b1 .nil pass0 (pa_cons (pv 0) (pa_cons (pe_lstN (pa_cons pe_str (pa_cons pe_str (pa_cons pe_str (pa_cons pe_str (pa_cons pe_str (pa_cons pe_str pa_nil))))))) (pa_cons pe_int pa_nil))))) (pg_name (i := 3) scClasses.nd rfl (.inl rfl))
          (pss_one (ps_expr (pe_bm PySem.F.plainAttrs_list PySem.F.slot_list_append PySem.F.type_list_append mt_appN (pv 2) (pa_cons
            (pe_tupN (pa_cons (pv 3) (pa_cons (pe_call G1 hr (by rfl) m1 kp1 b1 .nil pass0 (pa_cons (pv 0) (pa_cons (pv 1) (pa_cons pe_int pa_nil)))) pa_nil))) pa_nil)))))
      (pss_one (ps_ret (pv 2))))), ?_⟩
    refine ⟨sz (by show 2 ≤ 100000; decide), fun t1 H1 n1 => ⟨sz (by show 2 ≤ 100000; decide), fun t2 H2 n2 => ⟨sz (by show 2 ≤ 100000; decide), fun t3 H3 n3 => ⟨sz (by show 2 ≤ 100000; decide), fun t4 H4 n4 => ⟨sz (by show 2 ≤ 100000; decide), fun t5 H5 n5 => ⟨sz (by show 5 ≤ 100000; decide), fun a H6 n6 => ?_⟩⟩⟩⟩⟩⟩
    have d1 := n1.dr (Dr.refl W.wl)
    have d2 := n2.dr d1
    have d3 := n3.dr d2
    have d4 := n4.dr d3
    have d5 := n5.dr d4
    have d6 := n6.dr d5
    have x5 := n5.same.trans n6.same
    have x4 := n4.same.trans x5
    have x3 := n3.same.trans x4
    have x2 := n2.same.trans x3
    have FL : DclsAt (hid S H6) a fieldList := ⟨_, hid_get n6.at ((W.dr d5).nin n6.free), .cons ⟨t1, rfl, hid_get (x2 _ _ n1.at) (W.nin n1.free)⟩ (.cons ⟨t2, rfl, hid_get (x3 _ _ n2.at) ((W.dr d1).nin n2.free)⟩ (.cons ⟨t3, rfl, hid_get (x4 _ _ n3.at) ((W.dr d2).nin n3.free)⟩
      (.cons ⟨t4, rfl, hid_get (x5 _ _ n4.at) ((W.dr d3).nin n4.free)⟩ (.cons ⟨t5, rfl, hid_get (n6.same _ _ n5.at) ((W.dr d4).nin n5.free)⟩ .nil))))⟩
    clear n1 n2 n3 n4 n5 n6 d1 d2 d3 d4 d5 x2 x3 x4 x5
    have W6 := W.dr d6
    refine ⟨sz (by show 0 ≤ 100000; decide), fun l H7 n7 => ?_⟩
    have W7 := W6.new n7
    have nl : l ≠ p := W6.nw n7.free
    have FL7 := FL.mono n7.hid1
    refine ⟨_, rfl, sz (by show 6 ≤ 100000; decide), fun q H8 n8 => ?_⟩
    have W8 := W7.same n8.same
    refine ⟨p, q, clsNames.map V.str, 6, rfl, W8.wl, SqL.of (hid_get n8.at (by simpa using W7.nw n8.free)), by decide, by decide, by decide, fun c ys rest H9 d9 nc hc pm ly => ?_⟩
    have W9 := W8.dr d9
    have hl9 : H9 l = some (.lst []) := d9.get (n8.same _ _ n7.at) nl
    have FL9 : DclsAt (hid (l :: S) H9) a fieldList := (FL7.mono n8.hid).mono (W8.up d9)
    have dA : Dr p H H9 := ((d6.same n7.same).same n8.same).trans d9
    have nc' : c ∉ l :: S := W8.nin nc
    have ncp : c ∉ [l, p] := fun m => nc' ((List.mem_cons.mp m).elim (fun e => by rw [e]; exact List.mem_cons_self) fun e => List.mem_cons_of_mem _ (W.less c e))
    obtain ⟨zs, pz, hz⟩ := Paired.perm (R := fun v x => v = V.str x) pm.symm (Paired.ofMap clsNames)
    obtain ⟨ns, ms, en, pn, _⟩ := Paired.split hz
    have eys := Paired.toMap pn
    have ndn : ns.Nodup := by
      have := nd_perm_left (f := id) (en ▸ pz) (by rw [List.map_id]; decide +kernel)
      rwa [List.map_id] at this
    have inn : ∀ x ∈ ns, x ∈ clsNames := fun x hx => pz.mem_iff.mpr (by rw [en]; exact List.mem_append_left _ hx)
    have len6 : ns.length ≤ 6 := by
      have := pn.len
      omega
    refine ⟨c, rfl, ⟨_, SqL.of hc⟩, ?_⟩
    refine for_list (K := K) (a := c) (xs := ys) (fun i σ H' => ∃ (v : Option V) (vs : List V) (cs : List Cl), σ = [some (.ref p), some (.ref a), some (.ref l), v] ∧ Wl p (l :: S) H' ∧ Sm [l, p] H9 H' ∧ H' l = some (.lst vs) ∧ Paired (ClV (hid (l :: S) H')) vs cs ∧
        cs.map (·.1) = ns.take i ∧ cs.length = i ∧ ∀ c ∈ cs, GoodCl c)
      ⟨none, [], [], rfl, W9, Sm.refl _ _, hl9, .nil, rfl, rfl, fun _ m => nomatch m⟩ (fun i σ H' _ ⟨_, _, _, _, _, s, _⟩ => SqL.of (s.get hc ncp)) ?_ ?_
    · rintro i y σ H' hi ⟨v, vs, cs, rfl, W', s', hl', pc, en', el, gd⟩
      obtain ⟨x, hx, rfl⟩ := pn.get hi
      have hi6 : i < 6 := by have := ix_lt hx; omega
      obtain ⟨fv, hfv, pf⟩ := FL9.mono (W.up1 s')
      refine ⟨_, rfl, .inl ⟨rfl, _, SqL.of hl'⟩, _, rfl, _, rfl, _, rfl, p, a, fv, 4, rfl, W'.wl, SqL.of (W'.sub _ _ hfv), by have := pf.len; show _ < 1000; rw [this]; decide, by decide, by decide, fun e es rest' Ha da ne he pme lye => ?_⟩
      obtain ⟨zd, pzd, hzd⟩ := Paired.perm pme.symm pf
      obtain ⟨ds, ds', ed, pd, _⟩ := Paired.split hzd
      have Wa := W'.dr da
      refine ⟨sz (by show 2 ≤ 100000; decide), fun t Hb nb => ?_⟩
      have Wb := Wa.same nb.same
      have hlb : Hb l = some (.lst vs) := nb.same _ _ (da.get hl' nl)
      refine ⟨l, vs, _, rfl, rfl, hlb, sz' (by have := pc.len; omega), fun Hc nc => ?_⟩
      have Wc := Wb.put nc nl
      have sc : Same (hid (l :: S) Hb) (hid (l :: S) Hc) := nc.hid List.mem_cons_self
      have sac : Same (hid (l :: S) Ha) (hid (l :: S) Hc) := (nb.hid).trans sc
      have s'c : Same (hid (l :: S) H') (hid (l :: S) Hc) := (W'.up da).trans sac
      refine ⟨_, vs ++ [.ref t], cs ++ [(x, ds)], rfl, Wc, s'.trans (((Sm.two da).trans nb.sm).trans (nc.sm List.mem_cons_self)), nc.at, (pc.imp fun _ _ r => ClV.mono _ _ _ _ s'c r).app (.one ⟨t, e, rfl, ?_, ?_⟩), ?_, ?_, ?_⟩
      · exact sc _ _ (hid_get nb.at (Wa.nin nb.free))
      · exact ⟨es, sac _ _ (hid_get he (W'.nin ne)), pd.imp fun _ _ r => DclV.mono _ _ _ _ s'c r⟩
      · rw [List.map_append, en', take_more hx]
        rfl
      · rw [List.length_append, el]
        rfl
      · intro c hc
        rcases List.mem_append.mp hc with q | q
        · exact gd c q
        · rw [List.mem_singleton.mp q]
          refine ⟨inn x (ix_mem hx), ?_, nd_perm_left (f := fun d : Dcl => d.1) (ed ▸ pzd) (by decide +kernel), fun d hd => pzd.mem_iff.mpr (by rw [ed]; exact List.mem_append_left _ hd)⟩
          have := pd.len
          show ds.length ≤ 4
          omega
    · rintro σ H' ⟨v, vs, cs, rfl, W', s', hl', pc, en', el, gd⟩
      refine ⟨_, rfl, ?_⟩
      have sub : Same (hid (l :: S) H') (hid S H') := hid_less H' (less1 S l)
      have eln : ys.length = ns.length := pn.len
      refine k l cs H' ⟨((Sm.two dA).trans s').drop (d6.free n7.free), W'.wl⟩ ⟨vs, ?_, pc.imp fun _ _ r => ClV.mono _ _ _ _ sub r⟩ ⟨by omega, by rw [en']; exact ndn.sublist (List.take_sublist _ _), gd⟩
      exact hid_get hl' (W6.nin n7.free)
end
end K12

namespace K12
open PySem PySem.Spec PyProof.Rows L2
abbrev sHeads : Stmt := topS 44
def wordList : List Str := ["i", "n", "s", "number", "w", "x1", "t", "u", "class", "o", "p", "abcdefgh"]
def headNames : List Str := ["f", "main", "g2", "cell", "object", "if"]
structure GoodHd (h : Hd) : Prop where
  nm : h.name ∈ headNames
  li : h.ins.length ≤ 4
  lo : h.outs.length ≤ 8
  nd : (h.all.map (·.1)).Nodup
  fl : ∀ d ∈ h.all, d.1 ∈ wordList
structure GoodHds (hs : List Hd) : Prop where
  ne : hs ≠ []
  le : hs.length ≤ 6
  nd : (hs.map (·.name)).Nodup
  each : ∀ h ∈ hs, GoodHd h
theorem GoodHd.len {h : Hd} (g : GoodHd h) : h.all.length ≤ 100 := by
  unfold Hd.all
  rw [List.length_append]
  have := g.li
  have := g.lo
  omega
def spHeads : Sp := fun vs H Q _ => ∃ (w : Addr) (S : List Addr), vs = [.ref w] ∧ Wl w S H ∧ ∀ a hs H', Dr w H H' → HdsAt (hid S H') a hs → GoodHds hs → Q (.ref a) H'
section
variable {P : Program} {w : World} {K : PySem.W.Frag} {mg : Str → Option Value} {base : Heap}
theorem kinds_mem {x : V} (h : x ∈ [V.str "number", V.str "object"]) : ∃ b, x = V.str (kd b) := by
  rcases List.mem_cons.mp h with e | e
  · exact ⟨false, e⟩
  · exact ⟨true, List.mem_singleton.mp e⟩
theorem scHeads : FnScope ["_law_well_here", "_law_words", "_law_found", "_law_name", "_law_names", "_law_some_here", "_law_many", "_law_word"] ["_law_well_here"] (defScope sHeads) := ⟨rfl, rfl, rfl, by decide +kernel, rfl, by decide +kernel, by decide +kernel⟩
theorem cal_heads (T : Txt mg) (D : Dfn K mg "_law_heads" "_law_heads" sHeads ["_law_well_here"]) (CS : Cal P w K mg base CX0 3 "_law_some" ["_law_well_here", "_law_items", "_law_most"] (spSome K))
    (CD : Cal P w K mg base CX0 2 "_law_draw" ["_law_well_here", "_law_many"] spDraw) (CP : Cal P w K mg base CX0 3 "_law_pick" ["_law_well_here", "_law_items"] (spPick K)) :
    Cal P w K mg base CX0 4 "_law_heads" ["_law_well_here"] spHeads := by
  obtain ⟨f, fd, F, m, b⟩ := D
  obtain ⟨f1, fd1, m1, kp1, b1, G1⟩ := CS
  obtain ⟨f2, fd2, m2, kp2, b2, G2⟩ := CD
  obtain ⟨f3, fd3, m3, kp3, b3, G3⟩ := CP
  refine ⟨f, fd, m, F.kp, b, F.ok scHeads (fun vs H Q E h => ?_) (fun cdv A outer s H vs Q E hr h => ?_)⟩
  · obtain ⟨_, _, rfl, _⟩ := h
    rfl
  · obtain ⟨p, S, rfl, W, k⟩ := h
    have hr2 : Room 2 _ := hr.mono (by decide)
    refine ⟨_, pss_cons (ps_par (by rfl) scHeads.nd (i := 1) (j := 2) rfl rfl (by decide) rfl rfl (pa_cons (pe_lstN (pa_cons pe_str (pa_cons pe_str (pa_cons pe_str (pa_cons pe_str (pa_cons pe_str (pa_cons pe_str (pa_cons pe_str (pa_cons pe_str (pa_cons pe_str (pa_cons pe_str (pa_cons pe_str (pa_cons pe_str pa_nil)))))))))))))
        (pa_cons (pe_lstN pa_nil) pa_nil)) (by rfl))
      (pss_cons (ps_for PassesOwn.never rfl (pi_list (pe_slice sl_listN (pe_lstN (pa_cons pe_str (pa_cons pe_str (pa_cons pe_str (pa_cons pe_str (pa_cons pe_str (pa_cons pe_str pa_nil))))))) po_none
            (po_some (pe_op op_add pe_int (pe_call G2 hr2 (by rfl) m2 kp2 b2 .nil pass0 (pa_cons (pv 0) (pa_cons pe_int pa_nil))))))) (pg_name (i := 3) scHeads.nd rfl (.inl rfl))
          (pss_cons (ps_setLc (i := 4) (own := [("_law_word", 7)]) (g := gName 7) (tt := tYes) rfl scHeads.nd rfl rfl (sw_true rfl rfl rfl (by decide +kernel)) (pi_list (pv 1))
              (blkOk_by (N := ["_law_well_here", "_law_words", "_law_found", "_law_name", "_law_names", "_law_some_here", "_law_many", "_law_word"]) (sc := defScope sHeads) (by decide +kernel))
              (fun _ _ _ _ _ => pg_name (i := 7) scHeads.nd rfl (.inl rfl)) (fun _ _ _ _ _ => pts_nil)
              (fun _ _ _ _ _ => pe_tupN (pa_cons (pv 7) (pa_cons (pe_call G3 hr (by rfl) m3 kp3 b3 .nil pass0 (pa_cons (pv 0) (pa_cons (pe_lstN (pa_cons pe_str (pa_cons pe_str pa_nil))) pa_nil))) pa_nil))))
          (pss_cons (ps_set (i := 5) scHeads.nd rfl (.inl rfl) (pe_call G1 hr (by rfl) m1 kp1 b1 .nil pass0 (pa_cons (pv 0) (pa_cons (pv 4) (pa_cons pe_int pa_nil)))))
          (pss_cons (ps_set (i := 6) scHeads.nd rfl (.inl rfl) (pe_call G2 hr2 (by rfl) m2 kp2 b2 .nil pass0 (pa_cons (pv 0) (pa_cons (pe_op op_add (pe_callB (call_min2 rfl) (by rfl) T.min (by decide +kernel) (pa_cons pe_int (pa_cons (pe_callB call_len_seq (by rfl) T.len PySem.boot_len (pa_cons (pv 5) pa_nil)) pa_nil))) pe_int) pa_nil))))
          (pss_one (ps_expr (pe_bm PySem.F.plainAttrs_list PySem.F.slot_list_append PySem.F.type_list_append mt_appN (pv 2) (pa_cons
            (pe_tupN (pa_cons (pv 3) (pa_cons (pe_slice sl_listN (pv 5) po_none (po_some (pv 6))) (pa_cons (pe_slice sl_listN (pv 5) (po_some (pv 6)) (po_some (pe_op op_add (pv 6) pe_int)))
              (pa_cons (pe_call G3 hr (by rfl) m3 kp3 b3 .nil pass0 (pa_cons (pv 0) (pa_cons (pe_lstN (pa_cons pe_str (pa_cons pe_str pa_nil))) pa_nil))) pa_nil))))) pa_nil))))))))
      (pss_one (ps_ret (pv 2)))), ?_⟩
    refine ⟨sz (by show 12 ≤ 100000; decide), fun a H1 n1 => ⟨sz (by show 0 ≤ 100000; decide), fun l H2 n2 => ?_⟩⟩
    have W1 := W.same n1.same
    have W2 := W1.new n2
    have nl : l ≠ p := W1.nw n2.free
    have l0 : H l = none := n1.old n2.free
    have dB : Dr p H H2 := n2.dr (n1.dr (Dr.refl W.wl))
    refine ⟨_, _, rfl, ?_⟩
    refine ⟨sz (by show 6 ≤ 100000; decide), fun q H3 n3 => ?_⟩
    have W3 := W2.same n3.same
    refine ⟨_, rfl, p, 6, rfl, W3.wl, by decide, by decide, fun j H4 j0 j1 d4 => ?_⟩
    have W4 := W3.dr d4
    have ha4 : H4 a = some (.lst (wordList.map V.str)) := d4.get (n3.same _ _ (n2.same _ _ n1.at)) (W.nw n1.free)
    have hl4 : H4 l = some (.lst []) := d4.get (n3.same _ _ n2.at) nl
    have hq4 : H4 q = some (.lst (headNames.map V.str)) := d4.get n3.at (W2.nw n3.free)
    refine ⟨_, _, rfl, rfl, _, rfl, q, headNames.map V.str, rfl, SqL.of hq4, fun c H5 n5 => ?_⟩
    rw [cut_take (by omega)] at n5
    have W5 := W4.same n5.same
    have hc := n5.at
    rw [← List.map_take] at hc
    have hj : 1 ≤ (1 + j).toNat ∧ (1 + j).toNat ≤ 6 := by omega
    revert hc
    generalize (1 + j).toNat = jj at hj
    intro hc
    have dC : Dr p H2 H5 := ((Dr.refl (W2.wl)).same n3.same |>.trans d4).same n5.same
    have nal : a ≠ l := fun e => by have := n2.free; rw [← e, n1.at] at this; cases this
    have nap : a ≠ p := W.nw n1.free
    have ncl : c ≠ l := fun e => by have := n5.free; rw [e, hl4] at this; cases this
    have ncp : c ≠ p := W4.nw n5.free
    refine ⟨c, rfl, ⟨_, SqL.of hc⟩, ?_⟩
    refine for_list (K := K) (a := c) (xs := (headNames.take jj).map V.str) (fun i σ H' => ∃ (v3 v4 v5 v6 v7 : Option V) (vs : List V) (hs : List Hd), σ = [some (.ref p), some (.ref a), some (.ref l), v3, v4, v5, v6, v7] ∧ Wl p (l :: S) H' ∧ Sm [l, p] H5 H' ∧ H' l = some (.lst vs) ∧ Paired (HdV (hid (l :: S) H')) vs hs ∧
        hs.map (·.name) = headNames.take i ∧ hs.length = i ∧ i ≤ jj ∧ ∀ c ∈ hs, GoodHd c)
      ⟨none, none, none, none, none, [], [], rfl, W5, Sm.refl _ _, n5.same _ _ hl4, .nil, rfl, rfl, Nat.zero_le _, fun _ m => nomatch m⟩
      (fun i σ H' _ I => by obtain ⟨_, _, _, _, _, _, _, _, _, s, _⟩ := I; exact SqL.of (s.get hc (by simpa using ⟨ncl, ncp⟩))) ?_ ?_
    · rintro i y σ H' hi ⟨v3, v4, v5, v6, v7, vs, hs, rfl, W', s', hl', ph, en', el, ei, gd⟩
      obtain ⟨x, hx, rfl⟩ := map_ix hi
      have hij : i < jj := by
        have := ix_lt hx
        rw [List.length_take] at this
        omega
      rw [List.getElem?_take, if_pos hij] at hx
      have ha' : H' a = some (.lst (wordList.map V.str)) := s'.get (n5.same _ _ ha4) (by simpa using ⟨nal, nap⟩)
      -- the names, each with a kind
      refine ⟨_, rfl, a, rfl, ⟨_, SqL.of ha'⟩, fun D hD => lc_map (K := K) (a := a) (xs := wordList.map V.str) (fun i ys H6 => ∃ ds : List Dcl, Wl p (D :: l :: S) H6 ∧ Sm [D, p] H' H6 ∧ Paired (DclV (hid (D :: l :: S) H6)) ys ds ∧ ds.map (·.1) = wordList.take i)
        (by decide) hD (fun H6 n => ⟨[], W'.new n, n.sm, .nil, rfl⟩) (fun i ys H6 _ _ ⟨_, _, s, _⟩ => SqL.of (s.get ha' (by
          have : a ≠ D := ne_of_none ha' hD
          simpa using ⟨this, nap⟩))) ?_ ?_⟩
      · rintro i1 y1 ys H6 hi1 hD6 hl6 ⟨ds, W6, s6, pd, ed⟩
        obtain ⟨x1, hx1, rfl⟩ := map_ix hi1
        refine ⟨rfl, ?_⟩
        refine ⟨_, rfl, _, rfl, sz (by show 2 ≤ 100000; decide), fun o H7 n7 => ?_⟩
        have W7 := W6.same n7.same
        refine ⟨p, o, _, rfl, W7.wl, SqL.of (hid_get n7.at (by simpa using W6.nw n7.free)), (by simp), (by show 2 < 1000000; decide), fun z hz H8 d8 => ?_⟩
        obtain ⟨b, rfl⟩ := kinds_mem hz
        have W8 := W7.dr d8
        have nD : D ≠ p := W'.nw hD
        refine ⟨sz (by show 2 ≤ 100000; decide), fun t H9 n9 => ?_⟩
        have W9 := W8.same n9.same
        refine ⟨ys, n9.same _ _ (d8.get (n7.same _ _ hD6) nD), hl6, fun Ha na => ?_⟩
        have sa : Same (hid (D :: l :: S) H9) (hid (D :: l :: S) Ha) := na.hid List.mem_cons_self
        have s6a : Same (hid (D :: l :: S) H6) (hid (D :: l :: S) Ha) := ((n7.hid.trans (W7.up d8)).trans n9.hid).trans sa
        refine ⟨ds ++ [(x1, b)], W9.put na nD, s6.trans (((n7.sm.trans (Sm.two d8)).trans n9.sm).trans (na.sm List.mem_cons_self)), (pd.imp fun _ _ r => DclV.mono _ _ _ _ s6a r).app (.one ⟨t, rfl, sa _ _ (hid_get n9.at (W8.nin n9.free))⟩), ?_⟩
        rw [List.map_append, ed, take_more hx1]
        rfl
      · rintro ys H6 hD6 hl6 ⟨ds, W6, s6, pd, ed⟩
        rw [List.length_map, List.take_length] at ed
        have nDl : l ≠ D := ne_of_none hl' hD
        have hl6' : H6 l = some (.lst vs) := s6.get hl' (by simpa using ⟨nDl, nl⟩)
        have sub6 : Same (hid (D :: l :: S) H6) (hid (l :: S) H6) := hid_less H6 (less1 _ _)
        have W6' : Wl p (l :: S) H6 := ⟨W6.wl, W'.mem, fun a m => W6.there a (List.mem_cons_of_mem _ m)⟩
        have nD' : D ∉ l :: S := W'.nin hD
        have PD6 : Paired (DclV (hid (l :: S) H6)) ys ds := pd.imp fun _ _ r => DclV.mono _ _ _ _ sub6 r
        have s56 : Same (hid (l :: S) H') (hid (l :: S) H6) := fun b o e => by
          have nb : b ≠ D := ne_of_none (hid_some e).1 hD
          exact hid_get (s6.get (hid_some e).1 (by
            have : b ≠ p := fun z => (hid_some e).2 (by rw [z]; exact W'.mem)
            simpa using ⟨nb, this⟩)) (hid_some e).2
        have s5x : Sm [l, p] H' H6 := (s6.more (T := [D, l, p]) (fun a m => by
          rcases List.mem_cons.mp m with q | q
          · rw [q]; simp
          · rw [List.mem_singleton.mp q]; simp)).drop hD
        refine ⟨_, rfl, _, rfl, p, D, ys, 12, rfl, W6.wl, SqL.of (hid_get hD6 (by simpa using W'.nw hD)), ?_, by decide, by decide, fun e es rest H7 d7 ne he pme lye => ?_⟩
        · have : wordList.length = 12 := rfl
          rw [List.length_map] at hl6
          omega
        obtain ⟨zd, pzd, hzd⟩ := Paired.perm pme.symm PD6
        obtain ⟨xs, xs', exs, pxs, _⟩ := Paired.split hzd
        have W7 := W6'.dr d7
        have s67 := W6'.up d7
        have nde : (xs.map (·.1)).Nodup := nd_perm_left (f := fun d : Dcl => d.1) (exs ▸ pzd) (by rw [ed]; decide +kernel)
        have ine : ∀ d ∈ xs, d.1 ∈ wordList := fun d hd => by
          have : d ∈ ds := pzd.mem_iff.mpr (by rw [exs]; exact List.mem_append_left _ hd)
          rw [← ed]
          exact List.mem_map_of_mem (f := fun d : Dcl => d.1) this
        have lxs : es.length = xs.length := pxs.len
        have mb : (if (es.length : Int) < 4 then (es.length : Int) else 4) ≤ 4 ∧ 0 ≤ (if (es.length : Int) < 4 then (es.length : Int) else 4) ∧ (if (es.length : Int) < 4 then (es.length : Int) else 4) ≤ es.length := by split <;> omega
        refine ⟨_, rfl, _, rfl, e, _, rfl, .inl (SqL.of he), _, _, rfl, _, _, rfl, rfl, p, _, rfl, W7.wl, by omega, by omega, fun mm H8 m0 m1 d8 => ?_⟩
        have W8 := W7.dr d8
        have mm4 : mm ≤ 4 := by omega
        have nel : e ∉ l :: S := W6'.nin ne
        have nep : e ≠ p := W6'.nw ne
        have he8 : H8 e = some (.lst es) := d8.get he nep
        have hl8 : H8 l = some (.lst vs) := d8.get (d7.get hl6' nl) nl
        refine ⟨_, rfl, .inl ⟨rfl, _, SqL.of hl8⟩, _, rfl, _, rfl, _, rfl, _, rfl, e, es, rfl, SqL.of he8, fun i1 H9 n9 => ?_⟩
        have W9 := W8.same n9.same
        refine ⟨_, rfl, _, rfl, _, rfl, _, rfl, _, _, rfl, rfl, _, rfl, e, es, rfl, SqL.of (n9.same _ _ he8), fun i2 Ha na => ?_⟩
        have Wa := W9.same na.same
        refine ⟨_, rfl, sz (by show 2 ≤ 100000; decide), fun o Hb nb => ?_⟩
        have Wb := Wa.same nb.same
        refine ⟨p, o, _, rfl, Wb.wl, SqL.of (hid_get nb.at (by simpa using Wa.nw nb.free)), (by simp), (by show 2 < 1000000; decide), fun z hz Hc dc => ?_⟩
        obtain ⟨b, rfl⟩ := kinds_mem hz
        have Wc := Wb.dr dc
        refine ⟨sz (by show 4 ≤ 100000; decide), fun t Hd nd => ?_⟩
        have Wd := Wc.same nd.same
        have hld : Hd l = some (.lst vs) := nd.same _ _ (dc.get (nb.same _ _ (na.same _ _ (n9.same _ _ hl8))) nl)
        refine ⟨l, vs, _, rfl, rfl, hld, sz' (by have := ph.len; omega), fun He ne' => ?_⟩
        have We := Wd.put ne' nl
        have xe : Same (hid (l :: S) Hd) (hid (l :: S) He) := ne'.hid List.mem_cons_self
        have xd : Same (hid (l :: S) Hc) (hid (l :: S) He) := nd.hid.trans xe
        have xb : Same (hid (l :: S) Ha) (hid (l :: S) He) := (nb.hid.trans (Wb.up dc)).trans xd
        have x9 : Same (hid (l :: S) H9) (hid (l :: S) He) := na.hid.trans xb
        have x7 : Same (hid (l :: S) H7) (hid (l :: S) He) := ((W7.up d8).trans n9.hid).trans x9
        have x6 : Same (hid (l :: S) H6) (hid (l :: S) He) := s67.trans x7
        have pxe : Paired (DclV (hid (l :: S) He)) es xs := pxs.imp fun _ _ r => DclV.mono _ _ _ _ x6 r
        rw [cut_take m0] at n9
        rw [cut_mid m0 (by omega)] at na
        refine ⟨_, _, _, _, _, vs ++ [.ref t], hs ++ [⟨x, xs.take mm.toNat, (xs.drop mm.toNat).take ((mm + 8).toNat - mm.toNat), b⟩], rfl, We, ?_, ne'.at, (ph.imp fun _ _ r => HdV.mono _ _ _ _ (s56.trans x6) r).app (.one ⟨t, rfl, i1, i2, xe _ _ (hid_get nd.at (Wc.nin nd.free)), ⟨_, x9 _ _ (hid_get n9.at (W8.nin n9.free)), pxe.take _⟩, ⟨_, xb _ _ (hid_get na.at (W9.nin na.free)), (pxe.drop _).take _⟩⟩), ?_, ?_, hij, ?_⟩
        · exact (((((((s'.trans s5x).trans (Sm.two d7)).trans (Sm.two d8)).trans n9.sm).trans na.sm).trans nb.sm).trans (Sm.two dc)).trans (nd.sm.trans (ne'.sm List.mem_cons_self))
        · rw [List.map_append, en', take_more hx]
          rfl
        · rw [List.length_append, el]
          rfl
        · intro c hc
          rcases List.mem_append.mp hc with q | q
          · exact gd c q
          · rw [List.mem_singleton.mp q]
            have pre : List.Sublist (xs.take mm.toNat ++ (xs.drop mm.toNat).take ((mm + 8).toNat - mm.toNat)) xs := by
              have h1 : List.Sublist ((xs.drop mm.toNat).take ((mm + 8).toNat - mm.toNat)) (xs.drop mm.toNat) := List.take_sublist _ _
              have h2 := List.Sublist.append (List.Sublist.refl (xs.take mm.toNat)) h1
              rwa [List.take_append_drop] at h2
            refine ⟨ix_mem hx, ?_, ?_, nde.sublist (pre.map _), fun d hd => ine d (pre.mem hd)⟩
            · show (xs.take mm.toNat).length ≤ 4
              rw [List.length_take]
              omega
            · show ((xs.drop mm.toNat).take ((mm + 8).toNat - mm.toNat)).length ≤ 8
              rw [List.length_take]
              omega
    · rintro σ H' ⟨v3, v4, v5, v6, v7, vs, hs, rfl, W', s', hl', ph, en', el, ei, gd⟩
      refine ⟨_, rfl, ?_⟩
      have sub : Same (hid (l :: S) H') (hid S H') := hid_less H' (less1 S l)
      have el' : hs.length = jj := by
        rw [el, List.length_map, List.length_take]
        show min jj 6 = jj
        omega
      refine k l hs H' ⟨(((Sm.two (dB.trans dC)).trans s').drop l0), W'.wl⟩ ⟨vs, hid_get hl' (W1.nin n2.free), ph.imp fun _ _ r => HdV.mono _ _ _ _ sub r⟩ ⟨fun z => ?_, by omega, by rw [en']; exact (show headNames.Nodup by decide +kernel).sublist (List.take_sublist _ _), gd⟩
      rw [z] at el'
      simp at el'
      omega
end
end K12

namespace K12
open PySem PySem.Spec PyProof.Rows L2
theorem Wl.less1 {w l : Addr} {S : List Addr} {H : Hp} (c : Wl w (l :: S) H) (m : w ∈ S) : Wl w S H := ⟨c.wl, m, fun a h => c.there a (List.mem_cons_of_mem _ h)⟩
/-- where a comprehension in a draw's reach stands: its list at D is hidden -/
structure At (w D : Addr) (S : List Addr) (H1 H : Hp) : Prop where
  wl : Wl w (D :: S) H
  sm : Sm [D, w] H1 H
theorem At.up {w D : Addr} {S : List Addr} {H1 H : Hp} (a : At w D S H1 H) (m : w ∈ S) (hD : H1 D = Option.none) : Same (hid S H1) (hid (D :: S) H) := fun b o e => by
  have nb : b ≠ D := ne_of_none (hid_some e).1 hD
  have nw : b ≠ w := fun z => (hid_some e).2 (by rw [z]; exact m)
  exact hid_get (a.sm.get (hid_some e).1 (by simpa using ⟨nb, nw⟩)) fun q => (List.mem_cons.mp q).elim nb (hid_some e).2
theorem At.get {w D : Addr} {S : List Addr} {H1 H : Hp} (a : At w D S H1 H) (hD : H1 D = Option.none) {b : Addr} {o : HO} (h : H1 b = some o) (nw : b ≠ w) : H b = some o := a.sm.get h (by simpa using ⟨ne_of_none h hD, nw⟩)
theorem At.dr {w D : Addr} {S : List Addr} {H1 H : Hp} (a : At w D S H1 H) (hD : H1 D = Option.none) : Dr w H1 H := ⟨a.sm.drop hD, a.wl.wl⟩
theorem At.nin {w D p : Addr} {S : List Addr} {H1 H : Hp} (a : At w D S H1 H) (h : H p = Option.none) : p ∉ D :: S := a.wl.nin h
/-- the comprehension's list is told by R, its i-th item by A i -/
structure LcInv {α : Type} (w D : Addr) (S : List Addr) (H1 : Hp) (R : Hp → V → α → Prop) (A : Nat → α → Prop) (i : Nat) (ys : List V) (H : Hp) : Prop where
  at_ : At w D S H1 H
  ls : ∃ rs, Paired (R (hid (D :: S) H)) ys rs ∧ rs.length = i ∧ ∀ j r, rs[j]? = some r → A j r
theorem lc_end {α : Type} {w D : Addr} {S : List Addr} {H1 H : Hp} {R : Hp → V → α → Prop} {A : Nat → α → Prop} {n : Nat} {ys : List V} (mR : Mono R) (W : Wl w S H1) (hD : H1 D = Option.none) (I : LcInv w D S H1 R A n ys H) (h : H D = some (.lst ys)) :
    Dr w H1 H ∧ ∃ rs, LsAt R (hid S H) D rs ∧ rs.length = n ∧ ∀ i r, rs[i]? = some r → A i r := by
  obtain ⟨a, rs, p, l, q⟩ := I
  exact ⟨a.dr hD, rs, ⟨ys, hid_get h (W.nin hD), p.imp fun _ _ r => mR _ _ _ _ (hid_less H (less1 S D)) r⟩, l, q⟩
theorem lc_turn {α : Type} {w D : Addr} {S : List Addr} {H1 H : Hp} {R : Hp → V → α → Prop} {A : Nat → α → Prop} {i : Nat} {ys : List V} (mR : Mono R) (nD : D ≠ w) (I : LcInv w D S H1 R A i ys H) (h : H D = some (.lst ys)) (hl : ys.length ≤ i) {y : V} {r : α} {H4 : Hp} (d : Dr w H H4) (q : R (hid (D :: S) H4) y r) (a : A i r) :
    LcNew D i (LcInv w D S H1 R A) y H4 := by
  obtain ⟨⟨W, s⟩, rs, p, l, z⟩ := I
  refine ⟨ys, d.get h nD, hl, fun H5 n => ⟨⟨(W.dr d).put n nD, (s.trans (Sm.two d)).trans (n.sm List.mem_cons_self)⟩, rs ++ [r], ?_, by rw [List.length_append, l]; rfl, fun j x e => ?_⟩⟩
  · have t : Same (hid (D :: S) H4) (hid (D :: S) H5) := n.hid List.mem_cons_self
    exact (p.imp fun _ _ x => mR _ _ _ _ ((W.up d).trans t) x).app (.one (mR _ _ _ _ t q))
  · by_cases c : j < rs.length
    · rw [List.getElem?_append_left c] at e
      exact z j x e
    · rw [List.getElem?_append_right (by omega)] at e
      cases e2 : j - rs.length with
      | zero =>
        rw [e2] at e
        have : j = i := by omega
        rw [this]
        cases e
        exact a
      | succ k =>
        rw [e2] at e
        simp at e
theorem lc_dr {α : Type} {K : PySem.W.Frag} {a : Addr} {xs : List V} {g : TG} {te : TE} {vs : List Nat} {σ : L2.St} {H1 : Hp} {D : Addr} {Qd : Hp → Prop} {w : Addr} {S : List Addr} (R : Hp → V → α → Prop) (A : Nat → α → Prop) (mR : Mono R) (hx : xs.length ≤ 100000) (W : Wl w S H1) (hD : H1 D = none)
    (hl : SqL K (hid S H1) a xs)
    (hs : ∀ i x H (Qn : V → Hp → Prop), xs[i]? = some x → At w D S H1 H → (∀ y r H4, Dr w H H4 → R (hid (D :: S) H4) y r → A i r → Qn y H4) → g x (wipe σ vs) H fun σ2 H2 => wipe σ2 vs = wipe σ vs ∧ te σ2 H2 Qn)
    (hd : ∀ H rs, Dr w H1 H → LsAt R (hid S H) D rs → rs.length = xs.length → (∀ i r, rs[i]? = some r → A i r) → Qd H) :
    ∃ W : Nat → Nat → Hp → Prop, (∃ m, W 0 m (upd H1 D (.lst []))) ∧ ∀ i m H, W i m H →
      ((Itl K a).stop i H ∧ Qd H) ∨ ((Itl K a).go i H ∧ ∃ Nx : Hp → Prop, (∀ H', Nx H' → ∃ m', m' < m ∧ W (i + 1) m' H') ∧ ∀ x H', (Itl K a).yld i H x H' → g x (wipe σ vs) H' fun σ2 H2 => wipe σ2 vs = wipe σ vs ∧ tYes σ2 H2 fun b H3 =>
        if b = true then te σ2 H3 fun y H4 => ∃ acc, H4 D = some (.lst acc) ∧ acc.length < sizeLine ∧ Nx (upd H4 D (.lst (acc ++ [y]))) else Nx H3) := by
  have nD := W.nw hD
  refine lc_map (K := K) (a := a) (xs := xs) (tt := tYes) (LcInv w D S H1 R A) hx hD (fun H' n => ⟨⟨W.new n, n.sm⟩, [], .nil, rfl, fun j r e => by simp at e⟩) (fun i ys H _ _ I => Same.seq ((I.at_.up W.mem hD).trans (hid_sub _ _)) hl) (fun i x ys H hi hD' hl' I => ?_) (fun ys H h _ I => ?_)
  · exact hs i x H (LcNew D i (LcInv w D S H1 R A)) hi I.at_ fun y r H4 d q a => lc_turn mR nD I hD' hl' d q a
  · obtain ⟨d, rs, q, l, z⟩ := lc_end mR W hD I h
    exact hd H rs d q l z
theorem lc_drR {α : Type} {lo : Int} {n : Nat} {g : TG} {te : TE} {vs : List Nat} {σ : L2.St} {H1 : Hp} {D : Addr} {Qd : Hp → Prop} {w : Addr} {S : List Addr} (R : Hp → V → α → Prop) (A : Nat → α → Prop) (mR : Mono R) (hx : n ≤ 100000) (W : Wl w S H1) (hD : H1 D = none)
    (hs : ∀ i H (Qn : V → Hp → Prop), i < n → At w D S H1 H → (∀ y r H4, Dr w H H4 → R (hid (D :: S) H4) y r → A i r → Qn y H4) → g (.int (lo + i)) (wipe σ vs) H fun σ2 H2 => wipe σ2 vs = wipe σ vs ∧ te σ2 H2 Qn)
    (hd : ∀ H rs, Dr w H1 H → LsAt R (hid S H) D rs → rs.length = n → (∀ i r, rs[i]? = some r → A i r) → Qd H) :
    ∃ W : Nat → Nat → Hp → Prop, (∃ m, W 0 m (upd H1 D (.lst []))) ∧ ∀ i m H, W i m H →
      ((Itr lo n).stop i H ∧ Qd H) ∨ ((Itr lo n).go i H ∧ ∃ Nx : Hp → Prop, (∀ H', Nx H' → ∃ m', m' < m ∧ W (i + 1) m' H') ∧ ∀ x H', (Itr lo n).yld i H x H' → g x (wipe σ vs) H' fun σ2 H2 => wipe σ2 vs = wipe σ vs ∧ tYes σ2 H2 fun b H3 =>
        if b = true then te σ2 H3 fun y H4 => ∃ acc, H4 D = some (.lst acc) ∧ acc.length < sizeLine ∧ Nx (upd H4 D (.lst (acc ++ [y]))) else Nx H3) := by
  have nD := W.nw hD
  refine lc_mapR (lo := lo) (n := n) (tt := tYes) (LcInv w D S H1 R A) hx hD (fun H' n => ⟨⟨W.new n, n.sm⟩, [], .nil, rfl, fun j r e => by simp at e⟩) (fun i ys H hi hD' hl' I => ?_) (fun ys H h _ I => ?_)
  · exact hs i H (LcNew D i (LcInv w D S H1 R A)) hi I.at_ fun y r H4 d q a => lc_turn mR nD I hD' hl' d q a
  · obtain ⟨d, rs, q, l, z⟩ := lc_end mR W hD I h
    exact hd H rs d q l z
/-- texts -/
def StrV (_ : Hp) (v : V) (x : Str) : Prop := v = .str x
theorem StrV.mono : Mono StrV := fun _ _ _ _ _ h => h
theorem strs_of {H : Hp} {vs : List V} {xs : List Str} (p : Paired (StrV H) vs xs) : vs = xs.map V.str := Paired.toMap p
theorem strs_to {H : Hp} : ∀ (xs : List Str), Paired (StrV H) (xs.map V.str) xs
  | [] => .nil
  | _ :: r => .cons rfl (strs_to r)
/-- a new row -/
theorem New.row {S : List Addr} {H H' : Hp} {p : Addr} {vs : List V} {r : Rw} (n : New H p (.tup vs) H') (h : p ∉ S) (c : Paired (CellV (K12.hid S H')) vs r.cells) (a : ∀ op x y z, r = .arith op x y z → op ∈ ariths) : RwV (K12.hid S H') (.ref p) r := ⟨p, rfl, vs, hid_get n.at h, c, a⟩
/-- set(list of pairs of texts) -/
def rSetN (K : PySem.W.Frag) (P : Program) (w : World) : List V → Hp → VK → Prop := fun xs H Q => ∃ (l : Addr) (ks : List Pr), xs = [.ref l] ∧ SqL K H l (ks.map fun p => V.ref p.1) ∧ (∀ p ∈ ks, SqT K H p.1 [.str p.2.1, .str p.2.2]) ∧ ks.length < 60 ∧
  ∀ a L H', New H a (SetHO P w a L) H' → (∀ q ∈ L, ∃ p ∈ ks, q = pm p) → (ks ≠ [] → L ≠ []) → L.length ≤ ks.length → Q (.ref a) H'
theorem call_setN {X : Cx} (hc : X.calm = true) (hu : X.A.units + 3 < cLine) : CallR X (.type "set") (rSetN X.K X.prog X.w) := by
  intro pins s σ H xs us Q I r ⟨l, ks, e, hl, hk, few, q⟩
  exact call_setP_ok hc hu pins s σ H xs us Q I r ⟨l, ks, e, hl, hk, few, fun a L ha h1 h2 h3 => q a L _ ⟨ha, rfl⟩ h1 h2 h3⟩
def rSrtN (K : PySem.W.Frag) (P : Program) (w : World) : List V → Hp → VK → Prop := fun xs H Q => ∃ (a : Addr) (L : List Mem), xs = [.ref a] ∧ H a = some (SetHO P w a L) ∧ (∀ q ∈ L, ∃ x y, q.2 = [x, y] ∧ SqT K H q.1 [.str x, .str y]) ∧ L.length < 60 ∧
  ∀ p ys H', New H p (.lst ys) H' → ys.length = L.length → (∀ y ∈ ys, ∃ q ∈ L, y = V.ref q.1) → Q (.ref p) H'
theorem call_srtN {X : Cx} (hc : X.calm = true) (hu : X.A.units + 10 < cLine) : CallR X (.builtin "sorted") (rSrtN X.K X.prog X.w) := by
  intro pins s σ H xs us Q I r ⟨a, L, e, ha, hm, few, q⟩
  exact call_srtP hc hu pins s σ H xs us Q I r ⟨a, L, e, ha, hm, few, fun p ys hp h1 h2 => q p ys _ ⟨hp, rfl⟩ h1 h2⟩
end K12

namespace K12
open PySem PySem.Spec PyProof.Rows L2
abbrev sNumberRows : Stmt := topS 46
abbrev sObjectRows : Stmt := topS 47
def Rw.isJump : Rw → Bool
  | .jump _ => true
  | _ => false
def RightRw (cs : List Cl) (hs : List Hd) (h : Hd) (n : Nat) (r : Rw) : Prop := isRow cs hs h n r = true ∧ r.isJump = false
def spNumberRows : Sp := fun vs H Q _ => ∃ (w a : Addr) (m : Nat) (S : List Addr) (xs : List Str) (cs : List Cl) (hs : List Hd) (h : Hd), vs = [.ref w, .ref a, .int m] ∧ Wl w S H ∧ LsAt StrV (hid S H) a xs ∧ xs ≠ [] ∧ xs.length ≤ 100 ∧
  (∀ x ∈ xs, h.kind x = some false) ∧ 1 ≤ m ∧ m ≤ 1000 ∧ ∀ q rs H', Dr w H H' → RwsAt (hid S H') q rs → rs.length ≤ 20 → rs ≠ [] → (∀ r ∈ rs, RightRw cs hs h m r) → Q (.ref q) H'
def spObjectRows : Sp := fun vs H Q _ => ∃ (w a c : Addr) (S : List Addr) (xs : List Str) (cs : List Cl) (hs : List Hd) (h : Hd) (n : Nat), vs = [.ref w, .ref a, .ref c] ∧ Wl w S H ∧ LsAt StrV (hid S H) a xs ∧ xs ≠ [] ∧ xs.length ≤ 100 ∧
  (∀ x ∈ xs, h.kind x = some true) ∧ ClsAt (hid S H) c cs ∧ cs.length ≤ 6 ∧ ∀ q rs H', Dr w H H' → RwsAt (hid S H') q rs → rs.length ≤ 20 → rs ≠ [] → (∀ r ∈ rs, RightRw cs hs h n r) → Q (.ref q) H'
theorem str_mem {x : V} {xs : List Str} (h : x ∈ xs.map V.str) : ∃ y, x = V.str y ∧ y ∈ xs := by
  obtain ⟨y, hy, e⟩ := List.mem_map.mp h
  exact ⟨y, e.symm, hy⟩
section
variable {P : Program} {w : World} {K : PySem.W.Frag} {mg : Str → Option Value} {base : Heap}
theorem scNumberRows : FnScope ["_law_well_here", "_law_names", "_law_many", "_law_one", "_law_two", "_law_three", "_law_much", "_law_found", "_law_turn", "_law_op"] ["_law_well_here", "_law_names", "_law_many"] (defScope sNumberRows) := ⟨rfl, rfl, rfl, by decide +kernel, rfl, by decide +kernel, by decide +kernel⟩
theorem cal_numberRows (T : Txt mg) (D : Dfn K mg "_law_number_rows" "_law_number_rows" sNumberRows ["_law_well_here", "_law_names", "_law_many"])
    (CD : Cal P w K mg base CX0 2 "_law_draw" ["_law_well_here", "_law_many"] spDraw) (CP : Cal P w K mg base CX0 3 "_law_pick" ["_law_well_here", "_law_items"] (spPick K)) :
    Cal P w K mg base CX0 4 "_law_number_rows" ["_law_well_here", "_law_names", "_law_many"] spNumberRows := by
  obtain ⟨f, fd, F, m, b⟩ := D
  obtain ⟨f2, fd2, m2, kp2, b2, G2⟩ := CD
  obtain ⟨f3, fd3, m3, kp3, b3, G3⟩ := CP
  refine ⟨f, fd, m, F.kp, b, F.ok scNumberRows (fun vs H Q E h => ?_) (fun cdv A outer s H vs Q E hr h => ?_)⟩
  · obtain ⟨_, _, _, _, _, _, _, _, rfl, _⟩ := h
    rfl
  · obtain ⟨p, a, m, S, xs, cs, hs, h, rfl, W, ⟨vx, ha, px⟩, ne, lx, hk, m0, m9, k⟩ := h
    have hr2 : Room 2 _ := hr.mono (by decide)
    have ex := strs_of px
    subst ex
    refine ⟨_, pss_cons (ps_asg (pe_lc (own := [("_law_turn", 8)]) (g := gName 8) (tt := tYes) rfl scNumberRows.nd (pi_range1 (by rfl) T.range (pa_cons pe_int pa_nil))
          (blkOk_by (N := ["_law_well_here", "_law_names", "_law_many", "_law_one", "_law_two", "_law_three", "_law_much", "_law_found", "_law_turn", "_law_op"]) (sc := defScope sNumberRows) (by decide +kernel))
          (fun _ _ _ _ _ => pg_name (i := 8) scNumberRows.nd rfl (.inl rfl)) (fun _ _ _ _ _ => pts_nil) (fun _ _ _ _ _ => pe_call G3 hr (by rfl) m3 kp3 b3 .nil pass0 (pa_cons (pv 0) (pa_cons (pv 1) pa_nil))))
        (pg_unl rfl (pgs_cons (pg_name (i := 3) scNumberRows.nd rfl (.inr rfl)) (pgs_cons (pg_name (i := 4) scNumberRows.nd rfl (.inr rfl)) (pgs_cons (pg_name (i := 5) scNumberRows.nd rfl (.inr rfl)) pgs_nil)))))
      (pss_cons (ps_set (i := 6) scNumberRows.nd rfl (.inl rfl) (pe_call G3 hr (by rfl) m3 kp3 b3 .nil pass0 (pa_cons (pv 0) (pa_cons (pe_lstN (pa_cons pe_int (pa_cons pe_int (pa_cons (pe_un un_neg pe_int) (pa_cons (pe_op op_pow pe_int pe_int) (pa_cons (pe_un un_neg (pe_op op_pow pe_int pe_int))
          (pa_cons (pe_op op_sub (pe_call G2 hr2 (by rfl) m2 kp2 b2 .nil pass0 (pa_cons (pv 0) (pa_cons pe_int pa_nil))) pe_int) pa_nil))))))) pa_nil))))
      (pss_cons (ps_setLc (i := 7) (own := [("_law_op", 9)]) (g := gName 9) (tt := tYes) rfl scNumberRows.nd rfl rfl (sw_true rfl rfl rfl (by decide +kernel)) (pi_list (pe_lstN (pa_cons pe_str (pa_cons pe_str (pa_cons pe_str (pa_cons pe_str (pa_cons pe_str pa_nil)))))))
          (blkOk_by (N := ["_law_well_here", "_law_names", "_law_many", "_law_one", "_law_two", "_law_three", "_law_much", "_law_found", "_law_turn", "_law_op"]) (sc := defScope sNumberRows) (by decide +kernel))
          (fun _ _ _ _ _ => pg_name (i := 9) scNumberRows.nd rfl (.inl rfl)) (fun _ _ _ _ _ => pts_nil) (fun _ _ _ _ _ => pe_tupN (pa_cons (pv 9) (pa_cons (pv 3) (pa_cons (pv 4) (pa_cons (pv 5) pa_nil))))))
      (pss_cons (ps_set (i := 7) scNumberRows.nd rfl (.inl rfl) (pe_op op_catN (pv 7) (pe_lstN (pa_cons (pe_tupN (pa_cons pe_str (pa_cons (pv 3) (pa_cons (pv 6) pa_nil)))) (pa_cons (pe_tupN (pa_cons pe_str (pa_cons (pv 3) (pa_cons (pv 4) pa_nil)))) (pa_cons (pe_tupN (pa_cons pe_str (pa_cons (pv 3) pa_nil))) pa_nil))))))
      (pss_one (ps_ret (pe_op op_catN (pv 7) (pe_lstN (pa_cons (pe_tupN (pa_cons pe_str (pa_cons (pv 3) (pa_cons (pe_call G2 hr2 (by rfl) m2 kp2 b2 .nil pass0 (pa_cons (pv 0) (pa_cons (pv 2) pa_nil))) pa_nil)))) pa_nil)))))))), ?_⟩
    refine ⟨3, rfl, by decide, by decide, fun D1 hD1 => lc_drR (w := p) (S := S) (n := 3) StrV (fun _ x => x ∈ xs) StrV.mono (by decide) W hD1 ?_ ?_⟩
    · rintro i H1 Qn hi at1 kq
      refine ⟨rfl, _, rfl, _, rfl, p, a, _, rfl, at1.wl.wl, SqL.of (((at1.up W.mem hD1).trans at1.wl.sub) _ _ ha), (by simpa using ne), (by rw [List.length_map]; omega), fun z hz H2 d2 => ?_⟩
      obtain ⟨x, rfl, hx⟩ := str_mem hz
      exact kq _ x H2 d2 rfl hx
    · rintro H1 ns d1 ⟨vn, hn, pn⟩ ln an
      have en := strs_of pn
      subst en
      obtain ⟨x1, x2, x3, rfl⟩ : ∃ a b c, ns = [a, b, c] := by
        match ns, ln with
        | [a, b, c], _ => exact ⟨a, b, c, rfl⟩
      have k1 := hk _ (an 0 x1 rfl)
      have k2 := hk _ (an 1 x2 rfl)
      have k3 := hk _ (an 2 x3 rfl)
      have W1 := W.dr d1
      refine ⟨D1, _, rfl, SqL.of (hid_some hn).1, rfl, _, _, rfl, _, _, rfl, _, _, rfl, rfl, ?_⟩
      have q9 : CPow 10 9 := ⟨by decide, by decide, by decide⟩
      refine ⟨_, rfl, _, rfl, _, _, rfl, rfl, q9, _, _, rfl, rfl, q9, _, rfl, _, rfl, p, 1000, rfl, W1.wl, by decide, by decide, fun j H2 j0 j1 d2 => ?_⟩
      have W2 := W1.dr d2
      refine ⟨_, _, rfl, rfl, sz (by show 6 ≤ 100000; decide), fun o H3 n3 => ?_⟩
      have W3 := W2.same n3.same
      refine ⟨p, o, _, rfl, W3.wl, SqL.of (hid_get n3.at (by simpa using W2.nw n3.free)), (by simp), (by show 6 < 1000000; decide), fun z hz H4 d4 => ?_⟩
      obtain ⟨much, rfl, mu⟩ : ∃ i : Int, z = .int i ∧ (-1000000000 ≤ i ∧ i ≤ 1000000000) := by
        simp only [List.mem_cons, List.mem_nil_iff, or_false] at hz
        rcases hz with e | e | e | e | e | e
        · exact ⟨_, e, by decide⟩
        · exact ⟨_, e, by decide⟩
        · exact ⟨_, e, by decide⟩
        · exact ⟨_, e, by decide⟩
        · exact ⟨_, e, by decide⟩
        · exact ⟨_, e, by omega⟩
      have W4 := W3.dr d4
      refine ⟨sz (by show 5 ≤ 100000; decide), fun c H5 n5 => ?_⟩
      have W5 := W4.same n5.same
      refine ⟨c, rfl, ⟨_, SqL.of n5.at⟩, fun D2 hD2 => lc_dr (K := K) (w := p) (S := S) (a := c) (xs := (["add", "sub", "times", "less", "same"] : List Str).map V.str) RwV (fun _ r => RightRw cs hs h m r) RwV.mono (by decide) W5 hD2 (SqL.of (hid_get n5.at (W4.nin n5.free))) ?_ ?_⟩
      · rintro i y H6 Qn hi at6 kq
        obtain ⟨op, ho, rfl⟩ := map_ix hi
        refine ⟨rfl, _, rfl, _, rfl, _, rfl, _, rfl, sz (by show 4 ≤ 100000; decide), fun t H7 n7 => ?_⟩
        have nt := at6.wl.nin n7.free
        by_cases c : op = "same"
        · subst c
          exact kq _ (.same x1 x2 x3) H7 (n7.dr (Dr.refl at6.wl.wl)) (n7.row nt (.cons rfl (.cons rfl (.cons rfl (.cons rfl .nil)))) (fun _ _ _ _ e => nomatch e)) ⟨by simp [isRow, k1, k2, k3], rfl⟩
        · have mo : op ∈ ariths := by
            have := ix_mem ho
            simp only [List.mem_cons, List.mem_nil_iff, or_false] at this
            rcases this with e | e | e | e | e <;> first | exact absurd e c | (rw [e]; decide +kernel)
          exact kq _ (.arith op x1 x2 x3) H7 (n7.dr (Dr.refl at6.wl.wl)) (n7.row nt (.cons rfl (.cons rfl (.cons rfl (.cons rfl .nil)))) (fun _ _ _ _ e => by cases e; exact mo)) ⟨by simp [isRow, k1, k2, k3], rfl⟩
      · rintro H6 rs d6 ⟨vr, hr6, pr⟩ lr ar
        have W6 := W5.dr d6
        refine ⟨_, rfl, _, rfl, _, rfl, sz (by show 3 ≤ 100000; decide), fun t1 H7 n7 => ?_⟩
        refine ⟨_, rfl, _, rfl, sz (by show 3 ≤ 100000; decide), fun t2 H8 n8 => ?_⟩
        refine ⟨_, rfl, sz (by show 2 ≤ 100000; decide), fun t3 H9 n9 => ?_⟩
        refine ⟨sz (by show 3 ≤ 100000; decide), fun u Ha na => ?_⟩
        have W7 := W6.same n7.same
        have W8 := W7.same n8.same
        have W9 := W8.same n9.same
        have Wa := W9.same na.same
        have l5 : vr.length = 5 := by rw [pr.len, lr]; rfl
        have x69 := (n7.same.trans n8.same).trans (n9.same.trans na.same)
        refine ⟨D2, u, _, _, rfl, rfl, SqL.of (x69 _ _ (hid_some hr6).1), SqL.of na.at, sz (by rw [l5]; show 5 + 3 ≤ 100000; decide), fun v1 Hb nb => ?_⟩
        have Wb := Wa.same nb.same
        refine ⟨_, rfl, _, rfl, _, rfl, _, rfl, p, m, rfl, Wb.wl, by omega, by omega, fun j2 Hc j20 j21 dc => ?_⟩
        have Wc := Wb.dr dc
        refine ⟨sz (by show 3 ≤ 100000; decide), fun t4 Hd nd => ?_⟩
        have Wd := Wc.same nd.same
        refine ⟨sz (by show 1 ≤ 100000; decide), fun u2 He ne' => ?_⟩
        have We := Wd.same ne'.same
        have hv1 : He v1 = some (.lst (vr ++ [.ref t1, .ref t2, .ref t3])) := ne'.same _ _ (nd.same _ _ (dc.get nb.at (Wa.nw nb.free)))
        refine ⟨v1, u2, _, _, rfl, rfl, SqL.of hv1, SqL.of ne'.at, sz (by rw [List.length_append, l5]; show 5 + 3 + 1 ≤ 100000; decide), fun v2 Hf nf => ?_⟩
        have Wf := We.same nf.same
        have yc : Same (hid S Hc) (hid S Hf) := (nd.hid.trans ne'.hid).trans nf.hid
        have yb : Same (hid S Hb) (hid S Hf) := (Wb.up dc).trans yc
        have ya : Same (hid S Ha) (hid S Hf) := nb.hid.trans yb
        have y9 : Same (hid S H9) (hid S Hf) := na.hid.trans ya
        have y8 : Same (hid S H8) (hid S Hf) := n9.hid.trans y9
        have y7 : Same (hid S H7) (hid S Hf) := n8.hid.trans y8
        have y6 : Same (hid S H6) (hid S Hf) := n7.hid.trans y7
        refine k v2 (rs ++ [.number x1 much, .copy x1 x2, .see x1] ++ [.iff x1 j2]) Hf ?_ ⟨_, hid_get nf.at (We.nin nf.free), ((pr.imp fun _ _ r => RwV.mono _ _ _ _ y6 r).app (.cons ?_ (.cons ?_ (.cons ?_ .nil)))).app (.one ?_)⟩ ?_ (by simp) ?_
        · exact (((((d1.trans d2).same n3.same).trans d4).same n5.same).trans d6).trans ((((((Dr.refl W6.wl).same x69).same nb.same).trans dc).same nd.same).same (ne'.same.trans nf.same))
        · exact RwV.mono _ _ _ _ y7 (n7.row (W6.nin n7.free) (.cons rfl (.cons rfl (.cons rfl .nil))) (fun _ _ _ _ e => nomatch e))
        · exact RwV.mono _ _ _ _ y8 (n8.row (W7.nin n8.free) (.cons rfl (.cons rfl (.cons rfl .nil))) (fun _ _ _ _ e => nomatch e))
        · exact RwV.mono _ _ _ _ y9 (n9.row (W8.nin n9.free) (.cons rfl (.cons rfl .nil)) (fun _ _ _ _ e => nomatch e))
        · exact RwV.mono _ _ _ _ (ne'.hid.trans nf.hid) (nd.row (Wc.nin nd.free) (.cons rfl (.cons rfl (.cons rfl .nil))) (fun _ _ _ _ e => nomatch e))
        · simp only [List.length_append, lr]
          show 5 + 3 + 1 ≤ 20
          decide
        · intro r hr
          simp only [List.mem_append, List.mem_cons, List.mem_nil_iff, or_false] at hr
          rcases hr with (hr | rfl | rfl | rfl) | rfl
          · obtain ⟨i, hi⟩ := List.getElem?_of_mem hr
            exact ar i r hi
          · exact ⟨by simp [isRow, k1, mu], rfl⟩
          · exact ⟨by simp [isRow, k1, k2], rfl⟩
          · exact ⟨by simp [isRow, k1], rfl⟩
          · exact ⟨by simp [isRow, k1]; omega, rfl⟩
end
end K12

namespace K12
open PySem PySem.Spec PyProof.Rows L2
abbrev sFieldRows : Stmt := topS 48
abbrev sCallRows : Stmt := topS 49
/-! ### plain facts of names and kinds -/
theorem look_some {ds : List Dcl} {x : Str} {b : Bool} (h : look ds x = some b) : (x, b) ∈ ds := by
  unfold look at h
  cases e : ds.find? (fun d => decide (d.1 = x)) with
  | none => rw [e] at h; cases h
  | some d =>
    rw [e] at h
    have h2 := List.find?_some e
    have h3 := List.mem_of_find?_eq_some e
    obtain ⟨y, c⟩ := d
    have e1 : y = x := of_decide_eq_true h2
    have e2 : c = b := Option.some.inj h
    rw [← e1, ← e2]
    exact h3
theorem look_one {ds : List Dcl} {x : Str} {b : Bool} (u : ∀ c, (x, c) ∈ ds → c = b) (h : (x, b) ∈ ds) : look ds x = some b := by
  cases e : look ds x with
  | some c => rw [u c (look_some e)]
  | none =>
    unfold look at e
    rw [Option.map_eq_none_iff, List.find?_eq_none] at e
    exact absurd (decide_eq_true rfl) (e _ h)
theorem nd_one : ∀ {ds : List Dcl} {x : Str} {b c : Bool}, (ds.map (·.1)).Nodup → (x, b) ∈ ds → (x, c) ∈ ds → c = b
  | [], _, _, _, _, h, _ => nomatch h
  | d :: r, x, b, c, n, h1, h2 => by
    have n : (d.1 :: r.map (·.1)).Nodup := n
    obtain ⟨n1, n2⟩ := List.nodup_cons.mp n
    rcases List.mem_cons.mp h1 with e1 | e1
    · rcases List.mem_cons.mp h2 with e2 | e2
      · rw [← e1] at e2
        exact (Prod.mk.inj e2).2
      · exact absurd (List.mem_map.mpr ⟨_, e2, by rw [← e1]⟩) n1
    · rcases List.mem_cons.mp h2 with e2 | e2
      · exact absurd (List.mem_map.mpr ⟨_, e1, by rw [← e2]⟩) n1
      · exact nd_one n2 e1 e2
theorem names_kind {h : Hd} (n : (h.all.map (·.1)).Nodup) {x : Str} {b : Bool} (m : x ∈ namesOf h b) : h.kind x = some b := by
  unfold namesOf at m
  obtain ⟨d, hd, e⟩ := List.mem_map.mp m
  obtain ⟨h1, h2⟩ := List.mem_filter.mp hd
  obtain ⟨y, c⟩ := d
  have e1 : y = x := e
  have e2 : c = b := of_decide_eq_true h2
  rw [e1, e2] at h1
  exact look_one (fun c hc => nd_one n h1 hc) h1
theorem names_len {h : Hd} {b : Bool} : (namesOf h b).length ≤ h.all.length := by
  unfold namesOf
  rw [List.length_map]
  exact List.length_filter_le _ _
theorem fld_look {cs : List Cl} (g : GoodCls cs) {f : Str} {k : Bool} (m : (f, k) ∈ flds cs) : look (flds cs) f = some k := by
  have all : ∀ d ∈ flds cs, d ∈ fieldList := fun d hd => by
    obtain ⟨c, hc, h⟩ := List.mem_flatMap.mp hd
    exact (g.each c hc).fl d h
  exact look_one (fun c hc => nd_one (ds := fieldList) (by decide +kernel) (all _ m) (all _ hc)) m
theorem called_one {hs : List Hd} (n : (hs.map (·.name)).Nodup) {g : Hd} (m : g ∈ hs) : calledOf hs g.name = some g := by
  unfold calledOf
  induction hs with
  | nil => cases m
  | cons h r ih =>
    have n : (h.name :: r.map (·.name)).Nodup := n
    obtain ⟨n1, n2⟩ := List.nodup_cons.mp n
    rcases List.mem_cons.mp m with e | e
    · rw [e, List.find?_cons_of_pos]
      exact decide_eq_true rfl
    · rw [List.find?_cons_of_neg]
      · exact ih n2 e
      · intro z
        exact n1 (by rw [of_decide_eq_true z]; exact List.mem_map_of_mem (f := fun h : Hd => h.name) e)
theorem cut_init {xs : List V} {v : V} : cutV (xs ++ [v]) none (some (-1)) = xs := by
  unfold cutV HT.sIx
  rw [List.length_append]
  simp
  have e : (-1 + ((xs.length : Int) + 1)).toNat = xs.length := by omega
  rw [e, List.take_left']
  rfl
def KdV (_ : Hp) (v : V) (b : Bool) : Prop := v = .str (kd b)
theorem KdV.mono : Mono KdV := fun _ _ _ _ _ h => h
def spFieldRows : Sp := fun vs H Q _ => ∃ (w a c : Addr) (S : List Addr) (cs : List Cl) (hs : List Hd) (h : Hd) (n : Nat), vs = [.ref w, .ref a, .ref c] ∧ Wl w S H ∧ HdAt (hid S H) a h ∧ GoodHd h ∧ ClsAt (hid S H) c cs ∧ GoodCls cs ∧
  ∀ q rs H', Dr w H H' → RwsAt (hid S H') q rs → rs.length ≤ 20 → (∀ r ∈ rs, RightRw cs hs h n r) → Q (.ref q) H'
def spCallRows : Sp := fun vs H Q _ => ∃ (w a c : Addr) (S : List Addr) (cs : List Cl) (hs : List Hd) (h : Hd) (n : Nat), vs = [.ref w, .ref a, .ref c] ∧ Wl w S H ∧ HdAt (hid S H) a h ∧ GoodHd h ∧ HdsAt (hid S H) c hs ∧ GoodHds hs ∧
  ∀ q rs H', Dr w H H' → RwsAt (hid S H') q rs → rs.length ≤ 20 → (∀ r ∈ rs, RightRw cs hs h n r) → Q (.ref q) H'
section
variable {P : Program} {w : World} {K : PySem.W.Frag} {mg : Str → Option Value} {base : Heap}
theorem scObjectRows : FnScope ["_law_well_here", "_law_names", "_law_classes_here", "_law_one", "_law_two", "_law_found", "_law_turn"] ["_law_well_here", "_law_names", "_law_classes_here"] (defScope sObjectRows) := ⟨rfl, rfl, rfl, by decide +kernel, rfl, by decide +kernel, by decide +kernel⟩
theorem cal_objectRows (T : Txt mg) (D : Dfn K mg "_law_object_rows" "_law_object_rows" sObjectRows ["_law_well_here", "_law_names", "_law_classes_here"])
    (CP : Cal P w K mg base CX0 3 "_law_pick" ["_law_well_here", "_law_items"] (spPick K)) :
    Cal P w K mg base CX0 4 "_law_object_rows" ["_law_well_here", "_law_names", "_law_classes_here"] spObjectRows := by
  obtain ⟨f, fd, F, m, b⟩ := D
  obtain ⟨f3, fd3, m3, kp3, b3, G3⟩ := CP
  refine ⟨f, fd, m, F.kp, b, F.ok scObjectRows (fun vs H Q E h => ?_) (fun cdv A outer s H vs Q E hr h => ?_)⟩
  · obtain ⟨_, _, _, _, _, _, _, _, _, rfl, _⟩ := h
    rfl
  · obtain ⟨p, a, c, S, xs, cs, hs, h, n, rfl, W, ⟨vx, ha, px⟩, ne, lx, hk, hc, lc, k⟩ := h
    have hu := hr.units0
    have ex := strs_of px
    subst ex
    refine ⟨_, pss_cons (ps_asg (pe_lc (own := [("_law_turn", 6)]) (g := gName 6) (tt := tYes) rfl scObjectRows.nd (pi_range1 (by rfl) T.range (pa_cons pe_int pa_nil))
          (blkOk_by (N := ["_law_well_here", "_law_names", "_law_classes_here", "_law_one", "_law_two", "_law_found", "_law_turn"]) (sc := defScope sObjectRows) (by decide +kernel))
          (fun _ _ _ _ _ => pg_name (i := 6) scObjectRows.nd rfl (.inl rfl)) (fun _ _ _ _ _ => pts_nil) (fun _ _ _ _ _ => pe_call G3 hr (by rfl) m3 kp3 b3 .nil pass0 (pa_cons (pv 0) (pa_cons (pv 1) pa_nil))))
        (pg_unl rfl (pgs_cons (pg_name (i := 3) scObjectRows.nd rfl (.inr rfl)) (pgs_cons (pg_name (i := 4) scObjectRows.nd rfl (.inl rfl)) pgs_nil))))
      (pss_cons (ps_set (i := 5) scObjectRows.nd rfl (.inl rfl) (pe_lstN (pa_cons (pe_tupN (pa_cons pe_str (pa_cons (pv 3) pa_nil))) (pa_cons (pe_tupN (pa_cons pe_str (pa_cons (pv 3) (pa_cons (pv 4) pa_nil)))) (pa_cons (pe_tupN (pa_cons pe_str (pa_cons (pv 3) pa_nil))) pa_nil)))))
      (pss_one (ps_ret (pe_op op_catN (pv 5) (pe_lc (own := [("_law_turn", 6)]) (g := gName 6) (tt := tYes) rfl scObjectRows.nd (pi_range1 (by rfl) T.range (pa_cons (pe_callTy call_int1 (by rfl) T.int (by decide +kernel) (pa_cons (pe_cmpR (op_neNil hu) (pv 2) (pe_lstN pa_nil) (nomark _)) pa_nil)) pa_nil))
          (blkOk_by (N := ["_law_well_here", "_law_names", "_law_classes_here", "_law_one", "_law_two", "_law_found", "_law_turn"]) (sc := defScope sObjectRows) (by decide +kernel))
          (fun _ _ _ _ _ => pg_name (i := 6) scObjectRows.nd rfl (.inl rfl)) (fun _ _ _ _ _ => pts_nil)
          (fun _ _ _ _ _ => pe_tupN (pa_cons pe_str (pa_cons (pv 3) (pa_cons (pe_ix (r := rIxT K) ix_tup (pe_call G3 hr (by rfl) m3 kp3 b3 .nil pass0 (pa_cons (pv 0) (pa_cons (pv 2) pa_nil))) pe_int (fun _ _ => rfl)) pa_nil))))))))), ?_⟩
    refine ⟨2, rfl, by decide, by decide, fun D1 hD1 => lc_drR (w := p) (S := S) (n := 2) StrV (fun _ x => x ∈ xs) StrV.mono (by decide) W hD1 ?_ ?_⟩
    · rintro i H1 Qn hi at1 kq
      refine ⟨rfl, _, rfl, _, rfl, p, a, _, rfl, at1.wl.wl, SqL.of (((at1.up W.mem hD1).trans at1.wl.sub) _ _ ha), (by simpa using ne), (by rw [List.length_map]; omega), fun z hz H2 d2 => ?_⟩
      obtain ⟨x, rfl, hx⟩ := str_mem hz
      exact kq _ x H2 d2 rfl hx
    · rintro H1 ns d1 ⟨vn, hn, pn⟩ ln an
      have en := strs_of pn
      subst en
      obtain ⟨x1, x2, rfl⟩ : ∃ a b, ns = [a, b] := by
        match ns, ln with
        | [a, b], _ => exact ⟨a, b, rfl⟩
      have k1 := hk _ (an 0 x1 rfl)
      have k2 := hk _ (an 1 x2 rfl)
      have W1 := W.dr d1
      refine ⟨D1, _, rfl, SqL.of (hid_some hn).1, rfl, _, _, rfl, _, _, rfl, rfl, ?_⟩
      refine ⟨_, rfl, sz (by show 2 ≤ 100000; decide), fun t1 H7 n7 => ?_⟩
      refine ⟨_, rfl, _, rfl, sz (by show 3 ≤ 100000; decide), fun t2 H8 n8 => ?_⟩
      refine ⟨_, rfl, sz (by show 2 ≤ 100000; decide), fun t3 H9 n9 => ?_⟩
      refine ⟨sz (by show 3 ≤ 100000; decide), fun u Ha na => ?_⟩
      have W7 := W1.same n7.same
      have W8 := W7.same n8.same
      have W9 := W8.same n9.same
      have Wa := W9.same na.same
      have x17 := (n7.same.trans n8.same).trans (n9.same.trans na.same)
      obtain ⟨vc, hvc, pc⟩ := hc.mono ((W.up d1).trans (Sm.of x17))
      refine ⟨_, rfl, _, rfl, sz (by show 0 ≤ 100000; decide), fun l0 Hb nb => ?_⟩
      have Wb := Wa.same nb.same
      refine ⟨c, l0, vc, rfl, rfl, SqL.of (nb.same _ _ (hid_some hvc).1), SqL.of nb.at, .inr ⟨_, rfl, ?_⟩⟩
      have hb2 : ((if (!vc.isEmpty) = true then (1 : Int) else 0) = 0 ∨ (if (!vc.isEmpty) = true then (1 : Int) else 0) = 1) ∧ (0 < (if (!vc.isEmpty) = true then (1 : Int) else 0) → vc ≠ []) := by
        cases vc with
        | nil => exact ⟨.inl rfl, fun z => absurd z (by decide)⟩
        | cons x r => exact ⟨.inr rfl, fun _ z => nomatch z⟩
      revert hb2
      generalize (if (!vc.isEmpty) = true then (1 : Int) else 0) = z
      rintro ⟨z0, z1⟩
      refine ⟨z, rfl, by omega, by omega, fun D2 hD2 => lc_drR (w := p) (S := S) (n := z.toNat) RwV (fun _ r => RightRw cs hs h n r) RwV.mono (by omega) Wb hD2 ?_ ?_⟩
      · rintro i H1' Qn hi at1 kq
        have hc' : H1' c = some (.lst vc) := at1.get hD2 (nb.same _ _ (hid_some hvc).1) (fun e => (hid_some hvc).2 (by rw [e]; exact W.mem))
        have up1 := at1.up W.mem hD2
        refine ⟨rfl, _, rfl, _, rfl, _, rfl, p, c, vc, rfl, at1.wl.wl, SqL.of ((up1.trans at1.wl.sub) _ _ (nb.hid _ _ hvc)), z1 (by omega), (by rw [pc.len]; omega), fun y hy H2 d2 => ?_⟩
        obtain ⟨cl, hcl, q, fl, rfl, hq, _⟩ := pc.mem hy
        have hq2 : H2 q = some (.tup [.str cl.1, .ref fl]) := d2.get (at1.get hD2 (nb.same _ _ (hid_some hq).1) (fun e => (hid_some hq).2 (by rw [e]; exact W.mem))) (fun e => (hid_some hq).2 (by rw [e]; exact W.mem))
        refine ⟨q, _, _, _, rfl, rfl, SqT.of hq2, at_of (j := 0) rfl rfl, sz (by show 3 ≤ 100000; decide), fun t H3 n3 => ?_⟩
        exact kq _ (.new x1 cl.1) H3 (d2.same n3.same) (n3.row ((at1.wl.dr d2).nin n3.free) (.cons rfl (.cons rfl (.cons rfl .nil))) (fun _ _ _ _ e => nomatch e))
          ⟨by simp [isRow, k1]; exact ⟨cl.2, hcl⟩, rfl⟩
      · rintro Hc rs dc ⟨vr, hr6, pr⟩ lr ar
        have Wc := Wb.dr dc
        have hu' : Hc u = some (.lst [.ref t1, .ref t2, .ref t3]) := dc.get (nb.same _ _ na.at) (W9.nw na.free)
        have l5 : vr.length ≤ 1 := by rw [pr.len, lr]; omega
        refine ⟨u, D2, _, _, rfl, rfl, SqL.of hu', SqL.of (hid_some hr6).1, sz (by show 3 + vr.length ≤ 100000; omega), fun v2 Hf nf => ?_⟩
        have yc : Same (hid S Hc) (hid S Hf) := nf.hid
        have yb : Same (hid S Hb) (hid S Hf) := (Wb.up dc).trans yc
        have ya : Same (hid S Ha) (hid S Hf) := nb.hid.trans yb
        have y9 : Same (hid S H9) (hid S Hf) := na.hid.trans ya
        have y8 : Same (hid S H8) (hid S Hf) := n9.hid.trans y9
        have y7 : Same (hid S H7) (hid S Hf) := n8.hid.trans y8
        refine k v2 ([.nil x1, .copy x1 x2, .see x1] ++ rs) Hf ?_ ⟨_, hid_get nf.at (Wc.nin nf.free), (Paired.cons ?_ (.cons ?_ (.cons ?_ .nil))).app (pr.imp fun _ _ r => RwV.mono _ _ _ _ yc r)⟩ ?_ (by simp) ?_
        · exact (((d1.same x17).same nb.same).trans dc).same nf.same
        · exact RwV.mono _ _ _ _ y7 (n7.row (W1.nin n7.free) (.cons rfl (.cons rfl .nil)) (fun _ _ _ _ e => nomatch e))
        · exact RwV.mono _ _ _ _ y8 (n8.row (W7.nin n8.free) (.cons rfl (.cons rfl (.cons rfl .nil))) (fun _ _ _ _ e => nomatch e))
        · exact RwV.mono _ _ _ _ y9 (n9.row (W8.nin n9.free) (.cons rfl (.cons rfl .nil)) (fun _ _ _ _ e => nomatch e))
        · rw [List.length_append]
          show 3 + rs.length ≤ 20
          omega
        · intro r hr
          simp only [List.mem_append, List.mem_cons, List.mem_nil_iff, or_false] at hr
          rcases hr with (rfl | rfl | rfl) | hr
          · exact ⟨by simp [isRow, k1], rfl⟩
          · exact ⟨by simp [isRow, k1, k2], rfl⟩
          · exact ⟨by simp [isRow, k1], rfl⟩
          · obtain ⟨i, hi⟩ := List.getElem?_of_mem hr
            exact ar i r hi
end
end K12

namespace K12
open PySem PySem.Spec PyProof.Rows L2
theorem lists_of {H : Hp} {vf : List V} {fs : List (List Dcl)} (p : Paired (fun v (x : List Dcl) => ∃ b, v = V.ref b ∧ DclsAt H b x) vf fs) :
    ∃ (bs : List Addr) (css : List (List V)), vf = bs.map V.ref ∧ Paired (fun b xs => H b = some (.lst xs)) bs css ∧ Paired (DclV H) css.flatten fs.flatten := by
  induction p with
  | nil => exact ⟨[], [], rfl, .nil, .nil⟩
  | cons r _ ih =>
    obtain ⟨bs, css, e, h1, h2⟩ := ih
    obtain ⟨b, e2, vs, h3, h4⟩ := r
    exact ⟨b :: bs, vs :: css, by rw [e, e2]; rfl, .cons h3 h1, h4.app h2⟩
theorem flat_len {fs : List (List Dcl)} (h : ∀ x ∈ fs, x.length ≤ 4) : fs.flatten.length ≤ 4 * fs.length := by
  induction fs with
  | nil => exact Nat.le_refl _
  | cons x r ih =>
    have h1 := ih fun z m => h z (List.mem_cons_of_mem _ m)
    have h2 := h x List.mem_cons_self
    rw [List.flatten_cons, List.length_append, List.length_cons]
    omega
theorem dprs_of {H : Hp} {vs : List V} {ds : List Dcl} (p : Paired (DclV H) vs ds) : ∃ ks : List Pr, vs = ks.map (fun q => V.ref q.1) ∧ ks.length = ds.length ∧ ∀ q ∈ ks, H q.1 = some (.tup [.str q.2.1, .str q.2.2]) ∧ ∃ d ∈ ds, q.2 = (d.1, kd d.2) := by
  induction p with
  | nil => exact ⟨[], rfl, rfl, fun _ m => nomatch m⟩
  | @cons v d vs ds r _ ih =>
    obtain ⟨ks, e, l, h⟩ := ih
    obtain ⟨a, ea, ha⟩ := r
    refine ⟨(a, d.1, kd d.2) :: ks, by rw [e, ea]; rfl, by rw [List.length_cons, List.length_cons, l], fun q m => ?_⟩
    rcases List.mem_cons.mp m with z | z
    · rw [z]
      exact ⟨ha, d, List.mem_cons_self, rfl⟩
    · obtain ⟨h1, d', h2, h3⟩ := h q z
      exact ⟨h1, d', List.mem_cons_of_mem _ h2, h3⟩
section
variable {P : Program} {w : World} {K : PySem.W.Frag} {mg : Str → Option Value} {base : Heap}
theorem scFieldRows : FnScope ["_law_well_here", "_law_head", "_law_classes_here", "_law_fields", "_law_objects", "_law_field", "_law_kind", "_law_one", "_law_other", "_law_name", "_law_its"] ["_law_well_here", "_law_head", "_law_classes_here"] (defScope sFieldRows) := ⟨rfl, rfl, rfl, by decide +kernel, rfl, by decide +kernel, by decide +kernel⟩
theorem cal_fieldRows (T : Txt mg) (D : Dfn K mg "_law_field_rows" "_law_field_rows" sFieldRows ["_law_well_here", "_law_head", "_law_classes_here"])
    (CN : Cal P w K mg base CX0 1 "_law_named" ["_law_head", "_law_kind"] spNamed) (CP : Cal P w K mg base CX0 3 "_law_pick" ["_law_well_here", "_law_items"] (spPick K)) :
    Cal P w K mg base CX0 4 "_law_field_rows" ["_law_well_here", "_law_head", "_law_classes_here"] spFieldRows := by
  obtain ⟨f, fd, F, m, b⟩ := D
  obtain ⟨f2, fd2, m2, kp2, b2, G2⟩ := CN
  obtain ⟨f3, fd3, m3, kp3, b3, G3⟩ := CP
  refine ⟨f, fd, m, F.kp, b, F.ok scFieldRows (fun vs H Q E h => ?_) (fun cdv A outer s H vs Q E hr h => ?_)⟩
  · obtain ⟨_, _, _, _, _, _, _, _, rfl, _⟩ := h
    rfl
  · obtain ⟨p, a, c, S, cs, hs, h, n, rfl, W, hh, gh, hc, gc, k⟩ := h
    have hr2 : Room 1 _ := hr.mono (by decide)
    have hu := hr.units0
    have hu3 := Nat.lt_of_le_of_lt (Nat.add_le_add_left (by decide : 3 ≤ 64) _) hr.units
    have hu10 := Nat.lt_of_le_of_lt (Nat.add_le_add_left (by decide : 10 ≤ 64) _) hr.units
    refine ⟨_, pss_cons (ps_par (by rfl) scFieldRows.nd (i := 3) (j := 4) rfl rfl (by decide) rfl rfl (pa_cons
          (pe_callB (call_srtN rfl hu10) (by rfl) T.sorted (by decide +kernel) (pa_cons (pe_callTy (call_setN rfl hu3) (by rfl) T.set (by decide +kernel) (pa_cons (pe_callB (call_sumL_ok rfl) (by rfl) T.sum (by decide +kernel)
            (pa_cons (pe_lc (own := [("_law_name", 9), ("_law_its", 10)]) (g := g2 K 9 10) (tt := tYes) rfl scFieldRows.nd (pi_list (pv 2))
              (blkOk_by (N := ["_law_well_here", "_law_head", "_law_classes_here", "_law_fields", "_law_objects", "_law_field", "_law_kind", "_law_one", "_law_other", "_law_name", "_law_its"]) (sc := defScope sFieldRows) (by decide +kernel))
              (fun _ _ _ _ _ => pg_two 9 10 rfl scFieldRows.nd rfl rfl (.inl rfl) (.inl rfl)) (fun _ _ _ _ _ => pts_nil) (fun _ _ _ _ _ => pv 10)) (pa_cons (pe_lstN pa_nil) pa_nil))) pa_nil)) pa_nil))
          (pa_cons (pe_call G2 hr2 (by rfl) m2 kp2 b2 .nil pass0 (pa_cons (pv 1) (pa_cons pe_str pa_nil))) pa_nil)) (by rfl))
      (pss_cons (ps_if (PW.pt (pw_or (pt_cmpR (op_eqNil hu) (pv 3) (pe_lstN pa_nil) (nomark _)) (pw_or1 (pt_cmpR (op_eqNil hu) (pv 4) (pe_lstN pa_nil) (nomark _))))) (pss_one (ps_ret (pe_lstN pa_nil))) pss_nil)
      (pss_cons (ps_asg (pe_call G3 hr (by rfl) m3 kp3 b3 .nil pass0 (pa_cons (pv 0) (pa_cons (pv 3) pa_nil))) (pg_tup rfl (pgs_cons (pg_name (i := 5) scFieldRows.nd rfl (.inl rfl)) (pgs_cons (pg_name (i := 6) scFieldRows.nd rfl (.inl rfl)) pgs_nil))))
      (pss_cons (ps_if (pt_cmpR (op_eqNil hu) (pe_call G2 hr2 (by rfl) m2 kp2 b2 .nil pass0 (pa_cons (pv 1) (pa_cons (pv 6) pa_nil))) (pe_lstN pa_nil) (nomark _)) (pss_one (ps_ret (pe_lstN pa_nil))) pss_nil)
      (pss_cons (ps_par (by rfl) scFieldRows.nd (i := 7) (j := 8) rfl rfl (by decide) rfl rfl (pa_cons (pe_call G3 hr (by rfl) m3 kp3 b3 .nil pass0 (pa_cons (pv 0) (pa_cons (pv 4) pa_nil)))
          (pa_cons (pe_call G3 hr (by rfl) m3 kp3 b3 .nil pass0 (pa_cons (pv 0) (pa_cons (pe_call G2 hr2 (by rfl) m2 kp2 b2 .nil pass0 (pa_cons (pv 1) (pa_cons (pv 6) pa_nil))) pa_nil))) pa_nil)) (by rfl))
      (pss_one (ps_ret (pe_lstN (pa_cons (pe_tupN (pa_cons pe_str (pa_cons (pv 8) (pa_cons (pv 7) (pa_cons (pv 5) pa_nil))))) (pa_cons (pe_tupN (pa_cons pe_str (pa_cons (pv 7) (pa_cons (pv 5) (pa_cons (pv 8) pa_nil))))) pa_nil))))))))), ?_⟩
    obtain ⟨vc, hvc, pc⟩ := id hc
    have cw : c ≠ p := fun e => (hid_some hvc).2 (by rw [e]; exact W.mem)
    refine ⟨_, rfl, c, rfl, ⟨_, SqL.of (hid_some hvc).1⟩, fun D1 hD1 => lc_dr (K := K) (w := p) (S := S) (a := c) (xs := vc) (fun H v (x : List Dcl) => ∃ b, v = V.ref b ∧ DclsAt H b x) (fun i x => ∃ q, cs[i]? = some q ∧ x = q.2) (fun _ _ _ _ s ⟨b, e, q⟩ => ⟨b, e, q.mono s⟩) (by rw [pc.len]; have := gc.le; omega) W hD1 (SqL.of hvc) ?_ ?_⟩
    · rintro i y H1 Qn hi at1 kq
      obtain ⟨cl, hcl, q, fl, rfl, hq, hfl⟩ := pc.get hi
      have up1 := at1.up W.mem hD1
      refine ⟨q, _, rfl, SqT.of (hid_some (up1 _ _ hq)).1, rfl, _, _, rfl, _, _, rfl, rfl, rfl, _, rfl, ?_⟩
      exact kq _ cl.2 H1 (Dr.refl at1.wl.wl) ⟨fl, rfl, hfl.mono up1⟩ ⟨cl, hcl, rfl⟩
    · rintro H1 fs d1 ⟨vf, hf, pf⟩ lf af
      have W1 := W.dr d1
      refine ⟨sz (by show 0 ≤ 100000; decide), fun l0 H2 n2 => ?_⟩
      have W2 := W1.same n2.same
      have lfl : fs.flatten.length ≤ 24 := by
        have h4 : ∀ x ∈ fs, x.length ≤ 4 := fun x hx => by
          obtain ⟨i, hi⟩ := List.getElem?_of_mem hx
          obtain ⟨q, hq, e⟩ := af i x hi
          rw [e]
          exact (gc.each q (ix_mem hq)).le
        have := flat_len h4
        rw [lf, pc.len] at this
        have := gc.le
        omega
      have mfl : ∀ d ∈ fs.flatten, d ∈ flds cs := fun d hd => by
        obtain ⟨x, hx, hdx⟩ := List.mem_flatten.mp hd
        obtain ⟨i, hi⟩ := List.getElem?_of_mem hx
        obtain ⟨q, hq, e⟩ := af i x hi
        rw [e] at hdx
        exact List.mem_flatMap.mpr ⟨q, ix_mem hq, hdx⟩
      have pf2 := pf.imp fun v x (r : ∃ b, v = V.ref b ∧ DclsAt (hid S H1) b x) => (show ∃ b, v = V.ref b ∧ DclsAt (hid S H2) b x from by obtain ⟨b, e, q⟩ := r; exact ⟨b, e, q.mono n2.hid⟩)
      obtain ⟨bs, css, ebs, hbs, pcs⟩ := lists_of pf2
      have lcs : css.flatten.length ≤ 24 := by rw [pcs.len]; exact lfl
      refine ⟨D1, l0, bs, css, rfl, SqL.of (by rw [← ebs]; exact n2.same _ _ (hid_some hf).1), hbs.imp fun _ _ r => (hid_some r).1, n2.at, by omega, fun t H3 _ s3 ht => ?_⟩
      have W3 := W2.same s3
      obtain ⟨ks, eks, lks, hks⟩ := dprs_of pcs
      rw [eks] at ht
      refine ⟨t, ks, rfl, SqL.of ht, fun q hq => SqT.of (s3 _ _ (hid_some (hks q hq).1).1), by omega, fun t2 L H4 n4 hL _ lL => ?_⟩
      have W4 := W3.same n4.same
      have mem4 : ∀ q ∈ L, ∃ f k, q.2 = [f, kd k] ∧ H4 q.1 = some (.tup [.str f, .str (kd k)]) ∧ (f, k) ∈ flds cs ∧ (hid S H2) q.1 = some (.tup [.str f, .str (kd k)]) := fun q hq => by
        obtain ⟨r, hr, e⟩ := hL q hq
        obtain ⟨h1, d, h2, h3⟩ := hks r hr
        obtain ⟨ra, rs⟩ := r
        have e3 : rs = (d.1, kd d.2) := h3
        rw [e3] at h1 e
        rw [e]
        exact ⟨d.1, d.2, rfl, n4.same _ _ (s3 _ _ (hid_some h1).1), mfl d h2, h1⟩
      refine ⟨t2, L, rfl, n4.at, fun q hq => ?_, by omega, fun t3 ys H5 n5 ly hy => ?_⟩
      · obtain ⟨f, k, e, h, _⟩ := mem4 q hq
        exact ⟨f, kd k, e, SqT.of h⟩
      have W5 := W4.same n5.same
      have nt3p : t3 ≠ p := W4.nw n5.free
      have x25 := (s3.trans n4.same).trans n5.same
      have d5 : Dr p H H5 := (d1.same n2.same).same x25
      have hh5 := hh.mono (W.up d5)
      refine ⟨_, rfl, a, h, true, rfl, hh5.mono (hid_sub _ _), gh.len, fun t4 H6 s6 nt4 ht4 => ?_⟩
      have W6 := W5.same s6
      have d6 := d5.same s6
      have nt4p : t4 ≠ p := W5.nw nt4
      refine ⟨_, _, rfl, ?_⟩
      have ret : ∀ {H' : Hp}, Dr p H H' → ∀ v H'', New H' v (.lst []) H'' → Q (.ref v) H'' := fun {H'} d' v H'' n' => k v [] H'' (d'.same n'.same) ⟨[], hid_get n'.at ((W.dr d').nin n'.free), .nil⟩ (by decide) fun _ m => nomatch m
      refine ⟨_, rfl, sz (by show 0 ≤ 100000; decide), fun l1 H7 n7 => ?_⟩
      have d7 := d6.same n7.same
      refine ⟨t3, l1, ys, rfl, rfl, SqL.of (n7.same _ _ (s6 _ _ n5.at)), SqL.of n7.at, _, rfl, ?_⟩
      refine ite2 (fun e1 => ?_) (fun e1 => ?_)
      · exact iteT ⟨sz (by show 0 ≤ 100000; decide), fun v H' n' => ret d7 v H' n'⟩
      refine ⟨_, rfl, sz (by show 0 ≤ 100000; decide), fun l2 H8 n8 => ?_⟩
      have d8 := d7.same n8.same
      refine ⟨t4, l2, _, rfl, rfl, SqL.of (n8.same _ _ (n7.same _ _ ht4)), SqL.of n8.at, _, rfl, ?_⟩
      refine ite2 (fun e2 => ?_) (fun e2 => ?_)
      · exact ⟨sz (by show 0 ≤ 100000; decide), fun v H' n' => ret d8 v H' n'⟩
      have W8 := W.dr d8
      have x58 := (s6.trans n7.same).trans n8.same
      refine ⟨_, rfl, _, rfl, p, t3, ys, rfl, W8.wl, SqL.of (hid_get (x58 _ _ n5.at) (by simpa using nt3p)), (fun z => by rw [z] at e1; exact e1 rfl), by omega, fun y hy9 H9 d9 => ?_⟩
      obtain ⟨q, hq, rfl⟩ := hy y hy9
      obtain ⟨fl, kk, _, hq4, mfk, hq2⟩ := mem4 q hq
      have nqp : q.1 ≠ p := fun e => (hid_some hq2).2 (by rw [e]; exact W.mem)
      have hq9 : H9 q.1 = some (.tup [.str fl, .str (kd kk)]) := d9.get (x58 _ _ (n5.same _ _ hq4)) nqp
      have dd9 := d8.trans d9
      have W9 := W.dr dd9
      refine ⟨q.1, _, rfl, SqT.of hq9, rfl, _, _, rfl, _, _, rfl, rfl, ?_⟩
      have hh9 := (hh.mono (W.up dd9)).mono (hid_sub _ _)
      refine ⟨_, rfl, _, rfl, a, h, kk, rfl, hh9, gh.len, fun t5 Ha sa nt5 ht5 => ?_⟩
      have dda := dd9.same sa
      refine ⟨sz (by show 0 ≤ 100000; decide), fun l3 Hb nb => ?_⟩
      have ddb := dda.same nb.same
      refine ⟨t5, l3, _, rfl, rfl, SqL.of (nb.same _ _ ht5), SqL.of nb.at, _, rfl, ?_⟩
      refine ite2 (fun e3 => ?_) (fun e3 => ?_)
      · exact ⟨sz (by show 0 ≤ 100000; decide), fun v H' n' => ret ddb v H' n'⟩
      have Wb := W.dr ddb
      have ht4b : Hb t4 = some (.lst ((namesOf h true).map V.str)) := nb.same _ _ (sa _ _ (d9.get (n8.same _ _ (n7.same _ _ ht4)) nt4p))
      have ln : ∀ b, (List.map V.str (namesOf h b)).length ≤ 100 := fun b => by rw [List.length_map]; exact Nat.le_trans names_len gh.len
      refine ⟨_, rfl, _, rfl, p, t4, _, rfl, Wb.wl, SqL.of (hid_get ht4b (by simpa using nt4p)), (fun z => by rw [z] at e2; exact e2 rfl), by have := ln true; omega, fun z1 hz1 Hc dc => ?_⟩
      obtain ⟨x1, rfl, hx1⟩ := str_mem hz1
      have ddc := ddb.trans dc
      have Wc := W.dr ddc
      refine ⟨_, rfl, _, rfl, _, rfl, a, h, kk, rfl, (hh.mono (W.up ddc)).mono (hid_sub _ _), gh.len, fun t6 Hd sd nt6 ht6 => ?_⟩
      have ddd := ddc.same sd
      have Wd := W.dr ddd
      refine ⟨p, t6, _, rfl, Wd.wl, SqL.of (hid_get ht6 (by simpa using Wc.nw nt6)), (fun z => by rw [z] at e3; exact e3 rfl), by have := ln kk; omega, fun z2 hz2 He de => ?_⟩
      obtain ⟨x2, rfl, hx2⟩ := str_mem hz2
      have dde := ddd.trans de
      have We := W.dr dde
      refine ⟨_, _, rfl, ?_⟩
      refine ⟨_, rfl, _, rfl, _, rfl, sz (by show 4 ≤ 100000; decide), fun r1 Hf nf => ⟨_, rfl, _, rfl, _, rfl, sz (by show 4 ≤ 100000; decide), fun r2 Hg ng => ⟨sz (by show 2 ≤ 100000; decide), fun u Hh nh => ?_⟩⟩⟩
      have Wf := We.same nf.same
      have Wg := Wf.same ng.same
      have lk := fld_look gc mfk
      have kx1 := names_kind gh.nd hx1
      have kx2 := names_kind gh.nd hx2
      refine k u [.get x2 x1 fl, .put x1 fl x2] Hh (dde.same ((nf.same.trans ng.same).trans nh.same)) ⟨_, hid_get nh.at (Wg.nin nh.free), .cons ?_ (.one ?_)⟩ (by show 2 ≤ 20; decide) fun r hr => ?_
      · exact RwV.mono _ _ _ _ (ng.hid.trans nh.hid) (nf.row (We.nin nf.free) (.cons rfl (.cons rfl (.cons rfl (.cons rfl .nil)))) (fun _ _ _ _ e => nomatch e))
      · exact RwV.mono _ _ _ _ nh.hid (ng.row (Wf.nin ng.free) (.cons rfl (.cons rfl (.cons rfl (.cons rfl .nil)))) (fun _ _ _ _ e => nomatch e))
      · simp only [List.mem_cons, List.mem_nil_iff, or_false] at hr
        rcases hr with rfl | rfl
        · exact ⟨by simp [isRow, kx1, kx2, lk], rfl⟩
        · exact ⟨by simp [isRow, kx1, kx2, lk], rfl⟩
end
end K12

namespace K12
open PySem PySem.Spec PyProof.Rows L2
theorem paired_map {α β γ : Type} {R : α → β → Prop} {f : β → γ} : ∀ {xs : List α} {ys : List β}, Paired R xs ys → Paired (fun x z => ∃ y, R x y ∧ f y = z) xs (ys.map f)
  | _, _, .nil => .nil
  | _, _, .cons r t => .cons ⟨_, r, rfl⟩ (paired_map t)
theorem kds_of {H : Hp} {vs : List V} {bs : List Bool} (p : Paired (KdV H) vs bs) : vs = bs.map fun b => V.str (kd b) := Paired.toMap p
section
variable {P : Program} {w : World} {K : PySem.W.Frag} {mg : Str → Option Value} {base : Heap}
theorem scCallRows : FnScope ["_law_well_here", "_law_head", "_law_heads_here", "_law_called", "_law_sorts_so", "_law_some_here", "_law_kind", "_law_name"] ["_law_well_here", "_law_head", "_law_heads_here"] (defScope sCallRows) := ⟨rfl, rfl, rfl, by decide +kernel, rfl, by decide +kernel, by decide +kernel⟩
theorem cal_callRows (T : Txt mg) (D : Dfn K mg "_law_call_rows" "_law_call_rows" sCallRows ["_law_well_here", "_law_head", "_law_heads_here"])
    (CN : Cal P w K mg base CX0 1 "_law_named" ["_law_head", "_law_kind"] spNamed) (CP : Cal P w K mg base CX0 3 "_law_pick" ["_law_well_here", "_law_items"] (spPick K)) :
    Cal P w K mg base CX0 4 "_law_call_rows" ["_law_well_here", "_law_head", "_law_heads_here"] spCallRows := by
  obtain ⟨f, fd, F, m, b⟩ := D
  obtain ⟨f2, fd2, m2, kp2, b2, G2⟩ := CN
  obtain ⟨f3, fd3, m3, kp3, b3, G3⟩ := CP
  refine ⟨f, fd, m, F.kp, b, F.ok scCallRows (fun vs H Q E h => ?_) (fun cdv A outer s H vs Q E hr h => ?_)⟩
  · obtain ⟨_, _, _, _, _, _, _, _, rfl, _⟩ := h
    rfl
  · obtain ⟨p, a, c, S, cs, hs, h, n, rfl, W, hh, gh, hc, gc, k⟩ := h
    have hr2 : Room 1 _ := hr.mono (by decide)
    have hu := hr.units0
    refine ⟨_, pss_cons (ps_set (i := 3) scCallRows.nd rfl (.inl rfl) (pe_call G3 hr (by rfl) m3 kp3 b3 .nil pass0 (pa_cons (pv 0) (pa_cons (pv 2) pa_nil))))
      (pss_cons (ps_set (i := 4) scCallRows.nd rfl (.inl rfl) (pe_op op_catN (pe_lc (own := [("_law_name", 7), ("_law_kind", 6)]) (g := g2 K 7 6) (tt := tYes) rfl scCallRows.nd (pi_list (pe_ix ix_tup (pv 3) pe_int (fun _ _ => rfl)))
              (blkOk_by (N := ["_law_well_here", "_law_head", "_law_heads_here", "_law_called", "_law_sorts_so", "_law_some_here", "_law_kind", "_law_name"]) (sc := defScope sCallRows) (by decide +kernel))
              (fun _ _ _ _ _ => pg_two 7 6 rfl scCallRows.nd rfl rfl (.inl rfl) (.inl rfl)) (fun _ _ _ _ _ => pts_nil) (fun _ _ _ _ _ => pv 6))
            (pe_lstN (pa_cons (pe_ix ix_tup (pv 3) pe_int (fun _ _ => rfl)) pa_nil))))
      (pss_cons (ps_if (pt_cmpR (op_neNil hu) (pe_lc (own := [("_law_kind", 6)]) (g := gName 6) rfl scCallRows.nd (pi_list (pv 4))
              (blkOk_by (N := ["_law_well_here", "_law_head", "_law_heads_here", "_law_called", "_law_sorts_so", "_law_some_here", "_law_kind", "_law_name"]) (sc := defScope sCallRows) (by decide +kernel))
              (fun _ _ _ _ _ => pg_name (i := 6) scCallRows.nd rfl (.inl rfl)) (fun _ _ _ _ _ => pts_one (pt_cmpR (r := rEqNil K) (op_eqNil hu) (pe_call G2 hr2 (by rfl) m2 kp2 b2 .nil pass0 (pa_cons (pv 1) (pa_cons (pv 6) pa_nil))) (pe_lstN pa_nil) (nomark _)))
              (fun _ _ _ _ _ => pe_int)) (pe_lstN pa_nil) (nomark _)) (pss_one (ps_ret (pe_lstN pa_nil))) pss_nil)
      (pss_cons (ps_setLc (i := 5) (own := [("_law_kind", 6)]) (g := gName 6) (tt := tYes) rfl scCallRows.nd rfl rfl (sw_true rfl rfl rfl (by decide +kernel)) (pi_list (pv 4))
              (blkOk_by (N := ["_law_well_here", "_law_head", "_law_heads_here", "_law_called", "_law_sorts_so", "_law_some_here", "_law_kind", "_law_name"]) (sc := defScope sCallRows) (by decide +kernel))
              (fun _ _ _ _ _ => pg_name (i := 6) scCallRows.nd rfl (.inl rfl)) (fun _ _ _ _ _ => pts_nil)
              (fun _ _ _ _ _ => pe_call G3 hr (by rfl) m3 kp3 b3 .nil pass0 (pa_cons (pv 0) (pa_cons (pe_call G2 hr2 (by rfl) m2 kp2 b2 .nil pass0 (pa_cons (pv 1) (pa_cons (pv 6) pa_nil))) pa_nil))))
      (pss_one (ps_ret (pe_lstN (pa_cons (pe_tupN (pa_cons pe_str (pa_cons (pe_ix ix_list (pv 5) (pe_un un_neg pe_int) (fun _ _ => rfl)) (pa_cons (pe_ix ix_tup (pv 3) pe_int (fun _ _ => rfl))
          (pa_cons (pe_slice sl_listN (pv 5) po_none (po_some (pe_un un_neg pe_int))) pa_nil))))) pa_nil))))))), ?_⟩
    obtain ⟨vc, hvc, pc⟩ := id hc
    have cw : c ≠ p := fun e => (hid_some hvc).2 (by rw [e]; exact W.mem)
    have l6 : vc.length ≤ 6 := by rw [pc.len]; exact gc.le
    refine ⟨_, rfl, _, rfl, p, c, vc, rfl, W.wl, SqL.of (W.sub _ _ hvc), (fun z => gc.ne (pc.none_iff.mp z)), by omega, fun x hx H1 d1 => ?_⟩
    obtain ⟨g, hg, q, rfl, i, o, hq, hi, ho⟩ := pc.mem hx
    have gg := gc.each g hg
    have W1 := W.dr d1
    have x01 := W.up d1
    have hq1 := x01 _ _ hq
    obtain ⟨vi, hvi, pi⟩ := hi.mono x01
    have li : vi.length ≤ 4 := by rw [pi.len]; exact gg.li
    refine ⟨_, rfl, q, _, _, _, rfl, rfl, SqT.of (hid_some hq1).1, at_of (j := 1) rfl rfl, i, rfl, ⟨_, SqL.of (hid_some hvi).1⟩, fun D1 hD1 => lc_dr (K := K) (w := p) (S := S) (a := i) (xs := vi) KdV (fun j b => (g.ins.map (·.2))[j]? = some b) KdV.mono (by omega) W1 hD1 (SqL.of hvi) ?_ ?_⟩
    · rintro j y H2 Qn hj at2 kq
      obtain ⟨d, hd, qd, rfl, hqd⟩ := pi.get hj
      refine ⟨qd, _, rfl, SqT.of (hid_some (at2.up W1.mem hD1 _ _ hqd)).1, rfl, _, _, rfl, _, _, rfl, rfl, rfl, _, rfl, ?_⟩
      exact kq _ d.2 H2 (Dr.refl at2.wl.wl) rfl (by rw [List.getElem?_map, hd]; rfl)
    · rintro H2 ks d2 ⟨vk, hvk, pk⟩ lk ak
      have ek : ks = g.ins.map (·.2) := by
        refine List.ext_getElem? fun j => ?_
        cases e : ks[j]? with
        | some b => exact (ak j b e).symm
        | none =>
          have := List.getElem?_eq_none_iff.mp e
          refine (List.getElem?_eq_none_iff.mpr ?_).symm
          rw [List.length_map, ← pi.len, ← lk]
          exact this
      have evk := kds_of pk
      subst evk ek
      have W2 := W1.dr d2
      have hq2 := W1.up d2 _ _ hq1
      refine ⟨_, rfl, q, _, _, _, rfl, rfl, SqT.of (hid_some hq2).1, at_of (j := 3) rfl rfl, sz (by show 1 ≤ 100000; decide), fun l1 H3 n3 => ?_⟩
      have W3 := W2.same n3.same
      refine ⟨D1, l1, _, _, rfl, rfl, SqL.of (n3.same _ _ (hid_some hvk).1), SqL.of n3.at, sz (by rw [List.length_map, List.length_map, ← pi.len]; show vi.length + 1 ≤ 100000; omega), fun l2 H4 n4 => ?_⟩
      have W4 := W3.same n4.same
      have dd4 : Dr p H H4 := ((d1.trans d2).same n3.same).same n4.same
      have hl2 := n4.at
      rw [show List.map (fun b => V.str (kd b)) (List.map (fun x : Dcl => x.2) g.ins) ++ [V.str (kd g.res)] = (g.ins.map (·.2) ++ [g.res]).map (fun b => V.str (kd b)) by rw [List.map_append]; rfl] at hl2
      have n2p : l2 ≠ p := W3.nw n4.free
      have lks : (g.ins.map (·.2) ++ [g.res]).length ≤ 5 := by
        have := gg.li
        rw [List.length_append, List.length_map]
        show _ + 1 ≤ 5
        omega
      revert hl2 lks
      generalize ekk : g.ins.map (·.2) ++ [g.res] = ks
      intro hl2 lks
      have hh4 := hh.mono (W.up dd4)
      have lmk : (ks.map (fun b => V.str (kd b))).length ≤ 5 := by rw [List.length_map]; exact lks
      refine ⟨_, rfl, l2, rfl, ⟨_, SqL.of hl2⟩, fun D2 hD2 => lc_map (K := K) (a := l2) (xs := ks.map (fun b => V.str (kd b))) (fun i ys H5 => Wl p S H5 ∧ Sm [D2, p] H4 H5 ∧ (ys = [] → ∀ j b, j < i → ks[j]? = some b → namesOf h b ≠ [])) (by omega) hD2
        (fun H' n => ⟨W4.same n.same, n.sm, fun _ j b hj => absurd hj (Nat.not_lt_zero _)⟩) (fun i ys H' _ _ I => SqL.of (I.2.1.get hl2 (by
          have := ne_of_none hl2 hD2
          simpa using ⟨this, n2p⟩))) ?_ ?_⟩
      · rintro j y ys H5 hj hD5 lys ⟨W5, s5, I⟩
        obtain ⟨b, hb, rfl⟩ := map_ix hj
        have x45 : Same (hid S H4) H5 := fun u o e => s5.get (hid_some e).1 (by
          have h1 := ne_of_none (hid_some e).1 hD2
          have h2 : u ≠ p := fun z => (hid_some e).2 (by rw [z]; exact W.mem)
          simpa using ⟨h1, h2⟩)
        refine ⟨rfl, _, rfl, _, rfl, a, h, b, rfl, hh4.mono x45, gh.len, fun t H6 s6 nt ht => ?_⟩
        refine ⟨sz (by show 0 ≤ 100000; decide), fun l3 H7 n7 => ?_⟩
        have s67 := s6.trans n7.same
        refine ⟨t, l3, _, rfl, rfl, SqL.of (n7.same _ _ ht), SqL.of n7.at, _, rfl, ?_⟩
        refine ite2 (fun e1 => ?_) (fun e1 => ?_)
        · refine ⟨ys, s67 _ _ hD5, lys, fun H8 p8 => ⟨(W5.same s67).put p8 (W4.nw hD2), (s5.trans (Sm.of s67)).trans (p8.sm List.mem_cons_self), fun z => absurd z (by simp)⟩⟩
        · refine ⟨ys, s67 _ _ hD5, Nat.le_succ_of_le lys, W5.same s67, s5.trans (Sm.of s67), fun z i b' hi hb' => ?_⟩
          by_cases c : i < j
          · exact I z i b' c hb'
          · have : i = j := by omega
            subst this
            rw [hb] at hb'
            cases hb'
            intro z2
            rw [z2] at e1
            exact e1 rfl
      · rintro ys H5 hD5 lys ⟨W5, s5, I⟩
        have d5 : Dr p H4 H5 := ⟨s5.drop hD2, W5.wl⟩
        have dd5 := dd4.trans d5
        refine ⟨sz (by show 0 ≤ 100000; decide), fun l3 H6 n6 => ?_⟩
        have W6 := W5.same n6.same
        have dd6 := dd5.same n6.same
        refine ⟨D2, l3, _, rfl, rfl, SqL.of (n6.same _ _ hD5), SqL.of n6.at, _, rfl, ?_⟩
        refine ite2 (fun e1 => ?_) (fun e1 => ?_)
        · exact ⟨sz (by show 0 ≤ 100000; decide), fun v H' n' => k v [] H' (dd6.same n'.same) ⟨[], hid_get n'.at (W6.nin n'.free), .nil⟩ (by decide) fun _ m => nomatch m⟩
        have all : ∀ j b, ks[j]? = some b → namesOf h b ≠ [] := fun j b hj => by
          have lj := ix_lt hj
          refine I ?_ j b (by rw [List.length_map]; exact lj) hj
          cases ys with
          | nil => rfl
          | cons x r => exact absurd rfl e1
        have hl6 : H6 l2 = some (.lst (ks.map (fun b => V.str (kd b)))) := n6.same _ _ (d5.get hl2 n2p)
        have hh6 := hh.mono (W.up dd6)
        refine ⟨_, rfl, l2, rfl, ⟨_, SqL.of hl6⟩, fun D3 hD3 => lc_dr (K := K) (w := p) (S := S) (a := l2) (xs := ks.map (fun b => V.str (kd b))) StrV (fun j x => ∃ b, ks[j]? = some b ∧ x ∈ namesOf h b) StrV.mono (by omega) W6 hD3 (SqL.of (hid_get hl6 (W3.nin n4.free))) ?_ ?_⟩
        · rintro j y H7 Qn hj at7 kq
          obtain ⟨b, hb, rfl⟩ := map_ix hj
          have hh7 := hh6.mono (at7.up W.mem hD3)
          refine ⟨rfl, _, rfl, _, rfl, _, rfl, a, h, b, rfl, hh7.mono (hid_sub _ _), gh.len, fun t H8 s8 nt ht => ?_⟩
          have W8 := at7.wl.same s8
          refine ⟨p, t, _, rfl, W8.wl, SqL.of (hid_get ht (by simpa using at7.wl.nw nt)), (by simpa using all j b hb), by rw [List.length_map]; have := names_len (h := h) (b := b); have := gh.len; omega, fun z hz H9 d9 => ?_⟩
          obtain ⟨x, rfl, hx⟩ := str_mem hz
          exact kq _ x H9 ((Dr.of at7.wl.wl s8).trans d9) rfl ⟨b, hb, hx⟩
        · rintro H7 ns d7 ⟨vn, hvn, pn⟩ ln an
          have en := strs_of pn
          subst en
          have W7 := W6.dr d7
          have dd7 := dd6.trans d7
          rw [List.length_map] at ln
          -- the last is the result
          obtain ⟨as, r, rfl⟩ : ∃ as r, ns = as ++ [r] := by
            have : ns ≠ [] := fun z => by
              rw [z, ← ekk, List.length_append] at ln
              simp at ln
            exact ⟨_, _, (List.dropLast_concat_getLast this).symm⟩
          have las : as.length = g.ins.length := by
            rw [← ekk, List.length_append, List.length_append, List.length_map] at ln
            simpa using ln
          have ha : as.map h.kind = g.ins.map fun d => some d.2 := by
            refine List.ext_getElem? fun j => ?_
            rw [List.getElem?_map, List.getElem?_map]
            by_cases c : j < as.length
            · obtain ⟨b, hb, hx⟩ := an j as[j] (by rw [List.getElem?_append_left c]; exact List.getElem?_eq_getElem c)
              rw [← ekk, List.getElem?_append_left (by rw [List.length_map]; omega), List.getElem?_map] at hb
              rw [List.getElem?_eq_getElem c]
              cases e : g.ins[j]? with
              | none => rw [e] at hb; cases hb
              | some d =>
                rw [e] at hb
                have hb : d.2 = b := Option.some.inj hb
                show some (h.kind as[j]) = some (some d.2)
                rw [names_kind gh.nd hx, hb]
            · rw [List.getElem?_eq_none_iff.mpr (by omega), List.getElem?_eq_none_iff.mpr (by omega)]
              rfl
          have hrk : h.kind r = some g.res := by
            obtain ⟨b, hb, hx⟩ := an as.length r (by simp)
            rw [← ekk, List.getElem?_append_right (by rw [List.length_map]; omega), List.length_map, las, Nat.sub_self] at hb
            cases hb
            exact names_kind gh.nd hx
          have hvn7 := (hid_some hvn).1
          rw [List.map_append] at hvn7
          have hq7 : H7 q = some (.tup [.str g.name, .ref i, .ref o, .str (kd g.res)]) := (hid_some (W.up dd7 _ _ hq)).1
          refine ⟨_, rfl, _, rfl, D3, _, _, _, rfl, rfl, SqL.of hvn7, atI_last _ _, _, rfl, q, _, _, _, rfl, rfl, SqT.of hq7, at_of (j := 0) rfl rfl, _, rfl, _, rfl, _, rfl, D3, _, rfl, SqL.of hvn7, fun u1 H8 n8 => ?_⟩
          have e8 : cutV (as.map V.str ++ [r].map V.str) none (some (-1)) = as.map V.str := cut_init
          rw [e8] at n8
          have W8 := W7.same n8.same
          refine ⟨sz (by show 4 ≤ 100000; decide), fun t H9 n9 => ⟨sz (by show 1 ≤ 100000; decide), fun u Ha na => ?_⟩⟩
          have W9 := W8.same n9.same
          refine k u [.call r g.name as] Ha (((dd7.same n8.same).same n9.same).same na.same) ⟨_, hid_get na.at (W9.nin na.free), .one (RwV.mono _ _ _ _ na.hid (n9.row (W8.nin n9.free) (.cons rfl (.cons rfl (.cons rfl (.one ⟨u1, rfl, (by rw [las]; have := gg.li; omega), n9.hid _ _ (hid_get n8.at (W7.nin n8.free))⟩)))) (fun _ _ _ _ e => nomatch e)))⟩ (by show 1 ≤ 20; decide) fun x hx => ?_
          rw [List.mem_singleton.mp hx]
          exact ⟨by simp [isRow, called_one gc.nd hg, ha, hrk], rfl⟩
end
end K12

namespace K12
open PySem PySem.Spec PyProof.Rows L2
/-- what follows a statement is told by a word of its own -/
def tCut (t : TS) : TS := fun D σ H => ∃ Pv : L2.St → Hp → Prop, t { D with nx := Pv } σ H ∧ ∀ σ' H', Pv σ' H' → D.nx σ' H'
theorem ps_cut {X : Cx} {st : Stmt} {t : TS} (h : PS X st t) : PS X st (tCut t) := by
  refine ⟨fun pins s σ H D I ⟨Pv, q, z⟩ => thn (h.run pins s σ H _ I q) fun f s1 hsp => ?_⟩
  cases f with
  | next =>
    obtain ⟨σ', H', I', p⟩ := hsp
    exact ⟨σ', H', I', z _ _ p⟩
  | brk => exact hsp
  | cont => exact hsp
  | ret u => exact hsp
/-- a list of one's own at l, by its items; they do not rest on the list itself -/
def Own {α : Type} (R : Hp → V → α → Prop) (S : List Addr) (H : Hp) (l : Addr) (rs : List α) : Prop := ∃ vs, H l = some (.lst vs) ∧ Paired (R (hid (l :: S) H)) vs rs
theorem Own.ls {α : Type} {R : Hp → V → α → Prop} {S : List Addr} {H : Hp} {l : Addr} {rs : List α} (m : Mono R) (o : Own R S H l rs) (h : l ∉ S) : LsAt R (hid S H) l rs := by
  obtain ⟨vs, h1, h2⟩ := o
  exact ⟨vs, hid_get h1 h, h2.imp fun _ _ r => m _ _ _ _ (hid_less H (less1 S l)) r⟩
theorem Own.new {α : Type} {R : Hp → V → α → Prop} {S : List Addr} {H H' : Hp} {l : Addr} {vs : List V} {rs : List α} (m : Mono R) (n : New H l (.lst vs) H') (p : Paired (R (hid S H)) vs rs) : Own R S H' l rs := ⟨vs, n.at, p.imp fun _ _ r => m _ _ _ _ n.hid1 r⟩
theorem Own.dr {α : Type} {R : Hp → V → α → Prop} {S : List Addr} {H H' : Hp} {l w : Addr} {rs : List α} (m : Mono R) (o : Own R S H l rs) (h : l ≠ w) (c : w ∈ S) (d : Dr w H H') : Own R S H' l rs := by
  obtain ⟨vs, h1, h2⟩ := o
  refine ⟨vs, d.get h1 h, h2.imp fun _ _ r => m _ _ _ _ (Sm.more d.sm fun a q => ?_) r⟩
  rw [List.mem_singleton.mp q]
  exact List.mem_cons_of_mem _ c
theorem Own.put {α : Type} {R : Hp → V → α → Prop} {S : List Addr} {H H' : Hp} {l : Addr} {vs : List V} {y : V} {rs : List α} {r : α} (m : Mono R) (p : Paired (R (hid (l :: S) H)) vs rs) (q : R (hid (l :: S) H) y r) (n : Put H l (.lst (vs ++ [y])) H') : Own R S H' l (rs ++ [r]) :=
  ⟨_, n.at, (p.imp fun _ _ x => m _ _ _ _ (n.hid List.mem_cons_self) x).app (.one (m _ _ _ _ (n.hid List.mem_cons_self) q))⟩
theorem Dr.putOwn {w p : Addr} {H H' H2 : Hp} {o : HO} (d : Dr w H H') (h : H p = Option.none) (c : p ≠ w) (n : Put H' p o H2) : Dr w H H2 := by
  rw [n.eq]
  exact d.own h c
theorem strs_mono {H H' : Hp} {a : Addr} {xs : List Str} (h : LsAt StrV H a xs) (s : Same H H') : LsAt StrV H' a xs := LsAt.mono StrV.mono s h
/-- what follows an expression is told by a word of its own -/
def tCutE (t : TE) : TE := fun σ H Q => ∃ Qn : V → Hp → Prop, t σ H Qn ∧ ∀ v H', Qn v H' → Q v H'
theorem pe_cut {X : Cx} {e : PySem.Expr} {t : TE} (h : PE X e t) : PE X e (tCutE t) := by
  refine ⟨fun pins s σ H Q I ⟨Qn, q, z⟩ => thn (h.run pins s σ H _ I q) fun u s1 hsp => ?_⟩
  obtain ⟨v, H', I', r, p⟩ := hsp
  exact ⟨v, H', I', r, z _ _ p⟩
end K12

namespace K12
open PySem PySem.Spec PyProof.Rows L2
abbrev sRows : Stmt := topS 50
abbrev sRightRows : Stmt := topS 57
def spRightRows : Sp := fun vs H Q _ => ∃ (w a c d : Addr) (S : List Addr) (cs : List Cl) (hs : List Hd) (h : Hd) (n : Nat), vs = [.ref w, .ref a, .ref c, .ref d, .int n] ∧ Wl w S H ∧ HdAt (hid S H) a h ∧ GoodHd h ∧ HdsAt (hid S H) c hs ∧ GoodHds hs ∧ ClsAt (hid S H) d cs ∧ GoodCls cs ∧ 1 ≤ n ∧ n ≤ 1000 ∧
  ∀ q rs H', Dr w H H' → RwsAt (hid S H') q rs → rs.length ≤ 100 → (∀ r ∈ rs, RightRw cs hs h n r) → Q (.ref q) H'
/-- what is needed of the row's four makers -/
structure Makers (P : Program) (w : World) (K : PySem.W.Frag) (mg : Str → Option Value) (base : Heap) : Prop where
  nm : Cal P w K mg base CX0 1 "_law_named" ["_law_head", "_law_kind"] spNamed
  dw : Cal P w K mg base CX0 2 "_law_draw" ["_law_well_here", "_law_many"] spDraw
  pk : Cal P w K mg base CX0 3 "_law_pick" ["_law_well_here", "_law_items"] (spPick K)
  nr : Cal P w K mg base CX0 4 "_law_number_rows" ["_law_well_here", "_law_names", "_law_many"] spNumberRows
  ob : Cal P w K mg base CX0 4 "_law_object_rows" ["_law_well_here", "_law_names", "_law_classes_here"] spObjectRows
  fr : Cal P w K mg base CX0 4 "_law_field_rows" ["_law_well_here", "_law_head", "_law_classes_here"] spFieldRows
  cr : Cal P w K mg base CX0 4 "_law_call_rows" ["_law_well_here", "_law_head", "_law_heads_here"] spCallRows
section
variable {P : Program} {w : World} {K : PySem.W.Frag} {mg : Str → Option Value} {base : Heap}
theorem scRightRows : FnScope ["_law_well_here", "_law_head", "_law_heads_here", "_law_classes_here", "_law_many", "_law_numbers", "_law_objects", "_law_rows_here"] ["_law_well_here", "_law_head", "_law_heads_here", "_law_classes_here", "_law_many"] (defScope sRightRows) := ⟨rfl, rfl, rfl, by decide +kernel, rfl, by decide +kernel, by decide +kernel⟩
theorem cal_rightRows (T : Txt mg) (D : Dfn K mg "_law_right_rows" "_law_right_rows" sRightRows ["_law_well_here", "_law_head", "_law_heads_here", "_law_classes_here", "_law_many"]) (M : Makers P w K mg base) :
    Cal P w K mg base CX0 5 "_law_right_rows" ["_law_well_here", "_law_head", "_law_heads_here", "_law_classes_here", "_law_many"] spRightRows := by
  obtain ⟨f, fd, F, m, b⟩ := D
  obtain ⟨f2, fd2, m2, kp2, b2, G2⟩ := M.nm
  obtain ⟨f3, fd3, m3, kp3, b3, G3⟩ := M.pk
  obtain ⟨f4, fd4, m4, kp4, b4, G4⟩ := M.nr
  obtain ⟨f5, fd5, m5, kp5, b5, G5⟩ := M.ob
  obtain ⟨f6, fd6, m6, kp6, b6, G6⟩ := M.fr
  obtain ⟨f7, fd7, m7, kp7, b7, G7⟩ := M.cr
  refine ⟨f, fd, m, F.kp, b, F.ok scRightRows (fun vs H Q E h => ?_) (fun cdv A outer s H vs Q E hr h => ?_)⟩
  · obtain ⟨_, _, _, _, _, _, _, _, _, rfl, _⟩ := h
    rfl
  · obtain ⟨p, a, c, d, S, cs, hs, h, n, rfl, W, hh, gh, hhs, ghs, hcs, gcs, n1, n9, k⟩ := h
    have hr1 : Room 1 _ := hr.mono (by decide)
    have hr3 : Room 3 _ := hr.mono (by decide)
    have hu := hr.units0
    refine ⟨_, pss_cons (ps_par (by rfl) scRightRows.nd (i := 5) (j := 6) rfl rfl (by decide) rfl rfl (pa_cons (pe_call G2 hr1 (by rfl) m2 kp2 b2 .nil pass0 (pa_cons (pv 1) (pa_cons pe_str pa_nil)))
          (pa_cons (pe_call G2 hr1 (by rfl) m2 kp2 b2 .nil pass0 (pa_cons (pv 1) (pa_cons pe_str pa_nil))) pa_nil)) (by rfl))
      (pss_cons (ps_set (i := 7) scRightRows.nd rfl (.inl rfl) (pe_op op_catN (pe_call G7 hr (by rfl) m7 kp7 b7 .nil pass0 (pa_cons (pv 0) (pa_cons (pv 1) (pa_cons (pv 2) pa_nil)))) (pe_call G6 hr (by rfl) m6 kp6 b6 .nil pass0 (pa_cons (pv 0) (pa_cons (pv 1) (pa_cons (pv 3) pa_nil))))))
      (pss_cons (ps_cut (ps_if (pt_cmpR (op_neNil hu) (pv 5) (pe_lstN pa_nil) (nomark _)) (pss_one (ps_set (i := 7) scRightRows.nd rfl (.inl rfl) (pe_op op_catN (pv 7) (pe_call G4 hr (by rfl) m4 kp4 b4 .nil pass0 (pa_cons (pv 0) (pa_cons (pv 5) (pa_cons (pv 4) pa_nil))))))) pss_nil))
      (pss_cons (ps_cut (ps_if (pt_cmpR (op_neNil hu) (pv 6) (pe_lstN pa_nil) (nomark _)) (pss_one (ps_set (i := 7) scRightRows.nd rfl (.inl rfl) (pe_op op_catN (pv 7) (pe_call G5 hr (by rfl) m5 kp5 b5 .nil pass0 (pa_cons (pv 0) (pa_cons (pv 6) (pa_cons (pv 3) pa_nil))))))) pss_nil))
      (pss_cons (ps_cut (ps_if (PW.pt (pw_and (pt_cmpR (op_neNil hu) (pv 5) (pe_lstN pa_nil) (nomark _)) (pw_and1 (pt_cmpR (op_neNil hu) (pv 6) (pe_lstN pa_nil) (nomark _)))))
          (pss_one (ps_expr (pe_bm PySem.F.plainAttrs_list PySem.F.slot_list_append PySem.F.type_list_append mt_appN (pv 7) (pa_cons
            (pe_tupN (pa_cons pe_str (pa_cons (pe_call G3 hr3 (by rfl) m3 kp3 b3 .nil pass0 (pa_cons (pv 0) (pa_cons (pv 5) pa_nil))) (pa_cons (pe_call G3 hr3 (by rfl) m3 kp3 b3 .nil pass0 (pa_cons (pv 0) (pa_cons (pv 6) pa_nil)))
              (pa_cons (pe_call G3 hr3 (by rfl) m3 kp3 b3 .nil pass0 (pa_cons (pv 0) (pa_cons (pv 6) pa_nil))) pa_nil))))) pa_nil)))) pss_nil))
      (pss_one (ps_ret (pv 7))))))), ?_⟩
    have ln : ∀ b, (namesOf h b).length ≤ 100 := fun b => Nat.le_trans names_len gh.len
    refine ⟨_, rfl, a, h, false, rfl, hh.mono (hid_sub _ _), gh.len, fun t1 H1 s1 nt1 ht1 => ?_⟩
    refine ⟨_, rfl, a, h, true, rfl, (hh.mono (Sm.of s1)).mono (hid_sub _ _), gh.len, fun t2 H2 s2 nt2 ht2 => ?_⟩
    have d2 : Dr p H H2 := (Dr.of W.wl s1).same s2
    have W2 := W.dr d2
    have nn : LsAt StrV (hid S H2) t1 (namesOf h false) := ⟨_, hid_get (s2 _ _ ht1) (W.nin nt1), strs_to _⟩
    have on : LsAt StrV (hid S H2) t2 (namesOf h true) := ⟨_, hid_get ht2 ((W.same s1).nin nt2), strs_to _⟩
    refine ⟨_, _, rfl, ?_⟩
    refine ⟨_, rfl, _, rfl, _, rfl, p, a, c, S, cs, hs, h, n, rfl, W2, hh.mono (W.up d2), gh, hhs.mono (W.up d2), ghs, fun q1 r1 H3 d3 hq1 l1 g1 => ?_⟩
    have d3' := d2.trans d3
    have W3 := W.dr d3'
    refine ⟨_, rfl, _, rfl, _, rfl, p, a, d, S, cs, hs, h, n, rfl, W3, hh.mono (W.up d3'), gh, hcs.mono (W.up d3'), gcs, fun q2 r2 H4 d4 hq2 l2 g2 => ?_⟩
    have d4' := d3'.trans d4
    have W4 := W.dr d4'
    obtain ⟨v1, hv1, p1⟩ := hq1.mono (W3.up d4)
    obtain ⟨v2, hv2, p2⟩ := hq2
    have cat : ∀ {x y : Nat}, x ≤ 1000 → y ≤ 1000 → x + y ≤ sizeLine := fun hx hy => sz (by omega)
    refine ⟨q1, q2, v1, v2, rfl, rfl, SqL.of (hid_some hv1).1, SqL.of (hid_some hv2).1, cat (by rw [p1.len]; omega) (by rw [p2.len]; omega), fun l H5 n5 => ?_⟩
    let Iv : Nat → L2.St → Hp → Prop := fun z σ' H' => ∃ (l : Addr) (rs : List Rw), σ' = [some (.ref p), some (.ref a), some (.ref c), some (.ref d), some (.int n), some (.ref t1), some (.ref t2), some (.ref l)] ∧ Dr p H2 H' ∧ H2 l = none ∧ l ∉ S ∧ l ≠ p ∧ Own RwV S H' l rs ∧ rs.length ≤ z ∧ ∀ r ∈ rs, RightRw cs hs h n r
    have I5 : Iv 40 [some (.ref p), some (.ref a), some (.ref c), some (.ref d), some (.int n), some (.ref t1), some (.ref t2), some (.ref l)] H5 := by
      refine ⟨l, r1 ++ r2, rfl, (d3.trans d4).same n5.same, (d3.trans d4).free n5.free, W4.nin n5.free, W4.nw n5.free, Own.new RwV.mono n5 (p1.app p2), by rw [List.length_append]; omega, fun r hr => ?_⟩
      rcases List.mem_append.mp hr with q | q
      · exact g1 r q
      · exact g2 r q
    refine ⟨Iv 60, ?_, ?_⟩
    · refine ⟨_, rfl, sz (by show 0 ≤ 100000; decide), fun l0 H6 n6 => ?_⟩
      obtain ⟨l', rs, e, dd, l0n, ns, nw, ow, lr, gr⟩ := I5
      cases e
      have W5 := W2.dr dd
      have W6 := W5.same n6.same
      obtain ⟨vn, hn, pn⟩ := strs_mono nn ((W2.up dd).trans n6.hid)
      have en := strs_of pn
      subst en
      refine ⟨t1, l0, _, rfl, rfl, SqL.of (hid_some hn).1, SqL.of n6.at, _, rfl, ?_⟩
      have ow6 := ow.dr RwV.mono nw W.mem (Dr.of W5.wl n6.same)
      refine ite2 (fun e => ?_) (fun e => ?_)
      · have ne : namesOf h false ≠ [] := fun z => by rw [z] at e; exact absurd e (by decide)
        refine ⟨_, rfl, _, rfl, _, rfl, _, rfl, p, t1, n, S, _, cs, hs, h, rfl, W6, ⟨_, hn, pn⟩, ne, ln _, fun x hx => names_kind gh.nd hx, n1, n9, fun q rs2 H7 d7 hq l7 _ g7 => ?_⟩
        have W7 := W6.dr d7
        obtain ⟨va, ha, pa⟩ := (ow6.dr RwV.mono nw W.mem d7).ls RwV.mono ns
        obtain ⟨vb, hb, pb⟩ := hq
        refine ⟨_, q, va, vb, rfl, rfl, SqL.of (hid_some ha).1, SqL.of (hid_some hb).1, cat (by rw [pa.len]; omega) (by rw [pb.len]; omega), fun l8 H8 n8 => ?_⟩
        refine ⟨l8, rs ++ rs2, rfl, ((dd.same n6.same).trans d7).same n8.same, ((dd.same n6.same).trans d7).free n8.free, W7.nin n8.free, W7.nw n8.free, Own.new RwV.mono n8 (pa.app pb), by rw [List.length_append]; omega, fun r hr => ?_⟩
        rcases List.mem_append.mp hr with q | q
        · exact gr r q
        · exact g7 r q
      · exact ⟨_, rs, rfl, dd.same n6.same, l0n, ns, nw, ow6, by omega, gr⟩
    rintro σ5 H5 I5
    refine ⟨Iv 80, ?_, ?_⟩
    · obtain ⟨l', rs, rfl, dd, l0n, ns, nw, ow, lr, gr⟩ := I5
      refine ⟨_, rfl, sz (by show 0 ≤ 100000; decide), fun l0 H6 n6 => ?_⟩
      have W5 := W2.dr dd
      have W6 := W5.same n6.same
      obtain ⟨vn, hn, pn⟩ := strs_mono on ((W2.up dd).trans n6.hid)
      have en := strs_of pn
      subst en
      refine ⟨t2, l0, _, rfl, rfl, SqL.of (hid_some hn).1, SqL.of n6.at, _, rfl, ?_⟩
      have ow6 := ow.dr RwV.mono nw W.mem (Dr.of W5.wl n6.same)
      refine ite2 (fun e => ?_) (fun e => ?_)
      · have ne : namesOf h true ≠ [] := fun z => by rw [z] at e; exact absurd e (by decide)
        refine ⟨_, rfl, _, rfl, _, rfl, _, rfl, p, t2, d, S, _, cs, hs, h, n, rfl, W6, ⟨_, hn, pn⟩, ne, ln _, fun x hx => names_kind gh.nd hx, hcs.mono (W.up ((d2.trans dd).same n6.same)), gcs.le, fun q rs2 H7 d7 hq l7 _ g7 => ?_⟩
        have W7 := W6.dr d7
        obtain ⟨va, ha, pa⟩ := (ow6.dr RwV.mono nw W.mem d7).ls RwV.mono ns
        obtain ⟨vb, hb, pb⟩ := hq
        refine ⟨_, q, va, vb, rfl, rfl, SqL.of (hid_some ha).1, SqL.of (hid_some hb).1, cat (by rw [pa.len]; omega) (by rw [pb.len]; omega), fun l8 H8 n8 => ?_⟩
        refine ⟨l8, rs ++ rs2, rfl, ((dd.same n6.same).trans d7).same n8.same, ((dd.same n6.same).trans d7).free n8.free, W7.nin n8.free, W7.nw n8.free, Own.new RwV.mono n8 (pa.app pb), by rw [List.length_append]; omega, fun r hr => ?_⟩
        rcases List.mem_append.mp hr with q | q
        · exact gr r q
        · exact g7 r q
      · exact ⟨_, rs, rfl, dd.same n6.same, l0n, ns, nw, ow6, by omega, gr⟩
    rintro σ5 H5 I5
    refine ⟨Iv 100, ?_, ?_⟩
    · obtain ⟨l', rs, rfl, dd, l0n, ns, nw, ow, lr, gr⟩ := I5
      refine ⟨_, rfl, sz (by show 0 ≤ 100000; decide), fun l0 H6 n6 => ?_⟩
      have W5 := W2.dr dd
      have W6 := W5.same n6.same
      have d6 := dd.same n6.same
      obtain ⟨vn, hn, pn⟩ := strs_mono nn (W2.up d6)
      have en := strs_of pn
      subst en
      refine ⟨t1, l0, _, rfl, rfl, SqL.of (hid_some hn).1, SqL.of n6.at, _, rfl, ?_⟩
      have ow6 := ow.dr RwV.mono nw W.mem (Dr.of W5.wl n6.same)
      refine ite2 (fun e1 => ?_) (fun e1 => ?_)
      · refine ⟨_, rfl, sz (by show 0 ≤ 100000; decide), fun l1 H7 n7 => ?_⟩
        have d7 := d6.same n7.same
        have W7 := W2.dr d7
        obtain ⟨vo, ho, po⟩ := strs_mono on (W2.up d7)
        have eo := strs_of po
        subst eo
        refine ⟨t2, l1, _, rfl, rfl, SqL.of (hid_some ho).1, SqL.of n7.at, _, rfl, ?_⟩
        have ow7 := ow6.dr RwV.mono nw W.mem (Dr.of W6.wl n7.same)
        refine ite2 (fun e2 => ?_) (fun e2 => ?_)
        · have ne1 : (namesOf h false).map V.str ≠ [] := fun z => by rw [z] at e1; exact absurd e1 (by decide)
          have ne2 : (namesOf h true).map V.str ≠ [] := fun z => by rw [z] at e2; exact absurd e2 (by decide)
          have ll : ∀ b, ((namesOf h b).map V.str).length < 1000000 := fun b => by rw [List.length_map]; have := ln b; omega
          obtain ⟨va, ha, pa⟩ := id ow7
          refine ⟨_, rfl, .inl ⟨rfl, _, SqL.of ha⟩, ?_⟩
          refine ⟨_, rfl, _, rfl, p, t1, _, rfl, W7.wl, SqL.of ((n7.hid.trans W7.sub) _ _ hn), ne1, ll _, fun z1 hz1 H8 d8 => ?_⟩
          obtain ⟨x1, rfl, hx1⟩ := str_mem hz1
          have W8 := W7.dr d8
          refine ⟨_, rfl, _, rfl, p, t2, _, rfl, W8.wl, SqL.of (((W7.up d8).trans W8.sub) _ _ ho), ne2, ll _, fun z2 hz2 H9 d9 => ?_⟩
          obtain ⟨x2, rfl, hx2⟩ := str_mem hz2
          have W9 := W8.dr d9
          refine ⟨_, rfl, _, rfl, p, t2, _, rfl, W9.wl, SqL.of ((((W7.up d8).trans (W8.up d9)).trans W9.sub) _ _ ho), ne2, ll _, fun z3 hz3 Ha da => ?_⟩
          obtain ⟨x3, rfl, hx3⟩ := str_mem hz3
          have Wa := W9.dr da
          refine ⟨sz (by show 4 ≤ 100000; decide), fun t Hb nb => ?_⟩
          have da' : Dr p H7 Ha := (d8.trans d9).trans da
          obtain ⟨va, ha, pa⟩ := (ow7.dr RwV.mono nw W.mem (da'.same nb.same))
          refine ⟨_, va, _, rfl, rfl, ha, sz' (by rw [pa.len]; omega), fun Hc nc => ?_⟩
          have db := (d7.trans da').same nb.same
          have nt : t ∉ l' :: S := fun m => by
            rcases List.mem_cons.mp m with e | e
            · obtain ⟨v', h', _⟩ := ow7.dr RwV.mono nw W.mem da'
              rw [← e, nb.free] at h'
              cases h'
            · exact Wa.nin nb.free e
          refine ⟨_, rs ++ [.same x1 x2 x3], rfl, db.putOwn l0n nw nc, l0n, ns, nw, Own.put RwV.mono pa (nb.row (r := .same x1 x2 x3) nt (.cons rfl (.cons rfl (.cons rfl (.cons rfl .nil)))) (fun _ _ _ _ e => nomatch e)) nc, by rw [List.length_append]; show rs.length + 1 ≤ 100; omega, fun r hr => ?_⟩
          rcases List.mem_append.mp hr with q | q
          · exact gr r q
          · rw [List.mem_singleton.mp q]
            exact ⟨by simp [isRow, names_kind gh.nd hx1, names_kind gh.nd hx2, names_kind gh.nd hx3], rfl⟩
        · exact ⟨_, rs, rfl, d7, l0n, ns, nw, ow7, by omega, gr⟩
      · exact ⟨_, rs, rfl, d6, l0n, ns, nw, ow6, by omega, gr⟩
    rintro σ5 H5 ⟨l', rs, rfl, dd, l0n, ns, nw, ow, lr, gr⟩
    refine ⟨_, rfl, ?_⟩
    exact k _ rs H5 (d2.trans dd) (ow.ls RwV.mono ns) lr gr
end
end K12

namespace K12
open PySem PySem.Spec PyProof.Rows L2
def spRows : Sp := fun vs H Q _ => ∃ (w a c d : Addr) (S : List Addr) (cs : List Cl) (hs : List Hd) (h : Hd) (n : Nat), vs = [.ref w, .ref a, .ref c, .ref d, .int n] ∧ Wl w S H ∧ HdAt (hid S H) a h ∧ GoodHd h ∧ HdsAt (hid S H) c hs ∧ GoodHds hs ∧ ClsAt (hid S H) d cs ∧ GoodCls cs ∧ 1 ≤ n ∧ n ≤ 40 ∧
  ∀ q rs H', Dr w H H' → RwsAt (hid S H') q rs → rs.length = n → (∀ r ∈ rs, isRow cs hs h n r = true) → (∃ as r, rs = as ++ [r] ∧ r.isLast = true) → Q (.ref q) H'
section
variable {P : Program} {w : World} {K : PySem.W.Frag} {mg : Str → Option Value} {base : Heap}
theorem scRows : FnScope ["_law_well_here", "_law_head", "_law_heads_here", "_law_classes_here", "_law_many", "_law_found", "_law_numbers", "_law_objects", "_law_turn", "_law_some_here", "_law_last", "_law_name"] ["_law_well_here", "_law_head", "_law_heads_here", "_law_classes_here", "_law_many"] (defScope sRows) := ⟨rfl, rfl, rfl, by decide +kernel, rfl, by decide +kernel, by decide +kernel⟩
theorem cal_rows (T : Txt mg) (D : Dfn K mg "_law_rows" "_law_rows" sRows ["_law_well_here", "_law_head", "_law_heads_here", "_law_classes_here", "_law_many"]) (M : Makers P w K mg base) :
    Cal P w K mg base CX0 5 "_law_rows" ["_law_well_here", "_law_head", "_law_heads_here", "_law_classes_here", "_law_many"] spRows := by
  obtain ⟨f, fd, F, m, b⟩ := D
  obtain ⟨f1, fd1, m1, kp1, b1, G1⟩ := M.dw
  obtain ⟨f2, fd2, m2, kp2, b2, G2⟩ := M.nm
  obtain ⟨f3, fd3, m3, kp3, b3, G3⟩ := M.pk
  obtain ⟨f4, fd4, m4, kp4, b4, G4⟩ := M.nr
  obtain ⟨f5, fd5, m5, kp5, b5, G5⟩ := M.ob
  obtain ⟨f6, fd6, m6, kp6, b6, G6⟩ := M.fr
  obtain ⟨f7, fd7, m7, kp7, b7, G7⟩ := M.cr
  refine ⟨f, fd, m, F.kp, b, F.ok scRows (fun vs H Q E h => ?_) (fun cdv A outer s H vs Q E hr h => ?_)⟩
  · obtain ⟨_, _, _, _, _, _, _, _, _, rfl, _⟩ := h
    rfl
  · obtain ⟨p, a, c, d, S, cs, hs, h, n, rfl, W, hh, gh, hhs, ghs, hcs, gcs, n1, n9, k⟩ := h
    have hr1 : Room 1 _ := hr.mono (by decide)
    have hr2 : Room 2 _ := hr.mono (by decide)
    have hr3 : Room 3 _ := hr.mono (by decide)
    have hu := hr.units0
    refine ⟨_, pss_cons (ps_set (i := 5) scRows.nd rfl (.inl rfl) (pe_lstN pa_nil))
      (pss_cons (ps_par (by rfl) scRows.nd (i := 6) (j := 7) rfl rfl (by decide) rfl rfl (pa_cons (pe_call G2 hr1 (by rfl) m2 kp2 b2 .nil pass0 (pa_cons (pv 1) (pa_cons pe_str pa_nil)))
          (pa_cons (pe_call G2 hr1 (by rfl) m2 kp2 b2 .nil pass0 (pa_cons (pv 1) (pa_cons pe_str pa_nil))) pa_nil)) (by rfl))
      (pss_cons (ps_for PassesOwn.never rfl (pi_range1 (by rfl) T.range (pa_cons (pe_op op_sub (pv 4) pe_int) pa_nil)) (pg_name (i := 8) scRows.nd rfl (.inl rfl))
        (pss_cons (ps_set (i := 9) scRows.nd rfl (.inl rfl) (pe_op op_catN (pe_lstN (pa_cons (pe_tupN (pa_cons pe_str (pa_cons (pe_call G1 hr2 (by rfl) m1 kp1 b1 .nil pass0 (pa_cons (pv 0) (pa_cons (pv 4) pa_nil))) pa_nil))) pa_nil))
            (pe_call G7 hr (by rfl) m7 kp7 b7 .nil pass0 (pa_cons (pv 0) (pa_cons (pv 1) (pa_cons (pv 2) pa_nil))))))
        (pss_cons (ps_set (i := 9) scRows.nd rfl (.inl rfl) (pe_op op_catN (pv 9) (pe_call G6 hr (by rfl) m6 kp6 b6 .nil pass0 (pa_cons (pv 0) (pa_cons (pv 1) (pa_cons (pv 3) pa_nil))))))
        (pss_cons (ps_cut (ps_if (pt_cmpR (op_neNil hu) (pv 6) (pe_lstN pa_nil) (nomark _)) (pss_one (ps_set (i := 9) scRows.nd rfl (.inl rfl) (pe_op op_catN (pv 9) (pe_call G4 hr (by rfl) m4 kp4 b4 .nil pass0 (pa_cons (pv 0) (pa_cons (pv 6) (pa_cons (pv 4) pa_nil))))))) pss_nil))
        (pss_cons (ps_cut (ps_if (pt_cmpR (op_neNil hu) (pv 7) (pe_lstN pa_nil) (nomark _)) (pss_one (ps_set (i := 9) scRows.nd rfl (.inl rfl) (pe_op op_catN (pv 9) (pe_call G5 hr (by rfl) m5 kp5 b5 .nil pass0 (pa_cons (pv 0) (pa_cons (pv 7) (pa_cons (pv 3) pa_nil))))))) pss_nil))
        (pss_cons (ps_cut (ps_if (PW.pt (pw_and (pt_cmpR (op_neNil hu) (pv 6) (pe_lstN pa_nil) (nomark _)) (pw_and1 (pt_cmpR (op_neNil hu) (pv 7) (pe_lstN pa_nil) (nomark _)))))
          (pss_one (ps_expr (pe_bm PySem.F.plainAttrs_list PySem.F.slot_list_append PySem.F.type_list_append mt_appN (pv 9) (pa_cons
            (pe_tupN (pa_cons pe_str (pa_cons (pe_call G3 hr3 (by rfl) m3 kp3 b3 .nil pass0 (pa_cons (pv 0) (pa_cons (pv 6) pa_nil))) (pa_cons (pe_call G3 hr3 (by rfl) m3 kp3 b3 .nil pass0 (pa_cons (pv 0) (pa_cons (pv 7) pa_nil)))
              (pa_cons (pe_call G3 hr3 (by rfl) m3 kp3 b3 .nil pass0 (pa_cons (pv 0) (pa_cons (pv 7) pa_nil))) pa_nil))))) pa_nil)))) pss_nil))
        (pss_one (ps_expr (pe_bm PySem.F.plainAttrs_list PySem.F.slot_list_append PySem.F.type_list_append mt_appN (pv 5) (pa_cons (pe_call G3 hr3 (by rfl) m3 kp3 b3 .nil pass0 (pa_cons (pv 0) (pa_cons (pv 9) pa_nil))) pa_nil))))))))))
      (pss_cons (ps_set (i := 10) scRows.nd rfl (.inl rfl) (pe_op op_catN (pe_lstN (pa_cons (pe_tupN (pa_cons pe_str (pa_cons (pe_call G1 hr2 (by rfl) m1 kp1 b1 .nil pass0 (pa_cons (pv 0) (pa_cons (pv 4) pa_nil))) pa_nil))) pa_nil))
          (pe_lc (own := [("_law_name", 11)]) (g := gName 11) (tt := tYes) rfl scRows.nd (pi_list (pe_call G2 hr1 (by rfl) m2 kp2 b2 .nil pass0 (pa_cons (pv 1) (pa_cons (pe_ix ix_tup (pv 1) pe_int (fun _ _ => rfl)) pa_nil))))
              (blkOk_by (N := ["_law_well_here", "_law_head", "_law_heads_here", "_law_classes_here", "_law_many", "_law_found", "_law_numbers", "_law_objects", "_law_turn", "_law_some_here", "_law_last", "_law_name"]) (sc := defScope sRows) (by decide +kernel))
              (fun _ _ _ _ _ => pg_name (i := 11) scRows.nd rfl (.inl rfl)) (fun _ _ _ _ _ => pts_nil) (fun _ _ _ _ _ => pe_tupN (pa_cons pe_str (pa_cons (pv 11) pa_nil))))))
      (pss_one (ps_ret (pe_op op_catN (pv 5) (pe_lstN (pa_cons (pe_call G3 hr3 (by rfl) m3 kp3 b3 .nil pass0 (pa_cons (pv 0) (pa_cons (pv 10) pa_nil))) pa_nil)))))))), ?_⟩
    have ln : ∀ b, (namesOf h b).length ≤ 100 := fun b => Nat.le_trans names_len gh.len
    have cat : ∀ {x y : Nat}, x ≤ 1000 → y ≤ 1000 → x + y ≤ sizeLine := fun hx hy => sz (by omega)
    refine ⟨sz (by show 0 ≤ 100000; decide), fun lf H0 n0 => ?_⟩
    have W0 := W.new n0
    have nfp : lf ≠ p := W.nw n0.free
    have hh0 := hh.mono n0.hid1
    have hhs0 := hhs.mono n0.hid1
    have hcs0 := hcs.mono n0.hid1
    refine ⟨_, rfl, a, h, false, rfl, hh0.mono (hid_sub _ _), gh.len, fun t1 H1 s1 nt1 ht1 => ?_⟩
    refine ⟨_, rfl, a, h, true, rfl, (hh0.mono (Sm.of s1)).mono (hid_sub _ _), gh.len, fun t2 H2 s2 nt2 ht2 => ?_⟩
    have d2 : Dr p H0 H2 := (Dr.of W0.wl s1).same s2
    have W2 := W0.dr d2
    have nn : LsAt StrV (hid (lf :: S) H2) t1 (namesOf h false) := ⟨_, hid_get (s2 _ _ ht1) (W0.nin nt1), strs_to _⟩
    have on : LsAt StrV (hid (lf :: S) H2) t2 (namesOf h true) := ⟨_, hid_get ht2 ((W0.same s1).nin nt2), strs_to _⟩
    have hh2 := hh0.mono (W0.up d2)
    have hhs2 := hhs0.mono (W0.up d2)
    have hcs2 := hcs0.mono (W0.up d2)
    have hf2 : H2 lf = some (.lst []) := s2 _ _ (s1 _ _ n0.at)
    have lf0 : H lf = none := n0.free
    have dH2 : Dr p H H2 := (n0.dr (Dr.refl W.wl)).trans d2
    refine ⟨_, _, rfl, ?_⟩
    refine ⟨_, rfl, _, _, rfl, rfl, (n : Int) - 1, rfl, by omega, by omega, ?_⟩
    refine for_range (n := ((n : Int) - 1).toNat) (fun i σ H' => ∃ (v8 v9 : Option V) (fr : List Rw), σ = [some (.ref p), some (.ref a), some (.ref c), some (.ref d), some (.int n), some (.ref lf), some (.ref t1), some (.ref t2), v8, v9, none, none] ∧ Wl p (lf :: S) H' ∧ Sm [lf, p] H2 H' ∧ Own RwV S H' lf fr ∧ fr.length = i ∧ ∀ r ∈ fr, isRow cs hs h n r = true)
      ⟨none, none, [], rfl, W2, Sm.refl _ _, ⟨[], hf2, .nil⟩, rfl, fun _ m => nomatch m⟩ ?_ ?_
    · rintro i σ H' hi ⟨v8, v9, fr, rfl, W', s', ow', lfr, gfr⟩
      have up' := W.up1 s'
      have hh' := hh2.mono up'
      have hhs' := hhs2.mono up'
      have hcs' := hcs2.mono up'
      have nn' := strs_mono nn up'
      have on' := strs_mono on up'
      refine ⟨_, rfl, _, rfl, p, n, rfl, W'.wl, by omega, by omega, fun j Ha j0 j1 da => ?_⟩
      have Wa := W'.dr da
      refine ⟨sz (by show 2 ≤ 100000; decide), fun tj Hb nb => ⟨sz (by show 1 ≤ 100000; decide), fun lj Hc nc => ?_⟩⟩
      have Wb := Wa.same nb.same
      have Wc := Wb.same nc.same
      have dc := (da.same nb.same).same nc.same
      refine ⟨_, rfl, _, rfl, _, rfl, p, a, c, lf :: S, cs, hs, h, n, rfl, Wc, hh'.mono (W'.up dc), gh, hhs'.mono (W'.up dc), ghs, fun q1 r1 H3 d3 hq1 l1 g1 => ?_⟩
      have W3 := Wc.dr d3
      have dd3 := dc.trans d3
      obtain ⟨v1, hv1, p1⟩ := hq1
      have rj : RwV (hid (lf :: S) H3) (.ref tj) (.jump j) := RwV.mono _ _ _ _ (nc.hid.trans (Wc.up d3)) (nb.row (Wa.nin nb.free) (.cons rfl (.cons rfl .nil)) (fun _ _ _ _ e => nomatch e))
      refine ⟨lj, q1, _, v1, rfl, rfl, SqL.of (d3.get nc.at (Wb.nw nc.free)), SqL.of (hid_some hv1).1, cat (by show 1 ≤ 1000; decide) (by rw [p1.len]; omega), fun l4 H4 n4 => ?_⟩
      have W4 := W3.same n4.same
      have dd4 := dd3.same n4.same
      refine ⟨_, rfl, _, rfl, _, rfl, _, rfl, p, a, d, lf :: S, cs, hs, h, n, rfl, W4, hh'.mono (W'.up dd4), gh, hcs'.mono (W'.up dd4), gcs, fun q2 r2 H5 d5 hq2 l2 g2 => ?_⟩
      have W5 := W4.dr d5
      have dd5 := dd4.trans d5
      have ow4 : Own RwV (lf :: S) H4 l4 ([.jump j] ++ r1) := Own.new RwV.mono n4 ((Paired.one rj).app p1)
      have n4w := W3.nw n4.free
      have n4S := W3.nin n4.free
      obtain ⟨va, ha, pa⟩ := (ow4.dr RwV.mono n4w W4.mem d5).ls RwV.mono n4S
      obtain ⟨vb, hb, pb⟩ := hq2
      refine ⟨l4, q2, va, vb, rfl, rfl, SqL.of (hid_some ha).1, SqL.of (hid_some hb).1, cat (by rw [pa.len, List.length_append]; show 1 + _ ≤ 1000; omega) (by rw [pb.len]; omega), fun l H6 n6 => ?_⟩
      let Iv : Nat → L2.St → Hp → Prop := fun z σ' G => ∃ (l : Addr) (v8 : Option V) (rs : List Rw), σ' = [some (.ref p), some (.ref a), some (.ref c), some (.ref d), some (.int n), some (.ref lf), some (.ref t1), some (.ref t2), v8, some (.ref l), none, none] ∧ Dr p H' G ∧ H' l = none ∧ l ∉ lf :: S ∧ l ≠ p ∧ Own RwV (lf :: S) G l rs ∧ rs ≠ [] ∧ rs.length ≤ z ∧ ∀ r ∈ rs, isRow cs hs h n r = true
      have I5 : Iv 50 [some (.ref p), some (.ref a), some (.ref c), some (.ref d), some (.int n), some (.ref lf), some (.ref t1), some (.ref t2), some (.int (0 + i)), some (.ref l), none, none] H6 := by
        refine ⟨l, _, [.jump j] ++ r1 ++ r2, rfl, dd5.same n6.same, dd5.free n6.free, W5.nin n6.free, W5.nw n6.free, Own.new RwV.mono n6 (pa.app pb), by simp, by rw [List.length_append, List.length_append]; show 1 + _ + _ ≤ 50; omega, fun r hr => ?_⟩
        rcases List.mem_append.mp hr with q | q
        · rcases List.mem_append.mp q with q | q
          · rw [List.mem_singleton.mp q]
            simp [isRow]
            omega
          · exact (g1 r q).1
        · exact (g2 r q).1
      refine ⟨Iv 70, ?_, ?_⟩
      · refine ⟨_, rfl, sz (by show 0 ≤ 100000; decide), fun l0 Ga na => ?_⟩
        obtain ⟨l', w8, rs, e, dd, l0n, ns, nw, ow, ner, lr, gr⟩ := I5
        cases e
        have W5 := W'.dr dd
        have W6 := W5.same na.same
        have d6 := dd.same na.same
        obtain ⟨vn, hn, pn⟩ := strs_mono nn' (W'.up d6)
        have en := strs_of pn
        subst en
        refine ⟨t1, l0, _, rfl, rfl, SqL.of (hid_some hn).1, SqL.of na.at, _, rfl, ?_⟩
        have ow6 := ow.dr RwV.mono nw W'.mem (Dr.of W5.wl na.same)
        refine ite2 (fun e => ?_) (fun e => ?_)
        · have ne : namesOf h false ≠ [] := fun z => by rw [z] at e; exact absurd e (by decide)
          refine ⟨_, rfl, _, rfl, _, rfl, _, rfl, p, t1, n, lf :: S, _, cs, hs, h, rfl, W6, ⟨_, hn, pn⟩, ne, ln _, fun x hx => names_kind gh.nd hx, n1, by omega, fun q rs2 H7 d7 hq l7 _ g7 => ?_⟩
          have W7 := W6.dr d7
          obtain ⟨va, ha, pa⟩ := (ow6.dr RwV.mono nw W'.mem d7).ls RwV.mono ns
          obtain ⟨vb, hb, pb⟩ := hq
          refine ⟨_, q, va, vb, rfl, rfl, SqL.of (hid_some ha).1, SqL.of (hid_some hb).1, cat (by rw [pa.len]; omega) (by rw [pb.len]; omega), fun l8 H8 n8 => ?_⟩
          refine ⟨l8, _, rs ++ rs2, rfl, (d6.trans d7).same n8.same, (d6.trans d7).free n8.free, W7.nin n8.free, W7.nw n8.free, Own.new RwV.mono n8 (pa.app pb), by simp [ner], by rw [List.length_append]; omega, fun r hr => ?_⟩
          rcases List.mem_append.mp hr with q | q
          · exact gr r q
          · exact (g7 r q).1
        · exact ⟨_, _, rs, rfl, d6, l0n, ns, nw, ow6, ner, by omega, gr⟩
      clear I5
      rintro σ5 H5' I5
      refine ⟨Iv 90, ?_, ?_⟩
      · obtain ⟨l', w8, rs, rfl, dd, l0n, ns, nw, ow, ner, lr, gr⟩ := I5
        refine ⟨_, rfl, sz (by show 0 ≤ 100000; decide), fun l0 Ga na => ?_⟩
        have W5 := W'.dr dd
        have W6 := W5.same na.same
        have d6 := dd.same na.same
        obtain ⟨vn, hn, pn⟩ := strs_mono on' (W'.up d6)
        have en := strs_of pn
        subst en
        refine ⟨t2, l0, _, rfl, rfl, SqL.of (hid_some hn).1, SqL.of na.at, _, rfl, ?_⟩
        have ow6 := ow.dr RwV.mono nw W'.mem (Dr.of W5.wl na.same)
        refine ite2 (fun e => ?_) (fun e => ?_)
        · have ne : namesOf h true ≠ [] := fun z => by rw [z] at e; exact absurd e (by decide)
          refine ⟨_, rfl, _, rfl, _, rfl, _, rfl, p, t2, d, lf :: S, _, cs, hs, h, n, rfl, W6, ⟨_, hn, pn⟩, ne, ln _, fun x hx => names_kind gh.nd hx, hcs'.mono (W'.up d6), gcs.le, fun q rs2 H7 d7 hq l7 _ g7 => ?_⟩
          have W7 := W6.dr d7
          obtain ⟨va, ha, pa⟩ := (ow6.dr RwV.mono nw W'.mem d7).ls RwV.mono ns
          obtain ⟨vb, hb, pb⟩ := hq
          refine ⟨_, q, va, vb, rfl, rfl, SqL.of (hid_some ha).1, SqL.of (hid_some hb).1, cat (by rw [pa.len]; omega) (by rw [pb.len]; omega), fun l8 H8 n8 => ?_⟩
          refine ⟨l8, _, rs ++ rs2, rfl, (d6.trans d7).same n8.same, (d6.trans d7).free n8.free, W7.nin n8.free, W7.nw n8.free, Own.new RwV.mono n8 (pa.app pb), by simp [ner], by rw [List.length_append]; omega, fun r hr => ?_⟩
          rcases List.mem_append.mp hr with q | q
          · exact gr r q
          · exact (g7 r q).1
        · exact ⟨_, _, rs, rfl, d6, l0n, ns, nw, ow6, ner, by omega, gr⟩
      clear I5
      rintro σ5 H5' I5
      refine ⟨Iv 100, ?_, ?_⟩
      · obtain ⟨l', w8, rs, rfl, dd, l0n, ns, nw, ow, ner, lr, gr⟩ := I5
        refine ⟨_, rfl, sz (by show 0 ≤ 100000; decide), fun l0 H6 n6 => ?_⟩
        have W5 := W'.dr dd
        have W6 := W5.same n6.same
        have d6 := dd.same n6.same
        obtain ⟨vn, hn, pn⟩ := strs_mono nn' (W'.up d6)
        have en := strs_of pn
        subst en
        refine ⟨t1, l0, _, rfl, rfl, SqL.of (hid_some hn).1, SqL.of n6.at, _, rfl, ?_⟩
        have ow6 := ow.dr RwV.mono nw W'.mem (Dr.of W5.wl n6.same)
        refine ite2 (fun e1 => ?_) (fun e1 => ?_)
        · refine ⟨_, rfl, sz (by show 0 ≤ 100000; decide), fun l1 H7 n7 => ?_⟩
          have d7 := d6.same n7.same
          have W7 := W'.dr d7
          obtain ⟨vo, ho, po⟩ := strs_mono on' (W'.up d7)
          have eo := strs_of po
          subst eo
          refine ⟨t2, l1, _, rfl, rfl, SqL.of (hid_some ho).1, SqL.of n7.at, _, rfl, ?_⟩
          have ow7 := ow6.dr RwV.mono nw W'.mem (Dr.of W6.wl n7.same)
          refine ite2 (fun e2 => ?_) (fun e2 => ?_)
          · have ne1 : (namesOf h false).map V.str ≠ [] := fun z => by rw [z] at e1; exact absurd e1 (by decide)
            have ne2 : (namesOf h true).map V.str ≠ [] := fun z => by rw [z] at e2; exact absurd e2 (by decide)
            have ll : ∀ b, ((namesOf h b).map V.str).length < 1000000 := fun b => by rw [List.length_map]; have := ln b; omega
            obtain ⟨va, ha, pa⟩ := id ow7
            refine ⟨_, rfl, .inl ⟨rfl, _, SqL.of ha⟩, ?_⟩
            refine ⟨_, rfl, _, rfl, p, t1, _, rfl, W7.wl, SqL.of ((n7.hid.trans W7.sub) _ _ hn), ne1, ll _, fun z1 hz1 H8 d8 => ?_⟩
            obtain ⟨x1, rfl, hx1⟩ := str_mem hz1
            have W8 := W7.dr d8
            refine ⟨_, rfl, _, rfl, p, t2, _, rfl, W8.wl, SqL.of (((W7.up d8).trans W8.sub) _ _ ho), ne2, ll _, fun z2 hz2 H9 d9 => ?_⟩
            obtain ⟨x2, rfl, hx2⟩ := str_mem hz2
            have W9 := W8.dr d9
            refine ⟨_, rfl, _, rfl, p, t2, _, rfl, W9.wl, SqL.of ((((W7.up d8).trans (W8.up d9)).trans W9.sub) _ _ ho), ne2, ll _, fun z3 hz3 Ha da => ?_⟩
            obtain ⟨x3, rfl, hx3⟩ := str_mem hz3
            have Wa := W9.dr da
            refine ⟨sz (by show 4 ≤ 100000; decide), fun t Hb nb => ?_⟩
            have da' : Dr p H7 Ha := (d8.trans d9).trans da
            obtain ⟨va, ha, pa⟩ := (ow7.dr RwV.mono nw W'.mem (da'.same nb.same))
            refine ⟨_, va, _, rfl, rfl, ha, sz' (by rw [pa.len]; omega), fun Hc nc => ?_⟩
            have db := (d7.trans da').same nb.same
            have nt : t ∉ l' :: lf :: S := fun m => by
              rcases List.mem_cons.mp m with e | e
              · obtain ⟨v', h', _⟩ := ow7.dr RwV.mono nw W'.mem da'
                rw [← e, nb.free] at h'
                cases h'
              · exact Wa.nin nb.free e
            refine ⟨_, _, rs ++ [.same x1 x2 x3], rfl, db.putOwn l0n nw nc, l0n, ns, nw, Own.put RwV.mono pa (nb.row (r := .same x1 x2 x3) nt (.cons rfl (.cons rfl (.cons rfl (.cons rfl .nil)))) (fun _ _ _ _ e => nomatch e)) nc, by simp, by rw [List.length_append]; show rs.length + 1 ≤ 100; omega, fun r hr => ?_⟩
            rcases List.mem_append.mp hr with q | q
            · exact gr r q
            · rw [List.mem_singleton.mp q]
              simp [isRow, names_kind gh.nd hx1, names_kind gh.nd hx2, names_kind gh.nd hx3]
          · exact ⟨_, _, rs, rfl, d7, l0n, ns, nw, ow7, ner, by omega, gr⟩
        · exact ⟨_, _, rs, rfl, d6, l0n, ns, nw, ow6, ner, by omega, gr⟩
      rintro σ5 H5 ⟨l', w8, rs, rfl, dd, l0n, ns, nw, ow, ner, lr, gr⟩
      -- found.append(pick(well, some_here))
      have W5 := W'.dr dd
      obtain ⟨vf, hvf, pf⟩ := ow'.dr RwV.mono nfp W.mem dd
      obtain ⟨va, ha, pa⟩ := ow.ls RwV.mono ns
      refine ⟨_, rfl, .inl ⟨rfl, _, SqL.of hvf⟩, _, rfl, _, rfl, p, l', va, rfl, W5.wl, SqL.of (W5.sub _ _ ha), (fun z => ner (pa.none_iff.mp z)), by rw [pa.len]; omega, fun y hy H6 d6 => ?_⟩
      obtain ⟨r, hr, hry⟩ := pa.mem hy
      have W6 := W5.dr d6
      have pf6 : Paired (RwV (hid (lf :: S) H6)) vf fr := pf.imp fun _ _ x => RwV.mono _ _ _ _ (W5.up d6) x
      have hvf6 : H6 lf = some (.lst vf) := d6.get hvf nfp
      refine ⟨lf, vf, _, rfl, rfl, hvf6, sz' (by rw [pf.len, lfr]; omega), fun H7 p7 => ?_⟩
      refine ⟨_, _, fr ++ [r], rfl, W6.put p7 nfp, ((s'.trans (Sm.two dd)).trans (Sm.two d6)).trans (p7.sm List.mem_cons_self), Own.put RwV.mono pf6 (RwV.mono _ _ _ _ (W5.up d6) hry) p7, by rw [List.length_append, lfr]; rfl, fun x hx => ?_⟩
      rcases List.mem_append.mp hx with q | q
      · exact gfr x q
      · rw [List.mem_singleton.mp q]
        exact gr r hr
    · rintro σ H' ⟨v8, v9, fr, rfl, W', s', ow', lfr, gfr⟩
      have up' := W.up1 s'
      have hh' := hh2.mono up'
      refine ⟨_, rfl, _, rfl, p, n, rfl, W'.wl, by omega, by omega, fun j Ha j0 j1 da => ?_⟩
      have Wa := W'.dr da
      refine ⟨sz (by show 2 ≤ 100000; decide), fun tj Hb nb => ⟨sz (by show 1 ≤ 100000; decide), fun lj Hc nc => ?_⟩⟩
      have Wb := Wa.same nb.same
      have Wc := Wb.same nc.same
      have dc := (da.same nb.same).same nc.same
      obtain ⟨i0, o0, hha, hi0, ho0⟩ := hh'.mono (W'.up dc)
      refine ⟨_, rfl, _, rfl, a, _, _, _, rfl, rfl, SqT.of (hid_some hha).1, at_of (j := 3) rfl rfl, a, h, h.res, rfl, (hh'.mono (W'.up dc)).mono (hid_sub _ _), gh.len, fun tn Hd sd ntn htn => ?_⟩
      have Wd := Wc.same sd
      refine ⟨tn, rfl, ⟨_, SqL.of htn⟩, fun D hD => lc_dr (K := K) (w := p) (S := lf :: S) (a := tn) (xs := (namesOf h h.res).map V.str) RwV (fun _ r => isRow cs hs h n r = true ∧ r.isLast = true) RwV.mono (by rw [List.length_map]; have := ln h.res; omega) Wd hD (SqL.of (hid_get htn (Wc.nin ntn))) ?_ ?_⟩
      · rintro i y He Qn hi ate kq
        obtain ⟨x, hx, rfl⟩ := map_ix hi
        refine ⟨rfl, _, rfl, sz (by show 2 ≤ 100000; decide), fun t Hf nf => ?_⟩
        exact kq _ (.ret x) Hf (nf.dr (Dr.refl ate.wl.wl)) (nf.row (ate.wl.nin nf.free) (.cons rfl (.cons rfl .nil)) (fun _ _ _ _ e => nomatch e)) ⟨by simp [isRow, names_kind gh.nd (ix_mem hx)], rfl⟩
      · rintro He rs de ⟨vr, hvr, pr⟩ lr ar
        have We := Wd.dr de
        have lr' : vr.length ≤ 100 := by rw [pr.len, lr, List.length_map]; exact ln _
        have rj : RwV (hid (lf :: S) He) (.ref tj) (.jump j) := RwV.mono _ _ _ _ ((nc.hid.trans (Sm.of sd)).trans (Wd.up de)) (nb.row (Wa.nin nb.free) (.cons rfl (.cons rfl .nil)) (fun _ _ _ _ e => nomatch e))
        refine ⟨lj, D, _, vr, rfl, rfl, SqL.of (de.get (sd _ _ nc.at) (Wb.nw nc.free)), SqL.of (hid_some hvr).1, cat (by show 1 ≤ 1000; decide) (by omega), fun ll Hf nf => ?_⟩
        have Wf := We.same nf.same
        have df := (((dc.same sd).trans de).same nf.same)
        have pl : Paired (RwV (hid (lf :: S) Hf)) ([.ref tj] ++ vr) ([.jump j] ++ rs) := ((Paired.one rj).app pr).imp fun _ _ x => RwV.mono _ _ _ _ nf.hid x
        refine ⟨_, rfl, _, rfl, _, rfl, p, ll, _, rfl, Wf.wl, SqL.of (hid_get nf.at (by simpa using We.nw nf.free)), by simp, by rw [List.length_append]; show 1 + _ < 1000000; omega, fun y hy Hg dg => ?_⟩
        obtain ⟨r, hr, hry⟩ := pl.mem hy
        have Wg := Wf.dr dg
        have hrr : isRow cs hs h n r = true ∧ r.isLast = true := by
          rcases List.mem_append.mp hr with q | q
          · rw [List.mem_singleton.mp q]
            exact ⟨by simp [isRow]; omega, rfl⟩
          · obtain ⟨i, hi⟩ := List.getElem?_of_mem q
            exact ar i r hi
        refine ⟨sz (by show 1 ≤ 100000; decide), fun l1 Hh nh => ?_⟩
        have Wh := Wg.same nh.same
        have dh := (df.trans dg).same nh.same
        obtain ⟨vf, hvf, pf⟩ := ow'.dr RwV.mono nfp W.mem dh
        refine ⟨lf, l1, vf, _, rfl, rfl, SqL.of hvf, SqL.of nh.at, cat (by rw [pf.len]; omega) (by show 1 ≤ 1000; decide), fun q Hi ni => ?_⟩
        have Wi := Wh.same ni.same
        have fin : Same (hid (lf :: S) Hh) (hid S Hi) := ni.hid.trans (hid_less Hi (less1 S lf))
        refine k q (fr ++ [r]) Hi ?_ ⟨_, hid_get ni.at fun m => Wh.nin ni.free (List.mem_cons_of_mem _ m), (pf.imp fun _ _ x => RwV.mono _ _ _ _ fin x).app (.one (RwV.mono _ _ _ _ (((Wf.up dg).trans nh.hid).trans fin) hry))⟩ ?_ ?_ ⟨fr, r, rfl, hrr.2⟩
        · exact ⟨(((Sm.two dH2).trans s').trans (Sm.two (dh.same ni.same))).drop lf0, Wi.wl⟩
        · rw [List.length_append, lfr]
          show _ + 1 = n
          omega
        · intro x hx
          rcases List.mem_append.mp hx with q | q
          · exact gfr x q
          · rw [List.mem_singleton.mp q]
            exact hrr.1
end
end K12

namespace K12
open PySem PySem.Spec PyProof.Rows L2
abbrev sParts : Stmt := topS 51
abbrev Fn := Hd × List Rw
def FrV (H : Hp) (v : V) (f : Fn) : Prop := ∃ p L, v = .ref p ∧ FnAt H p f.1 L ∧ RwsAt H L f.2
theorem FrV.mono : Mono FrV := fun H H' v x s ⟨p, L, e, h, r⟩ => ⟨p, L, e, h.mono s, r.mono s⟩
/-- a right function -/
structure GoodFn (cs : List Cl) (hs : List Hd) (f : Fn) : Prop where
  l1 : 1 ≤ f.2.length
  l40 : f.2.length ≤ 40
  each : ∀ r ∈ f.2, isRow cs hs f.1 f.2.length r = true
  last : ∃ as r, f.2 = as ++ [r] ∧ r.isLast = true
structure GoodSrc (cs : List Cl) (fs : List Fn) : Prop where
  cl : GoodCls cs
  hd : GoodHds (fs.map (·.1))
  each : ∀ f ∈ fs, GoodFn cs (fs.map (·.1)) f
def spParts : Sp := fun vs H Q _ => ∃ (w : Addr) (S : List Addr), vs = [.ref w] ∧ Wl w S H ∧ ∀ t a b cs fs H', Dr w H H' → hid S H' t = some (.tup [.ref a, .ref b]) → ClsAt (hid S H') a cs → LsAt FrV (hid S H') b fs → GoodSrc cs fs → Q (.ref t) H'
section
variable {P : Program} {w : World} {K : PySem.W.Frag} {mg : Str → Option Value} {base : Heap}
theorem scParts : FnScope ["_law_well_here", "_law_classes_here", "_law_heads_here", "_law_functions", "_law_head", "_law_many"] ["_law_well_here"] (defScope sParts) := ⟨rfl, rfl, rfl, by decide +kernel, rfl, by decide +kernel, by decide +kernel⟩
theorem cal_parts (T : Txt mg) (D : Dfn K mg "_law_parts" "_law_parts" sParts ["_law_well_here"]) (CC : Cal P w K mg base CX0 4 "_law_classes" ["_law_well_here"] spClasses) (CH : Cal P w K mg base CX0 4 "_law_heads" ["_law_well_here"] spHeads)
    (CD : Cal P w K mg base CX0 2 "_law_draw" ["_law_well_here", "_law_many"] spDraw) (CP : Cal P w K mg base CX0 3 "_law_pick" ["_law_well_here", "_law_items"] (spPick K))
    (CR : Cal P w K mg base CX0 5 "_law_rows" ["_law_well_here", "_law_head", "_law_heads_here", "_law_classes_here", "_law_many"] spRows) : Cal P w K mg base CX0 6 "_law_parts" ["_law_well_here"] spParts := by
  obtain ⟨f, fd, F, m, b⟩ := D
  obtain ⟨f1, fd1, m1, kp1, b1, G1⟩ := CC
  obtain ⟨f2, fd2, m2, kp2, b2, G2⟩ := CH
  obtain ⟨f3, fd3, m3, kp3, b3, G3⟩ := CD
  obtain ⟨f4, fd4, m4, kp4, b4, G4⟩ := CP
  obtain ⟨f5, fd5, m5, kp5, b5, G5⟩ := CR
  refine ⟨f, fd, m, F.kp, b, F.ok scParts (fun vs H Q E h => ?_) (fun cdv A outer s H vs Q E hr h => ?_)⟩
  · obtain ⟨_, _, rfl, _⟩ := h
    rfl
  · obtain ⟨p, S, rfl, W, k⟩ := h
    have hr2 : Room 2 _ := hr.mono (by decide)
    have hr3 : Room 3 _ := hr.mono (by decide)
    have hr4 : Room 4 _ := hr.mono (by decide)
    refine ⟨_, pss_cons (ps_par (by rfl) scParts.nd (i := 1) (j := 2) rfl rfl (by decide) rfl rfl (pa_cons (pe_call G1 hr4 (by rfl) m1 kp1 b1 .nil pass0 (pa_cons (pv 0) pa_nil)) (pa_cons (pe_call G2 hr4 (by rfl) m2 kp2 b2 .nil pass0 (pa_cons (pv 0) pa_nil)) pa_nil)) (by rfl))
      (pss_cons (ps_set (i := 3) scParts.nd rfl (.inl rfl) (pe_lstN pa_nil))
      (pss_cons (ps_for PassesOwn.never rfl (pi_list (pv 2)) (pg_name (i := 4) scParts.nd rfl (.inl rfl))
        (pss_cons (ps_set (i := 5) scParts.nd rfl (.inl rfl) (pe_call G4 hr3 (by rfl) m4 kp4 b4 .nil pass0 (pa_cons (pv 0) (pa_cons (pe_lstN
            (pa_cons (pe_op op_add pe_int (pe_call G3 hr2 (by rfl) m3 kp3 b3 .nil pass0 (pa_cons (pv 0) (pa_cons pe_int pa_nil))))
            (pa_cons (pe_op op_add pe_int (pe_call G3 hr2 (by rfl) m3 kp3 b3 .nil pass0 (pa_cons (pv 0) (pa_cons pe_int pa_nil))))
            (pa_cons (pe_op op_add pe_int (pe_call G3 hr2 (by rfl) m3 kp3 b3 .nil pass0 (pa_cons (pv 0) (pa_cons pe_int pa_nil)))) pa_nil)))) pa_nil))))
        (pss_one (ps_expr (pe_bm PySem.F.plainAttrs_list PySem.F.slot_list_append PySem.F.type_list_append mt_appN (pv 3) (pa_cons
          (pe_op op_catTN (pv 4) (pe_tupN (pa_cons (pe_call G5 hr (by rfl) m5 kp5 b5 .nil pass0 (pa_cons (pv 0) (pa_cons (pv 4) (pa_cons (pv 2) (pa_cons (pv 1) (pa_cons (pv 5) pa_nil)))))) pa_nil))) pa_nil))))))
      (pss_one (ps_ret (pe_tupN (pa_cons (pv 1) (pa_cons (pv 3) pa_nil))))))), ?_⟩
    refine ⟨_, rfl, p, S, rfl, W, fun a cs H1 d1 hcs gcs => ?_⟩
    have W1 := W.dr d1
    refine ⟨_, rfl, p, S, rfl, W1, fun c hs H2 d2 hhs ghs => ?_⟩
    have W2 := W1.dr d2
    have hcs2 := hcs.mono (W1.up d2)
    refine ⟨_, _, rfl, ?_⟩
    refine ⟨sz (by show 0 ≤ 100000; decide), fun l H3 n3 => ?_⟩
    have W3 := W2.new n3
    have nl := W2.nw n3.free
    have hcs3 := hcs2.mono n3.hid1
    have hhs3 := hhs.mono n3.hid1
    obtain ⟨vh, hvh, ph⟩ := id hhs3
    have l0 : H l = none := (d1.trans d2).free n3.free
    have d3 : Dr p H H3 := (d1.trans d2).same n3.same
    refine ⟨_, rfl, c, rfl, ⟨_, SqL.of (hid_some hvh).1⟩, ?_⟩
    refine for_list (K := K) (a := c) (xs := vh) (fun i σ H' => ∃ (v4 v5 : Option V) (vs : List V) (fs : List Fn), σ = [some (.ref p), some (.ref a), some (.ref c), some (.ref l), v4, v5] ∧ Wl p (l :: S) H' ∧ Sm [l, p] H3 H' ∧ H' l = some (.lst vs) ∧ Paired (FrV (hid (l :: S) H')) vs fs ∧ fs.map (·.1) = hs.take i ∧ fs.length = i ∧ ∀ f ∈ fs, GoodFn cs hs f)
      ⟨none, none, [], [], rfl, W3, Sm.refl _ _, n3.at, .nil, rfl, rfl, fun _ m => nomatch m⟩ (fun i σ H' _ I => by obtain ⟨_, _, _, _, _, _, s, _⟩ := I; exact SqL.of (hid_some (W2.up1 s _ _ hvh)).1) ?_ ?_
    · rintro i y σ H' hi ⟨v4, v5, vs, fs, rfl, W', s', hl', pf, ef, el, gf⟩
      obtain ⟨h, hh, q, rfl, hq⟩ := ph.get hi
      have hq' := hq.mono (W2.up1 s')
      refine ⟨_, rfl, _, rfl, p, 8, rfl, W'.wl, by decide, by decide, fun j1 H4 j10 j11 d4 => ⟨_, _, rfl, rfl, ?_⟩⟩
      have W4 := W'.dr d4
      refine ⟨_, rfl, p, 8, rfl, W4.wl, by decide, by decide, fun j2 H5 j20 j21 d5 => ⟨_, _, rfl, rfl, ?_⟩⟩
      have W5 := W4.dr d5
      refine ⟨_, rfl, p, 40, rfl, W5.wl, by decide, by decide, fun j3 H6 j30 j31 d6 => ⟨_, _, rfl, rfl, ?_⟩⟩
      have W6 := W5.dr d6
      refine ⟨sz (by show 3 ≤ 100000; decide), fun o H7 n7 => ?_⟩
      have W7 := W6.same n7.same
      refine ⟨p, o, _, rfl, W7.wl, SqL.of (hid_get n7.at (by simpa using W6.nw n7.free)), (by simp), (by show 3 < 1000000; decide), fun z hz H8 d8 => ?_⟩
      obtain ⟨n, rfl, nb⟩ : ∃ n : Nat, z = .int n ∧ 1 ≤ n ∧ n ≤ 40 := by
        simp only [List.mem_cons, List.mem_nil_iff, or_false] at hz
        rcases hz with e | e | e
        · exact ⟨(1 + j1).toNat, by rw [e, Int.toNat_of_nonneg (by omega)], by omega, by omega⟩
        · exact ⟨(1 + j2).toNat, by rw [e, Int.toNat_of_nonneg (by omega)], by omega, by omega⟩
        · exact ⟨(1 + j3).toNat, by rw [e, Int.toNat_of_nonneg (by omega)], by omega, by omega⟩
      have W8 := W7.dr d8
      have d8' : Dr p H' H8 := (((d4.trans d5).trans d6).same n7.same).trans d8
      have hl8 := d8'.get hl' nl
      have x8 := (W2.up1 s').trans (W'.up d8')
      refine ⟨_, rfl, .inl ⟨rfl, _, SqL.of hl8⟩, ?_⟩
      refine ⟨_, rfl, _, rfl, _, rfl, _, rfl, _, rfl, _, rfl, p, q, c, a, l :: S, cs, hs, h, n, rfl, W8, hq.mono x8, ghs.each h (ix_mem hh), hhs3.mono x8, ghs, hcs3.mono x8, gcs, nb.1, nb.2, fun L rs H9 d9 hL lL gL last => ?_⟩
      have W9 := W8.dr d9
      refine ⟨sz (by show 1 ≤ 100000; decide), fun u Ha na => ?_⟩
      have Wa := W9.same na.same
      have da : Dr p H' Ha := (d8'.trans d9).same na.same
      obtain ⟨ii, oo, hqa, hia, hoa⟩ := hq.mono ((W2.up1 s').trans (W'.up da))
      refine ⟨q, u, _, _, rfl, rfl, SqT.of (hid_some hqa).1, SqT.of na.at, by simp, by simp, sz (by show 4 + 1 ≤ 100000; decide), fun t Hb nb' => ?_⟩
      have Wb := Wa.same nb'.same
      have hlb := (da.same nb'.same).get hl' nl
      refine ⟨l, vs, _, rfl, rfl, hlb, sz' (by rw [pf.len, el]; have := ix_lt hh; have := ghs.le; omega), fun Hc pc => ?_⟩
      have sc : Same (hid (l :: S) Ha) (hid (l :: S) Hc) := nb'.hid.trans (pc.hid List.mem_cons_self)
      have s'c : Same (hid (l :: S) H') (hid (l :: S) Hc) := (W'.up da).trans sc
      refine ⟨_, _, vs ++ [.ref t], fs ++ [(h, rs)], rfl, Wb.put pc nl, ((s'.trans (Sm.two da)).trans nb'.sm).trans (pc.sm List.mem_cons_self), pc.at, (pf.imp fun _ _ x => FrV.mono _ _ _ _ s'c x).app (.one ⟨t, L, rfl, ⟨ii, oo, ?_, hia.mono sc, hoa.mono sc⟩, hL.mono (na.hid.trans sc)⟩), ?_, ?_, ?_⟩
      · exact (pc.hid List.mem_cons_self) _ _ (hid_get nb'.at (Wa.nin nb'.free))
      · rw [List.map_append, ef, take_more hh]
        rfl
      · rw [List.length_append, el]
        rfl
      · intro f hf
        rcases List.mem_append.mp hf with e | e
        · exact gf f e
        · rw [List.mem_singleton.mp e]
          exact ⟨by show 1 ≤ rs.length; omega, by show rs.length ≤ 40; omega, fun r hr => by show isRow cs hs h rs.length r = true; rw [lL]; exact gL r hr, last⟩
    · rintro σ H' ⟨v4, v5, vs, fs, rfl, W', s', hl', pf, ef, el, gf⟩
      have efs : fs.map (·.1) = hs := by rw [ef, ph.len, List.take_length]
      refine ⟨_, rfl, _, rfl, sz (by show 2 ≤ 100000; decide), fun t H4 n4 => ?_⟩
      have W4 := W'.same n4.same
      have sub : Same (hid (l :: S) H') (hid S H4) := n4.hid.trans (hid_less H4 (less1 S l))
      refine k t a l cs fs H4 ⟨((Sm.two d3).trans (s'.trans n4.sm)).drop l0, W4.wl⟩ (hid_get n4.at fun m => W'.nin n4.free (List.mem_cons_of_mem _ m)) (hcs3.mono ((W2.up1 s').trans sub)) ⟨vs, hid_get (n4.same _ _ hl') (W2.nin n3.free), pf.imp fun _ _ x => FrV.mono _ _ _ _ sub x⟩ ⟨gcs, by rw [efs]; exact ghs, fun f hf => by rw [efs]; exact gf f hf⟩
end
end K12

namespace K12
open PySem PySem.Spec PyProof.Rows L2
theorem lc_mapW {J : It} {n : Nat} {G : Hp → Prop} {Y : Nat → Hp → V → Hp → Prop} (wk : Walk J n G Y) {g : TG} {tt : TT} {te : TE} {vs : List Nat} {σ : L2.St} {H1 : Hp} {D : Addr} {Qd : Hp → Prop} (Pv : Nat → List V → Hp → Prop) (hx : n ≤ 100000) (hD : H1 D = none)
    (h0 : ∀ H', New H1 D (.lst []) H' → Pv 0 [] H') (hl : ∀ i ys H, i ≤ n → H D = some (.lst ys) → Pv i ys H → G H)
    (hs : ∀ i x ys H H', i < n → H D = some (.lst ys) → ys.length ≤ i → Pv i ys H → Y i H x H' → g x (wipe σ vs) H' fun σ2 H2 => wipe σ2 vs = wipe σ vs ∧ tt σ2 H2 fun b H3 =>
      if b = true then te σ2 H3 (LcNew D i Pv) else LcOld D i Pv H3) (hd : ∀ ys H, H D = some (.lst ys) → ys.length ≤ n → Pv n ys H → Qd H) :
    ∃ W : Nat → Nat → Hp → Prop, (∃ m, W 0 m (upd H1 D (.lst []))) ∧ ∀ i m H, W i m H →
      (J.stop i H ∧ Qd H) ∨ (J.go i H ∧ ∃ Nx : Hp → Prop, (∀ H', Nx H' → ∃ m', m' < m ∧ W (i + 1) m' H') ∧ ∀ x H', J.yld i H x H' → g x (wipe σ vs) H' fun σ2 H2 => wipe σ2 vs = wipe σ vs ∧ tt σ2 H2 fun b H3 =>
        if b = true then te σ2 H3 fun y H4 => ∃ acc, H4 D = some (.lst acc) ∧ acc.length < sizeLine ∧ Nx (upd H4 D (.lst (acc ++ [y]))) else Nx H3) := by
  refine lc_it wk (fun i H => ∃ ys, H D = some (.lst ys) ∧ ys.length ≤ i ∧ Pv i ys H) ⟨[], upd_same, Nat.le_refl _, h0 _ ⟨hD, rfl⟩⟩ (fun i H hi ⟨ys, h1, _, h3⟩ => hl i ys H hi h1 h3) (fun i x H H' hi ⟨ys, h1, h2, h3⟩ y => ?_) (fun H ⟨ys, h1, h2, h3⟩ => hd ys H h1 h2 h3)
  have q := hs i x ys H H' hi h1 h2 h3 y
  rw [lcNew_eq (Nat.le_trans (Nat.le_of_lt hi) hx)] at q
  exact q
/-- a cell's type, asked whether it is a list -/
def Cell.isL : Cell → Bool
  | .l _ => true
  | _ => false
theorem cell_isL {K : PySem.W.Frag} {H : Hp} {v : V} {c : Cell} (h : CellV H v c) : ∃ t, TyX K H v t ∧ PySem.W.kitOne K t (.type "list") = some c.isL := by
  cases c with
  | s x =>
    cases (show v = .str x from h)
    exact ⟨_, .base (.str x), kit_ty (show kitB "str" "list" = some false by decide +kernel)⟩
  | n i =>
    cases (show v = .int i from h)
    exact ⟨_, .base (.int i), kit_ty (show kitB "int" "list" = some false by decide +kernel)⟩
  | l xs =>
    obtain ⟨q, rfl, _, h⟩ := h
    exact ⟨_, .base (.lst h), kit_ty (show kitB "list" "list" = some true by decide +kernel)⟩
/-- a new dict of pairs -/
def rDictN (K : PySem.W.Frag) : List V → Hp → VK → Prop := fun xs H Q => ∃ (a : Addr) (ps : List Addr) (kvs : List (Key × V)), xs = [.ref a] ∧ SqL K H a (ps.map V.ref) ∧ Paired (fun p kv => SqT K H p [kV kv.1, kv.2]) ps kvs ∧ ∀ p H', New H p (.dK (mergeK [] kvs)) H' → Q (.ref p) H'
theorem call_dictN {X : Cx} (hcalm : X.calm = true) : CallR X (.type "dict") (rDictN X.K) := by
  intro pins s σ H xs us Q I r ⟨a, ps, kvs, e, h1, h2, q⟩
  exact call_dictP hcalm pins s σ H xs us Q I r ⟨a, ps, kvs, e, h1, h2, fun p hp => q p _ ⟨hp, rfl⟩⟩
/-- what a merged dict holds: the last pair of that key -/
theorem valV_merge {kvs : List (Key × V)} {k : Key} : ∀ {acc : List (Key × V)}, (∀ v v', (k, v) ∈ kvs → (k, v') ∈ kvs → v = v') → valV (mergeK acc kvs) k = match kvs.find? (fun kv => decide (kv.1 = k)) with | some kv => some kv.2 | none => valV acc k := by
  induction kvs with
  | nil => intro acc _; rfl
  | cons kv r ih =>
    intro acc u
    have ih' := ih (acc := putK acc kv.1 kv.2) (fun v v' h h' => u v v' (List.mem_cons_of_mem _ h) (List.mem_cons_of_mem _ h'))
    show valV (mergeK (putK acc kv.1 kv.2) r) k = _
    rw [ih']
    by_cases c : kv.1 = k
    · rw [List.find?_cons_of_pos (by simpa using c)]
      cases e : r.find? (fun kv => decide (kv.1 = k)) with
      | none =>
        show valV (putK acc kv.1 kv.2) k = some kv.2
        rw [valV_put, if_pos c.symm]
      | some q =>
        show some q.2 = some kv.2
        have h1 := List.mem_of_find?_eq_some e
        have h2 : q.1 = k := of_decide_eq_true (List.find?_some (p := fun kv : Key × V => decide (kv.1 = k)) e)
        rw [u q.2 kv.2 (List.mem_cons_of_mem _ (by rw [← h2]; exact h1)) (by rw [← c]; exact List.mem_cons_self)]
    · rw [List.find?_cons_of_neg (by simpa using c)]
      cases e : r.find? (fun kv => decide (kv.1 = k)) with
      | none =>
        show valV (putK acc kv.1 kv.2) k = valV acc k
        rw [valV_put, if_neg fun z => c z.symm]
      | some q => rfl
theorem lc_drW {α : Type} {J : It} {n : Nat} {G : Hp → Prop} {Y : Nat → Hp → V → Hp → Prop} (wk : Walk J n G Y) {g : TG} {te : TE} {vs : List Nat} {σ : L2.St} {H1 : Hp} {D : Addr} {Qd : Hp → Prop} {w : Addr} {S : List Addr} (R : Hp → V → α → Prop) (A : Nat → α → Prop) (mR : Mono R) (hx : n ≤ 100000) (W : Wl w S H1) (hD : H1 D = none)
    (hl : ∀ i H, i ≤ n → At w D S H1 H → G H)
    (hs : ∀ i x H H' (Qn : V → Hp → Prop), i < n → At w D S H1 H → Y i H x H' → (∀ y r H4, Dr w H H4 → R (hid (D :: S) H4) y r → A i r → Qn y H4) → g x (wipe σ vs) H' fun σ2 H2 => wipe σ2 vs = wipe σ vs ∧ te σ2 H2 Qn)
    (hd : ∀ H rs, Dr w H1 H → LsAt R (hid S H) D rs → rs.length = n → (∀ i r, rs[i]? = some r → A i r) → Qd H) :
    ∃ W : Nat → Nat → Hp → Prop, (∃ m, W 0 m (upd H1 D (.lst []))) ∧ ∀ i m H, W i m H →
      (J.stop i H ∧ Qd H) ∨ (J.go i H ∧ ∃ Nx : Hp → Prop, (∀ H', Nx H' → ∃ m', m' < m ∧ W (i + 1) m' H') ∧ ∀ x H', J.yld i H x H' → g x (wipe σ vs) H' fun σ2 H2 => wipe σ2 vs = wipe σ vs ∧ tYes σ2 H2 fun b H3 =>
        if b = true then te σ2 H3 fun y H4 => ∃ acc, H4 D = some (.lst acc) ∧ acc.length < sizeLine ∧ Nx (upd H4 D (.lst (acc ++ [y]))) else Nx H3) := by
  have nD := W.nw hD
  refine lc_mapW wk (tt := tYes) (LcInv w D S H1 R A) hx hD (fun H' n => ⟨⟨W.new n, n.sm⟩, [], .nil, rfl, fun j r e => by simp at e⟩) (fun i ys H hi _ I => hl i H hi I.at_) (fun i x ys H H' hi hD' hl' I y => ?_) (fun ys H h _ I => ?_)
  · exact hs i x H H' (LcNew D i (LcInv w D S H1 R A)) hi I.at_ y fun y r H4 d q a => lc_turn mR nD I hD' hl' d q a
  · obtain ⟨d, rs, q, l, z⟩ := lc_end mR W hD I h
    exact hd H rs d q l z
end K12

namespace K12
open PySem PySem.Spec PyProof.Rows L2
abbrev sCallsApart : Stmt := topS 54
abbrev sIsVar : Stmt := topS 56
/-- the places of a row's variables -/
def plc (t : Str) : List Int := if t = "put" then [1, 3] else if t = "get" then [1, 2] else if t = "call" then [1] else if t = "new" then [1] else if t = "if" then [1] else if t = "number" then [1] else [1, 2, 3]
def spIsVar : Sp := fun vs H Q _ => ∃ (r : Addr) (i : Int) (t : Str) (more : List V), vs = [.ref r, .int i] ∧ H r = some (.tup (.str t :: more)) ∧ ∀ H', Same H H' → Q (.bl (decide (i ∈ plc t))) H'
theorem inV_ints {i : Int} : ∀ {ns : List Int}, inV (.int i) (ns.map V.int) = decide (i ∈ ns)
  | [] => by simp [inV]
  | a :: r => by
    have ih := inV_ints (i := i) (ns := r)
    unfold inV at ih ⊢
    rw [List.map_cons, List.any_cons, ih]
    have e : eqV (.int a) (.int i) = decide (a = i) := by
      simp only [eqV]
      exact Bool.eq_iff_iff.mpr (by simp)
    rw [e]
    by_cases c : a = i
    · simp [c]
    · by_cases d : i ∈ r
      · simp [c, d]
      · simp [c, d]
        exact fun z => c z.symm
section
variable {P : Program} {w : World} {K : PySem.W.Frag} {mg : Str → Option Value} {base : Heap}
theorem scIsVar : FnScope ["_law_row", "_law_at", "_law_places"] ["_law_row", "_law_at"] (defScope sIsVar) := ⟨rfl, rfl, rfl, by decide +kernel, rfl, by decide +kernel, by decide +kernel⟩
theorem cal_isVar (T : Txt mg) (D : Dfn K mg "_law_is_variable" "_law_is_variable" sIsVar ["_law_row", "_law_at"]) : Cal P w K mg base CX0 1 "_law_is_variable" ["_law_row", "_law_at"] spIsVar := by
  obtain ⟨f, fd, F, m, b⟩ := D
  refine ⟨f, fd, m, F.kp, b, F.ok scIsVar (fun vs H Q E h => ?_) (fun cdv A outer s H vs Q E hr h => ?_)⟩
  · obtain ⟨_, _, _, _, rfl, _⟩ := h
    rfl
  · obtain ⟨r, i, t, more, rfl, hrr, k⟩ := h
    have hu := hu_of hr
    refine ⟨_, pss_cons (ps_set (i := 2) scIsVar.nd rfl (.inl rfl) (pe_disp (pps_cons pe_str (pe_lstN (pa_cons pe_int pa_nil)) (pps_cons pe_str (pe_lstN (pa_cons pe_int pa_nil)) (pps_cons pe_str (pe_lstN (pa_cons pe_int pa_nil)) (pps_cons pe_str (pe_lstN (pa_cons pe_int pa_nil))
        (pps_cons pe_str (pe_lstN (pa_cons pe_int (pa_cons pe_int pa_nil))) (pps_cons pe_str (pe_lstN (pa_cons pe_int (pa_cons pe_int pa_nil))) pps_nil)))))) rfl rfl (by simp) (by decide)))
      (pss_one (ps_ret (pe_cmpR op_in_seq (pv 1) (pe_dget2 hu (pv 2) (pe_ix ix_tup (pv 0) pe_int (fun _ _ => rfl)) (pe_lstN (pa_cons pe_int (pa_cons pe_int (pa_cons pe_int pa_nil)))) ⟨rfl, rfl, rfl, rfl⟩) (by rfl)))), ?_⟩
    refine fun d hd => ?_
    obtain ⟨H0, n0⟩ : ∃ H0, New H d (.dK []) H0 := ⟨_, hd, rfl⟩
    rw [← n0.eq]
    refine ⟨sz (by show 1 ≤ 100000; decide), fun l1 H1 n1 => ⟨sz (by show 1 ≤ 100000; decide), fun l2 H2 n2 => ⟨sz (by show 1 ≤ 100000; decide), fun l3 H3 n3 => ⟨sz (by show 1 ≤ 100000; decide), fun l4 H4 n4 => ⟨sz (by show 2 ≤ 100000; decide), fun l5 H5 n5 => ⟨sz (by show 2 ≤ 100000; decide), fun l6 H6 n6 => ?_⟩⟩⟩⟩⟩⟩
    have x5 := n6.same
    have x4 := n5.same.trans x5
    have x3 := n4.same.trans x4
    have x2 := n3.same.trans x3
    have x1 := n2.same.trans x2
    have x0 := n1.same.trans x1
    refine ⟨x0 _ _ n0.at, [(.inr "number", .ref l1), (.inr "if", .ref l2), (.inr "new", .ref l3), (.inr "call", .ref l4), (.inr "get", .ref l5), (.inr "put", .ref l6)], rfl, (by show 6 ≤ 15; decide), ?_⟩
    have hdd : ∀ {b : Addr} {o : HO}, b ≠ d → H6 b = some o → (upd H6 d (.dK (mergeK [] [(.inr "number", .ref l1), (.inr "if", .ref l2), (.inr "new", .ref l3), (.inr "call", .ref l4), (.inr "get", .ref l5), (.inr "put", .ref l6)]))) b = some o := fun nb h => by rw [upd_ne nb]; exact h
    have nrd := n0.ne hrr
    have y : Same H (upd H6 d (.dK (mergeK [] [(.inr "number", .ref l1), (.inr "if", .ref l2), (.inr "new", .ref l3), (.inr "call", .ref l4), (.inr "get", .ref l5), (.inr "put", .ref l6)]))) := same_own (n0.same.trans x0) n0.free
    refine ⟨_, rfl, _, rfl, d, rfl, .inl ⟨_, .inl upd_same⟩, _, rfl, r, _, _, _, rfl, rfl, SqT.of (y _ _ hrr), at_of (j := 0) rfl rfl, sz (by show 3 ≤ 100000; decide), fun l7 H7 n7 => ?_⟩
    refine ⟨_, DGet.k (k := Sum.inr t) (n7.same _ _ upd_same), ?_⟩
    have fin : ∀ (l : Addr) (ns : List Int), H7 l = some (.lst (ns.map V.int)) → plc t = ns → rIn K false (.int i) (.ref l) H7 Q := fun l ns h e =>
      ⟨l, _, rfl, .inl (SqL.of h), rfl, (by rw [List.all_map]; exact List.all_eq_true.mpr fun _ _ => rfl), by
        show Q (.bl (inV (.int i) (ns.map V.int))) H7
        rw [inV_ints, ← e]
        exact k _ (y.trans n7.same)⟩
    have lo : ∀ {b : Addr} {ns : List Int}, H6 b = some (.lst (ns.map V.int)) → H7 b = some (.lst (ns.map V.int)) := fun {b ns} h => n7.same _ _ (by
      rw [upd_ne]
      · exact h
      · intro e
        rw [e, x0 _ _ n0.at] at h
        cases h)
    have e : valV (mergeK [] [(Sum.inr "number", V.ref l1), (.inr "if", .ref l2), (.inr "new", .ref l3), (.inr "call", .ref l4), (.inr "get", .ref l5), (.inr "put", .ref l6)]) (Sum.inr t) =
        if (Sum.inr t : Key) = .inr "put" then some (V.ref l6) else if (Sum.inr t : Key) = .inr "get" then some (.ref l5) else if (Sum.inr t : Key) = .inr "call" then some (.ref l4) else if (Sum.inr t : Key) = .inr "new" then some (.ref l3) else if (Sum.inr t : Key) = .inr "if" then some (.ref l2) else if (Sum.inr t : Key) = .inr "number" then some (.ref l1) else none := by
      simp only [mergeK, List.foldl_cons, List.foldl_nil]
      rw [valV_put, valV_put, valV_put, valV_put, valV_put, valV_put]
      rfl
    rw [e]
    have inj : ∀ {x : Str}, ((Sum.inr t : Key) = .inr x) = (t = x) := fun {x} => propext ⟨fun h => Sum.inr.inj h, fun h => by rw [h]⟩
    simp only [inj]
    by_cases c6 : t = "put"
    · rw [if_pos c6]
      exact fin l6 [1, 3] (lo n6.at) (by unfold plc; rw [if_pos c6])
    rw [if_neg c6]
    by_cases c5 : t = "get"
    · rw [if_pos c5]
      exact fin l5 [1, 2] (lo (x5 _ _ n5.at)) (by unfold plc; rw [if_neg c6, if_pos c5])
    rw [if_neg c5]
    by_cases c4 : t = "call"
    · rw [if_pos c4]
      exact fin l4 [1] (lo (x4 _ _ n4.at)) (by unfold plc; rw [if_neg c6, if_neg c5, if_pos c4])
    rw [if_neg c4]
    by_cases c3 : t = "new"
    · rw [if_pos c3]
      exact fin l3 [1] (lo (x3 _ _ n3.at)) (by unfold plc; rw [if_neg c6, if_neg c5, if_neg c4, if_pos c3])
    rw [if_neg c3]
    by_cases c2 : t = "if"
    · rw [if_pos c2]
      exact fin l2 [1] (lo (x2 _ _ n2.at)) (by unfold plc; rw [if_neg c6, if_neg c5, if_neg c4, if_neg c3, if_pos c2])
    rw [if_neg c2]
    by_cases c1 : t = "number"
    · rw [if_pos c1]
      exact fin l1 [1] (lo (x1 _ _ n1.at)) (by unfold plc; rw [if_neg c6, if_neg c5, if_neg c4, if_neg c3, if_neg c2, if_pos c1])
    rw [if_neg c1]
    exact fin l7 [1, 2, 3] n7.at (by unfold plc; rw [if_neg c6, if_neg c5, if_neg c4, if_neg c3, if_neg c2, if_neg c1])
end
end K12

namespace K12
open PySem PySem.Spec PyProof.Rows L2
def nmOf (h : Hd) (b : Bool) : Str := (namesOf h b).headD "nosuch"
theorem nm_cases (h : Hd) (b : Bool) : nmOf h b = "nosuch" ∨ nmOf h b ∈ namesOf h b := by
  unfold nmOf
  cases e : namesOf h b with
  | nil => exact .inl rfl
  | cons x r => exact .inr List.mem_cons_self
theorem nosuch_none {h : Hd} (g : GoodHd h) : h.kind "nosuch" = none := by
  cases e : h.kind "nosuch" with
  | none => rfl
  | some b =>
    have := g.fl _ (look_some e)
    exact absurd this (show ¬ ("nosuch" : Str) ∈ wordList by decide +kernel)
/-- one kind is turned -/
structure Turned (ks os : List Bool) (j : Nat) : Prop where
  len : os.length = ks.length
  each : ∀ i b, os[i]? = some b → ∃ k, ks[i]? = some k ∧ b = if i = j then !k else k
theorem apart_wrong {cs : List Cl} {hs : List Hd} {h g : Hd} {n j : Nat} {os : List Bool} {x : Str} {as : List Str} (gh : GoodHd h) (ghs : GoodHds hs) (m : g ∈ hs) (t : Turned (g.ins.map (·.2) ++ [g.res]) os j) (hj : j < (g.ins.map (·.2) ++ [g.res]).length)
    (e : as ++ [x] = os.map (nmOf h)) (nx : x ≠ "nosuch") : isRow cs hs h n (.call x g.name as) = false := by
  have hl : as.length = g.ins.length := by
    have h1 := congrArg List.length e
    rw [List.length_map, t.len, List.length_append, List.length_append, List.length_map] at h1
    simpa using h1
  have getx : ∀ {i : Nat} {y : Str}, (as ++ [x])[i]? = some y → ∃ k, (g.ins.map (·.2) ++ [g.res])[i]? = some k ∧ y = nmOf h (if i = j then !k else k) := fun {i y} hy => by
    rw [e] at hy
    obtain ⟨b, hb, ey⟩ := map_ix hy
    obtain ⟨k, hk, eb⟩ := t.each i b hb
    exact ⟨k, hk, by rw [ey, eb]⟩
  show (match calledOf hs g.name with | none => false | some q => decide (as.map h.kind = q.ins.map fun d => some d.2) && decide (h.kind x = some q.res)) = false
  rw [called_one ghs.nd m]
  show (decide (as.map h.kind = g.ins.map fun d => some d.2) && decide (h.kind x = some g.res)) = false
  rw [List.length_append, List.length_map] at hj
  by_cases c : j = g.ins.length
  · obtain ⟨k, hk, ex⟩ := getx (i := as.length) (y := x) (by simp)
    rw [hl, List.getElem?_append_right (by rw [List.length_map]; exact Nat.le_refl _), List.length_map, Nat.sub_self] at hk
    cases hk
    rw [hl, if_pos c.symm] at ex
    have : h.kind x = some (!g.res) := by
      rcases nm_cases h (!g.res) with q | q
      · exact absurd (ex.trans q) nx
      · rw [ex]; exact names_kind gh.nd q
    rw [this]
    cases g.res <;> simp
  · have hj2 : j < g.ins.length := by simp at hj; omega
    obtain ⟨k, hk, ey⟩ := getx (i := j) (y := as[j]'(by omega)) (by rw [List.getElem?_append_left (by omega)]; exact List.getElem?_eq_getElem (by omega))
    rw [if_pos rfl] at ey
    rw [List.getElem?_append_left (by rw [List.length_map]; exact hj2), List.getElem?_map, List.getElem?_eq_getElem hj2] at hk
    have hk : g.ins[j].2 = k := Option.some.inj hk
    have ne : ¬ as.map h.kind = g.ins.map fun d => some d.2 := fun z => by
      have z1 := congrArg (fun l => l[j]?) z
      simp only [List.getElem?_map] at z1
      rw [List.getElem?_eq_getElem (by omega), List.getElem?_eq_getElem hj2] at z1
      have z2 : h.kind (as[j]'(by omega)) = some g.ins[j].2 := Option.some.inj z1
      rw [ey, hk] at z2
      rcases nm_cases h (!k) with q | q
      · rw [q, nosuch_none gh] at z2
        cases z2
      · rw [names_kind gh.nd q] at z2
        cases k <;> simp at z2
    rw [decide_eq_false ne]
    rfl
def spCallsApart : Sp := fun vs H Q _ => ∃ (w a c : Addr) (S : List Addr) (cs : List Cl) (hs : List Hd) (h g : Hd) (n : Nat), vs = [.ref a, .ref c] ∧ Wl w S H ∧ HdAt (hid S H) a h ∧ GoodHd h ∧ HdAt (hid S H) c g ∧ g ∈ hs ∧ GoodHds hs ∧
  ∀ q rs H', Dr w H H' → RwsAt (hid S H') q rs → rs.length ≤ 5 → (∀ r ∈ rs, ∃ x as, r = .call x g.name as ∧ (x ≠ "nosuch" → isRow cs hs h n r = false)) → Q (.ref q) H'
section
variable {P : Program} {w : World} {K : PySem.W.Frag} {mg : Str → Option Value} {base : Heap}
theorem scCallsApart : FnScope ["_law_head", "_law_called", "_law_kinds", "_law_found", "_law_some_here", "_law_j", "_law_others", "_law_names", "_law_name", "_law_kind", "_law_k"] ["_law_head", "_law_called"] (defScope sCallsApart) := ⟨rfl, rfl, rfl, by decide +kernel, rfl, by decide +kernel, by decide +kernel⟩
theorem cal_callsApart (T : Txt mg) (D : Dfn K mg "_law_calls_apart" "_law_calls_apart" sCallsApart ["_law_head", "_law_called"]) (CN : Cal P w K mg base CX0 1 "_law_named" ["_law_head", "_law_kind"] spNamed) :
    Cal P w K mg base CX0 2 "_law_calls_apart" ["_law_head", "_law_called"] spCallsApart := by
  obtain ⟨f, fd, F, m, b⟩ := D
  obtain ⟨f2, fd2, m2, kp2, b2, G2⟩ := CN
  refine ⟨f, fd, m, F.kp, b, F.ok scCallsApart (fun vs H Q E h => ?_) (fun cdv A outer s H vs Q E hr h => ?_)⟩
  · obtain ⟨_, _, _, _, _, _, _, _, _, rfl, _⟩ := h
    rfl
  · obtain ⟨p, a, c, S, cs, hs, h, g, n, rfl, W, hh, gh, hg, mg', ghs, k⟩ := h
    have hu := hu_of hr
    have gg := ghs.each g mg'
    refine ⟨_, pss_cons (ps_par (by rfl) scCallsApart.nd (i := 2) (j := 3) rfl rfl (by decide) rfl rfl (pa_cons
          (pe_op op_catN (pe_lc (own := [("_law_name", 8), ("_law_kind", 9)]) (g := g2 K 8 9) (tt := tYes) rfl scCallsApart.nd (pi_list (pe_ix ix_tup (pv 1) pe_int (fun _ _ => rfl)))
              (blkOk_by (N := ["_law_head", "_law_called", "_law_kinds", "_law_found", "_law_some_here", "_law_j", "_law_others", "_law_names", "_law_name", "_law_kind", "_law_k"]) (sc := defScope sCallsApart) (by decide +kernel))
              (fun _ _ _ _ _ => pg_two 8 9 rfl scCallsApart.nd rfl rfl (.inl rfl) (.inl rfl)) (fun _ _ _ _ _ => pts_nil) (fun _ _ _ _ _ => pv 9))
            (pe_lstN (pa_cons (pe_ix ix_tup (pv 1) pe_int (fun _ _ => rfl)) pa_nil))) (pa_cons (pe_lstN pa_nil) pa_nil)) (by rfl))
      (pss_cons (ps_set (i := 4) scCallsApart.nd rfl (.inr rfl) (pe_callTy (call_dictN rfl) (by rfl) T.dict (by decide +kernel) (pa_cons
          (pe_lc (own := [("_law_kind", 9)]) (g := gName 9) (tt := tYes) rfl scCallsApart.nd (pi_tup (pe_tupN (pa_cons pe_str (pa_cons pe_str pa_nil))))
              (blkOk_by (N := ["_law_head", "_law_called", "_law_kinds", "_law_found", "_law_some_here", "_law_j", "_law_others", "_law_names", "_law_name", "_law_kind", "_law_k"]) (sc := defScope sCallsApart) (by decide +kernel))
              (fun _ _ _ _ _ => pg_name (i := 9) scCallsApart.nd rfl (.inl rfl)) (fun _ _ _ _ _ => pts_nil)
              (fun _ _ _ _ _ => pe_tupN (pa_cons (pv 9) (pa_cons (pe_ix (r := rIxL K) ix_list (pe_op (r := rCatN K) op_catN (pe_call G2 hr (by rfl) m2 kp2 b2 .nil pass0 (pa_cons (pv 0) (pa_cons (pv 9) pa_nil))) (pe_lstN (pa_cons pe_str pa_nil))) pe_int (fun _ _ => rfl)) pa_nil)))) pa_nil)))
      (pss_cons (ps_for PassesOwn.never rfl (pi_range1 (by rfl) T.range (pa_cons (pe_callB call_len_seq (by rfl) T.len PySem.boot_len (pa_cons (pv 2) pa_nil)) pa_nil)) (pg_name (i := 5) scCallsApart.nd rfl (.inr rfl))
        (pss_cons (ps_setLc (i := 6) (own := [("_law_k", 10), ("_law_kind", 9)]) (g := g2 K 10 9) (tt := tYes) rfl scCallsApart.nd rfl rfl (sw_true rfl rfl rfl (by decide +kernel)) (pi_enum (by rfl) T.enumerate (pa_cons (pv 2) pa_nil))
              (blkOk_by (N := ["_law_head", "_law_called", "_law_kinds", "_law_found", "_law_some_here", "_law_j", "_law_others", "_law_names", "_law_name", "_law_kind", "_law_k"]) (sc := defScope sCallsApart) (by decide +kernel))
              (fun _ _ _ _ _ => pg_two 10 9 rfl scCallsApart.nd rfl rfl (.inl rfl) (.inl rfl)) (fun _ _ _ _ _ => pts_nil)
              (fun _ _ _ _ _ => pe_ifExp (pt_cmpR op_eq (pv 10) (pv 5) (nomark _)) (pe_dget hu (pe_disp (pps_cons pe_str pe_str (pps_cons pe_str pe_str pps_nil)) rfl rfl (by simp) (by decide)) (pv 9) (fun _ _ => rfl)) (pv 9)))
        (pss_cons (ps_setLc (i := 7) (own := [("_law_kind", 9)]) (g := gName 9) (tt := tYes) rfl scCallsApart.nd rfl rfl (sw_true rfl rfl rfl (by decide +kernel)) (pi_list (pv 6))
              (blkOk_by (N := ["_law_head", "_law_called", "_law_kinds", "_law_found", "_law_some_here", "_law_j", "_law_others", "_law_names", "_law_name", "_law_kind", "_law_k"]) (sc := defScope sCallsApart) (by decide +kernel))
              (fun _ _ _ _ _ => pg_name (i := 9) scCallsApart.nd rfl (.inl rfl)) (fun _ _ _ _ _ => pts_nil) (fun _ _ _ _ _ => pe_dget hu (pv 4) (pv 9) (fun _ _ => rfl)))
        (pss_one (ps_expr (pe_bm PySem.F.plainAttrs_list PySem.F.slot_list_append PySem.F.type_list_append mt_appN (pv 3) (pa_cons
          (pe_tupN (pa_cons pe_str (pa_cons (pe_ix ix_list (pv 7) (pe_un un_neg pe_int) (fun _ _ => rfl)) (pa_cons (pe_ix ix_tup (pv 1) pe_int (fun _ _ => rfl)) (pa_cons (pe_slice sl_listN (pv 7) po_none (po_some (pe_un un_neg pe_int))) pa_nil))))) pa_nil)))))))
      (pss_one (ps_ret (pv 3))))), ?_⟩
    obtain ⟨i, o, hq, hi, ho⟩ := id hg
    obtain ⟨vi, hvi, pi⟩ := hi
    have li : vi.length ≤ 4 := by rw [pi.len]; exact gg.li
    refine ⟨_, rfl, c, _, _, _, rfl, rfl, SqT.of (hid_some hq).1, at_of (j := 1) rfl rfl, i, rfl, ⟨_, SqL.of (hid_some hvi).1⟩, fun D1 hD1 => lc_dr (K := K) (w := p) (S := S) (a := i) (xs := vi) KdV (fun j b => (g.ins.map (·.2))[j]? = some b) KdV.mono (by omega) W hD1 (SqL.of hvi) ?_ ?_⟩
    · rintro j y H2 Qn hj at2 kq
      obtain ⟨d, hd, qd, rfl, hqd⟩ := pi.get hj
      refine ⟨qd, _, rfl, SqT.of (hid_some (at2.up W.mem hD1 _ _ hqd)).1, rfl, _, _, rfl, _, _, rfl, rfl, rfl, _, rfl, ?_⟩
      exact kq _ d.2 H2 (Dr.refl at2.wl.wl) rfl (by rw [List.getElem?_map, hd]; rfl)
    · rintro H2 ks d2 ⟨vk, hvk, pk⟩ lk ak
      have ek : ks = g.ins.map (·.2) := by
        refine List.ext_getElem? fun j => ?_
        cases e : ks[j]? with
        | some b => exact (ak j b e).symm
        | none =>
          have := List.getElem?_eq_none_iff.mp e
          refine (List.getElem?_eq_none_iff.mpr ?_).symm
          rw [List.length_map, ← pi.len, ← lk]
          exact this
      have evk := kds_of pk
      subst evk ek
      have W2 := W.dr d2
      have hq2 := W.up d2 _ _ hq
      refine ⟨_, rfl, c, _, _, _, rfl, rfl, SqT.of (hid_some hq2).1, at_of (j := 3) rfl rfl, sz (by show 1 ≤ 100000; decide), fun l1 H3 n3 => ?_⟩
      have W3 := W2.same n3.same
      refine ⟨D1, l1, _, _, rfl, rfl, SqL.of (n3.same _ _ (hid_some hvk).1), SqL.of n3.at, sz (by rw [List.length_map, List.length_map, ← pi.len]; show vi.length + 1 ≤ 100000; omega), fun l2 H4 n4 => ?_⟩
      have W4 := W3.same n4.same
      have hl2 := n4.at
      rw [show List.map (fun b => V.str (kd b)) (List.map (fun x : Dcl => x.2) g.ins) ++ [V.str (kd g.res)] = (g.ins.map (·.2) ++ [g.res]).map (fun b => V.str (kd b)) by rw [List.map_append]; rfl] at hl2
      have n2p : l2 ≠ p := W3.nw n4.free
      have lks : (g.ins.map (·.2) ++ [g.res]).length = g.ins.length + 1 := by rw [List.length_append, List.length_map]; rfl
      have lg := gg.li
      have aw : ∀ {os : List Bool} {j : Nat} {x : Str} {as : List Str}, Turned (g.ins.map (·.2) ++ [g.res]) os j → j < (g.ins.map (·.2) ++ [g.res]).length → as ++ [x] = os.map (nmOf h) → x ≠ "nosuch" → isRow cs hs h n (.call x g.name as) = false := fun t hj e nx => apart_wrong gh ghs mg' t hj e nx
      revert hl2 lks aw
      generalize g.ins.map (·.2) ++ [g.res] = ks
      intro hl2 lks aw
      refine ⟨sz (by show 0 ≤ 100000; decide), fun lf H5 n5 => ?_⟩
      have W5 := W4.new n5
      have nfp := W4.nw n5.free
      have lf0 : H lf = none := d2.free (n3.old (n4.old n5.free))
      have d5 : Dr p H H5 := ((d2.same n3.same).same n4.same).same n5.same
      have nfl2 : l2 ≠ lf := n5.ne hl2
      have hh5 := (hh.mono (W.up ((d2.same n3.same).same n4.same))).mono n5.hid1
      have hg5 := (hg.mono (W.up ((d2.same n3.same).same n4.same))).mono n5.hid1
      refine ⟨_, _, rfl, ?_⟩
      -- the two names
      refine ⟨sz (by show 2 ≤ 100000; decide), fun tp H6 n6 => ?_⟩
      have W6 := W5.same n6.same
      refine ⟨tp, rfl, ⟨_, SqT.of n6.at⟩, fun D2 hD2 => lc_drW (walk_tup (K := K) (a := tp) (xs := [V.str "number", V.str "object"])) (w := p) (S := lf :: S) (fun H v (q : Bool × Str) => ∃ t, v = V.ref t ∧ H t = some (.tup [.str (kd q.1), .str q.2])) (fun i q => q.2 = nmOf h q.1 ∧ q.1 = decide (i = 1)) (fun _ _ _ _ s ⟨t, e, z⟩ => ⟨t, e, s _ _ z⟩) (by show 2 ≤ 100000; decide) W6 hD2 ?_ ?_ ?_⟩
      · intro i H' _ a'
        exact SqT.of (a'.get hD2 n6.at (W5.nw n6.free))
      · rintro i x H7 H7' Qn hi at7 ⟨rfl, hx⟩ kq
        obtain ⟨b, rfl, eb⟩ : ∃ b, x = V.str (kd b) ∧ b = decide (i = 1) := by
          match i, hx with
          | 0, hx => exact ⟨false, (Option.some.inj hx).symm, rfl⟩
          | 1, hx => exact ⟨true, (Option.some.inj hx).symm, rfl⟩
        have hh7 : HdAt H7' a h := ((hh5.mono n6.hid).mono (at7.up W5.mem hD2)).mono (hid_sub _ _)
        refine ⟨rfl, _, rfl, _, rfl, _, rfl, a, h, b, rfl, hh7, gh.len, fun t H8 s8 nt ht => ?_⟩
        refine ⟨sz (by show 1 ≤ 100000; decide), fun l9 H9 n9 => ?_⟩
        refine ⟨t, l9, _, _, rfl, rfl, SqL.of (n9.same _ _ ht), SqL.of n9.at, sz (by rw [List.length_map]; have := names_len (h := h) (b := b); have := gh.len; show _ + 1 ≤ 100000; omega), fun la Ha na => ?_⟩
        refine ⟨la, _, _, .str (nmOf h b), rfl, rfl, SqL.of na.at, at_of (j := 0) rfl ?_, sz (by show 2 ≤ 100000; decide), fun tt Hb nb => ?_⟩
        · unfold nmOf
          cases namesOf h b with
          | nil => rfl
          | cons x r => rfl
        · have x7b := ((s8.trans n9.same).trans na.same).trans nb.same
          exact kq _ (b, nmOf h b) Hb (Dr.of at7.wl.wl x7b) ⟨tt, rfl, hid_get nb.at ((at7.wl.same ((s8.trans n9.same).trans na.same)).nin nb.free)⟩ ⟨rfl, eb⟩
      rintro H7 prs d7 ⟨vp, hvp, pp⟩ lp ap
      have W7 := W6.dr d7
      obtain ⟨q0, q1, rfl⟩ : ∃ a b, prs = [a, b] := by
        match prs, lp with
        | [a, b], _ => exact ⟨a, b, rfl⟩
      have e0 := ap 0 q0 rfl
      have e1 := ap 1 q1 rfl
      obtain ⟨b0, s0⟩ := q0
      obtain ⟨b1, s1⟩ := q1
      have eb0 : b0 = false := e0.2
      have eb1 : b1 = true := e1.2
      subst eb0 eb1
      have es0 : s0 = nmOf h false := e0.1
      have es1 : s1 = nmOf h true := e1.1
      subst es0 es1
      cases pp with
      | cons r0 pp1 =>
      cases pp1 with
      | cons r1 pp2 =>
      cases pp2
      obtain ⟨t0, rfl, ht0⟩ := r0
      obtain ⟨t1, rfl, ht1⟩ := r1
      refine ⟨D2, [t0, t1], [(.inr (kd false), .str (nmOf h false)), (.inr (kd true), .str (nmOf h true))], rfl, SqL.of (hid_some hvp).1, .cons (SqT.of (hid_some ht0).1) (.cons (SqT.of (hid_some ht1).1) .nil), fun sd H8 n8 => ?_⟩
      have W8 := W7.same n8.same
      have nsd : sd ≠ p := W7.nw n8.free
      have dget : ∀ b : Bool, valV (mergeK [] [(Sum.inr (kd false), V.str (nmOf h false)), (Sum.inr (kd true), V.str (nmOf h true))]) (Sum.inr (kd b)) = some (.str (nmOf h b)) := fun b => by
        simp only [mergeK, List.foldl_cons, List.foldl_nil]
        rw [valV_put, valV_put]
        cases b with
        | true => rw [if_pos rfl]
        | false => rw [if_neg (fun z => absurd (kd_inj.mp (Sum.inr.inj z)) (by decide)), if_pos rfl]
      have d58 : Dr p H5 H8 := ((Dr.of W5.wl n6.same).trans d7).same n8.same
      have hl8 : H8 lf = some (.lst []) := d58.get n5.at nfp
      have hk8 : H8 l2 = some (.lst (ks.map fun b => V.str (kd b))) := d58.get (n5.same _ _ hl2) n2p
      refine ⟨_, rfl, l2, _, rfl, .inl (SqL.of hk8), (ks.length : Int), by rw [List.length_map], by omega, by omega, ?_⟩
      have hsd := n8.at
      revert hsd
      generalize (mergeK [] [(Sum.inr (kd false), V.str (nmOf h false)), (Sum.inr (kd true), V.str (nmOf h true))]) = dd at dget
      intro hsd
      have nsl : sd ≠ lf := fun e => by have := n8.free; rw [e] at this; rw [d7.get (n6.same _ _ n5.at) nfp] at this; cases this
      refine for_range (n := (ks.length : Int).toNat) (fun i σ H' => ∃ (v5 v6 v7 : Option V) (rs : List Rw), σ = [some (.ref a), some (.ref c), some (.ref l2), some (.ref lf), some (.ref sd), v5, v6, v7, none, none, none] ∧ Wl p (lf :: S) H' ∧ Sm [lf, p] H8 H' ∧ Own RwV S H' lf rs ∧ rs.length = i ∧ ∀ r ∈ rs, ∃ x as, r = .call x g.name as ∧ (x ≠ "nosuch" → isRow cs hs h n r = false))
        ⟨none, none, none, [], rfl, W8, Sm.refl _ _, ⟨[], hl8, .nil⟩, rfl, fun _ m => nomatch m⟩ ?_ ?_
      · rintro j σ H' hj ⟨v5, v6, v7, rs, rfl, W', s', ow', lr, gr⟩
        have hk' : H' l2 = some (.lst (ks.map fun b => V.str (kd b))) := s'.get hk8 (by simpa using ⟨nfl2, n2p⟩)
        have hsd' : H' sd = some (.dK dd) := s'.get hsd (by simpa using ⟨nsl, nsd⟩)
        have n2S : l2 ∉ lf :: S := fun m => (List.mem_cons.mp m).elim nfl2 (W3.nin n4.free)
        refine ⟨_, rfl, l2, _, rfl, SqL.of hk', fun D3 hD3 => lc_drW (walk_enum (K := K) (a := l2) (xs := ks.map fun b => V.str (kd b))) (w := p) (S := lf :: S) KdV (fun i b => ∃ k, ks[i]? = some k ∧ b = if i = j then !k else k) KdV.mono (by rw [List.length_map]; omega) W' hD3 ?_ ?_ ?_⟩
        · intro i H9 _ a'
          exact SqL.of (a'.get hD3 hk' n2p)
        · rintro i x Ha Ha' Qn hi ata ⟨tt, x1, x2, rfl, ntt, eHa, ex1, ex2⟩ kq
          cases ex1
          obtain ⟨b, hb, rfl⟩ := map_ix ex2
          have na : New Ha tt (.tup [.int (i : Nat), .str (kd b)]) Ha' := ⟨ntt, eHa⟩
          have Wa := ata.wl.same na.same
          refine ⟨tt, _, rfl, SqT.of na.at, rfl, _, _, rfl, _, _, rfl, rfl, rfl, ?_⟩
          refine ⟨_, rfl, _, rfl, rfl, _, rfl, ?_⟩
          refine ite2 (fun e => ?_) (fun e => ?_)
          · have eij : i = j := by
              have := V.int.inj (of_decide_eq_true e)
              omega
            refine fun d9 hd9 => ?_
            obtain ⟨Hb, nb⟩ : ∃ Hb, New Ha' d9 (.dK []) Hb := ⟨_, hd9, rfl⟩
            rw [← nb.eq]
            refine ⟨nb.at, [(.inr "number", .str "object"), (.inr "object", .str "number")], rfl, (by show 2 ≤ 15; decide), ?_⟩
            refine ⟨_, rfl, d9, .str (kd (!b)), rfl, ?_, ?_⟩
            · have := DGet.k (k := Sum.inr (kd b)) (H := upd Hb d9 (.dK (mergeK [] [(.inr "number", .str "object"), (.inr "object", .str "number")]))) upd_same
              have e2 : valV (mergeK [] [(Sum.inr "number", V.str "object"), (Sum.inr "object", V.str "number")]) (Sum.inr (kd b)) = some (.str (kd (!b))) := by
                cases b <;> decide +kernel
              rw [e2] at this
              exact this
            · refine kq _ (!b) _ ((Dr.of ata.wl.wl na.same).trans ?_) rfl ⟨b, hb, by rw [if_pos eij]⟩
              exact Dr.of Wa.wl (same_own nb.same nb.free)
          · have eij : ¬ i = j := fun z => e (decide_eq_true (by rw [z]; simp))
            refine ⟨_, rfl, ?_⟩
            exact kq _ b Ha' (Dr.of ata.wl.wl na.same) rfl ⟨b, hb, by rw [if_neg eij]⟩
        · rintro H9 os d9 ⟨vo, hvo, po⟩ lo ao
          have evo := kds_of po
          subst evo
          have W9 := W'.dr d9
          rw [List.length_map] at lo
          have tr : Turned ks os j := ⟨lo, ao⟩
          refine ⟨_, rfl, D3, rfl, ⟨_, SqL.of (hid_some hvo).1⟩, fun D4 hD4 => lc_dr (K := K) (w := p) (S := lf :: S) (a := D3) (xs := os.map fun b => V.str (kd b)) StrV (fun i x => ∃ b, os[i]? = some b ∧ x = nmOf h b) StrV.mono (by rw [List.length_map]; omega) W9 hD4 (SqL.of hvo) ?_ ?_⟩
          · rintro i y Ha Qn hi ata kq
            obtain ⟨b, hb, rfl⟩ := map_ix hi
            refine ⟨rfl, _, rfl, _, rfl, sd, .str (nmOf h b), rfl, ?_, ?_⟩
            · have := DGet.k (k := Sum.inr (kd b)) (ata.get hD4 (d9.get hsd' nsd) nsd)
              rw [dget b] at this
              exact this
            · exact kq _ (nmOf h b) Ha (Dr.refl ata.wl.wl) rfl ⟨b, hb, rfl⟩
          · rintro Ha ns da ⟨vn, hvn, pn⟩ ln an
            have en := strs_of pn
            subst en
            have Wa := W9.dr da
            have dda := d9.trans da
            rw [List.length_map] at ln
            have ens : ns = os.map (nmOf h) := by
              refine List.ext_getElem? fun i => ?_
              rw [List.getElem?_map]
              cases e : ns[i]? with
              | some x =>
                obtain ⟨b, hb, ex⟩ := an i x e
                rw [hb, ex]
                rfl
              | none =>
                rw [List.getElem?_eq_none_iff.mpr (by have := List.getElem?_eq_none_iff.mp e; omega)]
                rfl
            obtain ⟨as, x, rfl⟩ : ∃ as x, ns = as ++ [x] := by
              have : ns ≠ [] := fun z => by
                rw [z] at ln
                simp at ln
                omega
              exact ⟨_, _, (List.dropLast_concat_getLast this).symm⟩
            have hvn' := (hid_some hvn).1
            rw [List.map_append] at hvn'
            obtain ⟨vf, hvf, pf⟩ := ow'.dr RwV.mono nfp W.mem dda
            obtain ⟨ig, og, hcg, _, _⟩ := hg5.mono ((W5.up d58).trans ((W8.up1 s' |> fun z => (show Same (hid (lf :: S) H8) (hid (lf :: S) H') from Sm.more s' (fun u m => by
              rcases List.mem_cons.mp m with q | q
              · rw [q]; exact List.mem_cons_self
              · rw [List.mem_singleton.mp q]; exact W5.mem))).trans (W'.up dda)))
            refine ⟨_, rfl, .inl ⟨rfl, _, SqL.of hvf⟩, ?_⟩
            refine ⟨_, rfl, _, rfl, D4, _, _, _, rfl, rfl, SqL.of hvn', atI_last _ _, _, rfl, c, _, _, _, rfl, rfl, SqT.of (hid_some hcg).1, at_of (j := 0) rfl rfl, _, rfl, _, rfl, _, rfl, D4, _, rfl, SqL.of hvn', fun u1 Hb nb => ?_⟩
            have e8 : cutV (as.map V.str ++ [x].map V.str) none (some (-1)) = as.map V.str := cut_init
            rw [e8] at nb
            have Wb := Wa.same nb.same
            refine ⟨sz (by show 4 ≤ 100000; decide), fun t Hc nc => ?_⟩
            have Wc := Wb.same nc.same
            have xac := nb.same.trans nc.same
            refine ⟨lf, vf, _, rfl, rfl, xac _ _ hvf, sz' (by rw [pf.len, lr]; omega), fun Hd pd => ?_⟩
            have pf2 : Paired (RwV (hid (lf :: S) Hc)) vf rs := pf.imp fun _ _ z => RwV.mono _ _ _ _ (Sm.of xac) z
            refine ⟨_, _, _, rs ++ [.call x g.name as], rfl, Wc.put pd nfp, ((s'.trans (Sm.two dda)).trans (Sm.of xac)).trans (pd.sm List.mem_cons_self), Own.put RwV.mono pf2 (nc.row (r := .call x g.name as) (Wb.nin nc.free) (.cons rfl (.cons rfl (.cons rfl (.one ⟨u1, rfl, (by rw [List.length_append] at ln; have : as.length + 1 = os.length := ln; omega), nc.hid _ _ (hid_get nb.at (Wa.nin nb.free))⟩)))) (fun _ _ _ _ e => nomatch e)) pd, by rw [List.length_append, lr]; rfl, fun r hr => ?_⟩
            rcases List.mem_append.mp hr with q | q
            · exact gr r q
            · rw [List.mem_singleton.mp q]
              exact ⟨x, as, rfl, fun nx => aw tr (by omega) ens nx⟩
      · rintro σ H' ⟨v5, v6, v7, rs, rfl, W', s', ow', lr, gr⟩
        refine ⟨_, rfl, ?_⟩
        have : lf ∉ S := W4.nin n5.free
        refine k lf rs H' ⟨((Sm.two (d5.trans d58)).trans s').drop lf0, W'.wl⟩ (ow'.ls RwV.mono this) (by omega) gr
end
end K12

namespace K12
open PySem PySem.Spec PyProof.Rows L2
def Rw.tag : Rw → Str
  | .number _ _ => "number"
  | .nil _ => "nil"
  | .copy _ _ => "copy"
  | .arith op _ _ _ => op
  | .same _ _ _ => "same"
  | .new _ _ => "new"
  | .get _ _ _ => "get"
  | .put _ _ _ => "put"
  | .call _ _ _ => "call"
  | .see _ => "see"
  | .iff _ _ => "if"
  | .jump _ => "jump"
  | .ret _ => "return"
def Rw.rest : Rw → List Cell
  | .number x i => [.s x, .n i]
  | .nil x => [.s x]
  | .copy x y => [.s x, .s y]
  | .arith _ x y z => [.s x, .s y, .s z]
  | .same x y z => [.s x, .s y, .s z]
  | .new x c => [.s x, .s c]
  | .get x y f => [.s x, .s y, .s f]
  | .put x f y => [.s x, .s f, .s y]
  | .call x g as => [.s x, .s g, .l as]
  | .see x => [.s x]
  | .iff x i => [.s x, .n i]
  | .jump i => [.n i]
  | .ret x => [.s x]
theorem Rw.cells_eq (r : Rw) : r.cells = .s r.tag :: r.rest := by cases r <;> rfl
/-- the variable at a place -/
def Rw.var : Rw → Nat → Option Str
  | .number x _, 1 => some x
  | .nil x, 1 => some x
  | .copy x _, 1 => some x
  | .copy _ y, 2 => some y
  | .arith _ x _ _, 1 => some x
  | .arith _ _ y _, 2 => some y
  | .arith _ _ _ z, 3 => some z
  | .same x _ _, 1 => some x
  | .same _ y _, 2 => some y
  | .same _ _ z, 3 => some z
  | .new x _, 1 => some x
  | .get x _ _, 1 => some x
  | .get _ y _, 2 => some y
  | .put x _ _, 1 => some x
  | .put _ _ y, 3 => some y
  | .call x _ _, 1 => some x
  | .see x, 1 => some x
  | .iff x _, 1 => some x
  | .ret x, 1 => some x
  | _, _ => none
/-- the row with z for the variable at a place -/
def Rw.bend : Rw → Nat → Str → Rw
  | .number _ i, 1, z => .number z i
  | .nil _, 1, z => .nil z
  | .copy _ y, 1, z => .copy z y
  | .copy x _, 2, z => .copy x z
  | .arith op _ y v, 1, z => .arith op z y v
  | .arith op x _ v, 2, z => .arith op x z v
  | .arith op x y _, 3, z => .arith op x y z
  | .same _ y v, 1, z => .same z y v
  | .same x _ v, 2, z => .same x z v
  | .same x y _, 3, z => .same x y z
  | .new _ c, 1, z => .new z c
  | .get _ y f, 1, z => .get z y f
  | .get x _ f, 2, z => .get x z f
  | .put _ f y, 1, z => .put z f y
  | .put x f _, 3, z => .put x f z
  | .call _ g as, 1, z => .call z g as
  | .see _, 1, z => .see z
  | .iff _ i, 1, z => .iff z i
  | .ret _, 1, z => .ret z
  | r, _, _ => r
def places (r : Rw) : List Nat := ((List.range r.rest.length).map (· + 1)).filter fun i => (r.var i).isSome
theorem plc_plain {t : Str} (h1 : t ≠ "put") (h2 : t ≠ "get") (h3 : t ≠ "call") (h4 : t ≠ "new") (h5 : t ≠ "if") (h6 : t ≠ "number") : plc t = [1, 2, 3] := by
  unfold plc
  rw [if_neg h1, if_neg h2, if_neg h3, if_neg h4, if_neg h5, if_neg h6]
theorem arith_plc {op : Str} (h : op ∈ ariths) : plc op = [1, 2, 3] := by
  have e : op = "add" ∨ op = "sub" ∨ op = "times" ∨ op = "less" := by
    unfold ariths at h
    simpa using h
  rcases e with e | e | e | e <;> (rw [e]; decide +kernel)
theorem rest_len (r : Rw) : 1 ≤ r.rest.length ∧ r.rest.length ≤ 3 := by cases r <;> exact ⟨by show 1 ≤ _; simp [Rw.rest], by simp [Rw.rest]⟩
/-- at a place that is a variable's a name stands -/
theorem var_at {r : Rw} {i : Nat} (ha : ∀ op x y z, r = .arith op x y z → op ∈ ariths) (nj : r.isJump = false) (h1 : 1 ≤ i) (h2 : i ≤ r.rest.length) (h : ((i : Nat) : Int) ∈ plc r.tag) : ∃ x, r.var i = some x ∧ r.cells[i]? = some (.s x) := by
  have l3 := (rest_len r).2
  have i3 : i = 1 ∨ i = 2 ∨ i = 3 := by omega
  cases r with
  | number x n =>
    rcases i3 with rfl | rfl | rfl
    · exact ⟨_, rfl, rfl⟩
    · exact absurd h (show ¬ ((2 : Nat) : Int) ∈ plc "number" by decide +kernel)
    · simp [Rw.rest] at h2
  | nil x =>
    rcases i3 with rfl | rfl | rfl
    · exact ⟨_, rfl, rfl⟩
    · simp [Rw.rest] at h2
    · simp [Rw.rest] at h2
  | copy x y =>
    rcases i3 with rfl | rfl | rfl
    · exact ⟨_, rfl, rfl⟩
    · exact ⟨_, rfl, rfl⟩
    · simp [Rw.rest] at h2
  | arith op x y z =>
    rcases i3 with rfl | rfl | rfl <;> exact ⟨_, rfl, rfl⟩
  | same x y z =>
    rcases i3 with rfl | rfl | rfl <;> exact ⟨_, rfl, rfl⟩
  | new x c =>
    rcases i3 with rfl | rfl | rfl
    · exact ⟨_, rfl, rfl⟩
    · exact absurd h (show ¬ ((2 : Nat) : Int) ∈ plc "new" by decide +kernel)
    · simp [Rw.rest] at h2
  | get x y f =>
    rcases i3 with rfl | rfl | rfl
    · exact ⟨_, rfl, rfl⟩
    · exact ⟨_, rfl, rfl⟩
    · exact absurd h (show ¬ ((3 : Nat) : Int) ∈ plc "get" by decide +kernel)
  | put x f y =>
    rcases i3 with rfl | rfl | rfl
    · exact ⟨_, rfl, rfl⟩
    · exact absurd h (show ¬ ((2 : Nat) : Int) ∈ plc "put" by decide +kernel)
    · exact ⟨_, rfl, rfl⟩
  | call x g as =>
    rcases i3 with rfl | rfl | rfl
    · exact ⟨_, rfl, rfl⟩
    · exact absurd h (show ¬ ((2 : Nat) : Int) ∈ plc "call" by decide +kernel)
    · exact absurd h (show ¬ ((3 : Nat) : Int) ∈ plc "call" by decide +kernel)
  | see x =>
    rcases i3 with rfl | rfl | rfl
    · exact ⟨_, rfl, rfl⟩
    · simp [Rw.rest] at h2
    · simp [Rw.rest] at h2
  | iff x n =>
    rcases i3 with rfl | rfl | rfl
    · exact ⟨_, rfl, rfl⟩
    · exact absurd h (show ¬ ((2 : Nat) : Int) ∈ plc "if" by decide +kernel)
    · simp [Rw.rest] at h2
  | jump n => cases nj
  | ret x =>
    rcases i3 with rfl | rfl | rfl
    · exact ⟨_, rfl, rfl⟩
    · simp [Rw.rest] at h2
    · simp [Rw.rest] at h2
theorem one_plc (t : Str) : (1 : Int) ∈ plc t := by
  unfold plc
  repeat' split
  all_goals decide
theorem bend_cells {r : Rw} {i : Nat} {x z : Str} (h : r.var i = some x) : (r.bend i z).cells = r.cells.set i (.s z) ∧ ∀ op a b c, r.bend i z = .arith op a b c → ∃ a' b' c', r = .arith op a' b' c' := by
  have i3 : i = 0 ∨ i = 1 ∨ i = 2 ∨ i = 3 ∨ 4 ≤ i := by omega
  cases r with
  | arith op a b c =>
    rcases i3 with rfl | rfl | rfl | rfl | q
    · cases h
    · exact ⟨rfl, fun _ _ _ _ e => by cases e; exact ⟨_, _, _, rfl⟩⟩
    · exact ⟨rfl, fun _ _ _ _ e => by cases e; exact ⟨_, _, _, rfl⟩⟩
    · exact ⟨rfl, fun _ _ _ _ e => by cases e; exact ⟨_, _, _, rfl⟩⟩
    · match i, q with
      | i + 4, _ => cases h
  | _ =>
    rcases i3 with rfl | rfl | rfl | rfl | q
    · cases h
    · first | (cases h; done) | exact ⟨rfl, fun _ _ _ _ e => nomatch e⟩
    · first | (cases h; done) | exact ⟨rfl, fun _ _ _ _ e => nomatch e⟩
    · first | (cases h; done) | exact ⟨rfl, fun _ _ _ _ e => nomatch e⟩
    · match i, q with
      | i + 4, _ => cases h
theorem var_kind {cs : List Cl} {hs : List Hd} {h : Hd} {n : Nat} {r : Rw} {i : Nat} {x : Str} (g : isRow cs hs h n r = true) (v : r.var i = some x) : ∃ b, h.kind x = some b := by
  have i3 : i = 0 ∨ i = 1 ∨ i = 2 ∨ i = 3 ∨ ∃ k, i = k + 4 := by
    rcases Nat.lt_or_ge i 4 with q | q
    · omega
    · exact .inr (.inr (.inr (.inr ⟨i - 4, by omega⟩)))
  have some_of : ∀ {o : Option Bool}, o.isSome = true → ∃ b, o = some b := fun {o} h => by
    cases o with
    | none => cases h
    | some b => exact ⟨b, rfl⟩
  cases r with
  | call y f as =>
    rcases i3 with rfl | rfl | rfl | rfl | ⟨k, rfl⟩ <;> cases v
    simp only [isRow] at g
    cases e : calledOf hs f with
    | none => rw [e] at g; cases g
    | some q =>
      rw [e] at g
      simp at g
      exact ⟨_, g.2⟩
  | _ =>
    rcases i3 with rfl | rfl | rfl | rfl | ⟨k, rfl⟩ <;> cases v <;> simp [isRow] at g <;> grind
theorem bend_wrong {cs : List Cl} {hs : List Hd} {h : Hd} {n : Nat} {r : Rw} {i : Nat} {x z : Str} (g : isRow cs hs h n r = true) (v : r.var i = some x) (nk : h.kind z ≠ h.kind x) (sn : r.tag = "see" → h.kind z = none) : isRow cs hs h n (r.bend i z) = false := by
  have i3 : i = 0 ∨ i = 1 ∨ i = 2 ∨ i = 3 ∨ ∃ k, i = k + 4 := by
    rcases Nat.lt_or_ge i 4 with q | q
    · omega
    · exact .inr (.inr (.inr (.inr ⟨i - 4, by omega⟩)))
  cases r with
  | call y f as =>
    rcases i3 with rfl | rfl | rfl | rfl | ⟨k, rfl⟩ <;> cases v
    simp only [isRow, Rw.bend] at g ⊢
    cases e : calledOf hs f with
    | none => rfl
    | some q =>
      rw [e] at g
      simp at g ⊢
      intro _
      rw [← g.2]
      exact nk
  | see y =>
    rcases i3 with rfl | rfl | rfl | rfl | ⟨k, rfl⟩ <;> cases v
    simp only [isRow, Rw.bend]
    rw [sn rfl]
    rfl
  | _ =>
    rcases i3 with rfl | rfl | rfl | rfl | ⟨k, rfl⟩ <;> cases v <;> simp [isRow, Rw.bend] at g ⊢ <;> grind
end K12

namespace K12
open PySem PySem.Spec PyProof.Rows L2
abbrev sBent : Stmt := topS 58
section
variable {X : Cx}
/-- t[lo:hi], not the whole -/
def rSlTN (K : PySem.W.Frag) : V → Option Int → Option Int → Hp → VK → Prop := fun x lo hi H Q => ∃ a xs, x = .ref a ∧ SqT K H a xs ∧ ¬ (HT.sIx xs.length 0 lo = 0 ∧ HT.sIx xs.length xs.length hi = xs.length) ∧ ∀ p H', New H p (.tup (cutV xs lo hi)) H' → Q (.ref p) H'
theorem sl_tupN : SlR X (rSlTN X.K) := by
  intro pins s σ H x v vl vu lo hi sl Q I rx hs pl pu ⟨a, xs, e, h, w, q⟩
  exact sl_tup pins s σ H x v vl vu lo hi sl Q I rx hs pl pu ⟨a, xs, e, h, w, fun p hp => q p _ ⟨hp, rfl⟩⟩
/-- t + u, t not empty and tracked -/
def rCatTR (K : PySem.W.Frag) : R2 := fun x y H Q => ∃ a b xs ys, x = .ref a ∧ y = .ref b ∧ H a = some (.tup xs) ∧ SqT K H b ys ∧ xs ≠ [] ∧ xs.length + ys.length ≤ sizeLine ∧ ∀ p H', Same H H' → H' p = some (.tup (xs ++ ys)) → (p = a ∨ H p = none) → Q (.ref p) H'
theorem op_catTR : OpR X (binaryOp .Add) (rCatTR X.K) := by
  intro pins s σ H x y v u Q I rx ry ⟨a, b, xs, ys, ex, ey, ha, hb, n1, hz, q⟩
  refine op_catT pins s σ H x y v u Q I rx ry ⟨a, b, xs, ys, ex, ey, SqT.of ha, hb, n1, hz, fun e => ?_, fun _ p hp => q p _ (same_new (Same.refl _) hp) upd_same (.inr hp)⟩
  exact q a H (Same.refl _) (by rw [e, List.append_nil]; exact ha) (.inl rfl)
end
theorem set_cut {α : Type} {z : α} : ∀ {xs : List α} {i : Nat}, i < xs.length → xs.set i z = xs.take i ++ [z] ++ xs.drop (i + 1)
  | [], i, h => absurd h (Nat.not_lt_zero _)
  | a :: r, 0, h => rfl
  | a :: r, i + 1, h => by
    have ih := set_cut (z := z) (xs := r) (i := i) (by simpa using h)
    show a :: r.set i z = a :: (r.take i) ++ [z] ++ r.drop (i + 1)
    rw [ih]
    rfl
/-- the kinds by the names -/
def kvsOf (ds : List Dcl) : List (Key × V) := ds.map fun d => (Sum.inr d.1, V.str (kd d.2))
theorem valV_kinds {ds : List Dcl} (n : (ds.map (·.1)).Nodup) (x : Str) : valV (mergeK [] (kvsOf ds)) (Sum.inr x) = (look ds x).map fun b => V.str (kd b) := by
  rw [valV_merge]
  · unfold kvsOf look
    rw [List.find?_map]
    have e : ((fun kv : Key × V => decide (kv.1 = Sum.inr x)) ∘ fun d : Dcl => ((Sum.inr d.1 : Key), V.str (kd d.2))) = fun d : Dcl => decide (d.1 = x) := by
      funext d
      show decide ((Sum.inr d.1 : Key) = Sum.inr x) = decide (d.1 = x)
      by_cases c : d.1 = x
      · rw [c]; simp
      · rw [decide_eq_false c, decide_eq_false fun z => c (Sum.inr.inj z)]
    rw [e]
    cases ds.find? (fun d => decide (d.1 = x)) with
    | none => rfl
    | some d => rfl
  · intro v v' h h'
    unfold kvsOf at h h'
    obtain ⟨d, hd, e⟩ := List.mem_map.mp h
    obtain ⟨d', hd', e'⟩ := List.mem_map.mp h'
    obtain ⟨y, c⟩ := d
    obtain ⟨y', c'⟩ := d'
    have e1 : y = x := Sum.inr.inj (Prod.mk.inj e).1
    have e2 : y' = x := Sum.inr.inj (Prod.mk.inj e').1
    rw [e1] at hd
    rw [e2] at hd'
    rw [← (Prod.mk.inj e).2, ← (Prod.mk.inj e').2]
    show V.str (kd c) = V.str (kd c')
    rw [nd_one n hd hd']
theorem flat_strs {xs : List Str} : (xs.map V.str).all flatV = true := by
  rw [List.all_map]
  exact List.all_eq_true.mpr fun _ _ => rfl
theorem inV_strs {x : Str} : ∀ {xs : List Str}, inV (.str x) (xs.map V.str) = decide (x ∈ xs)
  | [] => by simp [inV]
  | a :: r => by
    have ih := inV_strs (x := x) (xs := r)
    unfold inV at ih ⊢
    rw [List.map_cons, List.any_cons, ih]
    have e : eqV (.str a) (.str x) = decide (a = x) := by
      simp only [eqV]
      exact Bool.eq_iff_iff.mpr (by simp)
    rw [e]
    by_cases c : a = x
    · simp [c]
    · by_cases d : x ∈ r
      · simp [c, d]
      · simp [c, d]
        exact fun z => c z.symm
theorem dcls_ps {K : PySem.W.Frag} {H : Hp} {vs : List V} {ds : List Dcl} (p : Paired (DclV H) vs ds) : ∃ ps : List Addr, vs = ps.map V.ref ∧ Paired (fun p kv => SqT K H p [kV kv.1, kv.2]) ps (kvsOf ds) := by
  induction p with
  | nil => exact ⟨[], rfl, .nil⟩
  | cons r _ ih =>
    obtain ⟨ps, e, h⟩ := ih
    obtain ⟨a, ea, ha⟩ := r
    exact ⟨a :: ps, by rw [e, ea]; rfl, .cons (SqT.of ha) h⟩
def spBent : Sp := fun vs H Q _ => ∃ (w a c row : Addr) (S : List Addr) (cs : List Cl) (hs hs' : List Hd) (h : Hd) (n : Nat) (r : Rw), vs = [.ref w, .ref a, .ref c, .ref row] ∧ Wl w S H ∧ HdAt (hid S H) a h ∧ GoodHd h ∧ HdsAt (hid S H) c hs' ∧ hs'.length ≤ 6 ∧ (∀ g ∈ hs', GoodHd g) ∧ RwAt (hid S H) row r ∧ RightRw cs hs h n r ∧
  ∀ q r' H', Dr w H H' → RwAt (hid S H') q r' → isRow cs hs h n r' = false → Q (.ref q) H'
section
variable {P : Program} {w : World} {K : PySem.W.Frag} {mg : Str → Option Value} {base : Heap}
theorem scBent : FnScope ["_law_well_here", "_law_head", "_law_heads_here", "_law_row", "_law_kinds", "_law_mine", "_law_at", "_law_far", "_law_one", "_law_others", "_law_name"] ["_law_well_here", "_law_head", "_law_heads_here", "_law_row"] (defScope sBent) := ⟨rfl, rfl, rfl, by decide +kernel, rfl, by decide +kernel, by decide +kernel⟩
theorem cal_bent (T : Txt mg) (D : Dfn K mg "_law_bent" "_law_bent" sBent ["_law_well_here", "_law_head", "_law_heads_here", "_law_row"]) (CA : Cal P w K mg base CX0 1 "_law_all_names" ["_law_head"] spAllNames) (CV : Cal P w K mg base CX0 1 "_law_is_variable" ["_law_row", "_law_at"] spIsVar)
    (CD : Cal P w K mg base CX0 2 "_law_draw" ["_law_well_here", "_law_many"] spDraw) (CP : Cal P w K mg base CX0 3 "_law_pick" ["_law_well_here", "_law_items"] (spPick K)) :
    Cal P w K mg base CX0 4 "_law_bent" ["_law_well_here", "_law_head", "_law_heads_here", "_law_row"] spBent := by
  obtain ⟨f, fd, F, m, b⟩ := D
  obtain ⟨f1, fd1, m1, kp1, b1, G1⟩ := CA
  obtain ⟨f2, fd2, m2, kp2, b2, G2⟩ := CV
  obtain ⟨f3, fd3, m3, kp3, b3, G3⟩ := CD
  obtain ⟨f4, fd4, m4, kp4, b4, G4⟩ := CP
  refine ⟨f, fd, m, F.kp, b, F.ok scBent (fun vs H Q E h => ?_) (fun cdv A outer s H vs Q E hr h => ?_)⟩
  · obtain ⟨_, _, _, _, _, _, _, _, _, _, _, rfl, _⟩ := h
    rfl
  · obtain ⟨p, a, c, row, S, cs, hs, hs', h, n, r, rfl, W, hh, gh, hhs, l6, ghs, hrow, gr, k⟩ := h
    have hr1 : Room 1 _ := hr.mono (by decide)
    have hr2 : Room 2 _ := hr.mono (by decide)
    have hu := hr.units0
    have hu1 := hu_of hr
    refine ⟨_, pss_cons (ps_asg (pe_tupN (pa_cons (pe_callTy (call_dictN rfl) (by rfl) T.dict (by decide +kernel) (pa_cons (pe_op op_catN (pe_ix ix_tup (pv 1) pe_int (fun _ _ => rfl)) (pe_ix ix_tup (pv 1) pe_int (fun _ _ => rfl))) pa_nil))
          (pa_cons (pe_call G1 hr1 (by rfl) m1 kp1 b1 .nil pass0 (pa_cons (pv 1) pa_nil)) pa_nil))) (pg_tup rfl (pgs_cons (pg_name (i := 4) scBent.nd rfl (.inr rfl)) (pgs_cons (pg_name (i := 5) scBent.nd rfl (.inr rfl)) pgs_nil))))
      (pss_cons (ps_set (i := 6) scBent.nd rfl (.inr rfl) (pe_call G4 hr (by rfl) m4 kp4 b4 .nil pass0 (pa_cons (pv 0) (pa_cons
          (pe_lc (own := [("_law_at", 6)]) (g := gName 6) rfl scBent.nd (pi_range2 (by rfl) T.range (pa_cons pe_int (pa_cons (pe_callB call_len_seq (by rfl) T.len PySem.boot_len (pa_cons (pv 3) pa_nil)) pa_nil)))
              (blkOk_by (N := ["_law_well_here", "_law_head", "_law_heads_here", "_law_row", "_law_kinds", "_law_mine", "_law_at", "_law_far", "_law_one", "_law_others", "_law_name"]) (sc := defScope sBent) (by decide +kernel))
              (fun _ _ _ _ _ => pg_name (i := 6) scBent.nd rfl (.inl rfl)) (fun _ _ _ _ _ => pts_one (pt_val (pe_call G2 hr1 (by rfl) m2 kp2 b2 .nil pass0 (pa_cons (pv 3) (pa_cons (pv 6) pa_nil))))) (fun _ _ _ _ _ => pv 6)) pa_nil))))
      (pss_cons (ps_set (i := 7) scBent.nd rfl (.inl rfl) (pe_lstN (pa_cons pe_str pa_nil)))
      (pss_cons (ps_for PassesOwn.never rfl (pi_list (pv 2)) (pg_name (i := 8) scBent.nd rfl (.inl rfl))
        (pss_one (ps_set (i := 7) scBent.nd rfl (.inl rfl) (pe_op op_catN (pv 7) (pe_lc (own := [("_law_name", 10)]) (g := gName 10) rfl scBent.nd (pi_list (pe_call G1 hr1 (by rfl) m1 kp1 b1 .nil pass0 (pa_cons (pv 8) pa_nil)))
              (blkOk_by (N := ["_law_well_here", "_law_head", "_law_heads_here", "_law_row", "_law_kinds", "_law_mine", "_law_at", "_law_far", "_law_one", "_law_others", "_law_name"]) (sc := defScope sBent) (by decide +kernel))
              (fun _ _ _ _ _ => pg_name (i := 10) scBent.nd rfl (.inl rfl)) (fun _ _ _ _ _ => pts_one (pt_cmpR (r := rIn K true) op_notIn_seq (pv 10) (pv 5) (by rfl))) (fun _ _ _ _ _ => pv 10))))))
      (pss_cons (ps_setLc (i := 9) (own := [("_law_name", 10)]) (g := gName 10) rfl scBent.nd rfl rfl (sw_true rfl rfl rfl (by decide +kernel)) (pi_list (pv 5))
              (blkOk_by (N := ["_law_well_here", "_law_head", "_law_heads_here", "_law_row", "_law_kinds", "_law_mine", "_law_at", "_law_far", "_law_one", "_law_others", "_law_name"]) (sc := defScope sBent) (by decide +kernel))
              (fun _ _ _ _ _ => pg_name (i := 10) scBent.nd rfl (.inl rfl))
              (fun _ _ _ _ _ => pts_one (PW.pt (pw_and (pt_cmpR op_ne (pe_dget hu1 (pv 4) (pv 10) (fun _ _ => rfl)) (pe_dget hu1 (pv 4) (pe_ix (r := rIxT K) ix_tup (pv 3) (pv 6) (fun _ _ => rfl)) (fun _ _ => rfl)) (nomark _))
                (pw_and1 (pt_cmpR op_ne (pe_ix (r := rIxT K) ix_tup (pv 3) pe_int (fun _ _ => rfl)) pe_str (nomark _)))))) (fun _ _ _ _ _ => pv 10))
      (pss_cons (ps_set (i := 10) scBent.nd rfl (.inl rfl) (pe_cut (pe_call G4 hr (by rfl) m4 kp4 b4 .nil pass0 (pa_cons (pv 0) (pa_cons
          (pe_ifExp (PW.pt (pw_and (pt_cmpR (op_neNil hu) (pv 9) (pe_lstN pa_nil) (nomark _)) (pw_and1 (pt_cmpR op_eq (pe_call G3 hr2 (by rfl) m3 kp3 b3 .nil pass0 (pa_cons (pv 0) (pa_cons pe_int pa_nil))) pe_int (nomark _))))) (pv 9) (pv 7)) pa_nil)))))
      (pss_one (ps_ret (pe_op op_catTR (pe_op op_catTN (pe_slice sl_tupN (pv 3) po_none (po_some (pv 6))) (pe_tupN (pa_cons (pv 10) pa_nil))) (pe_slice sl_tupN (pv 3) (po_some (pe_op op_add (pv 6) pe_int)) po_none))))))))), ?_⟩
    obtain ⟨io, oo, hp, ⟨vi, hi, pi⟩, ⟨vo, ho, po⟩⟩ := id hh
    have lio : vi.length + vo.length ≤ 100 := by
      have := pi.len; have := po.len; have := gh.len
      unfold Hd.all at this
      rw [List.length_append] at this
      omega
    refine ⟨_, rfl, a, _, _, _, rfl, rfl, SqT.of (hid_some hp).1, at_of (j := 1) rfl rfl, _, rfl, a, _, _, _, rfl, rfl, SqT.of (hid_some hp).1, at_of (j := 2) rfl rfl, io, oo, _, _, rfl, rfl, SqL.of (hid_some hi).1, SqL.of (hid_some ho).1, sz (by omega), fun c1 H1 n1 => ?_⟩
    have W1 := W.same n1.same
    have PA : Paired (DclV H1) (vi ++ vo) h.all := (pi.imp fun _ _ z => DclV.mono _ _ _ _ ((hid_sub _ _).trans n1.same) z).app (po.imp fun _ _ z => DclV.mono _ _ _ _ ((hid_sub _ _).trans n1.same) z)
    obtain ⟨ps, eps, pps⟩ := dcls_ps (K := K) PA
    refine ⟨c1, ps, kvsOf h.all, rfl, SqL.of (by rw [← eps]; exact n1.at), pps, fun d H2 n2 => ?_⟩
    have W2 := W1.same n2.same
    have x12 := n1.same.trans n2.same
    refine ⟨_, rfl, a, h, rfl, (hh.mono (hid_sub _ _)).mono x12, gh.len, fun mi H3 s3 nmi hmi => ?_⟩
    have W3 := W2.same s3
    refine ⟨sz (by show 2 ≤ 100000; decide), fun tt H4 n4 => ?_⟩
    have W4 := W3.same n4.same
    have x04 := (x12.trans s3).trans n4.same
    have d4 : Dr p H H4 := Dr.of W.wl x04
    refine ⟨tt, _, rfl, SqT.of n4.at, rfl, _, _, rfl, _, _, rfl, rfl, ?_⟩
    have hmi4 := n4.same _ _ hmi
    have nmp : mi ≠ p := W2.nw nmi
    have hd4 : H4 d = some (.dK (mergeK [] (kvsOf h.all))) := n4.same _ _ (s3 _ _ n2.at)
    have ndp : d ≠ p := W1.nw n2.free
    have dget : ∀ x, valV (mergeK [] (kvsOf h.all)) (Sum.inr x) = (h.kind x).map fun b => V.str (kd b) := fun x => valV_kinds gh.nd x
    revert hd4 dget
    generalize mergeK [] (kvsOf h.all) = kk
    intro hd4 dget
    obtain ⟨vr, hvr, pr, ar⟩ := id hrow
    have nrp : row ≠ p := fun e => (hid_some hvr).2 (by rw [e]; exact W.mem)
    have hr4 : H4 row = some (.tup vr) := x04 _ _ (hid_some hvr).1
    have lvr : vr.length = r.rest.length + 1 := by rw [pr.len, Rw.cells_eq]; rfl
    have l3 := rest_len r
    obtain ⟨more, evr⟩ : ∃ more, vr = .str r.tag :: more := by
      have pr' := pr
      rw [Rw.cells_eq] at pr'
      cases pr' with
      | @cons v _ vs _ q _ => exact ⟨vs, by rw [show v = .str r.tag from q]⟩
    -- where the variables stand
    refine ⟨_, rfl, _, rfl, row, _, rfl, .inr (SqT.of hr4), 1, _, rfl, ⟨by decide, by decide, by omega, by omega⟩, ?_⟩
    refine fun D1 hD1 => lc_mapR (lo := 1) (n := ((vr.length : Int) - 1).toNat) (fun i ys H' => Wl p S H' ∧ Sm [D1, p] H4 H' ∧ ∃ js : List Nat, ys = js.map (fun j => V.int (j : Nat)) ∧ (∀ j ∈ js, 1 ≤ j ∧ j ≤ r.rest.length ∧ ((j : Nat) : Int) ∈ plc r.tag) ∧ (0 < i → js ≠ [])) (by omega) hD1
      (fun H' n => ⟨W4.same n.same, n.sm, [], rfl, (fun _ m => nomatch m), fun z => absurd z (Nat.lt_irrefl _)⟩) ?_ ?_
    · rintro i ys H' hi hD' lys ⟨W', s', js, rfl, hjs, nj⟩
      have nrD : row ≠ D1 := ne_of_none hr4 hD1
      have hr' : H' row = some (.tup vr) := s'.get hr4 (by simpa using ⟨nrD, nrp⟩)
      refine ⟨rfl, _, rfl, _, rfl, row, _, r.tag, more, rfl, by rw [← evr]; exact hr', fun H5 s5 => ⟨_, rfl, ?_⟩⟩
      have eix : (1 : Int) + (i : Int) = ((i + 1 : Nat) : Int) := by omega
      rw [eix]
      refine ite2 (fun e => ?_) (fun e => ?_)
      · have e := of_decide_eq_true e
        refine ⟨_, rfl, _, s5 _ _ hD', lys, fun H6 p6 => ⟨(W'.same s5).put p6 (W4.nw hD1), (s'.trans (Sm.of s5)).trans (p6.sm List.mem_cons_self), js ++ [i + 1], by rw [List.map_append]; rfl, fun j hj => ?_, fun _ => by simp⟩⟩
        rcases List.mem_append.mp hj with q | q
        · exact hjs j q
        · rw [List.mem_singleton.mp q]
          exact ⟨by omega, by omega, e⟩
      · refine ⟨_, s5 _ _ hD', Nat.le_succ_of_le lys, W'.same s5, s'.trans (Sm.of s5), js, rfl, hjs, fun _ => ?_⟩
        by_cases c0 : i = 0
        · rw [c0] at e
          exact absurd (decide_eq_true (one_plc r.tag)) e
        · exact nj (by omega)
    · rintro ys H5 hD5 lys ⟨W5, s5, js, rfl, hjs, nj⟩
      have njs : js ≠ [] := nj (by omega)
      have d5 : Dr p H4 H5 := ⟨s5.drop hD1, W5.wl⟩
      have dD1 : D1 ≠ p := W4.nw hD1
      refine ⟨p, D1, _, rfl, W5.wl, SqL.of (hid_get hD5 (by simpa using dD1)), by simpa using njs, by omega, fun z hz H6 d6 => ?_⟩
      obtain ⟨j, hj, rfl⟩ := List.mem_map.mp hz
      obtain ⟨j1, j2, j3⟩ := hjs j hj
      obtain ⟨x, vx, cx⟩ := var_at ar gr.2 j1 j2 j3
      obtain ⟨vj, hvj, evj⟩ := pr.get2 cx
      have evj : vj = .str x := evj
      subst evj
      obtain ⟨bx, kx⟩ := var_kind gr.1 vx
      have W6 := W5.dr d6
      have d46 := d5.trans d6
      refine ⟨sz (by show 1 ≤ 100000; decide), fun lf H7 n7 => ?_⟩
      have W7 := W6.same n7.same
      have d47 := d46.same n7.same
      have hmi7 := d47.get hmi4 nmp
      have hd7 := d47.get hd4 ndp
      have hr7 := d47.get hr4 nrp
      obtain ⟨vh, hvh, ph⟩ := id (hhs.mono (W.up (d4.trans d47)))
      refine ⟨_, rfl, c, rfl, ⟨_, SqL.of (hid_some hvh).1⟩, ?_⟩
      refine for_list (K := K) (a := c) (xs := vh) (fun i σ H' => ∃ (v8 : Option V) (lf : Addr) (zs : List Str), σ = [some (.ref p), some (.ref a), some (.ref c), some (.ref row), some (.ref d), some (.ref mi), some (.int j), some (.ref lf), v8, none, none] ∧ Wl p S H' ∧ Dr p H7 H' ∧ H' lf = some (.lst (zs.map V.str)) ∧ lf ≠ p ∧ zs ≠ [] ∧ zs.length ≤ 1 + 100 * i ∧ ∀ z ∈ zs, h.kind z = none)
        ⟨none, lf, ["nosuch"], rfl, W7, Dr.refl W7.wl, n7.at, W6.nw n7.free, by simp, by show 1 ≤ 1 + 100 * 0; omega, fun z hz => by rw [List.mem_singleton.mp hz]; exact nosuch_none gh⟩
        (fun i σ H' _ I => by obtain ⟨_, _, _, _, _, dd, _⟩ := I; exact SqL.of (dd.get (hid_some hvh).1 (fun e => (hid_some hvh).2 (by rw [e]; exact W.mem)))) ?_ ?_
      · rintro i y σ H' hi ⟨v8, lf, zs, rfl, W', dd, hlf, nlf, nzs, lzs, kzs⟩
        obtain ⟨g, hg, q, rfl, hq⟩ := ph.get hi
        have gg := ghs g (ix_mem hg)
        have hi6 : i < 6 := by have := ix_lt hi; rw [ph.len] at this; omega
        have hmi' := dd.get hmi7 nmp
        refine ⟨_, rfl, _, rfl, q, g, rfl, (hq.mono (W7.up dd)).mono (hid_sub _ _), gg.len, fun tn H8 s8 ntn htn => ?_⟩
        have W8 := W'.same s8
        have ntp : tn ≠ p := W'.nw ntn
        refine ⟨tn, rfl, ⟨_, SqL.of htn⟩, fun D2 hD2 => lc_map (K := K) (a := tn) (xs := (g.all.map (·.1)).map V.str) (fun i ys H9 => Wl p S H9 ∧ Sm [D2, p] H8 H9 ∧ ∃ us : List Str, ys = us.map V.str ∧ ∀ u ∈ us, u ∉ h.all.map (·.1)) (by rw [List.length_map, List.length_map]; have := gg.len; omega) hD2
          (fun H' n => ⟨W8.same n.same, n.sm, [], rfl, fun _ m => nomatch m⟩) (fun i ys H9 _ _ I => SqL.of (I.2.1.get htn (by
            have := ne_of_none htn hD2
            simpa using ⟨this, ntp⟩))) ?_ ?_⟩
        · rintro i1 y1 ys H9 hi1 hD9 lys ⟨W9, s9, us, rfl, hus⟩
          obtain ⟨u, hu', rfl⟩ := map_ix hi1
          have hmi9 : H9 mi = some (.lst ((h.all.map (·.1)).map V.str)) := s9.get (s8 _ _ hmi') (by
            have := ne_of_none (s8 _ _ hmi') hD2
            simpa using ⟨this, nmp⟩)
          refine ⟨rfl, _, rfl, _, rfl, mi, _, rfl, .inl (SqL.of hmi9), rfl, flat_strs, _, rfl, ?_⟩
          show if (!inV (.str u) ((h.all.map (·.1)).map V.str)) = true then _ else _
          rw [inV_strs]
          refine ite2 (fun e => ?_) (fun e => ?_)
          · refine ⟨_, rfl, _, hD9, lys, fun Ha pa => ⟨W9.put pa (W8.nw hD2), s9.trans (pa.sm List.mem_cons_self), us ++ [u], by rw [List.map_append]; rfl, fun v hv => ?_⟩⟩
            rcases List.mem_append.mp hv with z | z
            · exact hus v z
            · rw [List.mem_singleton.mp z]
              simpa using e
          · exact ⟨_, hD9, Nat.le_succ_of_le lys, W9, s9, us, rfl, hus⟩
        · rintro ys H9 hD9 lys ⟨W9, s9, us, rfl, hus⟩
          have d9 : Dr p H' H9 := (Dr.of W'.wl s8).trans ⟨s9.drop hD2, W9.wl⟩
          have hlf9 := d9.get hlf nlf
          have lus : us.length ≤ 100 := by
            rw [List.length_map, List.length_map, List.length_map] at lys
            have := gg.len
            omega
          refine ⟨lf, D2, _, _, rfl, rfl, SqL.of hlf9, SqL.of hD9, sz (by rw [List.length_map, List.length_map]; omega), fun l2 Ha na => ?_⟩
          have ha := na.at
          rw [← List.map_append] at ha
          refine ⟨_, l2, zs ++ us, rfl, W9.same na.same, (dd.trans d9).same na.same, ha, W9.nw na.free, by simp [nzs], by rw [List.length_append]; omega, fun z hz => ?_⟩
          rcases List.mem_append.mp hz with q | q
          · exact kzs z q
          · cases e : h.kind z with
            | none => rfl
            | some b => exact absurd (List.mem_map_of_mem (f := fun d : Dcl => d.1) (look_some e)) (hus z q)
      · rintro σ H' ⟨v8, lf, zs, rfl, W', dd, hlf, nlf, nzs, lzs, kzs⟩
        have hmi' := dd.get hmi7 nmp
        have hd' := dd.get hd7 ndp
        have hr' := dd.get hr7 nrp
        have lmi : ((h.all.map (·.1)).map V.str).length ≤ 100 := by rw [List.length_map, List.length_map]; exact gh.len
        refine ⟨_, rfl, mi, rfl, ⟨_, SqL.of hmi'⟩, fun D3 hD3 => lc_map (K := K) (a := mi) (xs := (h.all.map (·.1)).map V.str) (fun i ys H9 => Wl p S H9 ∧ Sm [D3, p] H' H9 ∧ ∃ us : List Str, ys = us.map V.str ∧ ∀ u ∈ us, h.kind u ≠ h.kind x ∧ r.tag ≠ "see") (by omega) hD3
          (fun H'' n => ⟨W'.same n.same, n.sm, [], rfl, fun _ m => nomatch m⟩) (fun i ys H9 _ _ I => SqL.of (I.2.1.get hmi' (by
            have := ne_of_none hmi' hD3
            simpa using ⟨this, nmp⟩))) ?_ ?_⟩
        · rintro i1 y1 ys H9 hi1 hD9 lys ⟨W9, s9, us, rfl, hus⟩
          obtain ⟨u, hu', rfl⟩ := map_ix hi1
          obtain ⟨dc, hdc, rfl⟩ := map_ix hu'
          have ku : ∃ bu, h.kind dc.1 = some bu := ⟨dc.2, look_one (fun c hc => nd_one gh.nd (ix_mem hdc) hc) (ix_mem hdc)⟩
          obtain ⟨bu, ku⟩ := ku
          have gd : H9 d = some (.dK kk) := s9.get hd' (by
            have := ne_of_none hd' hD3
            simpa using ⟨this, ndp⟩)
          have gr9 : H9 row = some (.tup vr) := s9.get hr' (by
            have := ne_of_none hr' hD3
            simpa using ⟨this, nrp⟩)
          have g1 := DGet.k (k := Sum.inr dc.1) gd
          have g2' := DGet.k (k := Sum.inr x) gd
          rw [dget, ku] at g1
          rw [dget, kx] at g2'
          refine ⟨rfl, _, rfl, _, rfl, d, _, rfl, g1, _, rfl, _, rfl, _, rfl, row, _, _, _, rfl, rfl, SqT.of gr9, at_of (j := j) rfl hvj, d, _, rfl, g2', rfl, _, rfl, ?_⟩
          have old : LcOld D3 i1 (fun i ys H9 => Wl p S H9 ∧ Sm [D3, p] H' H9 ∧ ∃ us : List Str, ys = us.map V.str ∧ ∀ u ∈ us, h.kind u ≠ h.kind x ∧ r.tag ≠ "see") H9 := ⟨_, hD9, Nat.le_succ_of_le lys, W9, s9, us, rfl, hus⟩
          refine ite2 (fun e1 => ?_) (fun e1 => ?_)
          · refine ⟨_, rfl, row, _, _, _, rfl, rfl, SqT.of gr9, at_of (j := 0) rfl (by rw [evr]; rfl), rfl, _, rfl, ?_⟩
            refine ite2 (fun e2 => ?_) (fun e2 => ?_)
            · refine ⟨_, rfl, _, hD9, lys, fun Ha pa => ⟨W9.put pa (W'.nw hD3), s9.trans (pa.sm List.mem_cons_self), us ++ [dc.1], by rw [List.map_append]; rfl, fun v hv => ?_⟩⟩
              rcases List.mem_append.mp hv with z | z
              · exact hus v z
              · rw [List.mem_singleton.mp z, ku, kx]
                refine ⟨fun z2 => ?_, fun z2 => ?_⟩
                · cases z2
                  simp at e1
                · rw [z2] at e2
                  simp at e2
            · exact old
          · exact old
        · rintro ys H9 hD9 lys ⟨W9, s9, us, rfl, hus⟩
          have d9 : Dr p H' H9 := ⟨s9.drop hD3, W9.wl⟩
          have nD3 := W'.nw hD3
          rw [List.length_map] at lys
          have hlf9 := d9.get hlf nlf
          refine ⟨fun v G => ∃ z, v = .str z ∧ Dr p H9 G ∧ h.kind z ≠ h.kind x ∧ (r.tag = "see" → h.kind z = none), ?_, ?_⟩
          · have far : ∀ (G : Hp), Dr p H9 G → spPick K [.ref p, .ref lf] G (fun v G => ∃ z, v = .str z ∧ Dr p H9 G ∧ h.kind z ≠ h.kind x ∧ (r.tag = "see" → h.kind z = none)) E0 := fun G dG => by
              have hG := dG.get hlf9 nlf
              refine ⟨p, lf, _, rfl, dG.wl, SqL.of (hid_get hG (by simpa using nlf)), by simpa using nzs, by rw [List.length_map]; rw [ph.len] at lzs; omega, fun v hv G2 d2 => ?_⟩
              obtain ⟨z, rfl, hz⟩ := str_mem hv
              exact ⟨z, rfl, dG.trans d2, (by rw [kzs z hz, kx]; exact fun q => nomatch q), fun _ => kzs z hz⟩
            refine ⟨_, rfl, _, rfl, sz (by show 0 ≤ 100000; decide), fun l0 Ha na => ?_⟩
            have da := (Dr.refl W9.wl).same na.same
            refine ⟨D3, l0, _, rfl, rfl, SqL.of (na.same _ _ hD9), SqL.of na.at, _, rfl, ?_⟩
            refine ite2 (fun e1 => ?_) (fun e1 => ?_)
            · refine ⟨_, rfl, p, 2, rfl, da.wl, by decide, by decide, fun dn Hb _ _ db => ?_⟩
              have ddb := da.trans db
              refine ⟨rfl, _, rfl, ?_⟩
              refine ite2 (fun e2 => ?_) (fun e2 => ?_)
              · refine ⟨_, rfl, p, D3, _, rfl, ddb.wl, SqL.of (hid_get (ddb.get hD9 nD3) (by simpa using nD3)), (fun z => by rw [z] at e1; exact absurd e1 (by decide)), by rw [List.length_map]; omega, fun v hv G2 d2 => ?_⟩
                obtain ⟨z, rfl, hz⟩ := str_mem hv
                exact ⟨z, rfl, ddb.trans d2, (hus z hz).1, fun q => absurd q (hus z hz).2⟩
              · exact ⟨_, rfl, far Hb ddb⟩
            · exact ⟨_, rfl, far Ha da⟩
          · rintro v G ⟨z, rfl, dG, nk, sn⟩
            have WG := W9.dr dG
            have dall : Dr p H4 G := ((d47.trans dd).trans d9).trans dG
            have hrG := dall.get hr4 nrp
            have lj : j < vr.length := by omega
            have w1 : ¬ (HT.sIx vr.length 0 none = 0 ∧ HT.sIx vr.length vr.length (some ((j : Nat) : Int)) = vr.length) := fun q => by
              have q2 := q.2
              rw [sIx_k (by omega)] at q2
              omega
            have w2 : ¬ (HT.sIx vr.length 0 (some (((j : Nat) : Int) + 1)) = 0 ∧ HT.sIx vr.length vr.length none = vr.length) := fun q => by
              have q1 := q.1
              rw [sIx_k (by omega)] at q1
              omega
            refine ⟨_, rfl, _, rfl, _, rfl, row, vr, rfl, SqT.of hrG, w1, fun p1 Ha na => ?_⟩
            rw [cut_take (by omega)] at na
            refine ⟨_, rfl, sz (by show 1 ≤ 100000; decide), fun p2 Hb nb => ?_⟩
            refine ⟨p1, p2, _, _, rfl, rfl, SqT.of (nb.same _ _ na.at), SqT.of nb.at, (fun q => by
              have h2 : min ((j : Nat) : Int).toNat vr.length = 0 := by
                rw [← List.length_take, q]
                rfl
              omega), by simp, sz (by rw [List.length_take]; show _ + 1 ≤ 100000; omega), fun p3 Hc nc => ?_⟩
            have xc := (na.same.trans nb.same).trans nc.same
            refine ⟨_, rfl, _, rfl, _, _, rfl, rfl, _, rfl, row, vr, rfl, SqT.of (xc _ _ hrG), w2, fun p4 Hd nd => ?_⟩
            rw [cut_drop (by omega)] at nd
            have W4' := (((WG.same na.same).same nb.same).same nc.same).same nd.same
            refine ⟨p3, p4, _, _, rfl, rfl, nd.same _ _ nc.at, SqT.of nd.at, by simp, sz (by rw [List.length_append, List.length_take, List.length_drop]; show _ + 1 + _ ≤ 100000; omega), fun q He se hq oq => ?_⟩
            have Wc := ((WG.same na.same).same nb.same)
            have nq : q ∉ S := by
              rcases oq with e | e
              · rw [e]; exact Wc.nin nc.free
              · exact W4'.nin e
            have ej : ((j : Nat) : Int).toNat = j := by omega
            have ej1 : (((j : Nat) : Int) + 1).toNat = j + 1 := by omega
            rw [ej, ej1] at hq
            have hq' : He q = some (.tup (vr.set j (.str z))) := by rw [set_cut lj]; exact hq
            have xe : Same G He := (xc.trans nd.same).trans se
            have dE : Dr p H He := (d4.trans dall).same xe
            have bc := bend_cells (z := z) vx
            refine k q (r.bend j z) He dE ⟨_, hid_get hq' nq, ?_, fun op a b c e => ?_⟩ (bend_wrong gr.1 vx nk sn)
            · rw [bc.1]
              exact (pr.imp fun _ _ y => CellV.mono _ _ _ _ (W.up dE) y).set (R := CellV (hid S He)) (x := .str z) (y := .s z) rfl j
            · obtain ⟨a', b', c', e'⟩ := bc.2 op a b c e
              exact ar op a' b' c' e'
end
end K12

namespace K12
open PySem PySem.Spec PyProof.Rows L2
abbrev sWrong : Stmt := topS 59
def spWrong : Sp := fun vs H Q _ => ∃ (w a c L : Addr) (at_ : Nat) (S : List Addr) (cs : List Cl) (fns : List (Hd × Addr)) (h : Hd) (vl : List V), vs = [.ref w, .ref a, .ref c, .int at_] ∧ Wl w S H ∧ FnsAt (hid S H) a fns ∧ fns[at_]? = some (h, L) ∧ H L = some (.lst vl) ∧ L ≠ w ∧
  ClsAt (hid S H) c cs ∧ GoodCls cs ∧ GoodHds (fns.map (·.1)) ∧ 1 ≤ vl.length ∧ vl.length ≤ 1000 ∧ ∀ v r H', Dr w H H' → RwV (hid S H') v r → isRow cs (fns.map (·.1)) h vl.length r = false → Q v H'
section
variable {P : Program} {w : World} {K : PySem.W.Frag} {mg : Str → Option Value} {base : Heap}
theorem scWrong : FnScope ["_law_well_here", "_law_functions", "_law_classes_here", "_law_at", "_law_heads_here", "_law_head", "_law_many", "_law_found", "_law_called", "_law_strange", "_law_function", "_law_row", "_law_name"] ["_law_well_here", "_law_functions", "_law_classes_here", "_law_at"] (defScope sWrong) := ⟨rfl, rfl, rfl, by decide +kernel, rfl, by decide +kernel, by decide +kernel⟩
theorem cal_wrong (T : Txt mg) (D : Dfn K mg "_law_wrong" "_law_wrong" sWrong ["_law_well_here", "_law_functions", "_law_classes_here", "_law_at"]) (CN : Cal P w K mg base CX0 1 "_law_named" ["_law_head", "_law_kind"] spNamed)
    (CP : Cal P w K mg base CX0 3 "_law_pick" ["_law_well_here", "_law_items"] (spPick K)) (CR : Cal P w K mg base CX0 5 "_law_right_rows" ["_law_well_here", "_law_head", "_law_heads_here", "_law_classes_here", "_law_many"] spRightRows)
    (CB : Cal P w K mg base CX0 4 "_law_bent" ["_law_well_here", "_law_head", "_law_heads_here", "_law_row"] spBent) (CC : Cal P w K mg base CX0 2 "_law_calls_apart" ["_law_head", "_law_called"] spCallsApart) :
    Cal P w K mg base CX0 6 "_law_wrong" ["_law_well_here", "_law_functions", "_law_classes_here", "_law_at"] spWrong := by
  obtain ⟨f, fd, F, m, b⟩ := D
  obtain ⟨f1, fd1, m1, kp1, b1, G1⟩ := CN
  obtain ⟨f2, fd2, m2, kp2, b2, G2⟩ := CP
  obtain ⟨f3, fd3, m3, kp3, b3, G3⟩ := CR
  obtain ⟨f4, fd4, m4, kp4, b4, G4⟩ := CB
  obtain ⟨f5, fd5, m5, kp5, b5, G5⟩ := CC
  refine ⟨f, fd, m, F.kp, b, F.ok scWrong (fun vs H Q E h => ?_) (fun cdv A outer s H vs Q E hr h => ?_)⟩
  · obtain ⟨_, _, _, _, _, _, _, _, _, _, rfl, _⟩ := h
    rfl
  · obtain ⟨p, a, c, L, at_, S, cs, fns, h, vl, rfl, W, hfn, hat, hL, nL, hcs, gcs, ghs, l1, l9, k⟩ := h
    have hr1 : Room 1 _ := hr.mono (by decide)
    have hr2 : Room 2 _ := hr.mono (by decide)
    have hr3 : Room 3 _ := hr.mono (by decide)
    have hr4 : Room 4 _ := hr.mono (by decide)
    refine ⟨_, pss_cons (ps_asg (pe_lc (own := [("_law_function", 10)]) (g := gName 10) (tt := tYes) rfl scWrong.nd (pi_list (pv 1))
              (blkOk_by (N := ["_law_well_here", "_law_functions", "_law_classes_here", "_law_at", "_law_heads_here", "_law_head", "_law_many", "_law_found", "_law_called", "_law_strange", "_law_function", "_law_row", "_law_name"]) (sc := defScope sWrong) (by decide +kernel))
              (fun _ _ _ _ _ => pg_name (i := 10) scWrong.nd rfl (.inl rfl)) (fun _ _ _ _ _ => pts_nil) (fun _ _ _ _ _ => pe_slice (r := rSlTN K) sl_tupN (pv 10) po_none (po_some pe_int))) (pg_name (i := 4) scWrong.nd rfl (.inr rfl)))
      (pss_cons (ps_asg (pe_tupN (pa_cons (pe_ix ix_list (pv 4) (pv 3) (fun _ _ => rfl)) (pa_cons (pe_callB call_len_seq (by rfl) T.len PySem.boot_len (pa_cons (pe_ix ix_tup (pe_ix ix_list (pv 1) (pv 3) (fun _ _ => rfl)) pe_int (fun _ _ => rfl)) pa_nil)) pa_nil)))
          (pg_tup rfl (pgs_cons (pg_name (i := 5) scWrong.nd rfl (.inr rfl)) (pgs_cons (pg_name (i := 6) scWrong.nd rfl (.inl rfl)) pgs_nil))))
      (pss_cons (ps_setLc (i := 7) (own := [("_law_row", 11)]) (g := gName 11) (tt := tYes) rfl scWrong.nd rfl rfl (sw_true rfl rfl rfl (by decide +kernel)) (pi_list (pe_call G3 hr (by rfl) m3 kp3 b3 .nil pass0 (pa_cons (pv 0) (pa_cons (pv 5) (pa_cons (pv 4) (pa_cons (pv 2) (pa_cons (pv 6) pa_nil)))))))
              (blkOk_by (N := ["_law_well_here", "_law_functions", "_law_classes_here", "_law_at", "_law_heads_here", "_law_head", "_law_many", "_law_found", "_law_called", "_law_strange", "_law_function", "_law_row", "_law_name"]) (sc := defScope sWrong) (by decide +kernel))
              (fun _ _ _ _ _ => pg_name (i := 11) scWrong.nd rfl (.inl rfl)) (fun _ _ _ _ _ => pts_nil) (fun _ _ _ _ _ => pe_call G4 hr4 (by rfl) m4 kp4 b4 .nil pass0 (pa_cons (pv 0) (pa_cons (pv 5) (pa_cons (pv 4) (pa_cons (pv 11) pa_nil))))))
      (pss_cons (ps_for PassesOwn.never rfl (pi_list (pv 4)) (pg_name (i := 8) scWrong.nd rfl (.inl rfl))
        (pss_one (ps_set (i := 7) scWrong.nd rfl (.inl rfl) (pe_op op_catN (pv 7) (pe_lc (own := [("_law_row", 11)]) (g := gName 11) rfl scWrong.nd (pi_list (pe_call G5 hr2 (by rfl) m5 kp5 b5 .nil pass0 (pa_cons (pv 5) (pa_cons (pv 8) pa_nil))))
              (blkOk_by (N := ["_law_well_here", "_law_functions", "_law_classes_here", "_law_at", "_law_heads_here", "_law_head", "_law_many", "_law_found", "_law_called", "_law_strange", "_law_function", "_law_row", "_law_name"]) (sc := defScope sWrong) (by decide +kernel))
              (fun _ _ _ _ _ => pg_name (i := 11) scWrong.nd rfl (.inl rfl)) (fun _ _ _ _ _ => pts_one (pt_cmpR op_ne (pe_ix (r := rIxT K) ix_tup (pv 11) pe_int (fun _ _ => rfl)) pe_str (nomark _))) (fun _ _ _ _ _ => pv 11))))))
      (pss_cons (ps_set (i := 9) scWrong.nd rfl (.inl rfl) (pe_cut (pe_ifExp (pt_cmpR op_eq (pe_ix ix_tup (pv 5) pe_int (fun _ _ => rfl)) pe_str (nomark _)) pe_str pe_str)))
      (pss_cons (ps_set (i := 7) scWrong.nd rfl (.inl rfl) (pe_op op_catN (pe_op op_catN (pv 7) (pe_lc (own := [("_law_name", 12)]) (g := gName 12) (tt := tYes) rfl scWrong.nd (pi_list (pe_call G1 hr1 (by rfl) m1 kp1 b1 .nil pass0 (pa_cons (pv 5) (pa_cons (pv 9) pa_nil))))
              (blkOk_by (N := ["_law_well_here", "_law_functions", "_law_classes_here", "_law_at", "_law_heads_here", "_law_head", "_law_many", "_law_found", "_law_called", "_law_strange", "_law_function", "_law_row", "_law_name"]) (sc := defScope sWrong) (by decide +kernel))
              (fun _ _ _ _ _ => pg_name (i := 12) scWrong.nd rfl (.inl rfl)) (fun _ _ _ _ _ => pts_nil) (fun _ _ _ _ _ => pe_tupN (pa_cons pe_str (pa_cons (pv 12) pa_nil)))))
            (pe_lstN (pa_cons (pe_tupN (pa_cons pe_str (pa_cons pe_str pa_nil))) (pa_cons (pe_tupN (pa_cons pe_str (pa_cons pe_str pa_nil))) pa_nil)))))
      (pss_one (ps_ret (pe_call G2 hr3 (by rfl) m2 kp2 b2 .nil pass0 (pa_cons (pv 0) (pa_cons (pv 7) pa_nil)))))))))), ?_⟩
    obtain ⟨vf, hvf, pf⟩ := id hfn
    have nap : a ≠ p := fun e => (hid_some hvf).2 (by rw [e]; exact W.mem)
    have lf6 : vf.length ≤ 6 := by
      have := ghs.le
      rw [List.length_map] at this
      rw [pf.len]
      exact this
    have gh : GoodHd h := ghs.each h (List.mem_map.mpr ⟨_, ix_mem hat, rfl⟩)
    have hath : (fns.map (·.1))[at_]? = some h := by rw [List.getElem?_map, hat]; rfl
    refine ⟨_, rfl, a, rfl, ⟨_, SqL.of (hid_some hvf).1⟩, fun D1 hD1 => lc_dr (K := K) (w := p) (S := S) (a := a) (xs := vf) HdV (fun i q => (fns.map (·.1))[i]? = some q) HdV.mono (by omega) W hD1 (SqL.of hvf) ?_ ?_⟩
    · rintro i y H1 Qn hi at1 kq
      obtain ⟨q, hq, fa, rfl, io, oo, hfa, hio, hoo⟩ := pf.get hi
      have up1 := at1.up W.mem hD1
      refine ⟨rfl, _, rfl, _, rfl, fa, _, rfl, SqT.of (hid_some (up1 _ _ hfa)).1, (fun z => absurd z.2 (show ¬ HT.sIx 5 5 (some 4) = 5 by decide)), fun t H2 n2 => ?_⟩
      refine kq _ q.1 H2 (n2.dr (Dr.refl at1.wl.wl)) ⟨t, rfl, io, oo, hid_get n2.at (at1.wl.nin n2.free), hio.mono (up1.trans n2.hid), hoo.mono (up1.trans n2.hid)⟩ (by rw [List.getElem?_map, hq]; rfl)
    · rintro H1 hs d1 hhs1 lhs ahs
      have ehs : hs = fns.map (·.1) := by
        refine List.ext_getElem? fun j => ?_
        cases e : hs[j]? with
        | some b => exact (ahs j b e).symm
        | none =>
          have := List.getElem?_eq_none_iff.mp e
          refine (List.getElem?_eq_none_iff.mpr ?_).symm
          rw [List.length_map, ← pf.len, ← lhs]
          exact this
      subst ehs
      have W1 := W.dr d1
      obtain ⟨vh, hvh, ph⟩ := id hhs1
      obtain ⟨vhd, hvhd, hd, rfl, hhd⟩ := ph.get2 hath
      have hfn1 := hfn.mono (W.up d1)
      obtain ⟨vf1, hvf1, pf1⟩ := id hfn1
      obtain ⟨vfa, hvfa, fa, rfl, io, oo, hfa, _, _⟩ := pf1.get2 hat
      have hL1 := d1.get hL nL
      refine ⟨_, rfl, _, rfl, D1, vh, _, _, rfl, rfl, SqL.of (hid_some hvh).1, at_of (j := at_) rfl hvhd, _, rfl, _, rfl, a, vf1, _, _, rfl, rfl, SqL.of (hid_some hvf1).1, at_of (j := at_) rfl hvfa, fa, _, _, _, rfl, rfl, SqT.of (hid_some hfa).1, at_of (j := 4) rfl rfl, L, _, rfl, .inl (SqL.of hL1),
        sz (by show 2 ≤ 100000; decide), fun tt H2 n2 => ⟨tt, _, rfl, SqT.of n2.at, rfl, _, _, rfl, _, _, rfl, rfl, ?_⟩⟩
      have W2 := W1.same n2.same
      have d2 := d1.same n2.same
      have hhs2 : HdsAt (hid S H2) D1 (fns.map (·.1)) := LsAt.mono HdV.mono n2.hid hhs1
      have hhd2 := hhd.mono n2.hid
      have hcs2 := hcs.mono (W.up d2)
      refine ⟨_, rfl, _, rfl, _, rfl, _, rfl, _, rfl, p, hd, D1, c, S, cs, fns.map (·.1), h, vl.length, rfl, W2, hhd2, gh, hhs2, ghs, hcs2, gcs, l1, l9, fun q rs H3 d3 hq lq gq => ?_⟩
      have W3 := W2.dr d3
      obtain ⟨vq, hvq, pq⟩ := id hq
      refine ⟨q, rfl, ⟨_, SqL.of (hid_some hvq).1⟩, fun D2 hD2 => lc_dr (K := K) (w := p) (S := S) (a := q) (xs := vq) RwV (fun _ r => isRow cs (fns.map (·.1)) h vl.length r = false) RwV.mono (by rw [pq.len]; omega) W3 hD2 (SqL.of hvq) ?_ ?_⟩
      · rintro i y H4 Qn hi at4 kq
        obtain ⟨r, hr', ra, rfl, hra⟩ := pq.get hi
        have up4 := (W2.up d3).trans (at4.up W.mem hD2)
        refine ⟨rfl, _, rfl, _, rfl, _, rfl, _, rfl, p, hd, D1, ra, D2 :: S, cs, fns.map (·.1), fns.map (·.1), h, vl.length, r, rfl, at4.wl, hhd2.mono up4, gh, hhs2.mono up4, ghs.le, ghs.each, hra.mono (at4.up W.mem hD2), gq r (ix_mem hr'), fun q' r' H5 d5 hr5 wr => ?_⟩
        exact kq _ r' H5 d5 ⟨q', rfl, hr5⟩ wr
      · rintro H4 ws d4 hws lws aws
        have W4 := W3.dr d4
        have d24 := d3.trans d4
        have lw : ws.length ≤ 100 := by rw [lws, pq.len]; exact lq
        have allw : ∀ r ∈ ws, isRow cs (fns.map (·.1)) h vl.length r = false := fun r hr => by
          obtain ⟨i, hi⟩ := List.getElem?_of_mem hr
          exact aws i r hi
        have hhs4 := hhs2.mono (W2.up d24)
        have hhd4 := hhd2.mono (W2.up d24)
        obtain ⟨vh4, hvh4, ph4⟩ := id hhs4
        have lvh : vh4.length ≤ 6 := by rw [ph4.len]; exact ghs.le
        refine ⟨_, rfl, D1, rfl, ⟨_, SqL.of (hid_some hvh4).1⟩, ?_⟩
        refine for_list (K := K) (a := D1) (xs := vh4) (fun i σ H' => ∃ (v8 : Option V) (lf : Addr) (rs : List Rw), σ = [some (.ref p), some (.ref a), some (.ref c), some (.int at_), some (.ref D1), some (.ref hd), some (.int vl.length), some (.ref lf), v8, none, none, none, none] ∧ Dr p H4 H' ∧ RwsAt (hid S H') lf rs ∧ rs.length ≤ 100 + 5 * i ∧ ∀ r ∈ rs, isRow cs (fns.map (·.1)) h vl.length r = false)
          ⟨none, D2, ws, rfl, Dr.refl W4.wl, hws, by omega, allw⟩ (fun i σ H' _ I => by obtain ⟨_, _, _, _, dd, _⟩ := I; exact SqL.of (hid_some (W4.up dd _ _ hvh4)).1) ?_ ?_
        · rintro i y σ H' hi ⟨v8, lf, rs, rfl, dd, hlf, lrs, wrs⟩
          obtain ⟨g, hg, ga, rfl, hga⟩ := ph4.get hi
          have W' := W4.dr dd
          have up' := W4.up dd
          obtain ⟨vlf, hvlf, plf⟩ := id hlf
          refine ⟨_, rfl, _, rfl, _, rfl, p, hd, ga, S, cs, fns.map (·.1), h, g, vl.length, rfl, W', hhd4.mono up', gh, hga.mono up', ix_mem hg, ghs, fun q5 rs5 H5 d5 hq5 l5 w5 => ?_⟩
          have W5 := W'.dr d5
          obtain ⟨v5, hv5, p5⟩ := id hq5
          refine ⟨q5, rfl, ⟨_, SqL.of (hid_some hv5).1⟩, fun D3 hD3 => lc_map (K := K) (a := q5) (xs := v5) (fun i ys H6 => At p D3 S H5 H6 ∧ ∃ us, Paired (RwV (hid (D3 :: S) H6)) ys us ∧ ∀ r ∈ us, isRow cs (fns.map (·.1)) h vl.length r = false) (by rw [p5.len]; omega) hD3
            (fun H'' n => ⟨⟨W5.new n, n.sm⟩, [], .nil, fun _ m => nomatch m⟩) (fun i ys H6 _ _ I => SqL.of (I.1.get hD3 (hid_some hv5).1 (fun e => (hid_some hv5).2 (by rw [e]; exact W.mem)))) ?_ ?_⟩
          · rintro i6 y6 ys H6 hi6 hD6 l6 ⟨at6, us, pu, wu⟩
            obtain ⟨r, hr', ra, rfl, vr, hvr, pr, ar⟩ := p5.get hi6
            obtain ⟨x, as, rfl, wx⟩ := w5 r (ix_mem hr')
            have up6 := at6.up W.mem hD3
            have hvr6 := hid_some (up6 _ _ hvr)
            obtain ⟨v1, hv1, ev1⟩ := pr.get2 (i := 1) (y := .s x) rfl
            have ev1 : v1 = .str x := ev1
            subst ev1
            refine ⟨rfl, _, rfl, ra, _, _, _, rfl, rfl, SqT.of hvr6.1, at_of (j := 1) rfl hv1, rfl, _, rfl, ?_⟩
            refine ite2 (fun e => ?_) (fun e => ?_)
            · refine ⟨_, rfl, _, hD6, l6, fun H7 p7 => ⟨⟨at6.wl.put p7 (W5.nw hD3), at6.sm.trans (p7.sm List.mem_cons_self)⟩, us ++ [.call x g.name as], ?_, fun r hr => ?_⟩⟩
              · have t : Same (hid (D3 :: S) H6) (hid (D3 :: S) H7) := p7.hid List.mem_cons_self
                exact (pu.imp fun _ _ z => RwV.mono _ _ _ _ t z).app (.one (RwV.mono _ _ _ _ (up6.trans t) ⟨ra, rfl, vr, hvr, pr, ar⟩))
              · rcases List.mem_append.mp hr with z | z
                · exact wu r z
                · rw [List.mem_singleton.mp z]
                  exact wx fun z2 => by rw [z2] at e; simp at e
            · exact ⟨_, hD6, Nat.le_succ_of_le l6, at6, us, pu, wu⟩
          · rintro ys H6 hD6 l6 ⟨at6, us, pu, wu⟩
            have d6 := at6.dr hD3
            have W6 := W5.dr d6
            obtain ⟨vl6, hvl6, pl6⟩ := hlf.mono ((W'.up d5).trans (W5.up d6))
            have lus : ys.length ≤ 5 := by rw [p5.len] at l6; omega
            refine ⟨lf, D3, _, _, rfl, rfl, SqL.of (hid_some hvl6).1, SqL.of hD6, sz (by rw [pl6.len]; have := ix_lt hi; omega), fun l7 H7 n7 => ?_⟩
            refine ⟨_, l7, rs ++ us, rfl, ((dd.trans d5).trans d6).same n7.same, ⟨_, hid_get n7.at (W6.nin n7.free), (pl6.app (pu.imp fun _ _ z => RwV.mono _ _ _ _ (hid_less H6 (less1 S D3)) z)).imp fun _ _ z => RwV.mono _ _ _ _ n7.hid z⟩, by rw [List.length_append, ← pu.len]; omega, fun r hr => ?_⟩
            rcases List.mem_append.mp hr with z | z
            · exact wrs r z
            · exact wu r z
        · rintro σ H' ⟨v8, lf, rs, rfl, dd, hlf, lrs, wrs⟩
          have W' := W4.dr dd
          have up' := W4.up dd
          obtain ⟨io', oo', hhd', _, _⟩ := hhd4.mono up'
          refine ⟨fun v G => v = .str (kd (!h.res)) ∧ G = H', ?_, ?_⟩
          · refine ⟨_, rfl, hd, _, _, _, rfl, rfl, SqT.of (hid_some hhd').1, at_of (j := 3) rfl rfl, rfl, _, rfl, ?_⟩
            refine ite2 (fun e => ?_) (fun e => ?_)
            · cases hb : h.res with
              | false => exact ⟨rfl, rfl⟩
              | true => rw [hb] at e; exact absurd e (by decide +kernel)
            · cases hb : h.res with
              | true => exact ⟨rfl, rfl⟩
              | false => rw [hb] at e; exact absurd (by decide +kernel) e
          rintro v G ⟨rfl, rfl⟩
          have hlf' := hlf
          refine ⟨_, rfl, _, rfl, _, rfl, hd, h, !h.res, rfl, (hhd4.mono up').mono (hid_sub _ _), gh.len, fun tn H5 s5 ntn htn => ?_⟩
          have W5 := W'.same s5
          refine ⟨tn, rfl, ⟨_, SqL.of htn⟩, fun D3 hD3 => lc_dr (K := K) (w := p) (S := S) (a := tn) (xs := (namesOf h (!h.res)).map V.str) RwV (fun _ r => isRow cs (fns.map (·.1)) h vl.length r = false) RwV.mono (by rw [List.length_map]; have := names_len (h := h) (b := !h.res); have := gh.len; omega) W5 hD3 (SqL.of (hid_get htn (W'.nin ntn))) ?_ ?_⟩
          · rintro i y H6 Qn hi at6 kq
            obtain ⟨x, hx, rfl⟩ := map_ix hi
            refine ⟨rfl, _, rfl, sz (by show 2 ≤ 100000; decide), fun t H7 n7 => ?_⟩
            exact kq _ (.ret x) H7 (n7.dr (Dr.refl at6.wl.wl)) (n7.row (at6.wl.nin n7.free) (.cons rfl (.cons rfl .nil)) (fun _ _ _ _ e => nomatch e)) (by
              show decide (h.kind x = some h.res) = false
              rw [names_kind gh.nd (ix_mem hx)]
              cases h.res <;> rfl)
          · rintro H6 us d6 hus lus aus
            have W6 := W5.dr d6
            have dd6 := (Dr.of W'.wl s5).trans d6
            obtain ⟨va, hva, pa⟩ := hlf'.mono (W'.up dd6)
            obtain ⟨vb, hvb, pb⟩ := id hus
            have lu : us.length ≤ 100 := by rw [lus, List.length_map]; exact Nat.le_trans names_len gh.len
            have i6 : vh4.length ≤ 6 := lvh
            refine ⟨lf, D3, va, vb, rfl, rfl, SqL.of (hid_some hva).1, SqL.of (hid_some hvb).1, sz (by rw [pa.len, pb.len]; omega), fun l7 H7 n7 => ?_⟩
            have W7 := W6.same n7.same
            refine ⟨sz (by show 2 ≤ 100000; decide), fun t1 H8 n8 => ⟨sz (by show 2 ≤ 100000; decide), fun t2 H9 n9 => ⟨sz (by show 2 ≤ 100000; decide), fun l8 Ha na => ?_⟩⟩⟩
            have W8 := W7.same n8.same
            have W9 := W8.same n9.same
            have Wa := W9.same na.same
            refine ⟨l7, l8, _, _, rfl, rfl, SqL.of (na.same _ _ (n9.same _ _ (n8.same _ _ n7.at))), SqL.of na.at, sz (by rw [List.length_append, pa.len, pb.len]; show _ + 2 ≤ 100000; omega), fun l9 Hb nb => ?_⟩
            have Wb := Wa.same nb.same
            have x6b := n7.same.trans (n8.same.trans (n9.same.trans (na.same.trans nb.same)))
            have db : Dr p H Hb := (((d2.trans d24).trans dd).trans dd6).same x6b
            have r1 : RwV (hid S Hb) (.ref t1) (.ret "nosuch") := RwV.mono _ _ _ _ (n9.hid.trans (na.hid.trans nb.hid)) (n8.row (W7.nin n8.free) (.cons rfl (.cons rfl .nil)) (fun _ _ _ _ e => nomatch e))
            have r2 : RwV (hid S Hb) (.ref t2) (.see "nosuch") := RwV.mono _ _ _ _ (na.hid.trans nb.hid) (n9.row (W8.nin n9.free) (.cons rfl (.cons rfl .nil)) (fun _ _ _ _ e => nomatch e))
            have pall : Paired (RwV (hid S Hb)) (va ++ vb ++ [.ref t1, .ref t2]) (rs ++ us ++ [.ret "nosuch", .see "nosuch"]) := ((pa.app pb).imp fun _ _ z => RwV.mono _ _ _ _ (Sm.of x6b) z).app (.cons r1 (.one r2))
            refine ⟨_, rfl, _, rfl, p, l9, _, rfl, Wb.wl, SqL.of (hid_get nb.at (by simpa using Wa.nw nb.free)), by simp, by rw [pall.len, List.length_append, List.length_append]; show _ + 2 < 1000000; omega, fun v hv Hc dc => ?_⟩
            obtain ⟨r, hr', hvr⟩ := pall.mem hv
            refine k v r Hc (db.trans dc) (RwV.mono _ _ _ _ (Wb.up dc) hvr) ?_
            rcases List.mem_append.mp hr' with z | z
            · rcases List.mem_append.mp z with z | z
              · exact wrs r z
              · obtain ⟨i, hi⟩ := List.getElem?_of_mem z
                exact aus i r hi
            · have kn := nosuch_none gh
              rcases List.mem_cons.mp z with e | e
              · rw [e]
                show decide (h.kind "nosuch" = some h.res) = false
                rw [kn]
                rfl
              · rw [List.mem_singleton.mp e]
                show (h.kind "nosuch").isSome = false
                rw [kn]
                rfl
end
end K12

namespace K12
open PySem PySem.Spec PyProof.Rows L2
abbrev sIsInteger : Stmt := topS 12
abbrev sIsBetween : Stmt := topS 13
abbrev sIsName : Stmt := topS 14
abbrev sIsWord : Stmt := topS 15
abbrev sIsList : Stmt := topS 16
abbrev sIsTuple : Stmt := topS 17
abbrev sIsDeclared : Stmt := topS 18
abbrev sAreDeclared : Stmt := topS 19
def letters : Str := "abcdefghijklmnopqrstuvwxyz"
def figures : Str := "0123456789"
/-- the text's own constants -/
structure TxtW (K : PySem.W.Frag) (mg : Str → Option Value) : Prop where
  letters : ∃ t, mg "LETTERS" = some (.str letters t)
  figures : ∃ t, mg "FIGURES" = some (.str figures t)
  most : ∃ t, mg "MOST_LETTERS" = some (.int 8 t)
  number : ∃ t, mg "NUMBER" = some (.str "number" t)
  object : ∃ t, mg "OBJECT" = some (.str "object" t)
  kinds : ∃ a, mg "KINDS" = some (.ref a) ∧ ∀ H, SqT K H a [.str "number", .str "object"]
/-- a name -/
structure NameOk (x : Str) : Prop where
  l1 : 1 ≤ x.length
  l8 : x.length ≤ 8
  head : ∃ c, x.cps[0]? = some c ∧ c ∈ letters.cps.toList
  all : ∀ (i : Nat) (c : Nat), x.cps[i]? = some c → c ∈ (letters ++ figures).cps.toList
def spIsInteger : Sp := fun vs H Q _ => ∃ i : Int, vs = [.int i] ∧ Q (.bl true) H
def spIsBetween : Sp := fun vs H Q _ => ∃ i a b : Int, vs = [.int i, .int a, .int b] ∧ Q (.bl (decide (a ≤ i ∧ i ≤ b))) H
def spIsName : Sp := fun vs H Q _ => ∃ x : Str, vs = [.str x] ∧ NameOk x ∧ ∀ H', Same H H' → Q (.bl true) H'
def spIsWord (K : PySem.W.Frag) : Sp := fun vs H Q _ => ∃ (x : Str) (a : Addr) (ws : List Str), vs = [.str x, .ref a] ∧ SqT K H a (ws.map V.str) ∧ Q (.bl (decide (x ∈ ws))) H
def spIsList : Sp := fun vs H Q _ => ∃ (a : Addr) (xs : List V) (l m : Int), vs = [.ref a, .int l, .int m] ∧ H a = some (.lst xs) ∧ Q (.bl (decide (l ≤ xs.length ∧ (xs.length : Int) ≤ m))) H
def spIsTuple : Sp := fun vs H Q _ => ∃ (a : Addr) (xs : List V) (m : Int), vs = [.ref a, .int m] ∧ H a = some (.tup xs) ∧ Q (.bl (decide ((xs.length : Int) = m))) H
def spIsDeclared : Sp := fun vs H Q _ => ∃ (v : V) (d : Dcl), vs = [v] ∧ DclV H v d ∧ NameOk d.1 ∧ ∀ H', Same H H' → Q (.bl true) H'
def spAreDeclared : Sp := fun vs H Q _ => ∃ (a : Addr) (ds : List Dcl) (l m : Int), vs = [.ref a, .int l, .int m] ∧ DclsAt H a ds ∧ (∀ d ∈ ds, NameOk d.1) ∧ (ds.map (·.1)).Nodup ∧ l ≤ ds.length ∧ (ds.length : Int) ≤ m ∧ ds.length ≤ 100 ∧ ∀ H', Same H H' → Q (.bl true) H'
section
variable {P : Program} {w : World} {K : PySem.W.Frag} {mg : Str → Option Value} {base : Heap}
theorem isi_int {H : Hp} {i : Int} : TyX K H (.int i) (.type "int") := .base (.int i)
theorem scIsInteger : FnScope ["thing"] ["thing"] (defScope sIsInteger) := ⟨rfl, rfl, rfl, by decide +kernel, rfl, by decide +kernel, by decide +kernel⟩
theorem cal_isInteger (T : Txt mg) (D : Dfn K mg "is_integer" "is_integer" sIsInteger ["thing"]) : Cal P w K mg base CX0 1 "is_integer" ["thing"] spIsInteger := by
  obtain ⟨f, fd, F, m, b⟩ := D
  refine ⟨f, fd, m, F.kp, b, F.ok scIsInteger (fun vs H Q E h => ?_) (fun cdv A outer s H vs Q E hr h => ?_)⟩
  · obtain ⟨_, rfl, _⟩ := h
    rfl
  · obtain ⟨i, rfl, k⟩ := h
    refine ⟨_, pss_one (ps_ret (pe_and (pe_callB call_isi (by rfl) T.isinstance (by decide +kernel) (pa_cons (pv 0) (pa_cons (pe_bltn (v := .ty "int") (by rfl) T.int (by decide +kernel) rfl) pa_nil)))
      (pe_one (pe_not (pe_callB call_isi (by rfl) T.isinstance (by decide +kernel) (pa_cons (pv 0) (pa_cons (pe_bltn (v := .ty "bool") (by rfl) T.bool (by decide +kernel) rfl) pa_nil))))))), ?_⟩
    refine ⟨_, rfl, _, _, _, _, true, rfl, .ty "int", isi_int, kit_ty (by decide +kernel), _, rfl, iteT ?_⟩
    exact ⟨_, rfl, _, _, _, _, false, rfl, .ty "bool", isi_int, kit_ty (by decide +kernel), _, rfl, k⟩
theorem scIsBetween : FnScope ["thing", "least", "most"] ["thing", "least", "most"] (defScope sIsBetween) := ⟨rfl, rfl, rfl, by decide +kernel, rfl, by decide +kernel, by decide +kernel⟩
theorem cal_isBetween (T : Txt mg) (D : Dfn K mg "is_between" "is_between" sIsBetween ["thing", "least", "most"]) (CI : Cal P w K mg base CX0 1 "is_integer" ["thing"] spIsInteger) : Cal P w K mg base CX0 2 "is_between" ["thing", "least", "most"] spIsBetween := by
  obtain ⟨f, fd, F, m, b⟩ := D
  obtain ⟨f1, fd1, m1, kp1, b1, G1⟩ := CI
  refine ⟨f, fd, m, F.kp, b, F.ok scIsBetween (fun vs H Q E h => ?_) (fun cdv A outer s H vs Q E hr h => ?_)⟩
  · obtain ⟨_, _, _, rfl, _⟩ := h
    rfl
  · obtain ⟨i, lo, hi, rfl, k⟩ := h
    refine ⟨_, pss_one (ps_ret (pe_and (pe_call G1 hr (by rfl) m1 kp1 b1 .nil pass0 (pa_cons (pv 0) pa_nil)) (pe_one (pe_chain op_le op_le (pv 1) (pv 0) (pv 2))))), ?_⟩
    refine ⟨_, rfl, i, rfl, _, rfl, iteT ?_⟩
    refine ⟨_, rfl, _, rfl, _, _, rfl, rfl, _, rfl, ?_⟩
    refine ite2 (fun e => ?_) (fun e => ?_)
    · refine ⟨_, rfl, _, _, rfl, rfl, ?_⟩
      have e := of_decide_eq_true e
      show Q (.bl (decide (i ≤ hi))) H
      rw [show decide (i ≤ hi) = decide (lo ≤ i ∧ i ≤ hi) by simp [e]]
      exact k
    · have e : ¬ lo ≤ i := fun z => e (decide_eq_true z)
      rw [show decide (lo ≤ i ∧ i ≤ hi) = false by simp [e]] at k
      exact k
theorem scIsWord : FnScope ["thing", "words"] ["thing", "words"] (defScope sIsWord) := ⟨rfl, rfl, rfl, by decide +kernel, rfl, by decide +kernel, by decide +kernel⟩
theorem cal_isWord (T : Txt mg) (D : Dfn K mg "is_word" "is_word" sIsWord ["thing", "words"]) : Cal P w K mg base CX0 1 "is_word" ["thing", "words"] (spIsWord K) := by
  obtain ⟨f, fd, F, m, b⟩ := D
  refine ⟨f, fd, m, F.kp, b, F.ok scIsWord (fun vs H Q E h => ?_) (fun cdv A outer s H vs Q E hr h => ?_)⟩
  · obtain ⟨_, _, _, rfl, _⟩ := h
    rfl
  · obtain ⟨x, a, ws, rfl, ha, k⟩ := h
    refine ⟨_, pss_one (ps_ret (pe_and (pe_callB call_isi (by rfl) T.isinstance (by decide +kernel) (pa_cons (pv 0) (pa_cons (pe_bltn (v := .ty "str") (by rfl) T.str (by decide +kernel) rfl) pa_nil))) (pe_one (pe_cmpR op_in_seq (pv 0) (pv 1) (by rfl))))), ?_⟩
    refine ⟨_, rfl, _, _, _, _, true, rfl, .ty "str", .base (.str x), kit_ty (by decide +kernel), _, rfl, iteT ?_⟩
    refine ⟨_, rfl, _, rfl, a, _, rfl, .inr ha, rfl, (by rw [List.all_map]; exact List.all_eq_true.mpr fun _ _ => rfl), ?_⟩
    show Q (.bl (inV (.str x) (ws.map V.str))) H
    have e : inV (.str x) (ws.map V.str) = decide (x ∈ ws) := by
      unfold inV
      rw [List.any_map]
      refine Bool.eq_iff_iff.mpr ?_
      simp [List.any_eq_true, eqV]
    rw [e]
    exact k
theorem scIsList : FnScope ["thing", "least", "most"] ["thing", "least", "most"] (defScope sIsList) := ⟨rfl, rfl, rfl, by decide +kernel, rfl, by decide +kernel, by decide +kernel⟩
theorem cal_isList (T : Txt mg) (D : Dfn K mg "is_list" "is_list" sIsList ["thing", "least", "most"]) : Cal P w K mg base CX0 1 "is_list" ["thing", "least", "most"] spIsList := by
  obtain ⟨f, fd, F, m, b⟩ := D
  refine ⟨f, fd, m, F.kp, b, F.ok scIsList (fun vs H Q E h => ?_) (fun cdv A outer s H vs Q E hr h => ?_)⟩
  · obtain ⟨_, _, _, _, rfl, _⟩ := h
    rfl
  · obtain ⟨a, xs, lo, hi, rfl, ha, k⟩ := h
    refine ⟨_, pss_one (ps_ret (pe_and (pe_callB call_isi (by rfl) T.isinstance (by decide +kernel) (pa_cons (pv 0) (pa_cons (pe_bltn (v := .ty "list") (by rfl) T.list (by decide +kernel) rfl) pa_nil)))
      (pe_one (pe_chain op_le op_le (pv 1) (pe_callB call_len_seq (by rfl) T.len PySem.boot_len (pa_cons (pv 0) pa_nil)) (pv 2))))), ?_⟩
    refine ⟨_, rfl, _, _, _, _, true, rfl, .ty "list", .base (.lst ha), kit_ty (by decide +kernel), _, rfl, iteT ?_⟩
    refine ⟨_, rfl, _, rfl, a, xs, rfl, .inl (SqL.of ha), _, _, rfl, rfl, _, rfl, ?_⟩
    refine ite2 (fun e => ?_) (fun e => ?_)
    · refine ⟨_, rfl, _, _, rfl, rfl, ?_⟩
      have e := of_decide_eq_true e
      show Q (.bl (decide ((xs.length : Int) ≤ hi))) H
      rw [show decide ((xs.length : Int) ≤ hi) = decide (lo ≤ xs.length ∧ (xs.length : Int) ≤ hi) by simp [e]]
      exact k
    · have e : ¬ lo ≤ (xs.length : Int) := fun z => e (decide_eq_true z)
      rw [show decide (lo ≤ (xs.length : Int) ∧ (xs.length : Int) ≤ hi) = false by simp [e]] at k
      exact k
theorem scIsTuple : FnScope ["thing", "many"] ["thing", "many"] (defScope sIsTuple) := ⟨rfl, rfl, rfl, by decide +kernel, rfl, by decide +kernel, by decide +kernel⟩
theorem cal_isTuple (T : Txt mg) (D : Dfn K mg "is_tuple" "is_tuple" sIsTuple ["thing", "many"]) : Cal P w K mg base CX0 1 "is_tuple" ["thing", "many"] spIsTuple := by
  obtain ⟨f, fd, F, m, b⟩ := D
  refine ⟨f, fd, m, F.kp, b, F.ok scIsTuple (fun vs H Q E h => ?_) (fun cdv A outer s H vs Q E hr h => ?_)⟩
  · obtain ⟨_, _, _, rfl, _⟩ := h
    rfl
  · obtain ⟨a, xs, mm, rfl, ha, k⟩ := h
    refine ⟨_, pss_one (ps_ret (pe_and (pe_callB call_isi (by rfl) T.isinstance (by decide +kernel) (pa_cons (pv 0) (pa_cons (pe_bltn (v := .ty "tuple") (by rfl) T.tuple (by decide +kernel) rfl) pa_nil)))
      (pe_one (pe_cmpR op_eq (pe_callB call_len_seq (by rfl) T.len PySem.boot_len (pa_cons (pv 0) pa_nil)) (pv 1) (nomark _))))), ?_⟩
    refine ⟨_, rfl, _, _, _, _, true, rfl, .ty "tuple", .base (.tup ha), kit_ty (by decide +kernel), _, rfl, iteT ?_⟩
    refine ⟨_, rfl, a, xs, rfl, .inr (SqT.of ha), _, rfl, rfl, ?_⟩
    have e : decide (V.int (xs.length : Nat) = V.int mm) = decide (((xs.length : Nat) : Int) = mm) := by
      by_cases c : ((xs.length : Nat) : Int) = mm
      · rw [c]; simp
      · rw [decide_eq_false c, decide_eq_false fun z => c (V.int.inj z)]
    show Q (.bl (decide (V.int (xs.length : Nat) = V.int mm))) H
    rw [e]
    exact k
/-- a dict comprehension over anything that is walked -/
theorem dc_walk {J : It} {n : Nat} {G : Hp → Prop} {Y : Nat → Hp → V → Hp → Prop} (wk : Walk J n G Y) {g : TG} {tt : TT} {tk tv : TE} {vs : List Nat} {σ : L2.St} {H1 : Hp} {D : Addr} {Qd : Hp → Prop} (Pv : Nat → Hp → Prop) (h0 : Pv 0 (upd H1 D (.dK [])))
    (hG : ∀ i H, i ≤ n → Pv i H → G H) (hd : ∀ H, Pv n H → Qd H)
    (hs : ∀ i x H H', i < n → Pv i H → Y i H x H' → g x (wipe σ vs) H' fun σ2 H2 => wipe σ2 vs = wipe σ vs ∧ tt σ2 H2 fun b H3 =>
      if b = true then tk σ2 H3 fun y H4 => tv σ2 H4 fun z H5 => ∃ kvs k, y = kV k ∧ H5 D = some (.dK kvs) ∧ kvs.length < sizeLine ∧ Pv (i + 1) (upd H5 D (.dK (putK kvs k z))) else Pv (i + 1) H3) :
    ∃ W : Nat → Nat → Hp → Prop, (∃ m, W 0 m (upd H1 D (.dK []))) ∧ ∀ i m H, W i m H →
      (J.stop i H ∧ Qd H) ∨ (J.go i H ∧ ∃ Nx : Hp → Prop, (∀ H', Nx H' → ∃ m', m' < m ∧ W (i + 1) m' H') ∧ ∀ x H', J.yld i H x H' → g x (wipe σ vs) H' fun σ2 H2 => wipe σ2 vs = wipe σ vs ∧ tt σ2 H2 fun b H3 =>
        if b = true then tk σ2 H3 fun y H4 => tv σ2 H4 fun z H5 => ∃ kvs k, y = kV k ∧ H5 D = some (.dK kvs) ∧ kvs.length < sizeLine ∧ Nx (upd H5 D (.dK (putK kvs k z))) else Nx H3) := by
  refine ⟨fun i m H => i + m = n ∧ Pv i H, ⟨n, Nat.zero_add n, h0⟩, fun i m H ⟨e, p⟩ => ?_⟩
  have hi : i ≤ n := by omega
  cases m with
  | zero =>
    have ei : i = n := by omega
    subst ei
    exact .inl ⟨wk.stops H (hG i H hi p), hd H p⟩
  | succ m =>
    have lt : i < n := by omega
    exact .inr ⟨wk.goes i H lt (hG i H hi p), Pv (i + 1), fun H' p' => ⟨m, Nat.lt_succ_self m, by omega, p'⟩, fun x H' y => hs i x H H' lt p (wk.yields i H x H' lt (hG i H hi p) y)⟩
theorem scIsName : FnScope ["thing", "sign"] ["thing"] (defScope sIsName) := ⟨rfl, rfl, rfl, by decide +kernel, rfl, by decide +kernel, by decide +kernel⟩
theorem cal_isName (T : Txt mg) (TW : TxtW K mg) (D : Dfn K mg "is_name" "is_name" sIsName ["thing"]) : Cal P w K mg base CX0 1 "is_name" ["thing"] spIsName := by
  obtain ⟨f, fd, F, m, b⟩ := D
  obtain ⟨tl, gl⟩ := TW.letters
  obtain ⟨tf, gf⟩ := TW.figures
  obtain ⟨tm, gm⟩ := TW.most
  refine ⟨f, fd, m, F.kp, b, F.ok scIsName (fun vs H Q E h => ?_) (fun cdv A outer s H vs Q E hr h => ?_)⟩
  · obtain ⟨_, rfl, _⟩ := h
    rfl
  · obtain ⟨x, rfl, ok, k⟩ := h
    refine ⟨_, pss_cons (ps_if (PW.pt (pw_or (pt_not (pt_val (pe_callB call_isi (by rfl) T.isinstance (by decide +kernel) (pa_cons (pv 0) (pa_cons (pe_bltn (v := .ty "str") (by rfl) T.str (by decide +kernel) rfl) pa_nil)))))
          (pw_or (pt_not (pt_chain op_le op_le pe_int (pe_callB call_len_str (by rfl) T.len PySem.boot_len (pa_cons (pv 0) pa_nil)) (pe_glob (v := .int 8) (by rfl) gm ⟨_, rfl⟩)))
            (pw_or1 (pt_cmpR op_notIn_sign (pe_item_str (pv 0) pe_int (fun _ _ => rfl)) (pe_glob (v := .str letters) (by rfl) gl ⟨_, rfl⟩) (by rfl)))))) (pss_one (ps_ret pe_bl)) pss_nil)
      (pss_one (ps_ret (pe_callB (cr_all rfl) (by rfl) T.all (by decide +kernel) (pa_cons (pe_lc (own := [("sign", 1)]) (g := gName 1) (tt := tYes) rfl scIsName.nd (pi_str (pv 0))
              (blkOk_by (N := ["thing", "sign"]) (sc := defScope sIsName) (by decide +kernel)) (fun _ _ _ _ _ => pg_name (i := 1) scIsName.nd rfl (.inl rfl)) (fun _ _ _ _ _ => pts_nil)
              (fun _ _ _ _ _ => pe_cmpR op_in_sign (pv 1) (pe_op op_add_str (pe_glob (v := .str letters) (by rfl) gl ⟨_, rfl⟩) (pe_glob (v := .str figures) (by rfl) gf ⟨_, rfl⟩)) (by rfl))) pa_nil)))), ?_⟩
    obtain ⟨c0, hc0, m0⟩ := ok.head
    have l1 := ok.l1
    have l8 := ok.l8
    refine ⟨_, rfl, _, _, _, _, true, rfl, .ty "str", .base (.str x), kit_ty (by decide +kernel), true, rfl, iteF ?_⟩
    refine ⟨_, rfl, x, rfl, sz (by omega), _, _, rfl, rfl, _, rfl, ?_⟩
    rw [if_pos (decide_eq_true (show (1 : Int) ≤ (x.length : Nat) by omega))]
    refine ⟨_, _, rfl, rfl, true, (by show V.bl (decide (((x.length : Nat) : Int) ≤ 8)) = V.bl true; rw [decide_eq_true (show ((x.length : Nat) : Int) ≤ 8 by omega)]), iteF ?_⟩
    refine ⟨_, rfl, x, 0, c0, rfl, rfl, by decide, by decide, by omega, hc0, c0, letters, rfl, rfl, false, (by rw [decide_eq_true m0]; rfl), iteF ?_⟩
    refine ⟨_, rfl, x, rfl, fun D1 hD1 => lc_mapW (walk_str (z := x)) (fun i ys H' => Same H H' ∧ ∃ bs : List Bool, ys = bs.map V.bl ∧ ∀ b ∈ bs, b = true) (by have e : x.cps.size = x.length := rfl; omega) hD1 (fun H' n => ⟨n.same, [], rfl, fun _ m => nomatch m⟩) (fun _ _ _ _ _ _ => trivial) ?_ ?_⟩
    · rintro i y ys H' H'' hi hD' lys ⟨s', bs, rfl, hb⟩ ⟨rfl, c, hc, rfl⟩
      refine ⟨rfl, _, rfl, _, _, rfl, rfl, (by decide +kernel), c, letters ++ figures, rfl, rfl, ?_⟩
      refine ⟨_, hD', lys, fun H5 p5 => ⟨?_, bs ++ [true], ?_, fun b hb' => ?_⟩⟩
      · rw [p5.eq]; exact same_own s' hD1
      · rw [List.map_append, decide_eq_true (ok.all i c hc)]
        rfl
      · rcases List.mem_append.mp hb' with q | q
        · exact hb b q
        · exact List.mem_singleton.mp q
    · rintro ys H' hD' lys ⟨s', bs, rfl, hb⟩
      refine ⟨D1, bs, rfl, SqL.of hD', ?_⟩
      have : bs.all id = true := List.all_eq_true.mpr hb
      rw [this]
      exact k H' s'
theorem scIsDeclared : FnScope ["thing"] ["thing"] (defScope sIsDeclared) := ⟨rfl, rfl, rfl, by decide +kernel, rfl, by decide +kernel, by decide +kernel⟩
theorem cal_isDeclared (T : Txt mg) (TW : TxtW K mg) (D : Dfn K mg "is_declared" "is_declared" sIsDeclared ["thing"]) (CT : Cal P w K mg base CX0 1 "is_tuple" ["thing", "many"] spIsTuple) (CN : Cal P w K mg base CX0 1 "is_name" ["thing"] spIsName)
    (CW : Cal P w K mg base CX0 1 "is_word" ["thing", "words"] (spIsWord K)) : Cal P w K mg base CX0 2 "is_declared" ["thing"] spIsDeclared := by
  obtain ⟨f, fd, F, m, b⟩ := D
  obtain ⟨f1, fd1, m1, kp1, b1, G1⟩ := CT
  obtain ⟨f2, fd2, m2, kp2, b2, G2⟩ := CN
  obtain ⟨f3, fd3, m3, kp3, b3, G3⟩ := CW
  obtain ⟨ka, gk, hk⟩ := TW.kinds
  refine ⟨f, fd, m, F.kp, b, F.ok scIsDeclared (fun vs H Q E h => ?_) (fun cdv A outer s H vs Q E hr h => ?_)⟩
  · obtain ⟨_, _, rfl, _⟩ := h
    rfl
  · obtain ⟨v, d, rfl, ⟨p, rfl, hp⟩, ok, k⟩ := h
    refine ⟨_, pss_one (ps_ret (pe_and (pe_call G1 hr (by rfl) m1 kp1 b1 .nil pass0 (pa_cons (pv 0) (pa_cons pe_int pa_nil))) (pe_and (pe_call G2 hr (by rfl) m2 kp2 b2 .nil pass0 (pa_cons (pe_ix ix_tup (pv 0) pe_int (fun _ _ => rfl)) pa_nil))
      (pe_one (pe_call G3 hr (by rfl) m3 kp3 b3 .nil pass0 (pa_cons (pe_ix ix_tup (pv 0) pe_int (fun _ _ => rfl)) (pa_cons (pe_glob (v := .ref ka) (by rfl) gk rfl) pa_nil))))))), ?_⟩
    refine ⟨_, rfl, p, _, 2, rfl, hp, true, rfl, iteT ?_⟩
    refine ⟨_, rfl, p, _, _, _, rfl, rfl, SqT.of hp, at_of (j := 0) rfl rfl, d.1, rfl, ok, fun H' s' => ⟨true, rfl, iteT ?_⟩⟩
    refine ⟨_, rfl, p, _, _, _, rfl, rfl, SqT.of (s' _ _ hp), at_of (j := 1) rfl rfl, kd d.2, ka, [("number" : Str), "object"], rfl, hk H', ?_⟩
    have : decide (kd d.2 ∈ [("number" : Str), "object"]) = true := by
      cases d.2 <;> decide +kernel
    rw [this]
    exact k H' s'
theorem scAreDeclared : FnScope ["thing", "least", "most", "one"] ["thing", "least", "most"] (defScope sAreDeclared) := ⟨rfl, rfl, rfl, by decide +kernel, rfl, by decide +kernel, by decide +kernel⟩
theorem cal_areDeclared (T : Txt mg) (D : Dfn K mg "are_declared" "are_declared" sAreDeclared ["thing", "least", "most"]) (CL : Cal P w K mg base CX0 1 "is_list" ["thing", "least", "most"] spIsList) (CD : Cal P w K mg base CX0 2 "is_declared" ["thing"] spIsDeclared) :
    Cal P w K mg base CX0 3 "are_declared" ["thing", "least", "most"] spAreDeclared := by
  obtain ⟨f, fd, F, m, b⟩ := D
  obtain ⟨f1, fd1, m1, kp1, b1, G1⟩ := CL
  obtain ⟨f2, fd2, m2, kp2, b2, G2⟩ := CD
  refine ⟨f, fd, m, F.kp, b, F.ok scAreDeclared (fun vs H Q E h => ?_) (fun cdv A outer s H vs Q E hr h => ?_)⟩
  · obtain ⟨_, _, _, _, rfl, _⟩ := h
    rfl
  · obtain ⟨a, ds, lo, hi, rfl, ⟨vs, ha, pd⟩, ok, nd, l1, l2, l3, k⟩ := h
    have hr1 : Room 1 _ := hr.mono (by decide)
    refine ⟨_, pss_cons (ps_if (PW.pt (pw_or (pt_not (pt_val (pe_call G1 hr1 (by rfl) m1 kp1 b1 .nil pass0 (pa_cons (pv 0) (pa_cons (pv 1) (pa_cons (pv 2) pa_nil))))))
          (pw_or1 (pt_not (pt_val (pe_callB (cr_all rfl) (by rfl) T.all (by decide +kernel) (pa_cons (pe_lc (own := [("one", 3)]) (g := gName 3) (tt := tYes) rfl scAreDeclared.nd (pi_list (pv 0))
              (blkOk_by (N := ["thing", "least", "most", "one"]) (sc := defScope sAreDeclared) (by decide +kernel)) (fun _ _ _ _ _ => pg_name (i := 3) scAreDeclared.nd rfl (.inl rfl)) (fun _ _ _ _ _ => pts_nil)
              (fun _ _ _ _ _ => pe_call G2 hr (by rfl) m2 kp2 b2 .nil pass0 (pa_cons (pv 3) pa_nil))) pa_nil))))))) (pss_one (ps_ret pe_bl)) pss_nil)
      (pss_one (ps_ret (pe_cmpR op_eq (pe_callB call_lenD (by rfl) T.len PySem.boot_len (pa_cons (pe_dc (own := [("one", 3)]) (g := gName 3) (tt := tYes) rfl scAreDeclared.nd (pi_list (pv 0))
              (blkOk_by (N := ["thing", "least", "most", "one"]) (sc := defScope sAreDeclared) (by decide +kernel)) (fun _ _ _ _ _ => pg_name (i := 3) scAreDeclared.nd rfl (.inl rfl)) (fun _ _ _ _ _ => pts_nil)
              (fun _ _ _ _ _ => pe_ix (r := rIxT K) ix_tup (pv 3) pe_int (fun _ _ => rfl)) (fun _ _ _ _ _ => pe_bl)) pa_nil)) (pe_callB call_len_seq (by rfl) T.len PySem.boot_len (pa_cons (pv 0) pa_nil)) (nomark _)))), ?_⟩
    have lv : vs.length = ds.length := pd.len
    refine ⟨_, rfl, _, rfl, _, rfl, a, vs, lo, hi, rfl, ha, ?_⟩
    refine ⟨true, (by rw [decide_eq_true (show lo ≤ ((vs.length : Nat) : Int) ∧ ((vs.length : Nat) : Int) ≤ hi by rw [lv]; exact ⟨l1, l2⟩)]), iteF ?_⟩
    refine ⟨_, rfl, a, rfl, ⟨_, SqL.of ha⟩, fun D1 hD1 => lc_map (K := K) (a := a) (xs := vs) (fun i ys H' => Same H H' ∧ ∃ bs : List Bool, ys = bs.map V.bl ∧ ∀ b ∈ bs, b = true) (by omega) hD1 (fun H' n => ⟨n.same, [], rfl, fun _ m => nomatch m⟩) (fun _ _ _ _ _ I => SqL.of (I.1 _ _ ha)) ?_ ?_⟩
    · rintro i y ys H' hi hD' lys ⟨s', bs, rfl, hb⟩
      obtain ⟨d, hd, hdv⟩ := pd.get hi
      refine ⟨rfl, _, rfl, y, d, rfl, DclV.mono _ _ _ _ s' hdv, ok d (ix_mem hd), fun H2 s2 => ⟨_, s2 _ _ hD', lys, fun H5 p5 => ⟨?_, bs ++ [true], by rw [List.map_append]; rfl, fun b hb' => ?_⟩⟩⟩
      · rw [p5.eq]; exact same_own (s'.trans s2) hD1
      · rcases List.mem_append.mp hb' with q | q
        · exact hb b q
        · exact List.mem_singleton.mp q
    · rintro ys H' hD' lys ⟨s', bs, rfl, hb⟩
      refine ⟨D1, bs, rfl, SqL.of hD', ?_⟩
      have : bs.all id = true := List.all_eq_true.mpr hb
      rw [this]
      refine ⟨true, rfl, iteF ?_⟩
      refine ⟨_, rfl, a, rfl, ⟨_, SqL.of (s' _ _ ha)⟩, fun D2 hD2 => dc_walk (walk_list (K := K) (a := a) (xs := vs)) (fun i H2 => Same H H2 ∧ ∃ kvs : List (Key × V), H2 D2 = some (.dK kvs) ∧ kvs.map (·.1) = ((ds.take i).map (·.1)).map Sum.inr) ⟨same_new s' hD2, [], upd_same, rfl⟩ (fun i H2 _ I => SqL.of (I.1 _ _ ha)) ?_ ?_⟩
      · rintro H2 ⟨s2, kvs, hk, ek⟩
        have lk : kvs.length = ds.length := by
          have := congrArg List.length ek
          rw [List.length_map, List.length_map, List.length_map, lv, List.take_length] at this
          exact this
        refine ⟨D2, kvs, rfl, hk, _, rfl, a, vs, rfl, .inl (SqL.of (s2 _ _ ha)), rfl, ?_⟩
        show Q (.bl (decide (V.int (kvs.length : Nat) = V.int (vs.length : Nat)))) H2
        rw [lk, lv, decide_eq_true rfl]
        exact k H2 s2
      · rintro i y H2 H2' hi ⟨s2, kvs, hk, ek⟩ ⟨rfl, hy⟩
        obtain ⟨d, hd, p, rfl, hp⟩ := pd.get hy
        refine ⟨rfl, _, rfl, p, _, _, _, rfl, rfl, SqT.of (s2 _ _ hp), at_of (j := 0) rfl rfl, kvs, .inr d.1, rfl, hk, ?_, ?_⟩
        · have := congrArg List.length ek
          rw [List.length_map, List.length_map, List.length_map, List.length_take] at this
          exact sz' (by omega)
        · have fresh : valV kvs (Sum.inr d.1) = none := by
            cases e : valV kvs (Sum.inr d.1) with
            | none => rfl
            | some v =>
              have m1 := valV_in e
              rw [ek] at m1
              obtain ⟨x, hx, e1⟩ := List.mem_map.mp m1
              have e1 : x = d.1 := Sum.inr.inj e1
              rw [e1] at hx
              have n2 : ((ds.take (i + 1)).map (·.1)).Nodup := nd.sublist ((List.take_sublist _ _).map _)
              rw [take_more hd, List.map_append] at n2
              exact absurd rfl ((List.nodup_append.mp n2).2.2 d.1 hx d.1 (List.mem_singleton.mpr rfl))
          refine ⟨?_, _, upd_same, ?_⟩
          · exact same_own s2 (s'.free hD2)
          · rw [putK_new _ fresh, List.map_append, ek, take_more hd, List.map_append, List.map_append]
            rfl
end
end K12

namespace K12
open PySem PySem.Spec PyProof.Rows L2
abbrev sIsClass : Stmt := topS 31
abbrev sIsHead : Stmt := topS 32
abbrev sFrozen : Stmt := topS 34
/-! ### the names are names -/
def nameB (x : Str) : Bool := decide (1 ≤ x.length) && decide (x.length ≤ 8) && (match x.cps[0]? with | some c => decide (c ∈ letters.cps.toList) | none => false) && x.cps.toList.all fun c => decide (c ∈ (letters ++ figures).cps.toList)
theorem nameB_ok {x : Str} (h : nameB x = true) : NameOk x := by
  unfold nameB at h
  simp only [Bool.and_eq_true, decide_eq_true_eq] at h
  obtain ⟨⟨⟨h1, h2⟩, h3⟩, h4⟩ := h
  refine ⟨h1, h2, ?_, fun i c hc => ?_⟩
  · cases e : x.cps[0]? with
    | none => rw [e] at h3; cases h3
    | some c => rw [e] at h3; exact ⟨c, rfl, of_decide_eq_true h3⟩
  · have m : c ∈ x.cps.toList := by
      rw [← Array.getElem?_toList] at hc
      exact List.mem_of_getElem? hc
    exact of_decide_eq_true (List.all_eq_true.mp h4 c m)
theorem word_ok : ∀ x ∈ wordList, NameOk x := fun x h => nameB_ok ((show ∀ x ∈ wordList, nameB x = true by decide +kernel) x h)
theorem clsName_ok : ∀ x ∈ clsNames, NameOk x := fun x h => nameB_ok ((show ∀ x ∈ clsNames, nameB x = true by decide +kernel) x h)
theorem headName_ok : ∀ x ∈ headNames, NameOk x := fun x h => nameB_ok ((show ∀ x ∈ headNames, nameB x = true by decide +kernel) x h)
theorem field_ok : ∀ d ∈ fieldList, NameOk d.1 := fun d h => nameB_ok ((show ∀ d ∈ fieldList, nameB d.1 = true by decide +kernel) d h)
/-- the source's constants -/
structure TxtS (K : PySem.W.Frag) (mg : Str → Option Value) : Prop where
  classes : ∃ t, mg "MOST_CLASSES" = some (.int 6 t)
  fields : ∃ t, mg "MOST_FIELDS" = some (.int 4 t)
  functions : ∃ t, mg "MOST_FUNCTIONS" = some (.int 6 t)
  parameters : ∃ t, mg "MOST_PARAMETERS" = some (.int 4 t)
  others : ∃ t, mg "MOST_OTHERS" = some (.int 8 t)
  rows : ∃ t, mg "MOST_ROWS" = some (.int 40 t)
  greatest : ∃ t, mg "GREATEST" = some (.int 1000000000 t)
/-- what is asked of the wholes -/
structure Wholes (P : Program) (w : World) (K : PySem.W.Frag) (mg : Str → Option Value) (base : Heap) : Prop where
  between : Cal P w K mg base CX0 2 "is_between" ["thing", "least", "most"] spIsBetween
  name : Cal P w K mg base CX0 1 "is_name" ["thing"] spIsName
  word : Cal P w K mg base CX0 1 "is_word" ["thing", "words"] (spIsWord K)
  list : Cal P w K mg base CX0 1 "is_list" ["thing", "least", "most"] spIsList
  tuple : Cal P w K mg base CX0 1 "is_tuple" ["thing", "many"] spIsTuple
  declared : Cal P w K mg base CX0 3 "are_declared" ["thing", "least", "most"] spAreDeclared
def spIsClass : Sp := fun vs H Q _ => ∃ (v : V) (c : Cl), vs = [v] ∧ ClV H v c ∧ GoodCl c ∧ ∀ H', Same H H' → Q (.bl true) H'
def spIsHead : Sp := fun vs H Q _ => ∃ (p L : Addr) (h : Hd) (xs : List V), vs = [.ref p] ∧ FnAt H p h L ∧ GoodHd h ∧ H L = some (.lst xs) ∧ 1 ≤ xs.length ∧ xs.length ≤ 40 ∧ ∀ H', Same H H' → Q (.bl true) H'
def spFrozen : Sp := fun vs H Q _ => ∃ (p : Addr) (r : Rw), vs = [.ref p] ∧ RwAt H p r ∧ ∀ q more H', Same H H' → H q = none → H' q = some (.tup (.str r.tag :: more)) → Q (.ref q) H'
section
variable {P : Program} {w : World} {K : PySem.W.Frag} {mg : Str → Option Value} {base : Heap}
theorem scIsClass : FnScope ["thing"] ["thing"] (defScope sIsClass) := ⟨rfl, rfl, rfl, by decide +kernel, rfl, by decide +kernel, by decide +kernel⟩
theorem cal_isClass (T : Txt mg) (TS : TxtS K mg) (M : Wholes P w K mg base) (D : Dfn K mg "is_class" "is_class" sIsClass ["thing"]) : Cal P w K mg base CX0 4 "is_class" ["thing"] spIsClass := by
  obtain ⟨f, fd, F, m, b⟩ := D
  obtain ⟨f1, fd1, m1, kp1, b1, G1⟩ := M.tuple
  obtain ⟨f2, fd2, m2, kp2, b2, G2⟩ := M.name
  obtain ⟨f3, fd3, m3, kp3, b3, G3⟩ := M.declared
  obtain ⟨t4, g4⟩ := TS.fields
  refine ⟨f, fd, m, F.kp, b, F.ok scIsClass (fun vs H Q E h => ?_) (fun cdv A outer s H vs Q E hr h => ?_)⟩
  · obtain ⟨_, _, rfl, _⟩ := h
    rfl
  · obtain ⟨v, c, rfl, ⟨p, fl, rfl, hp, hd⟩, g, k⟩ := h
    have hr1 : Room 1 _ := hr.mono (by decide)
    refine ⟨_, pss_one (ps_ret (pe_and (pe_call G1 hr1 (by rfl) m1 kp1 b1 .nil pass0 (pa_cons (pv 0) (pa_cons pe_int pa_nil))) (pe_and (pe_call G2 hr1 (by rfl) m2 kp2 b2 .nil pass0 (pa_cons (pe_ix ix_tup (pv 0) pe_int (fun _ _ => rfl)) pa_nil))
      (pe_one (pe_call G3 hr (by rfl) m3 kp3 b3 .nil pass0 (pa_cons (pe_ix ix_tup (pv 0) pe_int (fun _ _ => rfl)) (pa_cons pe_int (pa_cons (pe_glob (v := .int 4) (by rfl) g4 ⟨_, rfl⟩) pa_nil)))))))), ?_⟩
    refine ⟨_, rfl, p, _, 2, rfl, hp, true, rfl, iteT ?_⟩
    refine ⟨_, rfl, p, _, _, _, rfl, rfl, SqT.of hp, at_of (j := 0) rfl rfl, c.1, rfl, clsName_ok _ g.nm, fun H' s' => ⟨true, rfl, iteT ?_⟩⟩
    have le := g.le
    refine ⟨_, rfl, p, _, _, _, rfl, rfl, SqT.of (s' _ _ hp), at_of (j := 1) rfl rfl, fl, c.2, 0, 4, rfl, hd.mono s', fun d h => field_ok d (g.fl d h), g.nd, by omega, by omega, by omega, fun H2 s2 => k H2 (s'.trans s2)⟩
theorem scIsHead : FnScope ["thing", "names", "one", "name"] ["thing"] (defScope sIsHead) := ⟨rfl, rfl, rfl, by decide +kernel, rfl, by decide +kernel, by decide +kernel⟩
theorem cal_isHead (T : Txt mg) (TW : TxtW K mg) (TS : TxtS K mg) (M : Wholes P w K mg base) (D : Dfn K mg "is_head" "is_head" sIsHead ["thing"]) : Cal P w K mg base CX0 4 "is_head" ["thing"] spIsHead := by
  obtain ⟨f, fd, F, m, b⟩ := D
  obtain ⟨f1, fd1, m1, kp1, b1, G1⟩ := M.tuple
  obtain ⟨f2, fd2, m2, kp2, b2, G2⟩ := M.name
  obtain ⟨f3, fd3, m3, kp3, b3, G3⟩ := M.declared
  obtain ⟨f4, fd4, m4, kp4, b4, G4⟩ := M.word
  obtain ⟨f5, fd5, m5, kp5, b5, G5⟩ := M.list
  obtain ⟨t1, g1⟩ := TS.parameters
  obtain ⟨t2, g2'⟩ := TS.others
  obtain ⟨t3, g3⟩ := TS.rows
  obtain ⟨ka, gk, hk⟩ := TW.kinds
  refine ⟨f, fd, m, F.kp, b, F.ok scIsHead (fun vs H Q E h => ?_) (fun cdv A outer s H vs Q E hr h => ?_)⟩
  · obtain ⟨_, _, _, _, rfl, _⟩ := h
    rfl
  · obtain ⟨p, L, h, xs, rfl, ⟨i, o, hp, hi, ho⟩, gh, hL, l1, l40, k⟩ := h
    have hr1 : Room 1 _ := hr.mono (by decide)
    refine ⟨_, pss_cons (ps_if (PW.pt (pw_or (pt_not (pt_val (pe_call G1 hr1 (by rfl) m1 kp1 b1 .nil pass0 (pa_cons (pv 0) (pa_cons pe_int pa_nil))))) (pw_or (pt_not (pt_val (pe_call G2 hr1 (by rfl) m2 kp2 b2 .nil pass0 (pa_cons (pe_ix ix_tup (pv 0) pe_int (fun _ _ => rfl)) pa_nil))))
          (pw_or1 (pt_not (pt_val (pe_call G4 hr1 (by rfl) m4 kp4 b4 .nil pass0 (pa_cons (pe_ix ix_tup (pv 0) pe_int (fun _ _ => rfl)) (pa_cons (pe_glob (v := .ref ka) (by rfl) gk rfl) pa_nil))))))))) (pss_one (ps_ret pe_bl)) pss_nil)
      (pss_cons (ps_if (PW.pt (pw_or (pt_not (pt_val (pe_call G3 hr (by rfl) m3 kp3 b3 .nil pass0 (pa_cons (pe_ix ix_tup (pv 0) pe_int (fun _ _ => rfl)) (pa_cons pe_int (pa_cons (pe_glob (v := .int 4) (by rfl) g1 ⟨_, rfl⟩) pa_nil))))))
          (pw_or1 (pt_not (pt_val (pe_call G3 hr (by rfl) m3 kp3 b3 .nil pass0 (pa_cons (pe_ix ix_tup (pv 0) pe_int (fun _ _ => rfl)) (pa_cons pe_int (pa_cons (pe_glob (v := .int 8) (by rfl) g2' ⟨_, rfl⟩) pa_nil))))))))) (pss_one (ps_ret pe_bl)) pss_nil)
      (pss_cons (ps_setLc (i := 1) (own := [("one", 2)]) (g := gName 2) (tt := tYes) rfl scIsHead.nd rfl rfl (sw_true rfl rfl rfl (by decide +kernel)) (pi_list (pe_op op_catN (pe_ix ix_tup (pv 0) pe_int (fun _ _ => rfl)) (pe_ix ix_tup (pv 0) pe_int (fun _ _ => rfl))))
              (blkOk_by (N := ["thing", "names", "one", "name"]) (sc := defScope sIsHead) (by decide +kernel)) (fun _ _ _ _ _ => pg_name (i := 2) scIsHead.nd rfl (.inl rfl)) (fun _ _ _ _ _ => pts_nil)
              (fun _ _ _ _ _ => pe_ix (r := rIxT K) ix_tup (pv 2) pe_int (fun _ _ => rfl)))
      (pss_one (ps_ret (pe_and (pe_cmpR op_eq (pe_callB call_lenD (by rfl) T.len PySem.boot_len (pa_cons (pe_dc (own := [("name", 3)]) (g := gName 3) (tt := tYes) rfl scIsHead.nd (pi_list (pv 1))
              (blkOk_by (N := ["thing", "names", "one", "name"]) (sc := defScope sIsHead) (by decide +kernel)) (fun _ _ _ _ _ => pg_name (i := 3) scIsHead.nd rfl (.inl rfl)) (fun _ _ _ _ _ => pts_nil)
              (fun _ _ _ _ _ => pv 3) (fun _ _ _ _ _ => pe_bl)) pa_nil)) (pe_callB call_len_seq (by rfl) T.len PySem.boot_len (pa_cons (pv 1) pa_nil)) (nomark _))
          (pe_one (pe_call G5 hr1 (by rfl) m5 kp5 b5 .nil pass0 (pa_cons (pe_ix ix_tup (pv 0) pe_int (fun _ _ => rfl)) (pa_cons pe_int (pa_cons (pe_glob (v := .int 40) (by rfl) g3 ⟨_, rfl⟩) pa_nil)))))))))), ?_⟩
    have li := gh.li
    have lo := gh.lo
    have ok : ∀ d ∈ h.all, NameOk d.1 := fun d hd => word_ok _ (gh.fl d hd)
    have ndi : (h.ins.map (·.1)).Nodup := gh.nd.sublist ((List.sublist_append_left _ _).map _)
    have ndo : (h.outs.map (·.1)).Nodup := gh.nd.sublist ((List.sublist_append_right _ _).map _)
    refine ⟨_, rfl, p, _, 5, rfl, hp, true, rfl, iteF ?_⟩
    refine ⟨_, rfl, p, _, _, _, rfl, rfl, SqT.of hp, at_of (j := 0) rfl rfl, h.name, rfl, headName_ok _ gh.nm, fun H1 s1 => ⟨true, rfl, iteF ?_⟩⟩
    refine ⟨_, rfl, p, _, _, _, rfl, rfl, SqT.of (s1 _ _ hp), at_of (j := 3) rfl rfl, kd h.res, ka, [("number" : Str), "object"], rfl, hk H1, true, (by cases h.res <;> decide +kernel), iteF ?_⟩
    refine ⟨_, rfl, p, _, _, _, rfl, rfl, SqT.of (s1 _ _ hp), at_of (j := 1) rfl rfl, i, h.ins, 0, 4, rfl, hi.mono s1, fun d hd => ok d (List.mem_append_left _ hd), ndi, by omega, by omega, by omega, fun H2 s2 => ⟨true, rfl, iteF ?_⟩⟩
    have s02 := s1.trans s2
    refine ⟨_, rfl, p, _, _, _, rfl, rfl, SqT.of (s02 _ _ hp), at_of (j := 2) rfl rfl, o, h.outs, 0, 8, rfl, ho.mono s02, fun d hd => ok d (List.mem_append_right _ hd), ndo, by omega, by omega, by omega, fun H3 s3 => ⟨true, rfl, iteF ?_⟩⟩
    have s03 := s02.trans s3
    obtain ⟨vi, hvi, pi⟩ := hi.mono s03
    obtain ⟨vo, hvo, po⟩ := ho.mono s03
    have l100 : vi.length + vo.length ≤ 100 := by rw [pi.len, po.len]; omega
    refine ⟨_, rfl, p, _, _, _, rfl, rfl, SqT.of (s03 _ _ hp), at_of (j := 1) rfl rfl, _, rfl, p, _, _, _, rfl, rfl, SqT.of (s03 _ _ hp), at_of (j := 2) rfl rfl, i, o, _, _, rfl, rfl, SqL.of hvi, SqL.of hvo, sz (by omega), fun c H4 n4 => ?_⟩
    have PA : Paired (DclV H4) (vi ++ vo) h.all := (pi.imp fun _ _ r => DclV.mono _ _ _ _ n4.same r).app (po.imp fun _ _ r => DclV.mono _ _ _ _ n4.same r)
    have s04 := s03.trans n4.same
    refine ⟨c, rfl, ⟨_, SqL.of n4.at⟩, fun D1 hD1 => lc_map (K := K) (a := c) (xs := vi ++ vo) (fun i ys H' => Same H4 H' ∧ ys = ((h.all.take i).map (·.1)).map V.str) (by rw [List.length_append]; omega) hD1
      (fun H' n => ⟨n.same, rfl⟩) (fun i ys H' _ _ I => SqL.of (I.1 _ _ n4.at)) ?_ ?_⟩
    · rintro i x ys H' hx hD' hl ⟨s', rfl⟩
      obtain ⟨d, hd, q, rfl, hq⟩ := PA.get hx
      refine ⟨rfl, _, rfl, q, _, _, _, rfl, rfl, SqT.of (s' _ _ hq), at_of (j := 0) rfl rfl, _, hD', hl, fun H5 n => ⟨?_, ?_⟩⟩
      · rw [n.eq]; exact same_own s' hD1
      · rw [take_more hd, List.map_append, List.map_append]
        rfl
    · rintro ys H5 hD5 _ ⟨s5, rfl⟩
      rw [PA.len, List.take_length] at hD5
      have s05 := s04.trans s5
      refine ⟨_, rfl, D1, rfl, ⟨_, SqL.of hD5⟩, fun D2 hD2 => dc_walk (walk_list (K := K) (a := D1) (xs := (h.all.map (·.1)).map V.str)) (fun i H2 => Same H5 H2 ∧ ∃ kvs : List (Key × V), H2 D2 = some (.dK kvs) ∧ kvs.map (·.1) = ((h.all.take i).map (·.1)).map Sum.inr) ⟨same_new (Same.refl _) hD2, [], upd_same, rfl⟩ (fun i H2 _ I => SqL.of (I.1 _ _ hD5)) ?_ ?_⟩
      · rintro H6 ⟨s6, kvs, hkv, ek⟩
        have lk : kvs.length = h.all.length := by
          have := congrArg List.length ek
          rw [List.length_map, List.length_map, List.length_map, List.length_map, List.length_map, List.take_length] at this
          exact this
        have s06 := s05.trans s6
        refine ⟨D2, kvs, rfl, hkv, _, rfl, D1, _, rfl, .inl (SqL.of (s6 _ _ hD5)), rfl, true, ?_, iteT ?_⟩
        · show V.bl (decide (V.int (kvs.length : Nat) = V.int (((h.all.map (·.1)).map V.str).length : Nat))) = V.bl true
          rw [lk, List.length_map, List.length_map, decide_eq_true rfl]
        · refine ⟨_, rfl, p, _, _, _, rfl, rfl, SqT.of (s06 _ _ hp), at_of (j := 4) rfl rfl, L, xs, 1, 40, rfl, s06 _ _ hL, ?_⟩
          rw [decide_eq_true (show (1 : Int) ≤ (xs.length : Nat) ∧ ((xs.length : Nat) : Int) ≤ 40 by omega)]
          exact k H6 s06
      · rintro i y H2 H2' hi ⟨s2, kvs, hk2, ek⟩ ⟨rfl, hy⟩
        obtain ⟨x, hx, rfl⟩ := map_ix hy
        obtain ⟨d, hd, rfl⟩ := map_ix hx
        refine ⟨rfl, _, rfl, kvs, .inr d.1, rfl, hk2, ?_, ?_⟩
        · have := congrArg List.length ek
          rw [List.length_map, List.length_map, List.length_map, List.length_take] at this
          have := gh.len
          exact sz' (by omega)
        · have fresh : valV kvs (Sum.inr d.1) = none := by
            cases e : valV kvs (Sum.inr d.1) with
            | none => rfl
            | some v =>
              have m1 := valV_in e
              rw [ek] at m1
              obtain ⟨x, hx, e1⟩ := List.mem_map.mp m1
              have e1 : x = d.1 := Sum.inr.inj e1
              rw [e1] at hx
              have n2 : ((h.all.take (i + 1)).map (·.1)).Nodup := gh.nd.sublist ((List.take_sublist _ _).map _)
              rw [take_more hd, List.map_append] at n2
              exact absurd rfl ((List.nodup_append.mp n2).2.2 d.1 hx d.1 (List.mem_singleton.mpr rfl))
          refine ⟨same_own s2 hD2, _, upd_same, ?_⟩
          rw [putK_new _ fresh, List.map_append, ek, take_more hd, List.map_append, List.map_append]
          rfl
theorem scFrozen : FnScope ["row", "part"] ["row"] (defScope sFrozen) := ⟨rfl, rfl, rfl, by decide +kernel, rfl, by decide +kernel, by decide +kernel⟩
theorem cal_frozen (T : Txt mg) (D : Dfn K mg "frozen" "frozen" sFrozen ["row"]) : Cal P w K mg base CX0 1 "frozen" ["row"] spFrozen := by
  obtain ⟨f, fd, F, m, b⟩ := D
  refine ⟨f, fd, m, F.kp, b, F.ok scFrozen (fun vs H Q E h => ?_) (fun cdv A outer s H vs Q E hr h => ?_)⟩
  · obtain ⟨_, _, rfl, _⟩ := h
    rfl
  · obtain ⟨p, r, rfl, ⟨vs, hp, pc, _⟩, k⟩ := h
    refine ⟨_, pss_cons (ps_if (pt_not (pt_val (pe_callB call_isi (by rfl) T.isinstance (by decide +kernel) (pa_cons (pv 0) (pa_cons (pe_bltn (v := .ty "tuple") (by rfl) T.tuple (by decide +kernel) rfl) pa_nil))))) (pss_one (ps_ret (pv 0))) pss_nil)
      (pss_one (ps_ret (pe_callTy call_tupleN (by rfl) T.tuple (by decide +kernel) (pa_cons (pe_lc (own := [("part", 1)]) (g := gName 1) (tt := tYes) rfl scFrozen.nd (pi_tup (pv 0))
              (blkOk_by (N := ["row", "part"]) (sc := defScope sFrozen) (by decide +kernel)) (fun _ _ _ _ _ => pg_name (i := 1) scFrozen.nd rfl (.inl rfl)) (fun _ _ _ _ _ => pts_nil)
              (fun _ _ _ _ _ => pe_ifExp (pt_val (pe_callB (r := rIsi K) call_isi (by rfl) T.isinstance (by decide +kernel) (pa_cons (pv 1) (pa_cons (pe_bltn (v := .ty "list") (by rfl) T.list (by decide +kernel) rfl) pa_nil))))
                (pe_callTy (r := rToN K) call_tupleN (by rfl) T.tuple (by decide +kernel) (pa_cons (pv 1) pa_nil)) (pv 1))) pa_nil)))), ?_⟩
    have lv : vs.length ≤ 4 := by
      rw [pc.len, Rw.cells_eq]
      have := (rest_len r).2
      show r.rest.length + 1 ≤ 4
      omega
    refine ⟨_, rfl, _, _, _, _, true, rfl, .ty "tuple", .base (.tup hp), kit_ty (by decide +kernel), true, rfl, iteF ?_⟩
    refine ⟨_, rfl, p, rfl, ⟨_, SqT.of hp⟩, fun D1 hD1 => lc_mapW (walk_tup (K := K) (a := p) (xs := vs)) (fun i ys H' => Same H H' ∧ (0 < i → ∃ more, ys = .str r.tag :: more)) (by omega) hD1 (fun H' n => ⟨n.same, fun z => absurd z (Nat.lt_irrefl _)⟩) (fun i ys H' _ _ I => SqT.of (I.1 _ _ hp)) ?_ ?_⟩
    · rintro i x ys H' H'' hi hD' lys ⟨s', I⟩ ⟨rfl, hx⟩
      obtain ⟨c, hc, hcv⟩ := pc.get hx
      obtain ⟨t, ty, kt⟩ := cell_isL (K := K) (CellV.mono _ _ _ _ s' hcv)
      have fin : ∀ (y : V) (H2 : Hp), Same H'' H2 → (i = 0 → y = .str r.tag) → LcNew D1 i (fun i ys H' => Same H H' ∧ (0 < i → ∃ more, ys = .str r.tag :: more)) y H2 := fun y H2 s2 hy => by
        refine ⟨ys, s2 _ _ hD', lys, fun H5 p5 => ⟨by rw [p5.eq]; exact same_own (s'.trans s2) hD1, fun _ => ?_⟩⟩
        by_cases c0 : i = 0
        · have : ys = [] := by
            rw [c0] at lys
            exact List.length_eq_zero_iff.mp (Nat.le_zero.mp lys)
          exact ⟨[], by rw [this, hy c0]; rfl⟩
        · obtain ⟨more, e⟩ := I (by omega)
          exact ⟨more ++ [y], by rw [e]; rfl⟩
      refine ⟨rfl, _, rfl, _, _, t, _, c.isL, rfl, .ty "list", ty, kt, _, rfl, ?_⟩
      refine ite2 (fun e => ?_) (fun e => ?_)
      · cases c with
        | s x => cases e
        | n i => cases e
        | l as =>
          obtain ⟨q, rfl, _, hq⟩ := hcv
          refine ⟨_, rfl, q, _, rfl, SqL.of (s' _ _ hq), fun l H2 n2 => fin _ H2 n2.same fun e0 => ?_⟩
          rw [e0, Rw.cells_eq] at hc
          cases hc
      · refine ⟨_, rfl, fin _ _ (Same.refl _) fun e0 => ?_⟩
        rw [e0, Rw.cells_eq] at hc
        have ec : Cell.s r.tag = c := Option.some.inj hc
        subst ec
        exact hcv
    · rintro ys H' hD' lys ⟨s', I⟩
      obtain ⟨more, rfl⟩ := I (by rw [pc.len, Rw.cells_eq]; exact Nat.succ_pos _)
      refine ⟨D1, _, rfl, SqL.of hD', fun l H2 n2 => ?_⟩
      exact k l more H2 (s'.trans n2.same) (s'.free n2.free) n2.at
end
end K12

namespace K12
open PySem PySem.Spec PyProof.Rows L2
abbrev sFnInit : Stmt := inClass (topS 33) 0
/-- a Function's attributes -/
def fnF (t i o k r l : V) : List (Str × V) := putF "row_list" l (putF "result_kind" r (putF "kind_of" k (putF "extras" o (putF "inputs" i (putF "title" t [])))))
theorem fnF_len (t i o k r l : V) : (fnF t i o k r l).length = 6 := rfl
theorem fnF_inputs (t i o k r l : V) : (fnF t i o k r l).lookup ("inputs" : Str) = some i := by
  unfold fnF
  rw [lookup_putF, if_neg (by decide +kernel), lookup_putF, if_neg (by decide +kernel), lookup_putF, if_neg (by decide +kernel), lookup_putF, if_neg (by decide +kernel), lookup_putF, if_pos rfl]
theorem fnF_kind (t i o k r l : V) : (fnF t i o k r l).lookup ("kind_of" : Str) = some k := by
  unfold fnF
  rw [lookup_putF, if_neg (by decide +kernel), lookup_putF, if_neg (by decide +kernel), lookup_putF, if_pos rfl]
theorem fnF_result (t i o k r l : V) : (fnF t i o k r l).lookup ("result_kind" : Str) = some r := by
  unfold fnF
  rw [lookup_putF, if_neg (by decide +kernel), lookup_putF, if_pos rfl]
theorem fnF_rows (t i o k r l : V) : (fnF t i o k r l).lookup ("row_list" : Str) = some l := by
  unfold fnF
  rw [lookup_putF, if_pos rfl]
/-- a row's frozen form: its first word is told -/
def FrzV (H : Hp) (v : V) (r : Rw) : Prop := ∃ q more, v = .ref q ∧ H q = some (.tup (.str r.tag :: more))
theorem FrzV.mono : Mono FrzV := fun _ _ _ _ s ⟨q, more, e, h⟩ => ⟨q, more, e, s _ _ h⟩
/-- a Function -/
def FunAt (CF : Addr) (H : Hp) (x : Addr) (f : Fn) : Prop := ∃ dx i o k l, H x = some (.ins CF dx (fnF (.str f.1.name) (.ref i) (.ref o) (.ref k) (.str (kd f.1.res)) (.ref l))) ∧ DclsAt H i f.1.ins ∧ H k = some (.dK (mergeK [] (kvsOf f.1.all))) ∧ LsAt FrzV H l f.2
theorem FunAt.mono {CF : Addr} {H H' : Hp} {x : Addr} {f : Fn} (s : Same H H') : FunAt CF H x f → FunAt CF H' x f := fun ⟨dx, i, o, k, l, h1, h2, h3, h4⟩ => ⟨dx, i, o, k, l, s _ _ h1, h2.mono s, s _ _ h3, LsAt.mono FrzV.mono s h4⟩
structure ClsFn (K : PySem.W.Frag) (CF : Addr) : Prop where
  cl : Cls K CF
  n1 : NoAttr K CF "title"
  n2 : NoAttr K CF "inputs"
  n3 : NoAttr K CF "extras"
  n4 : NoAttr K CF "kind_of"
  n5 : NoAttr K CF "result_kind"
  n6 : NoAttr K CF "row_list"
def spFnInit (CF : Addr) : Sp := fun vs H Q _ => ∃ (x dx i o L : Addr) (f : Fn), vs = [.ref x, .str f.1.name, .ref i, .ref o, .str (kd f.1.res), .ref L] ∧ H x = some (.ins CF dx []) ∧ DclsAt (hid [x] H) i f.1.ins ∧ DclsAt (hid [x] H) o f.1.outs ∧ f.1.all.length ≤ 100 ∧ RwsAt (hid [x] H) L f.2 ∧ f.2.length ≤ 1000 ∧
  ∀ H', Sm [x] H H' → FunAt CF H' x f → (∀ dx t i o k r l, H' x = some (.ins CF dx (fnF t i o (.ref k) r l)) → H k = none) → Q .non H'
section
variable {P : Program} {w : World} {K : PySem.W.Frag} {mg : Str → Option Value} {base : Heap}
theorem scFnInit : FnScope ["self", "title", "inputs", "extras", "result_kind", "rows", "row"] ["self", "title", "inputs", "extras", "result_kind", "rows"] (defScope sFnInit) := ⟨rfl, rfl, rfl, by decide +kernel, rfl, by decide +kernel, by decide +kernel⟩
theorem ok_fnInit {f CF : Addr} {fd : FuncData} (T : Txt mg) (F : Fun K "__init__" "Function.__init__" sFnInit f fd) (TC : ClsFn K CF) (CZ : Cal P w K mg base CX0 1 "frozen" ["row"] spFrozen) :
    FnOk P w K mg base CX0 2 f fd ["self", "title", "inputs", "extras", "result_kind", "rows"] (spFnInit CF) := by
  obtain ⟨f1, fd1, m1, kp1, b1, G1⟩ := CZ
  refine F.ok scFnInit (fun vs H Q E h => ?_) (fun cdv A outer s H vs Q E hr h => ?_)
  · obtain ⟨_, _, _, _, _, _, rfl, _⟩ := h
    rfl
  · obtain ⟨x, dx, i, o, L, f, rfl, hx, hi, ho, l100, hL, l1000, k⟩ := h
    refine ⟨_, pss_cons (ps_fld (pv 0) (pv 1) rfl) (pss_cons (ps_fld (pv 0) (pe_callTy call_listN (by rfl) T.list (by decide +kernel) (pa_cons (pv 2) pa_nil)) rfl)
      (pss_cons (ps_fld (pv 0) (pe_callTy call_listN (by rfl) T.list (by decide +kernel) (pa_cons (pv 3) pa_nil)) rfl)
      (pss_cons (ps_fld (pv 0) (pe_callTy (call_dictN rfl) (by rfl) T.dict (by decide +kernel) (pa_cons (pe_op op_catN (pv 2) (pv 3)) pa_nil)) rfl)
      (pss_cons (ps_fld (pv 0) (pv 4) rfl)
      (pss_one (ps_fld (pv 0) (pe_lc (own := [("row", 6)]) (g := gName 6) (tt := tYes) rfl scFnInit.nd (pi_list (pv 5))
              (blkOk_by (N := ["self", "title", "inputs", "extras", "result_kind", "rows", "row"]) (sc := defScope sFnInit) (by decide +kernel)) (fun _ _ _ _ _ => pg_name (i := 6) scFnInit.nd rfl (.inl rfl)) (fun _ _ _ _ _ => pts_nil)
              (fun _ _ _ _ _ => pe_call G1 hr (by rfl) m1 kp1 b1 .nil pass0 (pa_cons (pv 6) pa_nil))) rfl)))))), ?_⟩
    have put : ∀ {H1 H2 : Hp} {o' : HO}, H2 = upd H1 x o' → Same (hid [x] H1) (hid [x] H2) := fun {H1 H2 o'} e => by rw [e]; exact (Sm.refl _ _).putIn List.mem_cons_self
    -- title
    refine ⟨_, rfl, _, rfl, x, CF, dx, [], rfl, hx, TC.cl, TC.n1, (by decide), ?_⟩
    obtain ⟨H1, e1⟩ : ∃ H1, H1 = upd H x (.ins CF dx (putF "title" (.str f.1.name) [])) := ⟨_, rfl⟩
    rw [← e1]
    have h1 : H1 x = some (.ins CF dx (putF "title" (.str f.1.name) [])) := by rw [e1]; exact upd_same
    have x1 := put e1
    obtain ⟨vi, hvi, pi⟩ := hi.mono x1
    obtain ⟨vo, hvo, po⟩ := ho.mono x1
    have lio : vi.length + vo.length ≤ 100 := by
      rw [pi.len, po.len, ← List.length_append]
      exact l100
    -- inputs
    refine ⟨_, rfl, i, vi, rfl, .inl (SqL.of (hid_some hvi).1), fun i2 H2 n2 => ?_⟩
    refine ⟨_, rfl, x, CF, dx, _, rfl, n2.same _ _ h1, TC.cl, TC.n2, (by show 1 < 1000; decide), ?_⟩
    obtain ⟨H3, e3⟩ : ∃ H3, H3 = upd H2 x (.ins CF dx (putF "inputs" (.ref i2) (putF "title" (.str f.1.name) []))) := ⟨_, rfl⟩
    rw [← e3]
    have h3 : H3 x = some (.ins CF dx (putF "inputs" (.ref i2) (putF "title" (.str f.1.name) []))) := by rw [e3]; exact upd_same
    have x13 : Same (hid [x] H1) (hid [x] H3) := n2.hid.trans (put e3)
    have ni2 : i2 ∉ [x] := by simpa using (ne_of_none h1 n2.free).symm
    have hi2 : hid [x] H3 i2 = some (.lst vi) := put e3 _ _ (hid_get n2.at ni2)
    have hvi3 := x13 _ _ hvi
    have hvo3 := x13 _ _ hvo
    -- extras
    refine ⟨_, rfl, o, vo, rfl, .inl (SqL.of (hid_some hvo3).1), fun o2 H4 n4 => ?_⟩
    refine ⟨_, rfl, x, CF, dx, _, rfl, n4.same _ _ h3, TC.cl, TC.n3, (by show 2 < 1000; decide), ?_⟩
    obtain ⟨H5, e5⟩ : ∃ H5, H5 = upd H4 x (.ins CF dx (putF "extras" (.ref o2) (putF "inputs" (.ref i2) (putF "title" (.str f.1.name) [])))) := ⟨_, rfl⟩
    rw [← e5]
    have h5 : H5 x = some (.ins CF dx (putF "extras" (.ref o2) (putF "inputs" (.ref i2) (putF "title" (.str f.1.name) [])))) := by rw [e5]; exact upd_same
    have x35 : Same (hid [x] H3) (hid [x] H5) := n4.hid.trans (put e5)
    have hvi5 := x35 _ _ hvi3
    have hvo5 := x35 _ _ hvo3
    -- kind_of
    refine ⟨_, rfl, _, rfl, i, o, vi, vo, rfl, rfl, SqL.of (hid_some hvi5).1, SqL.of (hid_some hvo5).1, sz (by omega), fun c H6 n6 => ?_⟩
    have x15 := x13.trans x35
    have PA : Paired (DclV H6) (vi ++ vo) f.1.all := (pi.imp fun _ _ z => DclV.mono _ _ _ _ ((x15.trans (hid_sub _ _)).trans n6.same) z).app (po.imp fun _ _ z => DclV.mono _ _ _ _ ((x15.trans (hid_sub _ _)).trans n6.same) z)
    obtain ⟨ps, eps, pps⟩ := dcls_ps (K := K) PA
    refine ⟨c, ps, kvsOf f.1.all, rfl, SqL.of (by rw [← eps]; exact n6.at), pps, fun kk H7 n7 => ?_⟩
    refine ⟨_, rfl, x, CF, dx, _, rfl, n7.same _ _ (n6.same _ _ h5), TC.cl, TC.n4, (by show 3 < 1000; decide), ?_⟩
    obtain ⟨H8, e8⟩ : ∃ H8, H8 = upd H7 x (.ins CF dx (putF "kind_of" (.ref kk) (putF "extras" (.ref o2) (putF "inputs" (.ref i2) (putF "title" (.str f.1.name) []))))) := ⟨_, rfl⟩
    rw [← e8]
    have h8 : H8 x = some (.ins CF dx (putF "kind_of" (.ref kk) (putF "extras" (.ref o2) (putF "inputs" (.ref i2) (putF "title" (.str f.1.name) []))))) := by rw [e8]; exact upd_same
    have x58 : Same (hid [x] H5) (hid [x] H8) := (n6.hid.trans n7.hid).trans (put e8)
    have nkk : kk ∉ [x] := by simpa using (ne_of_none (n6.same _ _ h5) n7.free).symm
    have hkk : hid [x] H8 kk = some (.dK (mergeK [] (kvsOf f.1.all))) := put e8 _ _ (hid_get n7.at nkk)
    -- result_kind
    refine ⟨_, rfl, _, rfl, x, CF, dx, _, rfl, h8, TC.cl, TC.n5, (by show 4 < 1000; decide), ?_⟩
    obtain ⟨H9, e9⟩ : ∃ H9, H9 = upd H8 x (.ins CF dx (putF "result_kind" (.str (kd f.1.res)) (putF "kind_of" (.ref kk) (putF "extras" (.ref o2) (putF "inputs" (.ref i2) (putF "title" (.str f.1.name) [])))))) := ⟨_, rfl⟩
    rw [← e9]
    have h9 : H9 x = some (.ins CF dx (putF "result_kind" (.str (kd f.1.res)) (putF "kind_of" (.ref kk) (putF "extras" (.ref o2) (putF "inputs" (.ref i2) (putF "title" (.str f.1.name) [])))))) := by rw [e9]; exact upd_same
    have x89 := put e9
    have x09 : Same (hid [x] H) (hid [x] H9) := (x1.trans x15).trans (x58.trans x89)
    -- row_list
    obtain ⟨vL, hvL, pL⟩ := hL.mono x09
    refine ⟨_, rfl, L, rfl, ⟨_, SqL.of (hid_some hvL).1⟩, fun D hD => lc_map (K := K) (a := L) (xs := vL) (fun i ys H' => Same (hid [D] H9) (hid [D] H') ∧ Paired (FrzV (hid [D, x] H')) ys (f.2.take i)) (by rw [pL.len]; omega) hD
      (fun H' n => ⟨n.hid, .nil⟩) (fun i ys H' _ _ I => ?_) ?_ ?_⟩
    · have nLD : L ≠ D := ne_of_none (hid_some hvL).1 hD
      exact SqL.of (hid_some (I.1 _ _ (hid_get (hid_some hvL).1 (by simpa using nLD)))).1
    · rintro j y ys H' hj hD' lys ⟨s', pf⟩
      obtain ⟨r, hr', p, rfl, hp⟩ := pL.get hj
      have up : Same (hid [x] H9) H' := fun b u e => (hid_some (s' _ _ (hid_get (hid_some e).1 (by simpa using ne_of_none (hid_some e).1 hD)))).1
      refine ⟨rfl, _, rfl, p, r, rfl, hp.mono up, fun q more H2 s2 nq hq => ⟨ys, s2 _ _ hD', lys, fun H5 p5 => ?_⟩⟩
      have t : Same (hid [D, x] H2) (hid [D, x] H5) := p5.hid List.mem_cons_self
      have nxD : x ≠ D := ne_of_none h9 hD
      have hx' := (hid_some (s' _ _ (hid_get h9 (by simpa using nxD)))).1
      have nqD : q ≠ D := fun e => by rw [e, hD'] at nq; cases nq
      have nqx : q ≠ x := fun e => by rw [e, hx'] at nq; cases nq
      refine ⟨(s'.trans (Sm.of s2)).trans (p5.hid List.mem_cons_self), ?_⟩
      rw [take_more hr']
      exact (pf.imp fun _ _ z => FrzV.mono _ _ _ _ ((Sm.of s2 : Sm [D, x] H' H2).trans t) z).app (.one ⟨q, more, rfl, t _ _ (hid_get hq (by simpa using ⟨nqD, nqx⟩))⟩)
    · rintro ys Ha hDa lys ⟨sa, pf⟩
      rw [pL.len, List.take_length] at pf
      have nxD : x ≠ D := ne_of_none h9 hD
      have hxa := (hid_some (sa _ _ (hid_get h9 (by simpa using nxD)))).1
      refine ⟨_, rfl, x, CF, dx, _, rfl, hxa, TC.cl, TC.n6, (by show 5 < 1000; decide), ?_⟩
      obtain ⟨Hb, eb⟩ : ∃ Hb, Hb = upd Ha x (.ins CF dx (fnF (.str f.1.name) (.ref i2) (.ref o2) (.ref kk) (.str (kd f.1.res)) (.ref D))) := ⟨_, rfl⟩
      show Q .non (upd Ha x (.ins CF dx (fnF (.str f.1.name) (.ref i2) (.ref o2) (.ref kk) (.str (kd f.1.res)) (.ref D))))
      rw [← eb]
      have xab := put eb
      have x9b : Same (hid [x] H9) (hid [x] Hb) := fun b u e => by
        have h1 := sa _ _ (hid_get (hid_some e).1 (by simpa using ne_of_none (hid_some e).1 hD))
        exact xab _ _ (hid_get (hid_some h1).1 (hid_some e).2)
      have f9 : Same (hid [x] H9) Hb := x9b.trans (hid_sub _ _)
      refine k Hb (x09.trans x9b) ⟨dx, i2, o2, kk, D, by rw [eb]; exact upd_same, ⟨vi, ?_, pi.imp fun _ _ z => DclV.mono _ _ _ _ ((x15.trans (x58.trans x89)).trans f9) z⟩, (x89.trans f9) _ _ hkk, ⟨ys, ?_, pf.imp fun _ _ z => FrzV.mono _ _ _ _ (fun b u e => ?_) z⟩⟩ fun dx' t' i' o' k' r' l' hx' => ?_
      · exact (((x35.trans x58).trans x89).trans f9) _ _ hi2
      · rw [eb, upd_ne nxD.symm]
        exact hDa
      · have h2 : b ≠ x := fun z => (hid_some e).2 (by rw [z]; simp)
        rw [eb, upd_ne h2]
        exact (hid_some e).1
      · rw [eb, upd_same] at hx'
        have q := congrArg (fun o => match o with | some (HO.ins _ _ fs) => fs.lookup ("kind_of" : Str) | _ => none) hx'
        have q : (fnF (.str f.1.name) (.ref i2) (.ref o2) (.ref kk) (.str (kd f.1.res)) (.ref D)).lookup ("kind_of" : Str) = (fnF t' i' o' (.ref k') r' l').lookup ("kind_of" : Str) := q
        rw [fnF_kind, fnF_kind] at q
        have q : kk = k' := V.ref.inj (Option.some.inj q)
        rw [← q]
        cases e : H kk with
        | none => rfl
        | some u =>
          have z := (x1.trans x15) _ _ (hid_get e nkk)
          have z2 := n6.same _ _ (hid_some z).1
          rw [n7.free] at z2
          cases z2
end
end K12

namespace K12
open PySem PySem.Spec PyProof.Rows L2
/-- a kind or None -/
def kV' : Option Bool → V
  | none => .non
  | some b => .str (kd b)
theorem kV_inj {a b : Option Bool} : kV' a = kV' b ↔ a = b := by
  cases a with
  | none => cases b with
    | none => exact ⟨fun _ => rfl, fun _ => rfl⟩
    | some c => exact ⟨fun h => (by cases h), fun h => (by cases h)⟩
  | some c => cases b with
    | none => exact ⟨fun h => (by cases h), fun h => (by cases h)⟩
    | some d => exact ⟨fun h => by rw [kd_inj.mp (V.str.inj h)], fun h => by rw [h]⟩
def kD : Option Bool → PyData
  | none => .none
  | some b => .str (kd b)
theorem kd_dec {c d : Bool} : decide (kd c = kd d) = decide (c = d) := by
  by_cases e : c = d
  · rw [e]; simp
  · rw [decide_eq_false e, decide_eq_false fun z => e (kd_inj.mp z)]
theorem kD_eqv (a b : Option Bool) : PyData.eqv (kD a) (kD b) = decide (a = b) := by
  cases a with
  | none => cases b with
    | none => rfl
    | some c => rfl
  | some c => cases b with
    | none => rfl
    | some d =>
      show (kd c == kd d) = decide (some c = some d)
      cases c <;> cases d <;> decide +kernel
theorem kDs_eqv : ∀ xs ys : List (Option Bool), PyData.eqvAll (xs.map kD) (ys.map kD) = decide (xs = ys)
  | [], [] => rfl
  | [], _ :: _ => rfl
  | _ :: _, [] => rfl
  | x :: xs, y :: ys => by
    show (PyData.eqv (kD x) (kD y) && PyData.eqvAll (xs.map kD) (ys.map kD)) = _
    rw [kD_eqv, kDs_eqv xs ys]
    by_cases e : x = y <;> by_cases f : xs = ys <;> simp [e, f]
theorem kDs_shaped (xs : List (Option Bool)) : SeqAt.shaped (.list (xs.map kD)) = true := by
  have h1 : ∀ xs : List (Option Bool), PyData.canLayAll0 (xs.map kD) = true := fun xs => by
    induction xs with
    | nil => rfl
    | cons x r ih =>
      show (PyData.canLay0 (kD x) && PyData.canLayAll0 (r.map kD)) = true
      rw [ih]
      cases x with
      | none => rfl
      | some b => cases b <;> decide +kernel
  have h2 : ∀ xs : List (Option Bool), PyData.depthAll (xs.map kD) = 0 := fun xs => by
    induction xs with
    | nil => rfl
    | cons x r ih =>
      show max (PyData.depth (kD x)) (PyData.depthAll (r.map kD)) = 0
      rw [ih]
      cases x with
      | none => rfl
      | some b => rfl
  show (PyData.canLayAll0 (xs.map kD) && decide (PyData.depthAll (xs.map kD) + 1 ≤ 64)) = true
  rw [h1, h2]
  rfl
theorem kDs_dp {K : PySem.W.Frag} {H : Hp} : ∀ xs : List (Option Bool), DpAll K H (xs.map kV') (xs.map kD)
  | [] => .nil
  | x :: r => by
    refine .cons ?_ (kDs_dp r)
    cases x with
    | none => exact .non
    | some b => exact .str _
theorem cells1 {H : Hp} {vs : List V} {a : Cell} (p : Paired (CellV H) vs [a]) : ∃ v, vs = [v] ∧ CellV H v a := by
  cases p with
  | cons r t => cases t; exact ⟨_, rfl, r⟩
theorem cells2 {H : Hp} {vs : List V} {a b : Cell} (p : Paired (CellV H) vs [a, b]) : ∃ v u, vs = [v, u] ∧ CellV H v a ∧ CellV H u b := by
  cases p with
  | cons r t => obtain ⟨u, rfl, h⟩ := cells1 t; exact ⟨_, u, rfl, r, h⟩
theorem cells3 {H : Hp} {vs : List V} {a b c : Cell} (p : Paired (CellV H) vs [a, b, c]) : ∃ v u x, vs = [v, u, x] ∧ CellV H v a ∧ CellV H u b ∧ CellV H x c := by
  cases p with
  | cons r t => obtain ⟨u, x, rfl, h, h2⟩ := cells2 t; exact ⟨_, u, x, rfl, r, h, h2⟩
theorem cells4 {H : Hp} {vs : List V} {a b c d : Cell} (p : Paired (CellV H) vs [a, b, c, d]) : ∃ v u x y, vs = [v, u, x, y] ∧ CellV H v a ∧ CellV H u b ∧ CellV H x c ∧ CellV H y d := by
  cases p with
  | cons r t => obtain ⟨u, x, y, rfl, h, h2, h3⟩ := cells3 t; exact ⟨_, u, x, y, rfl, r, h, h2, h3⟩
/-- a Source's attributes -/
def srcF (c f k : V) : List (Str × V) := putF "kept_functions" k (putF "field_kinds" f (putF "class_rows" c []))
theorem srcF_c (c f k : V) : (srcF c f k).lookup ("class_rows" : Str) = some c := by
  unfold srcF
  rw [lookup_putF, if_neg (by decide +kernel), lookup_putF, if_neg (by decide +kernel), lookup_putF, if_pos rfl]
theorem srcF_f (c f k : V) : (srcF c f k).lookup ("field_kinds" : Str) = some f := by
  unfold srcF
  rw [lookup_putF, if_neg (by decide +kernel), lookup_putF, if_pos rfl]
theorem srcF_k (c f k : V) : (srcF c f k).lookup ("kept_functions" : Str) = some k := by
  unfold srcF
  rw [lookup_putF, if_pos rfl]
theorem srcF_no {c f k : V} {m : Str} (h1 : ¬ m = "kept_functions") (h2 : ¬ m = "field_kinds") (h3 : ¬ m = "class_rows") : (srcF c f k).lookup m = none := by
  unfold srcF
  rw [lookup_putF, if_neg h1, lookup_putF, if_neg h2, lookup_putF, if_neg h3]
  rfl
structure ClsSrc (K : PySem.W.Frag) (CS : Addr) : Prop where
  cl : Cls K CS
  n1 : NoAttr K CS "class_rows"
  n2 : NoAttr K CS "field_kinds"
  n3 : NoAttr K CS "kept_functions"
/-- the functions kept under their names -/
def KeptV (CF : Addr) (H : Hp) (kv : Key × V) (f : Fn) : Prop := kv.1 = Sum.inr f.1.name ∧ ∃ x, kv.2 = .ref x ∧ FunAt CF H x f
theorem KeptV.mono {CF : Addr} {H H' : Hp} {kv : Key × V} {f : Fn} (s : Same H H') : KeptV CF H kv f → KeptV CF H' kv f := fun ⟨e, x, ex, h⟩ => ⟨e, x, ex, h.mono s⟩
/-- a Source that holds these classes and functions -/
def SrcOk (CS CF : Addr) (H : Hp) (s : Addr) (cs : List Cl) (fs : List Fn) : Prop := ∃ (dx cr fk kf : Addr) (crk fkk kfk : List (Key × V)) (fks : List Str), H s = some (.ins CS dx (srcF (.ref cr) (.ref fk) (.ref kf))) ∧ H cr = some (.dK crk) ∧ crk.map (·.1) = (cs.map (·.1)).map (Sum.inr : Str → Key) ∧ crk.length ≤ 100 ∧
  H fk = some (.dK fkk) ∧ fkk.map (·.1) = fks.map (Sum.inr : Str → Key) ∧ fkk.length ≤ 100 ∧ (∀ f, valV fkk (Sum.inr f) = (look (flds cs) f).map fun b => V.str (kd b)) ∧ Rd H kf (.dK kfk) ∧ Paired (KeptV CF H) kfk fs ∧ fs.length ≤ 100
theorem Rd.mono {H H' : Hp} {a : Addr} {o : HO} (s : Same H H') (h : Rd H a o) : Rd H' a o := by
  rcases h with h | ⟨u, h⟩
  · exact .inl (s _ _ h)
  · exact .inr ⟨u, s _ _ h⟩
theorem SrcOk.mono {CS CF : Addr} {H H' : Hp} {s : Addr} {cs : List Cl} {fs : List Fn} (S : Same H H') : SrcOk CS CF H s cs fs → SrcOk CS CF H' s cs fs := fun ⟨dx, cr, fk, kf, crk, fkk, kfk, fks, h1, h2, h3, h3', h4, h5, h6, h7, h8, h9, h10⟩ =>
  ⟨dx, cr, fk, kf, crk, fkk, kfk, fks, S _ _ h1, S _ _ h2, h3, h3', S _ _ h4, h5, h6, h7, Rd.mono S h8, h9.imp fun _ _ z => z.mono S, h10⟩
/-- tuple(d), d tracked or walked -/
def rTupD' : List V → Hp → VK → Prop := fun xs H Q => ∃ p kvs, xs = [.ref p] ∧ Rd H p (.dK kvs) ∧ ∀ q H', New H q (.tup (kvs.map fun kv => kV kv.1)) H' → Q (.ref q) H'
theorem call_tupD' {X : Cx} (hc : X.calm = true) : CallR X (.type "tuple") rTupD' := by
  intro pins s σ H xs us Q I r ⟨p, kvs, e, hk, q⟩
  subst e
  obtain ⟨u, eu, rx⟩ := vals1 r
  subst eu
  obtain rfl : u = Value.ref p := rx
  obtain ⟨z, lo, vs, rk, hd⟩ := dk_rd I.hok hk
  obtain ⟨ep, hat⟩ := hd.dictAt
  have hl : kvs.length = vs.length := Paired.length rk
  refine call_tupd (PySem.W.kdl_dict (knd := mixKind X.prog X.w) (kvs := vs) (ep := ep) lo) (I.ok.hd hc) hat (by rw [← hl]; exact z) fun h' tk acc hkeep hacc => ?_
  have J : Inv X pins σ H { s with heap := h', toks := tk } := I.kept (t' := tk) hkeep
  refine ⟨.ref h'.objs.size, upd H h'.objs.size (.tup (kvs.map fun kv => kV kv.1)), J.laid (t' := tk) (fun b o e => Heap.get?_push_of_some _ e) (Nat.le_refl _) ?_, rfl, q _ _ ⟨J.hok.fresh (Nat.le_refl _), rfl⟩⟩
  refine (show ObjOk X.prog X.w _ _ _ (.tup (kvs.map fun kv => kV kv.1)) from ⟨by rw [List.length_map]; exact z, acc.toList, keys_vals rk hacc, ?_⟩)
  rw [Array.toArray_toList]
  exact IsTup.new _ _
/-- tuple(d), d written in the text -/
def rTupKN (K : PySem.W.Frag) (w : World) (d : Addr) : List V → Hp → VK → Prop := fun xs H Q => ∃ ks, xs = [.ref d] ∧ KTup K w d ks ∧ ks.length ≤ 1000 ∧ ∀ q H', New H q (.tup (ks.map V.str)) H' → Q (.ref q) H'
theorem call_tupKN {X : Cx} {d : Addr} (hc : X.calm = true) : CallR X (.type "tuple") (rTupKN X.K X.w d) := by
  intro pins s σ H xs us Q I r ⟨ks, e, h1, h2, q⟩
  exact call_tupK hc pins s σ H xs us Q I r ⟨ks, e, h1, h2, fun p hp => q p _ ⟨hp, rfl⟩⟩
end K12

namespace K12
open PySem PySem.Spec PyProof.Rows L2
abbrev sKindIn : Stmt := inClass (topS 36) 4
abbrev sNumRow : Stmt := inClass (topS 36) 5
abbrev sObjRow : Stmt := inClass (topS 36) 6
abbrev sCallRow : Stmt := inClass (topS 36) 7
abbrev sPlainRow : Stmt := inClass (topS 36) 8
abbrev sIsRow : Stmt := inClass (topS 36) 3
def spKindIn (CF : Addr) : Sp := fun vs H Q _ => ∃ (s : V) (x : Addr) (f : Fn) (y : Str), vs = [s, .ref x, .str y] ∧ FunAt CF H x f ∧ GoodHd f.1 ∧ Q (kV' (f.1.kind y)) H
def spRow (CS CF : Addr) (ok : Rw → Prop) : Sp := fun vs H Q _ => ∃ (s x p : Addr) (cs : List Cl) (fs : List Fn) (f : Fn) (r : Rw), vs = [.ref s, .ref x, .ref p] ∧ SrcOk CS CF H s cs fs ∧ FunAt CF H x f ∧ GoodHd f.1 ∧ (∀ g ∈ fs, GoodHd g.1) ∧ RwAt H p r ∧ f.2.length ≤ 1000 ∧ ok r ∧
  ∀ H', Same H H' → Q (.bl (isRow cs (fs.map (·.1)) f.1 f.2.length r)) H'
def isNumR : Rw → Prop := fun r => (∃ x i, r = .number x i) ∨ (∃ x i, r = .iff x i) ∨ ∃ i, r = .jump i
def isObjR : Rw → Prop := fun r => (∃ x c, r = .new x c) ∨ (∃ x y f, r = .get x y f) ∨ ∃ x f y, r = .put x f y
def isCallR : Rw → Prop := fun r => ∃ x g as, r = .call x g as
def isPlainR : Rw → Prop := fun r => (∃ x, r = .nil x) ∨ (∃ x y, r = .copy x y) ∨ (∃ op x y z, r = .arith op x y z) ∨ (∃ x y z, r = .same x y z) ∨ (∃ x, r = .see x) ∨ ∃ x, r = .ret x
theorem kV_dec (o : Option Bool) (b : Bool) : decide (kV' o = V.str (kd b)) = decide (o = some b) := by
  have t := @kV_inj o (some b)
  by_cases e : o = some b
  · rw [e]; simp [kV']
  · rw [decide_eq_false e]
    exact decide_eq_false fun z => e (t.mp z)
theorem kV_dec2 (o u : Option Bool) : decide (kV' o = kV' u) = decide (o = u) := by
  by_cases e : o = u
  · rw [e]; simp
  · rw [decide_eq_false e, decide_eq_false fun z => e (kV_inj.mp z)]
theorem scal_k (o : Option Bool) (y : Str) : scal (kV' o) (.str y) = true := by cases o <;> rfl
theorem scal_k2 (o u : Option Bool) : scal (kV' o) (kV' u) = true := by cases o <;> cases u <;> rfl
section
variable {P : Program} {w : World} {K : PySem.W.Frag} {mg : Str → Option Value} {base : Heap}
theorem scKindIn : FnScope ["self", "function", "thing"] ["self", "function", "thing"] (defScope sKindIn) := ⟨rfl, rfl, rfl, by decide +kernel, rfl, by decide +kernel, by decide +kernel⟩
theorem ok_kindIn {f CF : Addr} {fd : FuncData} (T : Txt mg) (F : Fun K "kind_in" "Source.kind_in" sKindIn f fd) (TC : ClsFn K CF) : FnOk P w K mg base CX0 1 f fd ["self", "function", "thing"] (spKindIn CF) := by
  refine F.ok scKindIn (fun vs H Q E h => ?_) (fun cdv A outer s H vs Q E hr h => ?_)
  · obtain ⟨_, _, _, _, rfl, _⟩ := h
    rfl
  · obtain ⟨s, x, f, y, rfl, ⟨dx, i, o, k', l, hx, hi, hk, hl⟩, gh, k⟩ := h
    have hu := hu_of hr
    refine ⟨_, pss_one (ps_ret (pe_ifExp (pt_val (pe_callB call_isi (by rfl) T.isinstance (by decide +kernel) (pa_cons (pv 2) (pa_cons (pe_bltn (v := .ty "str") (by rfl) T.str (by decide +kernel) rfl) pa_nil))))
      (pe_dget1 hu (pe_fld (pv 1) rfl) (pv 2) ⟨rfl, rfl, rfl, rfl⟩) pe_non)), ?_⟩
    refine ⟨_, rfl, _, _, _, _, true, rfl, .ty "str", .base (.str y), kit_ty (by decide +kernel), true, rfl, iteT ?_⟩
    refine ⟨_, rfl, x, CF, dx, _, _, rfl, hx, TC.cl, TC.n4, fnF_kind _ _ _ _ _ _, k', rfl, .inl ⟨_, .inl hk⟩, _, rfl, _, DGet.k (k := Sum.inr y) hk, ?_⟩
    rw [valV_kinds gh.nd]
    show Q (((f.1.kind y).map fun b => V.str (kd b)).getD .non) H
    have e : ((f.1.kind y).map fun b => V.str (kd b)).getD .non = kV' (f.1.kind y) := by cases f.1.kind y <;> rfl
    rw [e]
    exact k
theorem scNumRow : FnScope ["self", "function", "row"] ["self", "function", "row"] (defScope sNumRow) := ⟨rfl, rfl, rfl, by decide +kernel, rfl, by decide +kernel, by decide +kernel⟩
theorem ok_numRow {f CS CF fK : Addr} {fd fdK : FuncData} (T : Txt mg) (TW : TxtW K mg) (TS : TxtS K mg) (TF : ClsFn K CF) (TC : ClsSrc K CS) (F : Fun K "is_number_row" "Source.is_number_row" sNumRow f fd)
    (CB : Cal P w K mg base CX0 2 "is_between" ["thing", "least", "most"] spIsBetween) (GK : FnOk P w K mg base CX0 1 fK fdK ["self", "function", "thing"] (spKindIn CF)) (mK : Meth K CS "kind_in" fK) (bK : Binds K fdK ["self", "function", "thing"] []) :
    FnOk P w K mg base CX0 3 f fd ["self", "function", "row"] (spRow CS CF isNumR) := by
  obtain ⟨f1, fd1, m1, kp1, b1, G1⟩ := CB
  obtain ⟨tn, gn⟩ := TW.number
  obtain ⟨tg, gg⟩ := TS.greatest
  refine F.ok scNumRow (fun vs H Q E h => ?_) (fun cdv A outer s H vs Q E hr h => ?_)
  · obtain ⟨_, _, _, _, _, _, _, rfl, _⟩ := h
    rfl
  · obtain ⟨s, x, p, cs, fs, f, r, rfl, ⟨dx, cr, fk, kf, crk, fkk, kfk, fks, hs, _⟩, hf, gh, _, ⟨vs, hp, pc, _⟩, l1000, ok, k⟩ := h
    have hr1 : Room 1 _ := hr.mono (by decide)
    obtain ⟨dx', i', o', k', l', hx, _, _, vrl, hrl, prl⟩ := id hf
    have hno : (srcF (.ref cr) (.ref fk) (.ref kf)).lookup ("kind_in" : Str) = none := srcF_no (by decide +kernel) (by decide +kernel) (by decide +kernel)
    refine ⟨_, pss_cons (ps_if (pt_cmpR op_eq (pe_ix ix_tup (pv 2) pe_int (fun _ _ => rfl)) pe_str (nomark _)) (pss_one (ps_ret (pe_and (pe_cmpR op_eq (pe_meth (pv 0) TC.cl mK GK hr1 bK .nil pass0 (pa_cons (pv 1) (pa_cons (pe_ix ix_tup (pv 2) pe_int (fun _ _ => rfl)) pa_nil))) (pe_glob (v := .str "number") (by rfl) gn ⟨_, rfl⟩) (nomark _))
          (pe_one (pe_call G1 hr (by rfl) m1 kp1 b1 .nil pass0 (pa_cons (pe_ix ix_tup (pv 2) pe_int (fun _ _ => rfl)) (pa_cons (pe_un un_neg (pe_glob (v := .int 1000000000) (by rfl) gg ⟨_, rfl⟩)) (pa_cons (pe_glob (v := .int 1000000000) (by rfl) gg ⟨_, rfl⟩) pa_nil)))))))) pss_nil)
      (pss_cons (ps_if (PW.pt (pw_and (pt_cmpR op_eq (pe_ix ix_tup (pv 2) pe_int (fun _ _ => rfl)) pe_str (nomark _)) (pw_and1 (pt_cmpR op_ne (pe_meth (pv 0) TC.cl mK GK hr1 bK .nil pass0 (pa_cons (pv 1) (pa_cons (pe_ix ix_tup (pv 2) pe_int (fun _ _ => rfl)) pa_nil))) (pe_glob (v := .str "number") (by rfl) gn ⟨_, rfl⟩) (nomark _))))) (pss_one (ps_ret pe_bl)) pss_nil)
      (pss_one (ps_ret (pe_call G1 hr (by rfl) m1 kp1 b1 .nil pass0 (pa_cons (pe_ix ix_tup (pv 2) (pe_un un_neg pe_int) (fun _ _ => rfl)) (pa_cons pe_int (pa_cons (pe_op op_sub (pe_callB call_len_seq (by rfl) T.len PySem.boot_len (pa_cons (pe_fld (pv 1) rfl) pa_nil)) pe_int) pa_nil))))))), ?_⟩
    have kk : ∀ o : Option Bool, decide (kV' o = V.str "number") = decide (o = some false) := fun o => kV_dec o false
    have lr : (vrl.length : Int) = f.2.length := by rw [prl.len]
    have kq := k H (Same.refl _)
    rcases ok with ⟨y, i, rfl⟩ | ⟨y, i, rfl⟩ | ⟨i, rfl⟩
    · obtain ⟨v1, v2, v3, rfl, e1, e2, e3⟩ := cells3 pc
      have e1 : v1 = .str "number" := e1
      have e2 : v2 = .str y := e2
      have e3 : v3 = .int i := e3
      subst e1 e2 e3
      refine ⟨_, rfl, p, _, _, _, rfl, rfl, SqT.of hp, at_of (j := 0) rfl rfl, rfl, _, rfl, iteT ?_⟩
      refine ⟨_, rfl, s, dx, _, rfl, hs, hno, _, rfl, _, rfl, p, _, _, _, rfl, rfl, SqT.of hp, at_of (j := 1) rfl rfl, _, x, f, y, rfl, hf, gh, ?_⟩
      refine ⟨scal_k _ _, _, rfl, ?_⟩
      show if decide (kV' (f.1.kind y) = V.str "number") = true then _ else _
      rw [kk]
      simp only [isRow] at kq
      refine ite2 (fun e => ?_) (fun e => ?_)
      · refine ⟨_, rfl, p, _, _, _, rfl, rfl, SqT.of hp, at_of (j := 2) rfl rfl, _, rfl, i, -1000000000, 1000000000, rfl, ?_⟩
        rw [e, Bool.true_and] at kq
        exact kq
      · rw [Bool.eq_false_iff.mpr e, Bool.false_and] at kq
        exact kq
    · obtain ⟨v1, v2, v3, rfl, e1, e2, e3⟩ := cells3 pc
      have e1 : v1 = .str "if" := e1
      have e2 : v2 = .str y := e2
      have e3 : v3 = .int i := e3
      subst e1 e2 e3
      refine ⟨_, rfl, p, _, _, _, rfl, rfl, SqT.of hp, at_of (j := 0) rfl rfl, rfl, _, rfl, iteF ?_⟩
      refine ⟨_, rfl, p, _, _, _, rfl, rfl, SqT.of hp, at_of (j := 0) rfl rfl, rfl, _, rfl, iteT ?_⟩
      refine ⟨_, rfl, s, dx, _, rfl, hs, hno, _, rfl, _, rfl, p, _, _, _, rfl, rfl, SqT.of hp, at_of (j := 1) rfl rfl, _, x, f, y, rfl, hf, gh, ?_⟩
      refine ⟨scal_k _ _, _, rfl, ?_⟩
      show if (!decide (kV' (f.1.kind y) = V.str "number")) = true then _ else _
      rw [kk]
      simp only [isRow] at kq
      refine ite2 (fun e => ?_) (fun e => ?_)
      · have e : decide (f.1.kind y = some false) = false := by simpa using e
        rw [e, Bool.false_and] at kq
        exact kq
      · have e : decide (f.1.kind y = some false) = true := by simpa using e
        refine ⟨_, rfl, _, rfl, p, _, _, _, rfl, rfl, SqT.of hp, rfl, _, rfl, x, CF, dx', _, _, rfl, hx, TF.cl, TF.n6, fnF_rows _ _ _ _ _ _, l', _, rfl, .inl (SqL.of hrl), _, _, rfl, rfl, i, 0, _, rfl, ?_⟩
        rw [e, Bool.true_and] at kq
        rw [lr]
        exact kq
    · obtain ⟨v1, v2, rfl, e1, e2⟩ := cells2 pc
      have e1 : v1 = .str "jump" := e1
      have e2 : v2 = .int i := e2
      subst e1 e2
      refine ⟨_, rfl, p, _, _, _, rfl, rfl, SqT.of hp, at_of (j := 0) rfl rfl, rfl, _, rfl, iteF ?_⟩
      refine ⟨_, rfl, p, _, _, _, rfl, rfl, SqT.of hp, at_of (j := 0) rfl rfl, rfl, _, rfl, iteF ?_⟩
      refine ⟨_, rfl, _, rfl, p, _, _, _, rfl, rfl, SqT.of hp, rfl, _, rfl, x, CF, dx', _, _, rfl, hx, TF.cl, TF.n6, fnF_rows _ _ _ _ _ _, l', _, rfl, .inl (SqL.of hrl), _, _, rfl, rfl, i, 0, _, rfl, ?_⟩
      simp only [isRow] at kq
      rw [lr]
      exact kq
theorem scObjRow : FnScope ["self", "function", "row", "one", "field", "other"] ["self", "function", "row"] (defScope sObjRow) := ⟨rfl, rfl, rfl, by decide +kernel, rfl, by decide +kernel, by decide +kernel⟩
theorem look_none {fkk : List (Key × V)} {fks : List Str} {ds : List Dcl} (hk : fkk.map (·.1) = fks.map (Sum.inr : Str → Key)) (hv : ∀ f, valV fkk (Sum.inr f) = (look ds f).map fun b => V.str (kd b)) (f : Str) : decide (f ∈ fks) = (look ds f).isSome := by
  cases e : look ds f with
  | some b =>
    have h1 := hv f
    rw [e] at h1
    have h2 := valV_in h1
    rw [hk] at h2
    obtain ⟨g, hg, eg⟩ := List.mem_map.mp h2
    have eg : g = f := Sum.inr.inj eg
    rw [eg] at hg
    rw [decide_eq_true hg]
    rfl
  | none =>
    have h1 := hv f
    rw [e] at h1
    have h2 := valV_not h1
    rw [hk] at h2
    have h3 : ¬ f ∈ fks := fun z => h2 (List.mem_map_of_mem z)
    rw [decide_eq_false h3]
    rfl
theorem keys_str {kvs : List (Key × V)} {ks : List Str} (h : kvs.map (·.1) = ks.map (Sum.inr : Str → Key)) : (kvs.map fun kv => kV kv.1) = ks.map V.str := by
  have e : (kvs.map fun kv => kV kv.1) = (kvs.map (·.1)).map kV := by rw [List.map_map]; rfl
  rw [e, h, List.map_map]
  rfl
theorem ok_objRow {f CS CF fK : Addr} {fd fdK : FuncData} (T : Txt mg) (TW : TxtW K mg) (TF : ClsFn K CF) (TC : ClsSrc K CS) (F : Fun K "is_object_row" "Source.is_object_row" sObjRow f fd)
    (CW : Cal P w K mg base CX0 1 "is_word" ["thing", "words"] (spIsWord K)) (GK : FnOk P w K mg base CX0 1 fK fdK ["self", "function", "thing"] (spKindIn CF)) (mK : Meth K CS "kind_in" fK) (bK : Binds K fdK ["self", "function", "thing"] []) :
    FnOk P w K mg base CX0 3 f fd ["self", "function", "row"] (spRow CS CF isObjR) := by
  obtain ⟨f1, fd1, m1, kp1, b1, G1⟩ := CW
  obtain ⟨tn, gn⟩ := TW.object
  refine F.ok scObjRow (fun vs H Q E h => ?_) (fun cdv A outer s H vs Q E hr h => ?_)
  · obtain ⟨_, _, _, _, _, _, _, rfl, _⟩ := h
    rfl
  · obtain ⟨s, x, p, cs, fs, f, r, rfl, ⟨dx, cr, fk, kf, crk, fkk, kfk, fks, hs, hcr, kcr, lcr, hfk, kfks, lfk, vfk, _⟩, hf, gh, _, ⟨vs, hp, pc, _⟩, l1000, ok, k⟩ := h
    have hr1 : Room 1 _ := hr.mono (by decide)
    have hu := hu_of hr
    have hno : (srcF (.ref cr) (.ref fk) (.ref kf)).lookup ("kind_in" : Str) = none := srcF_no (by decide +kernel) (by decide +kernel) (by decide +kernel)
    refine ⟨_, pss_cons (ps_if (pt_cmpR op_eq (pe_ix ix_tup (pv 2) pe_int (fun _ _ => rfl)) pe_str (nomark _)) (pss_one (ps_ret (pe_and (pe_cmpR op_eq (pe_meth (pv 0) TC.cl mK GK hr1 bK .nil pass0 (pa_cons (pv 1) (pa_cons (pe_ix ix_tup (pv 2) pe_int (fun _ _ => rfl)) pa_nil))) (pe_glob (v := .str "object") (by rfl) gn ⟨_, rfl⟩) (nomark _))
          (pe_one (pe_call G1 hr1 (by rfl) m1 kp1 b1 .nil pass0 (pa_cons (pe_ix ix_tup (pv 2) pe_int (fun _ _ => rfl)) (pa_cons (pe_callTy (call_tupD' rfl) (by rfl) T.tuple (by decide +kernel) (pa_cons (pe_fld (pv 0) rfl) pa_nil)) pa_nil))))))) pss_nil)
      (pss_cons (ps_asg (pe_cut (pe_ifExp (pt_cmpR op_eq (pe_ix ix_tup (pv 2) pe_int (fun _ _ => rfl)) pe_str (nomark _)) (pe_tupN (pa_cons (pe_ix ix_tup (pv 2) pe_int (fun _ _ => rfl)) (pa_cons (pe_ix ix_tup (pv 2) pe_int (fun _ _ => rfl)) (pa_cons (pe_ix ix_tup (pv 2) pe_int (fun _ _ => rfl)) pa_nil))))
            (pe_slice sl_tupN (pv 2) (po_some pe_int) po_none))) (pg_tup rfl (pgs_cons (pg_name (i := 3) scObjRow.nd rfl (.inl rfl)) (pgs_cons (pg_name (i := 4) scObjRow.nd rfl (.inl rfl)) (pgs_cons (pg_name (i := 5) scObjRow.nd rfl (.inl rfl)) pgs_nil)))))
      (pss_cons (ps_if (PW.pt (pw_or (pt_cmpR op_ne (pe_meth (pv 0) TC.cl mK GK hr1 bK .nil pass0 (pa_cons (pv 1) (pa_cons (pv 3) pa_nil))) (pe_glob (v := .str "object") (by rfl) gn ⟨_, rfl⟩) (nomark _))
          (pw_or1 (pt_not (pt_val (pe_call G1 hr1 (by rfl) m1 kp1 b1 .nil pass0 (pa_cons (pv 4) (pa_cons (pe_callTy (call_tupD' rfl) (by rfl) T.tuple (by decide +kernel) (pa_cons (pe_fld (pv 0) rfl) pa_nil)) pa_nil)))))))) (pss_one (ps_ret pe_bl)) pss_nil)
      (pss_one (ps_ret (pe_cmpR op_eq (pe_meth (pv 0) TC.cl mK GK hr1 bK .nil pass0 (pa_cons (pv 1) (pa_cons (pv 5) pa_nil))) (pe_dget hu (pe_fld (pv 0) rfl) (pv 4) (fun _ _ => rfl)) (nomark _)))))), ?_⟩
    have kk : ∀ o : Option Bool, decide (kV' o = V.str "object") = decide (o = some true) := fun o => kV_dec o true
    rcases ok with ⟨y, c, rfl⟩ | ⟨y, z, fl, rfl⟩ | ⟨y, fl, z, rfl⟩
    · obtain ⟨v1, v2, v3, rfl, e1, e2, e3⟩ := cells3 pc
      have e1 : v1 = .str "new" := e1
      have e2 : v2 = .str y := e2
      have e3 : v3 = .str c := e3
      subst e1 e2 e3
      refine ⟨_, rfl, p, _, _, _, rfl, rfl, SqT.of hp, at_of (j := 0) rfl rfl, rfl, _, rfl, iteT ?_⟩
      refine ⟨_, rfl, s, dx, _, rfl, hs, hno, _, rfl, _, rfl, p, _, _, _, rfl, rfl, SqT.of hp, at_of (j := 1) rfl rfl, _, x, f, y, rfl, hf, gh, ?_⟩
      refine ⟨scal_k _ _, _, rfl, ?_⟩
      show if decide (kV' (f.1.kind y) = V.str "object") = true then _ else _
      rw [kk]
      refine ite2 (fun e => ?_) (fun e => ?_)
      · refine ⟨_, rfl, p, _, _, _, rfl, rfl, SqT.of hp, at_of (j := 2) rfl rfl, _, rfl, s, CS, dx, _, _, rfl, hs, TC.cl, TC.n1, srcF_c _ _ _, cr, crk, rfl, .inl hcr, fun q H1 n1 => ?_⟩
        have hq := n1.at
        rw [keys_str kcr] at hq
        refine ⟨c, q, cs.map (·.1), rfl, SqT.of hq, ?_⟩
        have kq := k H1 n1.same
        simp only [isRow] at kq
        rw [e, Bool.true_and] at kq
        exact kq
      · have kq := k H (Same.refl _)
        simp only [isRow] at kq
        rw [Bool.eq_false_iff.mpr e, Bool.false_and] at kq
        exact kq
    · obtain ⟨v1, v2, v3, v4, rfl, e1, e2, e3, e4⟩ := cells4 pc
      have e1 : v1 = .str "get" := e1
      have e2 : v2 = .str y := e2
      have e3 : v3 = .str z := e3
      have e4 : v4 = .str fl := e4
      subst e1 e2 e3 e4
      refine ⟨_, rfl, p, _, _, _, rfl, rfl, SqT.of hp, at_of (j := 0) rfl rfl, rfl, _, rfl, iteF ?_⟩
      refine ⟨fun v G => ∃ t, v = .ref t ∧ Same H G ∧ G t = some (.tup [.str z, .str fl, .str y]), ?_, ?_⟩
      · refine ⟨_, rfl, p, _, _, _, rfl, rfl, SqT.of hp, at_of (j := 0) rfl rfl, rfl, _, rfl, iteT ?_⟩
        refine ⟨_, rfl, p, _, _, _, rfl, rfl, SqT.of hp, at_of (j := 2) rfl rfl, _, rfl, p, _, _, _, rfl, rfl, SqT.of hp, at_of (j := 3) rfl rfl, _, rfl, p, _, _, _, rfl, rfl, SqT.of hp, at_of (j := 1) rfl rfl, sz (by show 3 ≤ 100000; decide), fun t H1 n1 => ⟨t, rfl, n1.same, n1.at⟩⟩
      · rintro v G ⟨t, rfl, sG, ht⟩
        refine ⟨t, _, rfl, SqT.of ht, rfl, _, _, rfl, _, _, rfl, _, _, rfl, rfl, ?_⟩
        have hfG := hf.mono sG
        refine ⟨_, rfl, s, dx, _, rfl, sG _ _ hs, hno, _, rfl, _, rfl, _, x, f, z, rfl, hfG, gh, ?_⟩
        refine ⟨scal_k _ _, _, rfl, ?_⟩
        show if (!decide (kV' (f.1.kind z) = V.str "object")) = true then _ else _
        rw [kk]
        refine ite2 (fun e => ?_) (fun e => ?_)
        · have e : decide (f.1.kind z = some true) = false := by simpa using e
          have kq := k G sG
          simp only [isRow] at kq
          rw [e, Bool.false_and, Bool.false_and] at kq
          exact iteT kq
        · have e : decide (f.1.kind z = some true) = true := by simpa using e
          refine ⟨_, rfl, _, rfl, s, CS, dx, _, _, rfl, sG _ _ hs, TC.cl, TC.n2, srcF_f _ _ _, fk, fkk, rfl, .inl (sG _ _ hfk), fun q H1 n1 => ?_⟩
          have hq := n1.at
          rw [keys_str kfks] at hq
          have s1 := sG.trans n1.same
          refine ⟨fl, q, fks, rfl, SqT.of hq, ?_⟩
          rw [look_none kfks vfk]
          refine ⟨_, rfl, ?_⟩
          have kq := k H1 s1
          simp only [isRow] at kq
          cases el : look (flds cs) fl with
          | none =>
            rw [e, el] at kq
            exact iteT kq
          | some b =>
            rw [e, el] at kq
            refine iteF ?_
            have g1 := DGet.k (k := Sum.inr fl) (s1 _ _ hfk)
            rw [vfk, el] at g1
            refine ⟨_, rfl, s, dx, _, rfl, s1 _ _ hs, hno, _, rfl, _, rfl, _, x, f, y, rfl, hf.mono s1, gh, ?_⟩
            refine ⟨_, rfl, s, CS, dx, _, _, rfl, s1 _ _ hs, TC.cl, TC.n2, srcF_f _ _ _, _, rfl, fk, _, rfl, g1, scal_k _ _, ?_⟩
            show Q (.bl (decide (kV' (f.1.kind y) = V.str (kd b)))) H1
            rw [kV_dec]
            exact kq
    · obtain ⟨v1, v2, v3, v4, rfl, e1, e2, e3, e4⟩ := cells4 pc
      have e1 : v1 = .str "put" := e1
      have e2 : v2 = .str y := e2
      have e3 : v3 = .str fl := e3
      have e4 : v4 = .str z := e4
      subst e1 e2 e3 e4
      refine ⟨_, rfl, p, _, _, _, rfl, rfl, SqT.of hp, at_of (j := 0) rfl rfl, rfl, _, rfl, iteF ?_⟩
      refine ⟨fun v G => ∃ t, v = .ref t ∧ Same H G ∧ G t = some (.tup [.str y, .str fl, .str z]), ?_, ?_⟩
      · refine ⟨_, rfl, p, _, _, _, rfl, rfl, SqT.of hp, at_of (j := 0) rfl rfl, rfl, _, rfl, iteF ?_⟩
        refine ⟨_, rfl, _, rfl, p, _, rfl, SqT.of hp, (fun q => absurd q.1 (show ¬ HT.sIx 4 0 (some 1) = 0 by decide)), fun t H1 n1 => ⟨t, rfl, n1.same, n1.at⟩⟩
      · rintro v G ⟨t, rfl, sG, ht⟩
        refine ⟨t, _, rfl, SqT.of ht, rfl, _, _, rfl, _, _, rfl, _, _, rfl, rfl, ?_⟩
        have hfG := hf.mono sG
        refine ⟨_, rfl, s, dx, _, rfl, sG _ _ hs, hno, _, rfl, _, rfl, _, x, f, y, rfl, hfG, gh, ?_⟩
        refine ⟨scal_k _ _, _, rfl, ?_⟩
        show if (!decide (kV' (f.1.kind y) = V.str "object")) = true then _ else _
        rw [kk]
        refine ite2 (fun e => ?_) (fun e => ?_)
        · have e : decide (f.1.kind y = some true) = false := by simpa using e
          have kq := k G sG
          simp only [isRow] at kq
          rw [e, Bool.false_and, Bool.false_and] at kq
          exact iteT kq
        · have e : decide (f.1.kind y = some true) = true := by simpa using e
          refine ⟨_, rfl, _, rfl, s, CS, dx, _, _, rfl, sG _ _ hs, TC.cl, TC.n2, srcF_f _ _ _, fk, fkk, rfl, .inl (sG _ _ hfk), fun q H1 n1 => ?_⟩
          have hq := n1.at
          rw [keys_str kfks] at hq
          have s1 := sG.trans n1.same
          refine ⟨fl, q, fks, rfl, SqT.of hq, ?_⟩
          rw [look_none kfks vfk]
          refine ⟨_, rfl, ?_⟩
          have kq := k H1 s1
          simp only [isRow] at kq
          cases el : look (flds cs) fl with
          | none =>
            rw [e, el] at kq
            exact iteT kq
          | some b =>
            rw [e, el] at kq
            refine iteF ?_
            have g1 := DGet.k (k := Sum.inr fl) (s1 _ _ hfk)
            rw [vfk, el] at g1
            refine ⟨_, rfl, s, dx, _, rfl, s1 _ _ hs, hno, _, rfl, _, rfl, _, x, f, z, rfl, hf.mono s1, gh, ?_⟩
            refine ⟨_, rfl, s, CS, dx, _, _, rfl, s1 _ _ hs, TC.cl, TC.n2, srcF_f _ _ _, _, rfl, fk, _, rfl, g1, scal_k _ _, ?_⟩
            show Q (.bl (decide (kV' (f.1.kind z) = V.str (kd b)))) H1
            rw [kV_dec]
            exact kq
end
end K12

namespace K12
open PySem PySem.Spec PyProof.Rows L2
theorem kept_keys {CF : Addr} {H : Hp} {kvs : List (Key × V)} {fs : List Fn} (p : Paired (KeptV CF H) kvs fs) : kvs.map (·.1) = (fs.map fun f => f.1.name).map (Sum.inr : Str → Key) := by
  induction p with
  | nil => rfl
  | cons r _ ih => rw [List.map_cons, List.map_cons, List.map_cons, ih, r.1]
theorem kept_get {CF : Addr} {H : Hp} {kvs : List (Key × V)} {fs : List Fn} (p : Paired (KeptV CF H) kvs fs) (g : Str) :
    (∃ f x, f ∈ fs ∧ calledOf (fs.map (·.1)) g = some f.1 ∧ f.1.name = g ∧ valV kvs (Sum.inr g) = some (.ref x) ∧ FunAt CF H x f) ∨ (calledOf (fs.map (·.1)) g = none ∧ g ∉ fs.map fun f => f.1.name) := by
  induction p with
  | nil => exact .inr ⟨rfl, fun m => nomatch m⟩
  | @cons kv f kvs fs r _ ih =>
    obtain ⟨e, x, ex, hx⟩ := r
    by_cases c : f.1.name = g
    · refine .inl ⟨f, x, List.mem_cons_self, ?_, c, ?_, hx⟩
      · unfold calledOf
        rw [List.map_cons, List.find?_cons_of_pos]
        exact decide_eq_true c
      · rw [valV_pos (by rw [e, c]), ex]
    · have ne : ¬ kv.1 = Sum.inr g := fun z => c (by rw [e] at z; exact Sum.inr.inj z)
      have cf : calledOf ((f :: fs).map (·.1)) g = calledOf (fs.map (·.1)) g := by
        unfold calledOf
        rw [List.map_cons, List.find?_cons_of_neg]
        intro z
        exact c (of_decide_eq_true z)
      rcases ih with ⟨f', x', h1, h2, h3, h4, h5⟩ | ⟨h1, h2⟩
      · exact .inl ⟨f', x', List.mem_cons_of_mem _ h1, by rw [cf]; exact h2, h3, by rw [valV_neg ne]; exact h4, h5⟩
      · refine .inr ⟨by rw [cf]; exact h1, fun m => ?_⟩
        rw [List.map_cons] at m
        rcases List.mem_cons.mp m with z | z
        · exact c z.symm
        · exact h2 z
section
variable {P : Program} {w : World} {K : PySem.W.Frag} {mg : Str → Option Value} {base : Heap}
theorem scCallRow : FnScope ["self", "function", "row", "called", "name", "kind"] ["self", "function", "row"] (defScope sCallRow) := ⟨rfl, rfl, rfl, by decide +kernel, rfl, by decide +kernel, by decide +kernel⟩
theorem ok_callRow {f CS CF fK : Addr} {fd fdK : FuncData} (T : Txt mg) (TF : ClsFn K CF) (TC : ClsSrc K CS) (F : Fun K "is_call" "Source.is_call" sCallRow f fd)
    (CW : Cal P w K mg base CX0 1 "is_word" ["thing", "words"] (spIsWord K)) (GK : FnOk P w K mg base CX0 1 fK fdK ["self", "function", "thing"] (spKindIn CF)) (mK : Meth K CS "kind_in" fK) (bK : Binds K fdK ["self", "function", "thing"] []) :
    FnOk P w K mg base CX0 3 f fd ["self", "function", "row"] (spRow CS CF isCallR) := by
  obtain ⟨f1, fd1, m1, kp1, b1, G1⟩ := CW
  refine F.ok scCallRow (fun vs H Q E h => ?_) (fun cdv A outer s H vs Q E hr h => ?_)
  · obtain ⟨_, _, _, _, _, _, _, rfl, _⟩ := h
    rfl
  · obtain ⟨s, x, p, cs, fs, f, r, rfl, src, hf, gh, ghs, ⟨vs, hp, pc, _⟩, l1000, ⟨y, g, as, rfl⟩, k⟩ := h
    obtain ⟨dx, cr, fk, kf, crk, fkk, kfk, fks, hs, hcr, kcr, lcr, hfk, kfks, lfk, vfk, hkf, pkf, lfs⟩ := src
    have hr1 : Room 1 _ := hr.mono (by decide)
    have hu := hu_of hr
    have hno : (srcF (.ref cr) (.ref fk) (.ref kf)).lookup ("kind_in" : Str) = none := srcF_no (by decide +kernel) (by decide +kernel) (by decide +kernel)
    refine ⟨_, pss_cons (ps_if (PW.pt (pw_or (pt_not (pt_val (pe_call G1 hr1 (by rfl) m1 kp1 b1 .nil pass0 (pa_cons (pe_ix ix_tup (pv 2) pe_int (fun _ _ => rfl)) (pa_cons (pe_callTy (call_tupD' rfl) (by rfl) T.tuple (by decide +kernel) (pa_cons (pe_fld (pv 0) rfl) pa_nil)) pa_nil)))))
          (pw_or1 (pt_not (pt_val (pe_callB call_isi (by rfl) T.isinstance (by decide +kernel) (pa_cons (pe_ix ix_tup (pv 2) pe_int (fun _ _ => rfl)) (pa_cons (pe_bltn (v := .ty "list") (by rfl) T.list (by decide +kernel) rfl) pa_nil)))))))) (pss_one (ps_ret pe_bl)) pss_nil)
      (pss_cons (ps_set (i := 3) scCallRow.nd rfl (.inl rfl) (pe_dget hu (pe_fld (pv 0) rfl) (pe_ix ix_tup (pv 2) pe_int (fun _ _ => rfl)) (fun _ _ => rfl)))
      (pss_cons (ps_if (pt_cmpR (op_neD hr.units) (pe_lc (own := [("name", 4)]) (g := gName 4) (tt := tYes) rfl scCallRow.nd (pi_list (pe_ix ix_tup (pv 2) pe_int (fun _ _ => rfl)))
              (blkOk_by (N := ["self", "function", "row", "called", "name", "kind"]) (sc := defScope sCallRow) (by decide +kernel)) (fun _ _ _ _ _ => pg_name (i := 4) scCallRow.nd rfl (.inl rfl)) (fun _ _ _ _ _ => pts_nil)
              (fun _ _ _ _ _ => pe_meth (pv 0) TC.cl mK GK hr1 bK .nil pass0 (pa_cons (pv 1) (pa_cons (pv 4) pa_nil))))
            (pe_lc (own := [("name", 4), ("kind", 5)]) (g := g2 K 4 5) (tt := tYes) rfl scCallRow.nd (pi_list (pe_fld (pv 3) rfl))
              (blkOk_by (N := ["self", "function", "row", "called", "name", "kind"]) (sc := defScope sCallRow) (by decide +kernel)) (fun _ _ _ _ _ => pg_two 4 5 rfl scCallRow.nd rfl rfl (.inl rfl) (.inl rfl)) (fun _ _ _ _ _ => pts_nil)
              (fun _ _ _ _ _ => pv 5)) (nomark _)) (pss_one (ps_ret pe_bl)) pss_nil)
      (pss_one (ps_ret (pe_cmpR op_eq (pe_meth (pv 0) TC.cl mK GK hr1 bK .nil pass0 (pa_cons (pv 1) (pa_cons (pe_ix ix_tup (pv 2) pe_int (fun _ _ => rfl)) pa_nil))) (pe_fld (pv 3) rfl) (nomark _)))))), ?_⟩
    obtain ⟨v1, v2, v3, v4, rfl, e1, e2, e3, e4⟩ := cells4 pc
    have e1 : v1 = .str "call" := e1
    have e2 : v2 = .str y := e2
    have e3 : v3 = .str g := e3
    obtain ⟨la, e4, las, hla⟩ := e4
    subst e1 e2 e3 e4
    refine ⟨_, rfl, p, _, _, _, rfl, rfl, SqT.of hp, at_of (j := 2) rfl rfl, _, rfl, s, CS, dx, _, _, rfl, hs, TC.cl, TC.n3, srcF_k _ _ _, kf, kfk, rfl, hkf, fun q H1 n1 => ?_⟩
    have hq := n1.at
    rw [keys_str (kept_keys pkf)] at hq
    have s1 := n1.same
    refine ⟨g, q, fs.map fun f => f.1.name, rfl, SqT.of hq, _, rfl, ?_⟩
    rcases kept_get pkf g with ⟨c, xc, mc, cc, ec, vc, hc⟩ | ⟨cn, gn⟩
    · have mg' : g ∈ fs.map fun f => f.1.name := List.mem_map.mpr ⟨c, mc, ec⟩
      rw [decide_eq_true mg']
      refine iteF ?_
      refine ⟨_, rfl, p, _, _, _, rfl, rfl, SqT.of (s1 _ _ hp), at_of (j := 3) rfl rfl, _, _, _, _, true, rfl, .ty "list", .base (.lst (s1 _ _ hla)), kit_ty (by decide +kernel), true, rfl, iteF ?_⟩
      have gk := DGet.k (k := Sum.inr g) (H := H1) (a := kf) (kvs := kfk)
      refine ⟨_, rfl, s, CS, dx, _, _, rfl, s1 _ _ hs, TC.cl, TC.n3, srcF_k _ _ _, _, rfl, p, _, _, _, rfl, rfl, SqT.of (s1 _ _ hp), at_of (j := 2) rfl rfl, kf, _, rfl, .inl ⟨kfk, Sum.inr g, Rd.mono s1 hkf, rfl, vc.symm⟩, ?_⟩
      have hc1 := hc.mono s1
      obtain ⟨dxc, ic, oc, kc, lc, hxc, ⟨vi, hvi, pi⟩, _, _⟩ := id hc1
      have gc := ghs c mc
      refine ⟨_, rfl, p, _, _, _, rfl, rfl, SqT.of (s1 _ _ hp), at_of (j := 3) rfl rfl, la, rfl, ⟨_, SqL.of (s1 _ _ hla)⟩, fun D1 hD1 => lc_map (K := K) (a := la) (xs := as.map V.str) (fun i ys H' => Same H1 H' ∧ ys = ((as.take i).map f.1.kind).map kV') (by rw [List.length_map]; omega) hD1
        (fun H' n => ⟨n.same, rfl⟩) (fun _ _ _ _ _ I => SqL.of (I.1 _ _ (s1 _ _ hla))) ?_ ?_⟩
      · rintro i v ys H' hi hD' lys ⟨s', rfl⟩
        obtain ⟨a, ha, rfl⟩ := map_ix hi
        refine ⟨rfl, _, rfl, s, dx, _, rfl, s' _ _ (s1 _ _ hs), hno, _, rfl, _, rfl, _, x, f, a, rfl, hf.mono (s1.trans s'), gh, _, hD', lys, fun H5 p5 => ⟨by rw [p5.eq]; exact same_own s' hD1, ?_⟩⟩
        rw [take_more ha, List.map_append, List.map_append]
        rfl
      · rintro ys H2 hD2 lys ⟨s2, rfl⟩
        rw [List.length_map, List.take_length] at hD2
        have s12 := s1.trans s2
        refine ⟨_, rfl, xc, CF, dxc, _, _, rfl, s2 _ _ hxc, TF.cl, TF.n2, fnF_inputs _ _ _ _ _ _, ic, rfl, ⟨_, SqL.of (s2 _ _ hvi)⟩, fun D3 hD3 => lc_map (K := K) (a := ic) (xs := vi) (fun i ys H' => Same H2 H' ∧ ys = ((c.1.ins.take i).map fun d => some d.2).map kV') (by rw [pi.len]; have := gc.li; omega) hD3
          (fun H' n => ⟨n.same, rfl⟩) (fun _ _ _ _ _ I => SqL.of (I.1 _ _ (s2 _ _ hvi))) ?_ ?_⟩
        · rintro i v ys H' hi hD' lys ⟨s', rfl⟩
          obtain ⟨d, hd, qd, rfl, hqd⟩ := pi.get hi
          refine ⟨qd, _, rfl, SqT.of (s' _ _ (s2 _ _ hqd)), rfl, _, _, rfl, _, _, rfl, rfl, rfl, _, rfl, _, hD', lys, fun H5 p5 => ⟨by rw [p5.eq]; exact same_own s' hD3, ?_⟩⟩
          rw [take_more hd, List.map_append, List.map_append]
          rfl
        · rintro ys H3 hD3' lys ⟨s3, rfl⟩
          rw [pi.len, List.take_length] at hD3'
          have s13 := s12.trans s3
          refine ⟨.list ((as.map f.1.kind).map kD), .list ((c.1.ins.map fun d => some d.2).map kD), .lst (SqL.of (s3 _ _ hD2)) (kDs_dp _), .lst (SqL.of hD3') (kDs_dp _), kDs_shaped _, kDs_shaped _, _, rfl, ?_⟩
          show if (!PyData.eqvAll ((as.map f.1.kind).map kD) ((c.1.ins.map fun d => some d.2).map kD)) = true then _ else _
          rw [kDs_eqv]
          have kq := k H3 s13
          simp only [isRow, cc] at kq
          refine ite2 (fun e => ?_) (fun e => ?_)
          · have e : decide (as.map f.1.kind = c.1.ins.map fun d => some d.2) = false := by simpa using e
            rw [e, Bool.false_and] at kq
            exact kq
          · have e : decide (as.map f.1.kind = c.1.ins.map fun d => some d.2) = true := by simpa using e
            rw [e, Bool.true_and] at kq
            refine ⟨_, rfl, s, dx, _, rfl, s13 _ _ hs, hno, _, rfl, _, rfl, p, _, _, _, rfl, rfl, SqT.of (s13 _ _ hp), at_of (j := 1) rfl rfl, _, x, f, y, rfl, hf.mono s13, gh, ?_⟩
            refine ⟨_, rfl, xc, CF, dxc, _, _, rfl, s3 _ _ (s2 _ _ hxc), TF.cl, TF.n5, fnF_result _ _ _ _ _ _, scal_k _ _, ?_⟩
            show Q (.bl (decide (kV' (f.1.kind y) = V.str (kd c.1.res)))) H3
            rw [kV_dec]
            exact kq
    · rw [decide_eq_false gn]
      have kq := k H1 s1
      simp only [isRow, cn] at kq
      exact iteT kq
theorem scPlainRow : FnScope ["self", "function", "row", "kinds", "part"] ["self", "function", "row"] (defScope sPlainRow) := ⟨rfl, rfl, rfl, by decide +kernel, rfl, by decide +kernel, by decide +kernel⟩
end
end K12

namespace K12
open PySem PySem.Spec PyProof.Rows L2
theorem inV_kinds {o : Option Bool} : ∀ {os : List (Option Bool)}, inV (kV' o) (os.map kV') = decide (o ∈ os)
  | [] => by simp [inV]
  | a :: r => by
    have ih := inV_kinds (o := o) (os := r)
    unfold inV at ih ⊢
    rw [List.map_cons, List.any_cons, ih]
    have e : eqV (kV' a) (kV' o) = decide (o = a) := by
      cases a with
      | none => cases o with
        | none => rfl
        | some c => rfl
      | some b => cases o with
        | none => rfl
        | some c =>
          show eqV (.str (kd b)) (.str (kd c)) = _
          cases b <;> cases c <;> decide +kernel
    rw [e]
    by_cases c : o = a
    · simp [c]
    · by_cases d : o ∈ r <;> simp [c, d]
theorem flat_kinds {os : List (Option Bool)} : (os.map kV').all flatV = true := by
  rw [List.all_map]
  refine List.all_eq_true.mpr fun o _ => ?_
  cases o <;> rfl
def Rw.names : Rw → List Str
  | .nil x => [x]
  | .copy x y => [x, y]
  | .arith _ x y z => [x, y, z]
  | .same x y z => [x, y, z]
  | .see x => [x]
  | .ret x => [x]
  | _ => []
theorem plain_rest {r : Rw} (h : isPlainR r) : r.rest = r.names.map Cell.s := by
  rcases h with ⟨_, rfl⟩ | ⟨_, _, rfl⟩ | ⟨_, _, _, _, rfl⟩ | ⟨_, _, _, rfl⟩ | ⟨_, rfl⟩ | ⟨_, rfl⟩ <;> rfl
section
variable {P : Program} {w : World} {K : PySem.W.Frag} {mg : Str → Option Value} {base : Heap}
theorem ok_plainRow {f CS CF fK : Addr} {fd fdK : FuncData} (T : Txt mg) (TW : TxtW K mg) (TF : ClsFn K CF) (TC : ClsSrc K CS) (TA : ∃ a, mg "ARITHMETIC" = some (.ref a) ∧ ∀ H, SqT K H a (ariths.map V.str)) (F : Fun K "is_plain_row" "Source.is_plain_row" sPlainRow f fd)
    (GK : FnOk P w K mg base CX0 1 fK fdK ["self", "function", "thing"] (spKindIn CF)) (mK : Meth K CS "kind_in" fK) (bK : Binds K fdK ["self", "function", "thing"] []) :
    FnOk P w K mg base CX0 3 f fd ["self", "function", "row"] (spRow CS CF isPlainR) := by
  obtain ⟨aa, ga, hA⟩ := TA
  obtain ⟨tn, gn⟩ := TW.number
  obtain ⟨to, go⟩ := TW.object
  refine F.ok scPlainRow (fun vs H Q E h => ?_) (fun cdv A outer s H vs Q E hr h => ?_)
  · obtain ⟨_, _, _, _, _, _, _, rfl, _⟩ := h
    rfl
  · obtain ⟨s, x, p, cs, fs, f, r, rfl, ⟨dx, cr, fk, kf, crk, fkk, kfk, fks, hs, _⟩, hf, gh, _, ⟨vs, hp, pc, ar⟩, l1000, ok, k⟩ := h
    have hr1 : Room 1 _ := hr.mono (by decide)
    have hno : (srcF (.ref cr) (.ref fk) (.ref kf)).lookup ("kind_in" : Str) = none := srcF_no (by decide +kernel) (by decide +kernel) (by decide +kernel)
    refine ⟨_, pss_cons (ps_setLc (i := 3) (own := [("part", 4)]) (g := gName 4) (tt := tYes) rfl scPlainRow.nd rfl rfl (sw_true rfl rfl rfl (by decide +kernel)) (pi_tup (pe_slice sl_tupN (pv 2) (po_some pe_int) po_none))
              (blkOk_by (N := ["self", "function", "row", "kinds", "part"]) (sc := defScope sPlainRow) (by decide +kernel)) (fun _ _ _ _ _ => pg_name (i := 4) scPlainRow.nd rfl (.inl rfl)) (fun _ _ _ _ _ => pts_nil)
              (fun _ _ _ _ _ => pe_meth (pv 0) TC.cl mK GK hr1 bK .nil pass0 (pa_cons (pv 1) (pa_cons (pv 4) pa_nil))))
      (pss_cons (ps_if (pt_cmpR op_in_seq pe_non (pv 3) (by rfl)) (pss_one (ps_ret pe_bl)) pss_nil)
      (pss_cons (ps_if (pt_cmpR op_in_seq (pe_ix ix_tup (pv 2) pe_int (fun _ _ => rfl)) (pe_glob (v := .ref aa) (by rfl) ga rfl) (by rfl)) (pss_one (ps_ret (pe_cmpR op_notIn_seq (pe_glob (v := .str "object") (by rfl) go ⟨_, rfl⟩) (pv 3) (by rfl)))) pss_nil)
      (pss_cons (ps_if (pt_cmpR op_eq (pe_ix ix_tup (pv 2) pe_int (fun _ _ => rfl)) pe_str (nomark _)) (pss_one (ps_ret (pe_cmpR (op_eqD hr.units) (pv 3) (pe_lstN (pa_cons (pe_glob (v := .str "object") (by rfl) go ⟨_, rfl⟩) pa_nil)) (nomark _)))) pss_nil)
      (pss_cons (ps_if (pt_cmpR op_eq (pe_ix ix_tup (pv 2) pe_int (fun _ _ => rfl)) pe_str (nomark _)) (pss_one (ps_ret (pe_cmpR op_eq (pe_ix ix_list (pv 3) pe_int (fun _ _ => rfl)) (pe_ix ix_list (pv 3) pe_int (fun _ _ => rfl)) (nomark _)))) pss_nil)
      (pss_cons (ps_if (pt_cmpR op_eq (pe_ix ix_tup (pv 2) pe_int (fun _ _ => rfl)) pe_str (nomark _)) (pss_one (ps_ret (pe_and (pe_cmpR op_eq (pe_ix ix_list (pv 3) pe_int (fun _ _ => rfl)) (pe_glob (v := .str "number") (by rfl) gn ⟨_, rfl⟩) (nomark _))
          (pe_one (pe_cmpR op_eq (pe_ix ix_list (pv 3) pe_int (fun _ _ => rfl)) (pe_ix ix_list (pv 3) pe_int (fun _ _ => rfl)) (nomark _)))))) pss_nil)
      (pss_one (ps_ret (pe_or (pe_cmpR op_eq (pe_ix ix_tup (pv 2) pe_int (fun _ _ => rfl)) pe_str (nomark _)) (pe_one (pe_cmpR (op_eqD hr.units) (pv 3) (pe_lstN (pa_cons (pe_fld (pv 1) rfl) pa_nil)) (nomark _))))))))))), ?_⟩
    have pc' := pc
    rw [Rw.cells_eq, plain_rest ok] at pc'
    obtain ⟨v0, vt, rfl, e0, pt⟩ : ∃ v0 vt, vs = v0 :: vt ∧ v0 = .str r.tag ∧ Paired (CellV H) vt (r.names.map Cell.s) := by
      cases pc' with
      | cons a b => exact ⟨_, _, rfl, a, b⟩
    subst e0
    have evt : vt = r.names.map V.str := by
      have : ∀ {vt : List V} {ns : List Str}, Paired (CellV H) vt (ns.map Cell.s) → vt = ns.map V.str := fun {vt ns} q => by
        induction ns generalizing vt with
        | nil => cases q; rfl
        | cons n r ih =>
          cases q with
          | cons a b => rw [ih b, show _ = V.str n from a]; rfl
      exact this pt
    subst evt
    have ln : r.names.length ≤ 3 := by
      have := (rest_len r).2
      rw [plain_rest ok, List.length_map] at this
      exact this
    have w1 : ¬ (HT.sIx (V.str r.tag :: r.names.map V.str).length 0 (some 1) = 0 ∧ HT.sIx (V.str r.tag :: r.names.map V.str).length (V.str r.tag :: r.names.map V.str).length none = (V.str r.tag :: r.names.map V.str).length) := fun q => by
      have q1 := q.1
      rw [sIx_k (by decide), List.length_cons] at q1
      have : (1 : Int).toNat = 1 := rfl
      omega
    refine ⟨_, rfl, _, rfl, p, _, rfl, SqT.of hp, w1, fun t H1 n1 => ?_⟩
    rw [cut_drop (by decide)] at n1
    have ht : H1 t = some (.tup (r.names.map V.str)) := n1.at
    refine ⟨t, rfl, ⟨_, SqT.of ht⟩, fun D hD => lc_mapW (walk_tup (K := K) (a := t) (xs := r.names.map V.str)) (fun i ys H' => Same H1 H' ∧ ys = ((r.names.take i).map f.1.kind).map kV') (by rw [List.length_map]; omega) hD
      (fun H' n => ⟨n.same, rfl⟩) (fun _ _ _ _ _ I => SqT.of (I.1 _ _ ht)) ?_ ?_⟩
    · rintro i v ys H' H'' hi hD' lys ⟨s', rfl⟩ ⟨rfl, hv⟩
      obtain ⟨a, ha, rfl⟩ := map_ix hv
      refine ⟨rfl, _, rfl, s, dx, _, rfl, s' _ _ (n1.same _ _ hs), hno, _, rfl, _, rfl, _, x, f, a, rfl, hf.mono (n1.same.trans s'), gh, _, hD', lys, fun H5 p5 => ⟨by rw [p5.eq]; exact same_own s' hD, ?_⟩⟩
      rw [take_more ha, List.map_append, List.map_append]
      rfl
    · rintro ys H2 hD2 lys ⟨s2, rfl⟩
      rw [List.length_map, List.take_length] at hD2
      have s02 := n1.same.trans s2
      have hp2 := s02 _ _ hp
      have kq := k H2 s02
      refine ⟨_, rfl, D, _, rfl, .inl (SqL.of hD2), rfl, flat_kinds, _, rfl, ?_⟩
      show if (inV (kV' none) ((r.names.map f.1.kind).map kV')) = true then _ else _
      rw [inV_kinds]
      obtain ⟨dxf, ix, ox, kx, lx, hxf, _⟩ := id (hf.mono s02)
      rcases ok with ⟨a, rfl⟩ | ⟨a, b, rfl⟩ | ⟨op, a, b, c, rfl⟩ | ⟨a, b, c, rfl⟩ | ⟨a, rfl⟩ | ⟨a, rfl⟩
      · simp only [isRow] at kq
        refine ite2 (fun e => ?_) (fun e => ?_)
        · have e := of_decide_eq_true e
          simp only [Rw.names, List.map_cons, List.map_nil, List.mem_cons, List.mem_nil_iff, or_false] at e
          rw [← e] at kq
          exact kq
        · refine ⟨_, rfl, p, _, _, _, rfl, rfl, SqT.of hp2, at_of (j := 0) rfl rfl, aa, _, rfl, .inr (hA H2), rfl, flat_strs, _, rfl, ?_⟩
          show if (inV (.str "nil") (ariths.map V.str)) = true then _ else _
          rw [inV_strs, show decide (("nil" : Str) ∈ ariths) = false by decide +kernel]
          refine iteF ?_
          refine ⟨_, rfl, p, _, _, _, rfl, rfl, SqT.of hp2, at_of (j := 0) rfl rfl, rfl, _, rfl, iteT ?_⟩
          refine ⟨_, rfl, sz (by show 1 ≤ 100000; decide), fun l H3 n3 => ?_⟩
          refine ⟨.list ([f.1.kind a].map kD), .list ([some true].map kD), .lst (SqL.of (n3.same _ _ hD2)) (kDs_dp [f.1.kind a]), .lst (SqL.of n3.at) (kDs_dp [some true]), kDs_shaped _, kDs_shaped _, ?_⟩
          show Q (.bl (PyData.eqvAll ([f.1.kind a].map kD) ([some true].map kD))) H3
          rw [kDs_eqv]
          have kq := k H3 (s02.trans n3.same)
          simp only [isRow] at kq
          rw [show decide ([f.1.kind a] = [some true]) = decide (f.1.kind a = some true) by simp]
          exact kq
      · simp only [isRow] at kq
        refine ite2 (fun e => ?_) (fun e => ?_)
        · have e := of_decide_eq_true e
          simp only [Rw.names, List.map_cons, List.map_nil, List.mem_cons, List.mem_nil_iff, or_false] at e
          rcases e with e | e
          · rw [← e] at kq
            exact kq
          · rw [← e] at kq
            have z : ((f.1.kind a).isSome && (none : Option Bool).isSome && decide (f.1.kind a = none)) = false := by cases f.1.kind a <;> rfl
            rw [z] at kq
            exact kq
        · refine ⟨_, rfl, p, _, _, _, rfl, rfl, SqT.of hp2, at_of (j := 0) rfl rfl, aa, _, rfl, .inr (hA H2), rfl, flat_strs, _, rfl, ?_⟩
          show if (inV (.str "copy") (ariths.map V.str)) = true then _ else _
          rw [inV_strs, show decide (("copy" : Str) ∈ ariths) = false by decide +kernel]
          refine iteF ?_
          refine ⟨_, rfl, p, _, _, _, rfl, rfl, SqT.of hp2, at_of (j := 0) rfl rfl, rfl, _, rfl, iteF ?_⟩
          refine ⟨_, rfl, p, _, _, _, rfl, rfl, SqT.of hp2, at_of (j := 0) rfl rfl, rfl, _, rfl, iteT ?_⟩
          refine ⟨_, rfl, D, _, _, _, rfl, rfl, SqL.of hD2, at_of (j := 0) rfl rfl, _, rfl, D, _, _, _, rfl, rfl, SqL.of hD2, at_of (j := 1) rfl rfl, scal_k2 _ _, ?_⟩
          show Q (.bl (decide (kV' (f.1.kind a) = kV' (f.1.kind b)))) H2
          rw [kV_dec2]
          simp only [Rw.names, List.map_cons, List.map_nil, List.mem_cons, List.mem_nil_iff, or_false, decide_eq_true_eq, not_or] at e
          have z : ((f.1.kind a).isSome && (f.1.kind b).isSome && decide (f.1.kind a = f.1.kind b)) = decide (f.1.kind a = f.1.kind b) := by
            cases ha : f.1.kind a with
            | none => exact absurd ha.symm e.1
            | some u => cases hb : f.1.kind b with
              | none => exact absurd hb.symm e.2
              | some v => simp
          rw [z] at kq
          exact kq
      · simp only [isRow] at kq
        refine ite2 (fun e => ?_) (fun e => ?_)
        · have e := of_decide_eq_true e
          simp only [Rw.names, List.map_cons, List.map_nil, List.mem_cons, List.mem_nil_iff, or_false] at e
          have z : (decide (f.1.kind a = some false) && decide (f.1.kind b = some false) && decide (f.1.kind c = some false)) = false := by
            rcases e with e | e | e <;> rw [← e] <;> simp
          rw [z] at kq
          exact kq
        · refine ⟨_, rfl, p, _, _, _, rfl, rfl, SqT.of hp2, at_of (j := 0) rfl rfl, aa, _, rfl, .inr (hA H2), rfl, flat_strs, _, rfl, ?_⟩
          show if (inV (.str op) (ariths.map V.str)) = true then _ else _
          rw [inV_strs, show decide ((op : Str) ∈ ariths) = true from decide_eq_true (ar _ _ _ _ rfl)]
          refine iteT ?_
          refine ⟨_, rfl, D, _, rfl, .inl (SqL.of hD2), rfl, flat_kinds, ?_⟩
          show Q (.bl (!inV (kV' (some true)) (([a, b, c].map f.1.kind).map kV'))) H2
          rw [inV_kinds]
          simp only [Rw.names, List.map_cons, List.map_nil, List.mem_cons, List.mem_nil_iff, or_false, decide_eq_true_eq, not_or] at e ⊢
          have z : (decide (f.1.kind a = some false) && decide (f.1.kind b = some false) && decide (f.1.kind c = some false)) = !decide (some true = f.1.kind a ∨ some true = f.1.kind b ∨ some true = f.1.kind c) := by
            revert e
            rcases f.1.kind a with _ | (_ | _) <;> rcases f.1.kind b with _ | (_ | _) <;> rcases f.1.kind c with _ | (_ | _) <;> simp
          rw [z] at kq
          exact kq
      · simp only [isRow] at kq
        refine ite2 (fun e => ?_) (fun e => ?_)
        · have e := of_decide_eq_true e
          simp only [Rw.names, List.map_cons, List.map_nil, List.mem_cons, List.mem_nil_iff, or_false] at e
          have z : (decide (f.1.kind a = some false) && (f.1.kind b).isSome && decide (f.1.kind b = f.1.kind c)) = false := by
            revert e
            rcases f.1.kind a with _ | (_ | _) <;> rcases f.1.kind b with _ | (_ | _) <;> rcases f.1.kind c with _ | (_ | _) <;> simp
          rw [z] at kq
          exact kq
        · refine ⟨_, rfl, p, _, _, _, rfl, rfl, SqT.of hp2, at_of (j := 0) rfl rfl, aa, _, rfl, .inr (hA H2), rfl, flat_strs, _, rfl, ?_⟩
          show if (inV (.str "same") (ariths.map V.str)) = true then _ else _
          rw [inV_strs, show decide (("same" : Str) ∈ ariths) = false by decide +kernel]
          refine iteF ?_
          refine ⟨_, rfl, p, _, _, _, rfl, rfl, SqT.of hp2, at_of (j := 0) rfl rfl, rfl, _, rfl, iteF ?_⟩
          refine ⟨_, rfl, p, _, _, _, rfl, rfl, SqT.of hp2, at_of (j := 0) rfl rfl, rfl, _, rfl, iteF ?_⟩
          refine ⟨_, rfl, p, _, _, _, rfl, rfl, SqT.of hp2, at_of (j := 0) rfl rfl, rfl, _, rfl, iteT ?_⟩
          refine ⟨_, rfl, D, _, _, _, rfl, rfl, SqL.of hD2, at_of (j := 0) rfl rfl, scal_k _ _, _, rfl, ?_⟩
          show if decide (kV' (f.1.kind a) = V.str (kd false)) = true then _ else _
          rw [kV_dec]
          simp only [Rw.names, List.map_cons, List.map_nil, List.mem_cons, List.mem_nil_iff, or_false, decide_eq_true_eq, not_or] at e
          refine ite2 (fun e2 => ?_) (fun e2 => ?_)
          · refine ⟨_, rfl, D, _, _, _, rfl, rfl, SqL.of hD2, at_of (j := 1) rfl rfl, _, rfl, D, _, _, _, rfl, rfl, SqL.of hD2, at_of (j := 2) rfl rfl, scal_k2 _ _, ?_⟩
            show Q (.bl (decide (kV' (f.1.kind b) = kV' (f.1.kind c)))) H2
            rw [kV_dec2]
            have z : (decide (f.1.kind a = some false) && (f.1.kind b).isSome && decide (f.1.kind b = f.1.kind c)) = decide (f.1.kind b = f.1.kind c) := by
              rw [e2]
              revert e
              rcases f.1.kind b with _ | (_ | _) <;> simp
            rw [z] at kq
            exact kq
          · rw [Bool.eq_false_iff.mpr e2, Bool.false_and, Bool.false_and] at kq
            exact kq
      · simp only [isRow] at kq
        refine ite2 (fun e => ?_) (fun e => ?_)
        · have e := of_decide_eq_true e
          simp only [Rw.names, List.map_cons, List.map_nil, List.mem_cons, List.mem_nil_iff, or_false] at e
          rw [← e] at kq
          exact kq
        · refine ⟨_, rfl, p, _, _, _, rfl, rfl, SqT.of hp2, at_of (j := 0) rfl rfl, aa, _, rfl, .inr (hA H2), rfl, flat_strs, _, rfl, ?_⟩
          show if (inV (.str "see") (ariths.map V.str)) = true then _ else _
          rw [inV_strs, show decide (("see" : Str) ∈ ariths) = false by decide +kernel]
          refine iteF ?_
          refine ⟨_, rfl, p, _, _, _, rfl, rfl, SqT.of hp2, at_of (j := 0) rfl rfl, rfl, _, rfl, iteF ?_⟩
          refine ⟨_, rfl, p, _, _, _, rfl, rfl, SqT.of hp2, at_of (j := 0) rfl rfl, rfl, _, rfl, iteF ?_⟩
          refine ⟨_, rfl, p, _, _, _, rfl, rfl, SqT.of hp2, at_of (j := 0) rfl rfl, rfl, _, rfl, iteF ?_⟩
          refine ⟨_, rfl, p, _, _, _, rfl, rfl, SqT.of hp2, at_of (j := 0) rfl rfl, rfl, true, rfl, iteT ?_⟩
          simp only [Rw.names, List.map_cons, List.map_nil, List.mem_cons, List.mem_nil_iff, or_false, decide_eq_true_eq] at e
          have z : (f.1.kind a).isSome = true := by
            cases ha : f.1.kind a with
            | none => exact absurd ha.symm e
            | some u => rfl
          rw [z] at kq
          exact kq
      · simp only [isRow] at kq
        refine ite2 (fun e => ?_) (fun e => ?_)
        · have e := of_decide_eq_true e
          simp only [Rw.names, List.map_cons, List.map_nil, List.mem_cons, List.mem_nil_iff, or_false] at e
          rw [← e] at kq
          exact kq
        · refine ⟨_, rfl, p, _, _, _, rfl, rfl, SqT.of hp2, at_of (j := 0) rfl rfl, aa, _, rfl, .inr (hA H2), rfl, flat_strs, _, rfl, ?_⟩
          show if (inV (.str "return") (ariths.map V.str)) = true then _ else _
          rw [inV_strs, show decide (("return" : Str) ∈ ariths) = false by decide +kernel]
          refine iteF ?_
          refine ⟨_, rfl, p, _, _, _, rfl, rfl, SqT.of hp2, at_of (j := 0) rfl rfl, rfl, _, rfl, iteF ?_⟩
          refine ⟨_, rfl, p, _, _, _, rfl, rfl, SqT.of hp2, at_of (j := 0) rfl rfl, rfl, _, rfl, iteF ?_⟩
          refine ⟨_, rfl, p, _, _, _, rfl, rfl, SqT.of hp2, at_of (j := 0) rfl rfl, rfl, _, rfl, iteF ?_⟩
          refine ⟨_, rfl, p, _, _, _, rfl, rfl, SqT.of hp2, at_of (j := 0) rfl rfl, rfl, false, rfl, iteF ?_⟩
          refine ⟨_, rfl, _, rfl, x, CF, dxf, _, _, rfl, hxf, TF.cl, TF.n5, fnF_result _ _ _ _ _ _, sz (by show 1 ≤ 100000; decide), fun l H3 n3 => ?_⟩
          refine ⟨.list ([f.1.kind a].map kD), .list ([some f.1.res].map kD), .lst (SqL.of (n3.same _ _ hD2)) (kDs_dp [f.1.kind a]), .lst (SqL.of n3.at) (kDs_dp [some f.1.res]), kDs_shaped _, kDs_shaped _, ?_⟩
          show Q (.bl (PyData.eqvAll ([f.1.kind a].map kD) ([some f.1.res].map kD))) H3
          rw [kDs_eqv]
          have kq := k H3 (s02.trans n3.same)
          simp only [isRow] at kq
          rw [show decide ([f.1.kind a] = [some f.1.res]) = decide (f.1.kind a = some f.1.res) by simp]
          exact kq
end
end K12

namespace K12
open PySem PySem.Spec PyProof.Rows L2
def lenTable : List (Str × Nat) := [("number", 3), ("nil", 2), ("copy", 3), ("add", 4), ("sub", 4), ("times", 4), ("less", 4), ("same", 4), ("new", 3), ("get", 4), ("put", 4), ("call", 4), ("see", 2), ("if", 3), ("jump", 2), ("return", 2)]
theorem tag_len {r : Rw} (ar : ∀ op x y z, r = .arith op x y z → op ∈ ariths) : (r.tag, r.rest.length + 1) ∈ lenTable := by
  cases r with
  | arith op x y z =>
    show (op, 4) ∈ lenTable
    have h := ar op x y z rfl
    have e : op = "add" ∨ op = "sub" ∨ op = "times" ∨ op = "less" := by
      unfold ariths at h
      simpa using h
    rcases e with e | e | e | e <;> (rw [e]; decide +kernel)
  | number x i => exact (show (("number" : Str), 3) ∈ lenTable by decide +kernel)
  | nil x => exact (show (("nil" : Str), 2) ∈ lenTable by decide +kernel)
  | copy x y => exact (show (("copy" : Str), 3) ∈ lenTable by decide +kernel)
  | same x y z => exact (show (("same" : Str), 4) ∈ lenTable by decide +kernel)
  | new x c => exact (show (("new" : Str), 3) ∈ lenTable by decide +kernel)
  | get x y f => exact (show (("get" : Str), 4) ∈ lenTable by decide +kernel)
  | put x f y => exact (show (("put" : Str), 4) ∈ lenTable by decide +kernel)
  | call x g as => exact (show (("call" : Str), 4) ∈ lenTable by decide +kernel)
  | see x => exact (show (("see" : Str), 2) ∈ lenTable by decide +kernel)
  | iff x i => exact (show (("if" : Str), 3) ∈ lenTable by decide +kernel)
  | jump i => exact (show (("jump" : Str), 2) ∈ lenTable by decide +kernel)
  | ret x => exact (show (("return" : Str), 2) ∈ lenTable by decide +kernel)
/-- the table of the rows' lengths, as the text holds it -/
structure TxtL (K : PySem.W.Frag) (w : World) (mg : Str → Option Value) : Prop where
  tab : ∃ d, mg "LENGTHS" = some (.ref d) ∧ KTup K w d (lenTable.map (·.1)) ∧ ∀ k n, (k, n) ∈ lenTable → KDct K w d k (.int n)
abbrev anyRow : Rw → Prop := fun _ => True
theorem row_sort (r : Rw) : (isNumR r ∧ r.tag ∈ [("number" : Str), "if", "jump"]) ∨ (r.tag ∉ [("number" : Str), "if", "jump"] ∧ isObjR r ∧ r.tag ∈ [("new" : Str), "get", "put"]) ∨
    (r.tag ∉ [("number" : Str), "if", "jump"] ∧ r.tag ∉ [("new" : Str), "get", "put"] ∧ isCallR r ∧ r.tag = "call") ∨
    ((∃ op x y z, r = .arith op x y z) ∨ (r.tag ∉ [("number" : Str), "if", "jump"] ∧ r.tag ∉ [("new" : Str), "get", "put"] ∧ isPlainR r ∧ r.tag ≠ "call")) := by
  cases r with
  | number x i => exact .inl ⟨.inl ⟨_, _, rfl⟩, (show ("number" : Str) ∈ _ by decide +kernel)⟩
  | iff x i => exact .inl ⟨.inr (.inl ⟨_, _, rfl⟩), (show ("if" : Str) ∈ _ by decide +kernel)⟩
  | jump i => exact .inl ⟨.inr (.inr ⟨_, rfl⟩), (show ("jump" : Str) ∈ _ by decide +kernel)⟩
  | new x c => exact .inr (.inl ⟨(show ¬ ("new" : Str) ∈ _ by decide +kernel), .inl ⟨_, _, rfl⟩, (show ("new" : Str) ∈ _ by decide +kernel)⟩)
  | get x y f => exact .inr (.inl ⟨(show ¬ ("get" : Str) ∈ _ by decide +kernel), .inr (.inl ⟨_, _, _, rfl⟩), (show ("get" : Str) ∈ _ by decide +kernel)⟩)
  | put x f y => exact .inr (.inl ⟨(show ¬ ("put" : Str) ∈ _ by decide +kernel), .inr (.inr ⟨_, _, _, rfl⟩), (show ("put" : Str) ∈ _ by decide +kernel)⟩)
  | call x g as => exact .inr (.inr (.inl ⟨(show ¬ ("call" : Str) ∈ _ by decide +kernel), (show ¬ ("call" : Str) ∈ _ by decide +kernel), ⟨_, _, _, rfl⟩, rfl⟩))
  | arith op x y z => exact .inr (.inr (.inr (.inl ⟨_, _, _, _, rfl⟩)))
  | nil x => exact .inr (.inr (.inr (.inr ⟨(show ¬ ("nil" : Str) ∈ _ by decide +kernel), (show ¬ ("nil" : Str) ∈ _ by decide +kernel), .inl ⟨_, rfl⟩, (show ("nil" : Str) ≠ "call" by decide +kernel)⟩)))
  | copy x y => exact .inr (.inr (.inr (.inr ⟨(show ¬ ("copy" : Str) ∈ _ by decide +kernel), (show ¬ ("copy" : Str) ∈ _ by decide +kernel), .inr (.inl ⟨_, _, rfl⟩), (show ("copy" : Str) ≠ "call" by decide +kernel)⟩)))
  | same x y z => exact .inr (.inr (.inr (.inr ⟨(show ¬ ("same" : Str) ∈ _ by decide +kernel), (show ¬ ("same" : Str) ∈ _ by decide +kernel), .inr (.inr (.inr (.inl ⟨_, _, _, rfl⟩))), (show ("same" : Str) ≠ "call" by decide +kernel)⟩)))
  | see x => exact .inr (.inr (.inr (.inr ⟨(show ¬ ("see" : Str) ∈ _ by decide +kernel), (show ¬ ("see" : Str) ∈ _ by decide +kernel), .inr (.inr (.inr (.inr (.inl ⟨_, rfl⟩)))), (show ("see" : Str) ≠ "call" by decide +kernel)⟩)))
  | ret x => exact .inr (.inr (.inr (.inr ⟨(show ¬ ("return" : Str) ∈ _ by decide +kernel), (show ¬ ("return" : Str) ∈ _ by decide +kernel), .inr (.inr (.inr (.inr (.inr ⟨_, rfl⟩)))), (show ("return" : Str) ≠ "call" by decide +kernel)⟩)))
section
variable {P : Program} {w : World} {K : PySem.W.Frag} {mg : Str → Option Value} {base : Heap}
theorem scIsRow : FnScope ["self", "function", "row"] ["self", "function", "row"] (defScope sIsRow) := ⟨rfl, rfl, rfl, by decide +kernel, rfl, by decide +kernel, by decide +kernel⟩
theorem ok_isRow {f CS CF f1 f2 f3 f4 : Addr} {fd fd1 fd2 fd3 fd4 : FuncData} (T : Txt mg) (TL : TxtL K w mg) (TC : ClsSrc K CS) (F : Fun K "is_row" "Source.is_row" sIsRow f fd) (CW : Cal P w K mg base CX0 1 "is_word" ["thing", "words"] (spIsWord K))
    (G1 : FnOk P w K mg base CX0 3 f1 fd1 ["self", "function", "row"] (spRow CS CF isNumR)) (m1 : Meth K CS "is_number_row" f1) (b1 : Binds K fd1 ["self", "function", "row"] [])
    (G2 : FnOk P w K mg base CX0 3 f2 fd2 ["self", "function", "row"] (spRow CS CF isObjR)) (m2 : Meth K CS "is_object_row" f2) (b2 : Binds K fd2 ["self", "function", "row"] [])
    (G3 : FnOk P w K mg base CX0 3 f3 fd3 ["self", "function", "row"] (spRow CS CF isCallR)) (m3 : Meth K CS "is_call" f3) (b3 : Binds K fd3 ["self", "function", "row"] [])
    (G4 : FnOk P w K mg base CX0 3 f4 fd4 ["self", "function", "row"] (spRow CS CF isPlainR)) (m4 : Meth K CS "is_plain_row" f4) (b4 : Binds K fd4 ["self", "function", "row"] []) :
    FnOk P w K mg base CX0 4 f fd ["self", "function", "row"] (spRow CS CF anyRow) := by
  obtain ⟨fw, fdw, mw, kpw, bw, GW⟩ := CW
  obtain ⟨dl, gl, ktup, kget⟩ := TL.tab
  refine F.ok scIsRow (fun vs H Q E h => ?_) (fun cdv A outer s H vs Q E hr h => ?_)
  · obtain ⟨_, _, _, _, _, _, _, rfl, _⟩ := h
    rfl
  · obtain ⟨s, x, p, cs, fs, f, r, rfl, src, hf, gh, ghs, hrw, l1000, _, k⟩ := h
    obtain ⟨dx, cr, fk, kf, crk, fkk, kfk, fks, hs, _⟩ := id src
    obtain ⟨vs, hp, pc, ar⟩ := id hrw
    have hr1 : Room 1 _ := hr.mono (by decide)
    have hu := hr.units0
    have n1 : (srcF (.ref cr) (.ref fk) (.ref kf)).lookup ("is_number_row" : Str) = none := srcF_no (by decide +kernel) (by decide +kernel) (by decide +kernel)
    have n2 : (srcF (.ref cr) (.ref fk) (.ref kf)).lookup ("is_object_row" : Str) = none := srcF_no (by decide +kernel) (by decide +kernel) (by decide +kernel)
    have n3 : (srcF (.ref cr) (.ref fk) (.ref kf)).lookup ("is_call" : Str) = none := srcF_no (by decide +kernel) (by decide +kernel) (by decide +kernel)
    have n4 : (srcF (.ref cr) (.ref fk) (.ref kf)).lookup ("is_plain_row" : Str) = none := srcF_no (by decide +kernel) (by decide +kernel) (by decide +kernel)
    refine ⟨_, pss_cons (ps_if (PW.pt (pw_or (pt_not (pt_val (pe_callB call_isi (by rfl) T.isinstance (by decide +kernel) (pa_cons (pv 2) (pa_cons (pe_bltn (v := .ty "tuple") (by rfl) T.tuple (by decide +kernel) rfl) pa_nil))))) (pw_or (pt_cmpR (op_eqUnit hu) (pv 2) (pe_tupN pa_nil) (nomark _))
          (pw_or1 (pt_not (pt_val (pe_call GW hr1 (by rfl) mw kpw bw .nil pass0 (pa_cons (pe_ix ix_tup (pv 2) pe_int (fun _ _ => rfl)) (pa_cons (pe_callTy (call_tupKN (d := dl) rfl) (by rfl) T.tuple (by decide +kernel) (pa_cons (pe_glob (v := .ref dl) (by rfl) gl rfl) pa_nil)) pa_nil))))))))) (pss_one (ps_ret pe_bl)) pss_nil)
      (pss_cons (ps_if (pt_cmpR op_ne (pe_callB call_len_seq (by rfl) T.len PySem.boot_len (pa_cons (pv 2) pa_nil)) (pe_ix ix_kdict (pe_glob (v := .ref dl) (by rfl) gl rfl) (pe_ix ix_tup (pv 2) pe_int (fun _ _ => rfl)) (fun _ _ => rfl)) (nomark _)) (pss_one (ps_ret pe_bl)) pss_nil)
      (pss_cons (ps_if (pt_cmpR op_in_seq (pe_ix ix_tup (pv 2) pe_int (fun _ _ => rfl)) (pe_tupN (pa_cons pe_str (pa_cons pe_str (pa_cons pe_str pa_nil)))) (by rfl)) (pss_one (ps_ret (pe_meth (pv 0) TC.cl m1 G1 hr b1 .nil pass0 (pa_cons (pv 1) (pa_cons (pv 2) pa_nil))))) pss_nil)
      (pss_cons (ps_if (pt_cmpR op_in_seq (pe_ix ix_tup (pv 2) pe_int (fun _ _ => rfl)) (pe_tupN (pa_cons pe_str (pa_cons pe_str (pa_cons pe_str pa_nil)))) (by rfl)) (pss_one (ps_ret (pe_meth (pv 0) TC.cl m2 G2 hr b2 .nil pass0 (pa_cons (pv 1) (pa_cons (pv 2) pa_nil))))) pss_nil)
      (pss_one (ps_ret (pe_ifExp (pt_cmpR op_eq (pe_ix ix_tup (pv 2) pe_int (fun _ _ => rfl)) pe_str (nomark _)) (pe_meth (pv 0) TC.cl m3 G3 hr b3 .nil pass0 (pa_cons (pv 1) (pa_cons (pv 2) pa_nil))) (pe_meth (pv 0) TC.cl m4 G4 hr b4 .nil pass0 (pa_cons (pv 1) (pa_cons (pv 2) pa_nil)))))))))  , ?_⟩
    obtain ⟨more, rfl⟩ : ∃ more, vs = .str r.tag :: more := by
      have pr' := pc
      rw [Rw.cells_eq] at pr'
      cases pr' with
      | @cons v _ vs _ q _ => exact ⟨vs, by rw [show v = .str r.tag from q]⟩
    have lm : (V.str r.tag :: more).length = r.rest.length + 1 := by rw [pc.len, Rw.cells_eq]; rfl
    have tl := tag_len ar
    refine ⟨_, rfl, _, _, _, _, true, rfl, .ty "tuple", .base (.tup hp), kit_ty (by decide +kernel), true, rfl, iteF ?_⟩
    refine ⟨_, rfl, sz (by show 0 ≤ 100000; decide), fun u H1 e1 => ?_⟩
    refine ⟨p, u, _, _, rfl, rfl, SqT.of (e1.same _ _ hp), SqT.of e1.at, false, rfl, iteF ?_⟩
    have hp1 := e1.same _ _ hp
    refine ⟨_, rfl, p, _, _, _, rfl, rfl, SqT.of hp1, at_of (j := 0) rfl rfl, _, rfl, ktup, (by rw [List.length_map]; decide), fun q H2 e2 => ?_⟩
    have s02 := e1.same.trans e2.same
    have hp2 := s02 _ _ hp
    refine ⟨r.tag, q, _, rfl, SqT.of e2.at, true, ?_, iteF ?_⟩
    · rw [decide_eq_true (List.mem_map_of_mem (f := fun z : Str × Nat => z.1) tl)]
    refine ⟨_, rfl, p, _, rfl, .inr (SqT.of hp2), _, rfl, p, _, _, _, rfl, rfl, SqT.of hp2, at_of (j := 0) rfl rfl, dl, r.tag, _, rfl, rfl, kget _ _ tl, rfl, false, ?_, iteF ?_⟩
    · rw [lm]
      show V.bl (!decide (V.int ((r.rest.length + 1 : Nat) : Int) = V.int ((r.rest.length + 1 : Nat) : Int))) = V.bl false
      rw [decide_eq_true rfl]
      rfl
    refine ⟨_, rfl, p, _, _, _, rfl, rfl, SqT.of hp2, at_of (j := 0) rfl rfl, sz (by show 3 ≤ 100000; decide), fun t3 H3 e3 => ?_⟩
    have s03 := s02.trans e3.same
    have hp3 := s03 _ _ hp
    refine ⟨t3, _, rfl, .inr (SqT.of e3.at), rfl, rfl, _, rfl, ?_⟩
    show if (inV (.str r.tag) ([("number" : Str), "if", "jump"].map V.str)) = true then _ else _
    rw [inV_strs]
    have rowArg : ∀ {G : Hp} {ok : Rw → Prop}, Same H G → ok r → spRow CS CF ok [.ref s, .ref x, .ref p] G Q E0 := fun {G ok} sG ho =>
      ⟨s, x, p, cs, fs, f, r, rfl, src.mono sG, hf.mono sG, gh, ghs, hrw.mono sG, l1000, ho, fun H' s' => k H' (sG.trans s')⟩
    have rest : ¬ r.tag ∈ [("number" : Str), "if", "jump"] → (isObjR r ∧ r.tag ∈ [("new" : Str), "get", "put"]) ∨ (r.tag ∉ [("new" : Str), "get", "put"] ∧ isCallR r ∧ r.tag = "call") ∨ (r.tag ∉ [("new" : Str), "get", "put"] ∧ isPlainR r ∧ r.tag ≠ "call") := fun nt => by
      rcases row_sort r with h | h | h | h | h
      · exact absurd h.2 nt
      · exact .inl h.2
      · exact .inr (.inl h.2)
      · obtain ⟨op, a, b, c, rfl⟩ := h
        refine .inr (.inr ⟨?_, .inr (.inr (.inl ⟨_, _, _, _, rfl⟩)), ?_⟩)
        · have h := ar _ _ _ _ rfl
          exact fun z => absurd z ((show ∀ op ∈ ariths, ¬ op ∈ [("new" : Str), "get", "put"] by decide +kernel) op h)
        · have h := ar _ _ _ _ rfl
          exact (show ∀ op ∈ ariths, op ≠ ("call" : Str) by decide +kernel) op h
      · exact .inr (.inr h.2)
    refine ite2 (fun e => ?_) (fun e => ?_)
    · have e := of_decide_eq_true e
      have hn : isNumR r := by
        rcases row_sort r with h | h | h | h | h
        · exact h.1
        · exact absurd e h.1
        · exact absurd e h.1
        · obtain ⟨op, a, b, c, rfl⟩ := h
          have h := ar _ _ _ _ rfl
          exact absurd e ((show ∀ op ∈ ariths, ¬ op ∈ [("number" : Str), "if", "jump"] by decide +kernel) op h)
        · exact absurd e h.1
      exact ⟨_, rfl, s, dx, _, rfl, s03 _ _ hs, n1, _, rfl, _, rfl, rowArg s03 hn⟩
    · have e : ¬ r.tag ∈ [("number" : Str), "if", "jump"] := fun z => e (decide_eq_true z)
      refine ⟨_, rfl, p, _, _, _, rfl, rfl, SqT.of hp3, at_of (j := 0) rfl rfl, sz (by show 3 ≤ 100000; decide), fun t4 H4 e4 => ?_⟩
      have s04 := s03.trans e4.same
      have hp4 := s04 _ _ hp
      refine ⟨t4, _, rfl, .inr (SqT.of e4.at), rfl, rfl, _, rfl, ?_⟩
      show if (inV (.str r.tag) ([("new" : Str), "get", "put"].map V.str)) = true then _ else _
      rw [inV_strs]
      rcases rest e with ⟨ho, ht⟩ | ⟨nt, ho, et⟩ | ⟨nt, ho, net⟩
      · rw [decide_eq_true ht]
        exact iteT ⟨_, rfl, s, dx, _, rfl, s04 _ _ hs, n2, _, rfl, _, rfl, rowArg s04 ho⟩
      · rw [decide_eq_false nt]
        refine iteF ⟨_, rfl, p, _, _, _, rfl, rfl, SqT.of hp4, at_of (j := 0) rfl rfl, rfl, true, ?_, iteT ⟨_, rfl, s, dx, _, rfl, s04 _ _ hs, n3, _, rfl, _, rfl, rowArg s04 ho⟩⟩
        rw [et]
        rfl
      · rw [decide_eq_false nt]
        refine iteF ⟨_, rfl, p, _, _, _, rfl, rfl, SqT.of hp4, at_of (j := 0) rfl rfl, rfl, false, ?_, iteF ⟨_, rfl, s, dx, _, rfl, s04 _ _ hs, n4, _, rfl, _, rfl, rowArg s04 ho⟩⟩
        show V.bl (decide (V.str r.tag = V.str "call")) = V.bl false
        rw [decide_eq_false fun z => net (V.str.inj z)]
end
end K12

namespace K12
open PySem PySem.Spec PyProof.Rows L2
abbrev sAgrees : Stmt := inClass (topS 36) 1
abbrev sSetFns : Stmt := inClass (topS 36) 2
def spAgrees (CS : Addr) : Sp := fun vs H Q _ => ∃ (s a dx fk : Addr) (fs : List (Str × V)) (fkk : List (Key × V)) (ds : List Dcl), vs = [.ref s, .ref a] ∧ H s = some (.ins CS dx fs) ∧ fs.lookup ("field_kinds" : Str) = some (.ref fk) ∧ H fk = some (.dK fkk) ∧ DclsAt H a ds ∧ ds.length ≤ 100 ∧
  (∀ d ∈ ds, valV fkk (Sum.inr d.1) = none ∨ valV fkk (Sum.inr d.1) = some (.str (kd d.2))) ∧ ∀ H', Same H H' → Q (.bl true) H'
def spSetFns (CS CF : Addr) : Sp := fun vs H Q _ => ∃ (s b dx kf : Addr) (as : List (Str × V)) (fs : List Fn), vs = [.ref s, .ref b] ∧ H s = some (.ins CS dx as) ∧ as.lookup ("kept_functions" : Str) = some (.ref kf) ∧ H kf = some (.dK []) ∧ LsAt FrV (hid [kf] H) b fs ∧ GoodHds (fs.map (·.1)) ∧
  (∀ f ∈ fs, 1 ≤ f.2.length ∧ f.2.length ≤ 40) ∧ ∀ kfk H', Sm [kf] H H' → H' kf = some (.dK kfk) → Paired (KeptV CF (hid [kf] H')) kfk fs → Q .non H'
section
variable {P : Program} {w : World} {K : PySem.W.Frag} {mg : Str → Option Value} {base : Heap}
theorem scAgrees : FnScope ["self", "fields", "name", "kind"] ["self", "fields"] (defScope sAgrees) := ⟨rfl, rfl, rfl, by decide +kernel, rfl, by decide +kernel, by decide +kernel⟩
theorem ok_agrees {f CS : Addr} {fd : FuncData} (T : Txt mg) (TC : ClsSrc K CS) (F : Fun K "agrees" "Source.agrees" sAgrees f fd) : FnOk P w K mg base CX0 1 f fd ["self", "fields"] (spAgrees CS) := by
  refine F.ok scAgrees (fun vs H Q E h => ?_) (fun cdv A outer s H vs Q E hr h => ?_)
  · obtain ⟨_, _, _, _, _, _, _, rfl, _⟩ := h
    rfl
  · obtain ⟨s, a, dx, fk, fs, fkk, ds, rfl, hs, lk, hfk, ⟨vs, ha, pd⟩, l100, ok, k⟩ := h
    have hu := hu_of hr
    refine ⟨_, pss_one (ps_ret (pe_callB (cr_all rfl) (by rfl) T.all (by decide +kernel) (pa_cons (pe_lc (own := [("name", 2), ("kind", 3)]) (g := g2 K 2 3) (tt := tYes) rfl scAgrees.nd (pi_list (pv 1))
              (blkOk_by (N := ["self", "fields", "name", "kind"]) (sc := defScope sAgrees) (by decide +kernel)) (fun _ _ _ _ _ => pg_two 2 3 rfl scAgrees.nd rfl rfl (.inl rfl) (.inl rfl)) (fun _ _ _ _ _ => pts_nil)
              (te := tOp rEq (tDGet2 (tFld K (tVar 0) "field_kinds") (tVar 2) (tVar 3)) (tVar 3)) (fun _ _ _ _ _ => pe_cmpR op_eq (pe_dget2 hu (pe_fld (pv 0) rfl) (pv 2) (pv 3) ⟨rfl, rfl, rfl, rfl⟩) (pv 3) (nomark _))) pa_nil))), ?_⟩
    refine ⟨_, rfl, a, rfl, ⟨_, SqL.of ha⟩, fun D1 hD1 => lc_map (K := K) (a := a) (xs := vs) (fun i ys H' => Same H H' ∧ ∃ bs : List Bool, ys = bs.map V.bl ∧ ∀ b ∈ bs, b = true) (by rw [pd.len]; omega) hD1 (fun H' n => ⟨n.same, [], rfl, fun _ m => nomatch m⟩) (fun _ _ _ _ _ I => SqL.of (I.1 _ _ ha)) ?_ ?_⟩
    · rintro i y ys H' hi hD' lys ⟨s', bs, rfl, hb⟩
      obtain ⟨d, hd, q, rfl, hq⟩ := pd.get hi
      have hfk' := s' _ _ hfk
      refine ⟨q, _, rfl, SqT.of (s' _ _ hq), rfl, _, _, rfl, _, _, rfl, rfl, rfl, ?_⟩
      refine ⟨_, rfl, s, CS, dx, _, _, rfl, s' _ _ hs, TC.cl, TC.n2, lk, fk, rfl, .inl ⟨_, .inl hfk'⟩, _, rfl, _, rfl, _, DGet.k (k := Sum.inr d.1) hfk', _, rfl, ?_⟩
      have e : (valV fkk (Sum.inr d.1)).getD (V.str (kd d.2)) = .str (kd d.2) := by
        rcases ok d (ix_mem hd) with z | z <;> rw [z] <;> rfl
      rw [e]
      refine ⟨rfl, _, hD', lys, fun H5 p5 => ⟨by rw [p5.eq]; exact same_own s' hD1, bs ++ [true], ?_, fun b hb' => ?_⟩⟩
      · rw [decide_eq_true rfl, List.map_append]
        rfl
      · rcases List.mem_append.mp hb' with q | q
        · exact hb b q
        · exact List.mem_singleton.mp q
    · rintro ys H' hD' lys ⟨s', bs, rfl, hb⟩
      refine ⟨D1, bs, rfl, SqL.of hD', ?_⟩
      have : bs.all id = true := List.all_eq_true.mpr hb
      rw [this]
      exact k H' s'
theorem scSetFns : FnScope ["self", "functions", "at", "thing"] ["self", "functions"] (defScope sSetFns) := ⟨rfl, rfl, rfl, by decide +kernel, rfl, by decide +kernel, by decide +kernel⟩
theorem ok_setFns {f CS CF fI : Addr} {fd fdI : FuncData} (T : Txt mg) (TS : TxtS K mg) (TC : ClsSrc K CS) (F : Fun K "set_functions" "Source.set_functions" sSetFns f fd) (CL : Cal P w K mg base CX0 1 "is_list" ["thing", "least", "most"] spIsList) (CH : Cal P w K mg base CX0 4 "is_head" ["thing"] spIsHead)
    (M : Mk K CF fI) (GI : FnOk P w K mg base CX0 2 fI fdI ["self", "title", "inputs", "extras", "result_kind", "rows"] (spFnInit CF)) (bI : Binds K fdI ["self", "title", "inputs", "extras", "result_kind", "rows"] []) (mF : mg "Function" = some (.ref CF)) :
    FnOk P w K mg base CX0 5 f fd ["self", "functions"] (spSetFns CS CF) := by
  obtain ⟨f1, fd1, m1, kp1, b1, G1⟩ := CL
  obtain ⟨f2, fd2, m2, kp2, b2, G2⟩ := CH
  obtain ⟨t6, g6⟩ := TS.functions
  refine F.ok scSetFns (fun vs H Q E h => ?_) (fun cdv A outer s H vs Q E hr h => ?_)
  · obtain ⟨_, _, _, _, _, _, rfl, _⟩ := h
    rfl
  · obtain ⟨s, b, dx, kf, as, fs, rfl, hs, lk, hkf, hfs, ghs, rl, k⟩ := h
    have hr1 : Room 1 _ := hr.mono (by decide)
    have hr3 : Room 3 _ := hr.mono (by decide)
    have hu := hu_of hr
    refine ⟨_, pss_cons (ps_if (pt_not (pt_val (pe_call G1 hr1 (by rfl) m1 kp1 b1 .nil pass0 (pa_cons (pv 1) (pa_cons pe_int (pa_cons (pe_glob (v := .int 6) (by rfl) g6 ⟨_, rfl⟩) pa_nil)))))) (pss_one ps_never) pss_nil)
      (pss_one (ps_for PassesOwn.never rfl (pi_enum (by rfl) T.enumerate (pa_cons (pv 1) pa_nil)) (pg_tup rfl (pgs_cons (pg_name (i := 2) scSetFns.nd rfl (.inl rfl)) (pgs_cons (pg_name (i := 3) scSetFns.nd rfl (.inl rfl)) pgs_nil)))
        (pss_cons (ps_if (PW.pt (pw_or (pt_not (pt_val (pe_call G2 hr (by rfl) m2 kp2 b2 .nil pass0 (pa_cons (pv 3) pa_nil)))) (pw_or1 (pt_cmp (pc_din hu (pe_ix ix_tup (pv 3) pe_int (fun _ _ => rfl)) (pe_fld (pv 0) rfl)))))) (pss_one ps_never) pss_nil)
        (pss_one (ps_dput hu (pe_fld (pv 0) rfl) (pe_ix ix_tup (pv 3) pe_int (fun _ _ => rfl)) (pe_make M GI hr3 (by rfl) mF bI .nil pass0 (pa_cons (pe_ix ix_tup (pv 3) pe_int (fun _ _ => rfl)) (pa_cons (pe_ix ix_tup (pv 3) pe_int (fun _ _ => rfl)) (pa_cons (pe_ix ix_tup (pv 3) pe_int (fun _ _ => rfl))
            (pa_cons (pe_ix ix_tup (pv 3) pe_int (fun _ _ => rfl)) (pa_cons (pe_ix ix_tup (pv 3) pe_int (fun _ _ => rfl)) pa_nil)))))) rfl))))), ?_⟩
    obtain ⟨vb, hvb, pb⟩ := id hfs
    have l6 : fs.length ≤ 6 := by have := ghs.le; rw [List.length_map] at this; exact this
    have l1 : 1 ≤ fs.length := by
      have := ghs.ne
      cases fs with
      | nil => exact absurd rfl this
      | cons _ _ => exact Nat.succ_pos _
    have lb : vb.length = fs.length := pb.len
    refine ⟨_, rfl, b, vb, 1, 6, rfl, (hid_some hvb).1, true, (by rw [decide_eq_true (show (1 : Int) ≤ (vb.length : Nat) ∧ ((vb.length : Nat) : Int) ≤ 6 by omega)]), iteF ?_⟩
    refine ⟨_, rfl, b, vb, rfl, SqL.of (hid_some hvb).1, ?_⟩
    have nsk : s ≠ kf := ne_of hs hkf (fun z => nomatch z)
    refine for_it (walk_enum (K := K) (a := b) (xs := vb)) (fun i σ H' => ∃ (v2 v3 : Option V) (kvs : List (Key × V)), σ = [some (.ref s), some (.ref b), v2, v3] ∧ Sm [kf] H H' ∧ H' kf = some (.dK kvs) ∧ Paired (KeptV CF (hid [kf] H')) kvs (fs.take i))
      ⟨none, none, [], rfl, Sm.refl _ _, hkf, .nil⟩ (fun i σ H' _ I => by obtain ⟨_, _, _, _, s', _⟩ := I; exact SqL.of (hid_some (s' _ _ hvb)).1) ?_ ?_
    · rintro i y σ H' H'' hi ⟨v2, v3, kvs, rfl, s', hk', pk⟩ ⟨tt, x1, x2, rfl, ntt, eH, ex1, ex2⟩
      cases ex1
      obtain ⟨fn, hfn, p, L, rfl, hp, hL⟩ := pb.get ex2
      have nt : New H' tt (.tup [.int (i : Nat), .ref p]) H'' := ⟨ntt, eH⟩
      have gf := ghs.each fn.1 (List.mem_map_of_mem (f := fun f : Fn => f.1) (ix_mem hfn))
      have rl1 := rl fn (ix_mem hfn)
      have s2 : Sm [kf] H H'' := s'.trans nt.sm
      have hk2 := nt.same _ _ hk'
      have hs2 : H'' s = some (.ins CS dx as) := s2.get hs (by simpa using nsk)
      have hp2 := hp.mono s2
      obtain ⟨vL, hvL, pL⟩ := hL.mono s2
      refine ⟨tt, _, rfl, SqT.of nt.at, rfl, _, _, rfl, _, _, rfl, rfl, ?_⟩
      refine ⟨_, rfl, p, L, fn.1, vL, rfl, hp2.mono (hid_sub _ _), gf, (hid_some hvL).1, by rw [pL.len]; exact rl1.1, by rw [pL.len]; exact rl1.2, fun H3 s3 => ⟨true, rfl, iteF ?_⟩⟩
      have x3 : Sm [kf] H H3 := s2.trans (Sm.of s3)
      have hk3 := s3 _ _ hk2
      have hs3 := s3 _ _ hs2
      have hp3 := hp.mono x3
      obtain ⟨ii, oo, hpp, hii, hoo⟩ := id hp3
      have hpq := (hid_some hpp).1
      have kk := kept_keys pk
      have fresh : valV kvs (Sum.inr fn.1.name) = none := by
        cases e : valV kvs (Sum.inr fn.1.name) with
        | none => rfl
        | some v =>
          have m1 := valV_in e
          rw [kk] at m1
          obtain ⟨x, hx, e1⟩ := List.mem_map.mp m1
          have e1 : x = fn.1.name := Sum.inr.inj e1
          rw [e1] at hx
          have n2 : ((fs.take (i + 1)).map fun f => f.1.name).Nodup := by
            have := ghs.nd
            rw [List.map_map] at this
            exact this.sublist ((List.take_sublist _ _).map _)
          rw [take_more hfn, List.map_append] at n2
          exact absurd rfl ((List.nodup_append.mp n2).2.2 fn.1.name hx fn.1.name (List.mem_singleton.mpr rfl))
      refine ⟨_, rfl, p, _, _, _, rfl, rfl, SqT.of hpq, at_of (j := 0) rfl rfl, _, rfl, s, CS, dx, _, _, rfl, hs3, TC.cl, TC.n3, lk, kf, _, rfl, DGet.k (k := Sum.inr fn.1.name) hk3, false, (by rw [fresh]; rfl), iteF ?_⟩
      refine ⟨_, rfl, p, _, _, _, rfl, rfl, SqT.of hpq, at_of (j := 0) rfl rfl, _, rfl, p, _, _, _, rfl, rfl, SqT.of hpq, at_of (j := 1) rfl rfl, _, rfl, p, _, _, _, rfl, rfl, SqT.of hpq, at_of (j := 2) rfl rfl, _, rfl, p, _, _, _, rfl, rfl, SqT.of hpq, at_of (j := 3) rfl rfl,
        _, rfl, p, _, _, _, rfl, rfl, SqT.of hpq, at_of (j := 4) rfl rfl, fun x dd nx nd ned => ?_⟩
      -- the new instance
      obtain ⟨H4, e4⟩ : ∃ H4, H4 = upd (upd H3 dd (.own x)) x (.ins CF dd []) := ⟨_, rfl⟩
      rw [← e4]
      have x34 : Same H3 H4 := by
        rw [e4]
        exact same_new (same_new (Same.refl _) nd) (by rw [upd_ne ned.symm]; exact nx)
      have hx4 : H4 x = some (.ins CF dd []) := by rw [e4]; exact upd_same
      have nkx : kf ≠ x := ne_of_none hk3 nx
      have up4 : Same (hid [kf] H3) (hid [x] H4) := fun b' u' e' => hid_get (x34 _ _ (hid_some e').1) (by simpa using ne_of_none (hid_some e').1 nx)
      have L3 : RwsAt (hid [kf] H3) L fn.2 := hL.mono x3
      refine ⟨x, dd, ii, oo, L, fn, rfl, hx4, hii.mono up4, hoo.mono up4, gf.len, L3.mono up4, by have := rl1.2; omega, fun H5 s5 fx fresh2 => ⟨rfl, ?_⟩⟩
      have keep5 : ∀ {b' : Addr} {u' : HO}, H3 b' = some u' → H5 b' = some u' := fun {b' u'} e' => s5.get (x34 _ _ e') (by simpa using ne_of_none e' nx)
      have x35 : Same H3 H5 := fun b' u' e' => keep5 e'
      have hk5 := x35 _ _ hk3
      refine ⟨_, rfl, s, CS, dx, _, _, rfl, x35 _ _ hs3, TC.cl, TC.n3, lk, _, rfl, p, _, _, _, rfl, rfl, SqT.of (x35 _ _ hpq), at_of (j := 0) rfl rfl, kf, _, rfl, DPut.k (k := Sum.inr fn.1.name) hk5 ?_, ?_⟩
      · have := congrArg List.length kk
        rw [List.length_map, List.length_map, List.length_map, List.length_take] at this
        exact sz' (by omega)
      obtain ⟨H6, e6⟩ : ∃ H6, H6 = upd H5 kf (.dK (putK kvs (Sum.inr fn.1.name) (.ref x))) := ⟨_, rfl⟩
      rw [← e6]
      have p6 : Put H5 kf (.dK (putK kvs (Sum.inr fn.1.name) (.ref x))) H6 := ⟨e6⟩
      have x56 : Sm [kf] H5 H6 := p6.sm List.mem_cons_self
      have x36 : Sm [kf] H3 H6 := (Sm.of x35 : Sm [kf] H3 H5).trans x56
      refine ⟨_, _, _, rfl, x3.trans x36, p6.at, ?_⟩
      rw [putK_new _ fresh, take_more hfn]
      have xk : Sm [kf] H' H6 := (nt.sm.trans (Sm.of s3)).trans x36
      refine (pk.imp fun _ _ z => z.mono xk).app (.one ⟨rfl, x, rfl, ?_⟩)
      -- the new Function does not rest on the dict
      obtain ⟨dy, i2, o2, k2, l2, f1, f2, f3, f4⟩ := fx
      have nd5 : ∀ {b' : Addr} {u' : HO}, H5 b' = some u' → u' ≠ .dK kvs → hid [kf] H6 b' = some u' := fun {b' u'} e' n' => x56 _ _ (hid_get e' (by
        have : b' ≠ kf := fun z => n' (by rw [z, hk5] at e'; exact (Option.some.inj e').symm)
        simpa using this))
      obtain ⟨vi2, hi2, pi2⟩ := f2
      obtain ⟨vl2, hl2, pl2⟩ := f4
      refine ⟨dy, i2, o2, k2, l2, nd5 f1 (fun z => nomatch z), ⟨vi2, nd5 hi2 (fun z => nomatch z), pi2.imp fun _ _ ⟨q, e, h⟩ => ⟨q, e, nd5 h (fun z => nomatch z)⟩⟩, ?_, ⟨vl2, nd5 hl2 (fun z => nomatch z), pl2.imp fun _ _ ⟨q, more, e, h⟩ => ⟨q, more, e, nd5 h (fun z => nomatch z)⟩⟩⟩
      have nkk : k2 ≠ kf := fun z => by
        have q := fresh2 _ _ _ _ _ _ _ f1
        rw [z, x34 _ _ hk3] at q
        cases q
      exact x56 _ _ (hid_get f3 (by simpa using nkk))
    · rintro σ H' ⟨v2, v3, kvs, rfl, s', hk', pk⟩
      rw [lb, List.take_length] at pk
      exact k kvs H' s' hk' pk
end
end K12

/-! for i, v in enumerate(d.values()): what the iterator over a dict's values draws, enumerate over it. -/
namespace K12
open PySem PySem.Spec PyProof.Rows
open Builtin Builtin.Str
section
variable {prog : Program} {w : World} {A : Around} {E : Value → Shared → Prop} {s : Shared} {it d : Addr} {i ep : Nat} {es : Array DictEntry}
theorem vals_next {Q : Value → Shared → Prop} (J : s.heap.IsValIter it d i es.size ep) (D : s.heap.DictRaw d es ep) (lt : i < es.size)
    (q : ∀ h', h'.IsValIter it d (i + 1) es.size ep → Heap.SameBut it s.heap h' → Q es[i].val { s with heap := h' }) : wpAny (model prog w) A (Builtin.SmallTypes.nextOf (.ref it)) Q E s := by
  obtain ⟨oi, goi, coi, doi⟩ := id J
  obtain ⟨od, god, cod, dod⟩ := id D
  have nown : Builtin.Dict_items.ownsTuple "dict_valueiterator" = false := by decide
  have nx : (s.heap.update it (Obj.mapFields (·.setIfInBounds 1 (rawInt ((i : Int) + 1))))).IsValIter it d (i + 1) es.size ep := ⟨_, Heap.get?_update_self _ goi (Obj.isFreed_of_fields (Obj.data_mapFields doi _)), (Obj.cls_mapFields ..).trans coi, by
    rw [Obj.data_mapFields doi]
    simp [rawInt]⟩
  unfold Builtin.SmallTypes.nextOf
  refine wpAny_bind (wpAny_callSpecial?_slot (name := Str.ofString "__next__") J.typeIs F.slot_dict_valueiterator_next (wpAny_call_entry F.slot_dict_valueiterator_next J.typeIs F.entry_dict_valueiterator_next ?_ (F.args_dict_valueiterator_next_1 _)))
  refine wpAny_bind (wpAny_pure (wpAny_bind (wpAny_bind ?_)))
  first
    | refine wpAny_bind (wpAny_typeNameOfWhole_valiter J.typeIs (wpAny_pure (wpAny_bind (wpAny_fieldsOf goi doi ?_))))
    | refine wpAny_bind (wpAny_typeNameOf_valiter J.typeIs (wpAny_pure (wpAny_bind (wpAny_fieldsOf goi doi ?_))))
  simp only [nown, if_false, Bool.false_eq_true]
  show wpAny (model prog w) _ (if (Value.ref d == Value.none) = true then _ else _) _ _ s
  rw [if_neg (show ¬ (Value.ref d == Value.none) = true from Bool.false_ne_true)]
  refine wpAny_bind (wpAny_pure (wpAny_bind (wpAny_dictEntries god dod ?_)))
  rw [if_neg (by simp)]
  refine wpAny_bind (wpAny_pure (wpAny_bind (wpAny_dictEpoch god dod ?_)))
  rw [if_neg (by simp)]
  refine wpAny_pure ?_
  simp only [show ¬ ((i : Int) < 0) from by omega, Int.toNat_natCast, Array.getElem?_eq_getElem lt, if_false]
  refine wpAny_bind ?_
  first
    | refine wpAny_bind (wpAny_typeNameOfWhole_valiter J.typeIs (wpAny_pure (wpAny_bind (wpAny_isOneOf_valiter J.typeIs ?_))))
    | refine wpAny_bind (wpAny_typeNameOf_valiter J.typeIs (wpAny_pure (wpAny_bind (wpAny_isOneOf_valiter J.typeIs ?_))))
  show wpAny (model prog w) _ (setField (.ref it) 1 (rawInt ((i : Int) + 1)) >>= _) _ _ s
  refine wpAny_bind (wpAny_setField goi doi (by simp) (wpAny_bind (wpAny_holding ?_)))
  refine wpAny_bind (wpAny_isOneOf_valiter (s := { s with heap := s.heap.update it (Obj.mapFields (·.setIfInBounds 1 (rawInt ((i : Int) + 1)))) }) nx.typeIs (wpAny_bind (wpAny_isOneOf_valiter (s := { s with heap := s.heap.update it (Obj.mapFields (·.setIfInBounds 1 (rawInt ((i : Int) + 1)))) }) nx.typeIs ?_)))
  show wpAny (model prog w) _ (pure es[i].val) _ _ _
  exact wpAny_pure (wpAny_pure ⟨_, rfl, wpAny_pure (q _ nx (Heap.SameBut.update ..))⟩)
theorem vals_done {Q : Value → Shared → Prop} (hh : A.handled = none) (J : s.heap.IsValIter it d i es.size ep) (D : s.heap.DictRaw d es ep) (ge : es.size ≤ i)
    (q : ∀ h' e, Heap.ExtBut it s.heap h' → (∃ o, h'.get? e = some o ∧ o.cls = .type "StopIteration") → E (.ref e) { s with heap := h' }) : wpAny (model prog w) A (Builtin.SmallTypes.nextOf (.ref it)) Q E s := by
  obtain ⟨oi, goi, coi, doi⟩ := id J
  obtain ⟨od, god, cod, dod⟩ := id D
  have nown : Builtin.Dict_items.ownsTuple "dict_valueiterator" = false := by decide
  unfold Builtin.SmallTypes.nextOf
  refine wpAny_bind (wpAny_callSpecial?_slot (name := Str.ofString "__next__") J.typeIs F.slot_dict_valueiterator_next (wpAny_call_entry F.slot_dict_valueiterator_next J.typeIs F.entry_dict_valueiterator_next ?_ (F.args_dict_valueiterator_next_1 _)))
  refine wpAny_bind (wpAny_pure (wpAny_bind (wpAny_bind ?_)))
  first
    | refine wpAny_bind (wpAny_typeNameOfWhole_valiter J.typeIs (wpAny_pure (wpAny_bind (wpAny_fieldsOf goi doi ?_))))
    | refine wpAny_bind (wpAny_typeNameOf_valiter J.typeIs (wpAny_pure (wpAny_bind (wpAny_fieldsOf goi doi ?_))))
  simp only [nown, if_false, Bool.false_eq_true]
  show wpAny (model prog w) _ (if (Value.ref d == Value.none) = true then _ else _) _ _ s
  rw [if_neg (show ¬ (Value.ref d == Value.none) = true from Bool.false_ne_true)]
  refine wpAny_bind (wpAny_pure (wpAny_bind (wpAny_dictEntries god dod ?_)))
  rw [if_neg (by simp)]
  refine wpAny_bind (wpAny_pure (wpAny_bind (wpAny_dictEpoch god dod ?_)))
  rw [if_neg (by simp)]
  refine wpAny_pure ?_
  simp only [show ¬ ((i : Int) < 0) from by omega, Int.toNat_natCast, Array.getElem?_eq_none ge, if_false]
  refine wpAny_bind ?_
  first
    | refine wpAny_bind (wpAny_typeNameOfWhole_valiter J.typeIs (wpAny_pure ?_))
    | refine wpAny_bind (wpAny_typeNameOf_valiter J.typeIs (wpAny_pure ?_))
  show wpAny (model prog w) _ (setField (.ref it) 0 .none >>= _) _ _ s
  refine wpAny_bind (wpAny_setField goi doi (by simp) ?_)
  show wpAny (model prog w) _ (newExc (.type "StopIteration") [] >>= _) _ _ _
  simp only [newExc, newTuple]
  refine wpAny_bind (wpAny_bind (wpAny_newObj_type (wpAny_bind (m := firstArgMember _ _) (wpAny_of_eq (a := Value.none) (by first | rfl | (simp only [firstArgMember]; rfl)) (wpAny_newObj_type ?_ (by size_fits)))) (by size_fits)))
  simp only [raiseNew]
  refine wpAny_bind (wpAny_handled ?_)
  first | rw [show A.in1.handled = none from hh] | rw [hh]
  refine wpAny_bind (wpAny_pure (wpAny_throw ?_))
  exact q _ _ (((Heap.SameBut.update ..).extBut.push _).push _) ⟨_, Heap.get?_push_size _ rfl, rfl⟩
/-- what an iterator over a dict's values draws -/
theorem draws_vals (hh : A.handled = none) (it d : Addr) (ne : d ≠ it) (es : Array DictEntry) (ep : Nat) :
    Draws prog w A it [it, d] es.size (fun i v => ∃ h : i < es.size, v = es[i].val) (fun i h => h.IsValIter it d i es.size ep ∧ h.DictRaw d es ep) where
  live := fun _ _ st => let ⟨o, e, _⟩ := st.1; ⟨o, e⟩
  frame := fun _ _ _ st k => ⟨let ⟨o, e, r⟩ := st.1; ⟨o, k it (by simp) o e, r⟩, st.2.at fun o e => k d (by simp) o e⟩
  item := fun i s Q E lt st q => vals_next st.1 st.2 lt fun h' n sb => q _ h' s.toks ⟨lt, rfl⟩ ⟨n, st.2.at fun o e => (sb.2 d ne).trans e⟩ sb
  done := fun s Q E st q => vals_done hh st.1 st.2 (Nat.le_refl _) q
end
/-- iter(a view of values) -/
theorem begins_vals (V d : Addr) (es : Array DictEntry) (ep : Nat) : Begins (.ref V) { cls := .type "dict_valueiterator", data := .fields #[.ref d, .int 0 0, .int es.size 0, .int ep 0] } fun h => h.IsValuesView V d ∧ h.DictRaw d es ep where
  iter := fun prog w A E s Q x q => wpAny_pyIter_values_raw x.1 x.2 q
  keeps := fun h h' x k => ⟨let ⟨o, e, r⟩ := x.1; ⟨o, k _ _ e, r⟩, x.2.at fun o e => k d o e⟩
  free := rfl
set_option maxHeartbeats 4000000 in
theorem meets_enum1 {v : Value} {o : Obj} {H : Heap → Prop} (B : Begins v o H) :
    Meets (Builtin.«enumerate.__new__» ⟨[.type "enumerate", v], []⟩) (fun _ R s => H s.heap ∧
      R (.ok (.ret (.ref (s.heap.push o).objs.size))) { s with heap := (s.heap.push o).push { cls := .type "enumerate", data := .fields #[.none, .bool false, .ref s.heap.objs.size, rawInt 0, .none, .none] } }) :=
  .of_wp fun prog w A R s h => by
    obtain ⟨hp, g, d, tk, os⟩ := s
    obtain ⟨h1, h⟩ := h
    have hsub := sub_enumerate
    have go : ∀ {A' : Around} {E : Value → Shared → Prop} {Q : Value → Shared → Prop}, Q (.ref hp.objs.size) ⟨hp.push o, g, d, tk, os⟩ → wpAny (model prog w) A' (pyIter v) Q E ⟨hp, g, d, tk, os⟩ := fun q => B.iter prog w _ _ ⟨hp, g, d, tk, os⟩ _ h1 q
    wp_walk using go
    refine wpAny_stack_any fun st => wpAny_pure ?_
    split
    · rename_i c _ _ _ _ _
      cases c == Value.type "enumerate" <;> (wp_walk using go; exact ⟨_, rfl, h⟩)
    · wp_walk using go
      exact ⟨_, rfl, h⟩
theorem call_enum1 {prog : Program} {w : World} {A : Around} {E : Value → Shared → Prop} {s : Shared} {v : Value} {o : Obj} {H : Heap → Prop} {Q : Value → Shared → Prop} (B : Begins v o H) (h1 : H s.heap)
    (h : ∀ h', IsEnum h' (s.heap.objs.size + 1) s.heap.objs.size 0 .none → h'.get? s.heap.objs.size = some o → h'.objs.size = s.heap.objs.size + 2 → (∀ b o, s.heap.get? b = some o → h'.get? b = some o) → Q (.ref (s.heap.objs.size + 1)) { s with heap := h' }) :
    wpAny (model prog w) A (call (.type "enumerate") [v]) Q E s := by
  refine callType_new F.called_enumerate (by decide) (F.typeCall_enumerate_1 _) (F.newCall_enumerate_1 _) (fun obj => F.args_object_init_2 obj _) F.entry_enumerate_new (meets_enum1 B) ⟨h1, ?_⟩
  have sz1 : (s.heap.push o).objs.size = s.heap.objs.size + 1 := Heap.size_push ..
  show _ ∧ _
  rw [sz1]
  have he : IsEnum ((s.heap.push o).push { cls := .type "enumerate", data := .fields #[.none, .bool false, .ref s.heap.objs.size, rawInt 0, .none, .none] }) (s.heap.objs.size + 1) s.heap.objs.size 0 .none := by
    have z := Heap.get?_push_size (s.heap.push o) (o := { cls := .type "enumerate", data := .fields #[.none, .bool false, .ref s.heap.objs.size, rawInt 0, .none, .none] }) rfl
    rw [sz1] at z
    exact z
  exact ⟨⟨_, he, rfl⟩, h _ he (Heap.get?_push_of_some _ (Heap.get?_push_size _ B.free)) (by rw [Heap.size_push, sz1]) fun b u x => Heap.get?_push_of_some _ (Heap.get?_push_of_some _ x)⟩
end K12

/-! for i, v in enumerate(d.values()), d locked. -/
namespace K12
open PySem PySem.Spec PyProof.Rows L2
/-- the values of the locked dict, each in a new pair with its place -/
def Iev (d : Addr) (o : Obj) (kvs : List (Key × V)) : It :=
  ⟨fun i H => H d = some (.frz o (.dK kvs)) ∧ i < kvs.length, fun i H v H' => ∃ T k x, v = .ref T ∧ H T = none ∧ H' = upd H T (.tup [.int (i : Nat), x]) ∧ kvs[i]? = some (k, x), fun i H => H d = some (.frz o (.dK kvs)) ∧ kvs.length ≤ i⟩
theorem walk_ev {d : Addr} {o : Obj} {kvs : List (Key × V)} : Walk (Iev d o kvs) kvs.length (fun H => H d = some (.frz o (.dK kvs))) (fun i H v H' => ∃ T k x, v = .ref T ∧ New H T (.tup [.int (i : Nat), x]) H' ∧ kvs[i]? = some (k, x)) :=
  ⟨fun _ _ lt g => ⟨g, lt⟩, fun _ g => ⟨g, Nat.le_refl _⟩, fun _ _ _ _ _ _ ⟨T, k, x, e, n, h, q⟩ => ⟨T, k, x, e, ⟨n, h⟩, q⟩⟩
section
variable {P : Program} {w : World} {K : PySem.W.Frag} {d : Addr} {o : Obj} {es : Array DictEntry} {ep : Nat}
theorem turn_ev {elts : List PySem.Expr} {kk : Nat} {tpos : Pos} {kvs : List (Key × V)} (e it : Addr) (hod : o.data = .dict es ep) :
    Turn P w K (.Tuple elts kk tpos) (Iev d o kvs) [e, it] e (fun i h => (∃ old, IsEnum h e it ((i : Nat) : Int) old) ∧ h.IsValIter it d i es.size ep ∧ e ≠ it ∧ i ≤ es.size) where
  mem := List.mem_cons_self
  obj := fun i h st b hb => by
    obtain ⟨⟨old, he⟩, ⟨u, hu, _, du⟩, _, _⟩ := st
    rcases List.mem_cons.mp hb with z | z
    · rw [z]; exact ⟨_, he, fun v q => nomatch q⟩
    · rw [List.mem_singleton.mp z]; exact ⟨u, hu, fun v q => by rw [du] at q; cases q⟩
  keep := fun i h h' st k => let ⟨⟨old, he⟩, ⟨u, hu, r⟩, ne, z⟩ := st; ⟨⟨old, k e (by simp) _ he⟩, ⟨u, k it (by simp) _ hu, r⟩, ne, z⟩
  item := by
    intro X hP hw hK hc i pins s σ H E I hf st hg
    subst hP hw hK
    obtain ⟨⟨old, he⟩, hit, hne, hle⟩ := st
    obtain ⟨hd, hi⟩ := hg
    obtain ⟨low, god, exd, es', ep', vs, hdt, hsz, kv, hm⟩ := I.frzK hd
    obtain ⟨rfl, rfl⟩ := dict_ep hod hdt
    have raw : s.heap.DictRaw d es' ep' := ⟨o, god, exd, hdt⟩
    have ned : e ≠ d := fun z => by have := (hf e (by simp)).1; rw [z, hd] at this; cases this
    have nid : d ≠ it := fun z => by have := (hf it (by simp)).1; rw [← z, hd] at this; cases this
    have hh : X.A.in1.handled = none := I.ok.hd hc
    have lt : i < es'.size := by rw [hsz]; exact hi
    have le : e < s.heap.objs.size := Heap.lt_size he
    have li : it < s.heap.objs.size := let ⟨_, q, _⟩ := hit; Heap.lt_size q
    obtain ⟨⟨k, v⟩, hkv⟩ : ∃ p, kvs[i]? = some p := ⟨kvs[i], List.getElem?_eq_getElem hi⟩
    obtain ⟨u, hu, ru⟩ := kv_get kv hkv
    have hval : es'[i].val = u := by
      obtain ⟨o2, es2, go2, _, dt2, _, hp, _⟩ := hm
      rw [god] at go2
      cases go2
      obtain ⟨rfl, _⟩ := dict_ep hdt dt2
      exact (hp.get? (e := es2[i]) (by simp [lt]) hu).2
    refine wpAny_pyNext_enum_itemD (draws_vals hh it d nid es' ep') he ⟨hit, raw⟩ lt hne (by simpa using ⟨hne, ned⟩) fun x h' tk hx ho st' hT hz hk => ?_
    obtain ⟨_, ex⟩ := hx
    rw [hval] at ex
    subst ex
    refine ⟨_, rfl, wpAny_letOwnedTupleGo_enum (s := { s with heap := h', toks := tk + 1 }) ho fun h'' he' sb => ?_⟩
    have hT2 : h''.get? s.heap.objs.size = some { cls := .type "tuple", data := .seq #[.int i tk, x] } := (sb.2 _ (Nat.ne_of_gt le)).trans hT
    have new : ObjOk X.prog X.w (upd H s.heap.objs.size (.tup [.int (i : Nat), v])) h'' s.heap.objs.size (.tup [.int (i : Nat), v]) := ⟨by show 2 ≤ sizeLine; decide, [.int i tk, x], .cons ⟨_, rfl⟩ (.cons ru .nil), ⟨_, hT2, rfl, _, rfl⟩⟩
    have I1 : Inv X pins σ (upd H s.heap.objs.size (.tup [.int (i : Nat), v])) { s with heap := h'', toks := tk + 1 } :=
      I.turnedNew (ch := [e, it]) (fun b ob hb q => (sb.2 b (fun z => hb (by simp [z]))).trans (hk b ob (fun z => hb (by simp [z])) (fun z => hb (by simp [z])) q)) hf (Nat.le_refl _) new
    refine ⟨.ref s.heap.objs.size, _, I1, rfl, ⟨_, k, v, rfl, I.hok.fresh (Nat.le_refl _), rfl, hkv⟩, ⟨⟨x, ?_⟩, ?_, hne, lt⟩, fun b hb => ?_⟩
    · rw [show ((i + 1 : Nat) : Int) = (i : Int) + 1 by omega]
      exact he'
    · obtain ⟨⟨u2, hu2, r2⟩, _⟩ := st'
      exact ⟨u2, (sb.2 it (Ne.symm hne)).trans hu2, r2⟩
    · have hb' : b < s.heap.objs.size := by
        rcases List.mem_cons.mp hb with z | z
        · rw [z]; exact le
        · rw [List.mem_singleton.mp z]; exact li
      rw [upd_ne (Nat.ne_of_lt hb')]
      exact (hf b hb).1
  done := by
    intro X hP hw hK hc i pins s σ H E I hf st hg
    subst hP hw hK
    obtain ⟨⟨old, he⟩, hit, hne, hle⟩ := st
    obtain ⟨hd, hge⟩ := hg
    obtain ⟨low, god, exd, es', ep', vs, hdt, hsz, kv, hm⟩ := I.frzK hd
    obtain ⟨rfl, rfl⟩ := dict_ep hod hdt
    have raw : s.heap.DictRaw d es' ep' := ⟨o, god, exd, hdt⟩
    have nid : d ≠ it := fun z => by have := (hf it (by simp)).1; rw [← z, hd] at this; cases this
    have hh : X.A.in1.handled = none := I.ok.hd hc
    obtain ⟨f0, f1, f2, f3, f4, f5⟩ := hf it (by simp)
    have ei : i = es'.size := by rw [hsz] at hle ⊢; omega
    subst ei
    exact wpAny_pyNext_enum_endD (draws_vals hh it d nid es' ep') he ⟨hit, raw⟩ fun h' eb => ⟨rfl, I.turned (t' := s.toks) (fun b u hb q => eb b u hb q) f0 f1 f3 f4 f5⟩
  self := fun A i s Q E st h => let ⟨⟨_, he⟩, _⟩ := st; wpAny_pyIter_enum he h
end
/-- enumerate(d.values()), d locked -/
def iEnumVals (td : TE) : TI := fun σ H R => td σ H fun x H1 => ∃ d o kvs, x = .ref d ∧ H1 d = some (.frz o (.dK kvs)) ∧ R (Iev d o kvs) H1
theorem pi_enumVals {X : Cx} {e : PySem.Expr} {td : TE} {p pos tpos apos cpos : Pos} {elts : List PySem.Expr} {kk : Nat} (hg : Gl X "enumerate") (hm : X.mg "enumerate" = none) (he : PE X e td) (hbase : attributeBase e "values" X.env (eval e X.env) = eval e X.env := by rfl) (hline : (apos.endLine == cpos.line) = true := by rfl)
    (hs : starEach [PySem.Expr.Call (.Attribute e "values" apos) [] [] cpos] X.env = [(false, eval (.Call (.Attribute e "values" apos) [] [] cpos) X.env)] := by rfl) :
    PI X (.Tuple elts kk tpos) (.Call (.Name "enumerate" p) [.Call (.Attribute e "values" apos) [] [] cpos] [] pos) (iEnumVals td) := by
  refine ⟨fun pins s σ H R I h => ?_⟩
  refine Call_ (ld_blt I hg hm boot_enumerate (PyProof.Rows.callWith_type1 (args_cons ?_ hs) hs rfl))
  refine wpAny_Call_method (T := "dict") (id := "dict.values") hbase rfl hline F.plainAttrs_dict F.slot_dict_values F.type_dict_values (thn (he.run pins s σ H _ I h) fun u s1 ⟨x, H1, I1, rx, d, o, kvs, ex, hd, q⟩ => ?_)
  subst ex
  obtain rfl : u = Value.ref d := rx
  obtain ⟨low, god, exd, es, ep, vs, hdt, hsz, kv, hm⟩ := I1.frzK hd
  refine ⟨hm.dictOf.typeIs, hm.dictOf.mapOf.noDict, ?_⟩
  let V := s1.heap.objs.size
  let h1 := s1.heap.push { cls := .type "dict_values", data := .fields #[.ref d] }
  have I2 : Inv X pins σ H1 { s1 with heap := h1 } := I1.kept (t' := s1.toks) fun b ob q => Heap.get?_push_of_some _ q
  have view : h1.IsValuesView V d := ⟨_, Heap.get?_push_size _ rfl, rfl, rfl⟩
  have raw : h1.DictRaw d es ep := ⟨o, Heap.get?_push_of_some _ god, exd, hdt⟩
  have fin : wpAny (model X.prog X.w) X.A (spliced (backTo pos (starEach [] X.env))) (fun vs s2 => wpAny (model X.prog X.w) X.A (call (.type "enumerate") (Value.ref V :: vs)) (fun v s3 => wpAny (model X.prog X.w) X.A (pyIter v) (PIE X pins σ (.Tuple elts kk tpos) R) X.xe s3) X.xe s2) X.xe { s1 with heap := h1 } := by
    refine args_nil (call_enum1 (begins_vals V d es ep) ⟨view, raw⟩ fun h' he' hit' hz hk => wpAny_pyIter_enum he' ?_)
    have I3 : Inv X pins σ H1 { s1 with heap := h' } := I2.kept (t' := s1.toks) hk
    refine ⟨h1.objs.size + 1, [h1.objs.size + 1, h1.objs.size], _, Iev d o kvs, H1, rfl, I3, turn_ev (h1.objs.size + 1) h1.objs.size hdt, ⟨⟨.none, he'⟩, ⟨_, hit', rfl, rfl⟩, Nat.succ_ne_self _, Nat.zero_le _⟩, fun b hb => ?_, q⟩
    have le : h1.objs.size ≤ b := by
      rcases List.mem_cons.mp hb with z | z
      · rw [z]; exact Nat.le_add_right _ _
      · rw [List.mem_singleton.mp z]; exact Nat.le_refl _
    exact I2.fpOk le (I2.hok.fresh le)
  show wpAny _ _ (callWith cpos (.builtin "dict.values") [.ref d] [] []) _ X.xe s1
  exact method_meetsIn F.slot_dict_values F.entry_dict_values rfl (PySem.evalArgs_none ⟨rfl, hm.dictOf.typeIs, F.args_dict_values_1 _, _, meets_dict_values (mixKind X.prog X.w) d low, ⟨vs, hm.dictOf⟩, fin⟩)
end K12

/-! min(a list of pairs of whole numbers). -/
namespace K12
open PySem PySem.Spec PyProof.Rows L2
abbrev Pn := Addr × Int × Int
def encN (p : Pn) : PyData := .tuple [.int p.2.1, .int p.2.2]
/-- the least of the pairs -/
def rMinP (K : PySem.W.Frag) : List V → Hp → VK → Prop := fun xs H Q => ∃ (a : Addr) (p0 : Pn) (ps : List Pn), xs = [.ref a] ∧ SqL K H a ((p0 :: ps).map fun p => V.ref p.1) ∧ (∀ p ∈ p0 :: ps, H p.1 = some (.tup [.int p.2.1, .int p.2.2])) ∧ ∀ p ∈ p0 :: ps, encN p = PySem.W.minD (encN p0) (ps.map encN) → Q (.ref p.1) H
theorem encN_depth : ∀ ps : List Pn, PyData.depthAll (ps.map encN) ≤ 1
  | [] => Nat.zero_le _
  | p :: r => Nat.max_le.mpr ⟨Nat.le_refl 1, encN_depth r⟩
theorem encN_alike (ps : List Pn) : PySem.W.AlikeAll (ps.map encN) := by
  refine ⟨fun x hx y hy => ?_, fun x hx => ?_⟩
  · obtain ⟨p, _, rfl⟩ := List.mem_map.mp hx
    obtain ⟨q, _, rfl⟩ := List.mem_map.mp hy
    rfl
  · obtain ⟨p, _, rfl⟩ := List.mem_map.mp hx
    exact fun z => nomatch z
theorem encN_dp {K : PySem.W.Frag} {H : Hp} : ∀ {ps : List Pn}, (∀ p ∈ ps, H p.1 = some (.tup [.int p.2.1, .int p.2.2])) → DpAll K H (ps.map fun p => V.ref p.1) (ps.map encN)
  | [], _ => .nil
  | p :: r, h => .cons (.tup (SqT.of (h p List.mem_cons_self)) (.cons (.int _) (.cons (.int _) .nil))) (encN_dp fun q m => h q (List.mem_cons_of_mem _ m))
theorem call_minP {X : Cx} (hc : X.calm = true) (hu : X.A.units + 2 < cLine) : CallR X (.builtin "min") (rMinP X.K) := by
  intro pins s σ H xs us Q I r ⟨a, p0, ps, e, hl, hp, q⟩
  subst e
  obtain ⟨u, eu, rx⟩ := vals1 r
  subst eu
  obtain rfl : u = Value.ref a := rx
  obtain ⟨its, rv, pl, hz⟩ := I.list hl
  obtain ⟨as, rd⟩ := Dp.readsAll I _ _ _ (encN_dp hp) rv
  refine PySem.W.min_list_data (vs := its.toArray) (x := encN p0) (xs := ps.map encN) (as := as) (I.ok.hd hc) pl.isList (by simpa using rd) (encN_alike (p0 :: ps)) (by
    have := encN_depth (p0 :: ps)
    show X.A.units + 1 + PyData.depthAll ((p0 :: ps).map encN) < cLine
    omega) fun i v h' tk bs hv hr hk => ?_
  have hv' : its[i]? = some v := by simpa using hv
  have lt : i < its.length := (List.getElem?_eq_some_iff.mp hv').1
  have ll := rv.length
  have lp : i < (p0 :: ps).length := by
    rw [List.length_map] at ll
    omega
  have hm : ((p0 :: ps).map fun p => V.ref p.1)[i]? = some (.ref (p0 :: ps)[i].1) := by rw [List.getElem?_map, List.getElem?_eq_getElem lp]; rfl
  obtain ⟨v2, hv2, r2⟩ := rv.get hm
  rw [hv'] at hv2
  cases hv2
  obtain rfl : v = Value.ref (p0 :: ps)[i].1 := r2
  have mem : (p0 :: ps)[i] ∈ p0 :: ps := List.getElem_mem lp
  obtain ⟨as2, rd2⟩ := Dp.reads I (encN (p0 :: ps)[i]) (.ref (p0 :: ps)[i].1) (.ref (p0 :: ps)[i].1) (.tup (SqT.of (hp _ mem)) (.cons (.int _) (.cons (.int _) .nil))) rfl
  have e := (reads_det (fun b o z _ => hk b o z) rd2 hr).1
  exact ⟨.ref (p0 :: ps)[i].1, H, I.kept (t' := tk) hk, rfl, q _ mem e.symm⟩
end K12

namespace K12
open PySem PySem.Spec PyProof.Rows L2
abbrev sErrInit : Stmt := inClass (topS 3) 0
/-- what the error's class and its base say -/
structure TxtE (K : PySem.W.Frag) (mg : Str → Option Value) (B CI : Addr) : Prop where
  mB : mg "CodeError" = some (.ref B)
  ga : PySem.W.specialIn K (.ref B) "__getattribute__" = some (some (.builtin "type.__getattribute__"))
  rd : PySem.W.readsIn K B (.type "type") = true
  fi : PySem.W.findCls K (.ref B) (.type "type") "__init__" = some (.val (.builtin "ArithmeticError.__init__"))
  ax : AxC K CI
  np : PySem.W.findIn K (.ref CI) "part" = some none
  na : PySem.W.findIn K (.ref CI) "at" = some none
section
variable {P : Program} {w : World} {K : PySem.W.Frag} {mg : Str → Option Value} {base : Heap}
theorem scErrInit : FnScope ["self", "part", "at"] ["self", "part", "at"] (defScope sErrInit) := ⟨rfl, rfl, rfl, by decide +kernel, rfl, by decide +kernel, by decide +kernel⟩
theorem ok_errInit {f B CI : Addr} {fd : FuncData} (F : Fun K "__init__" "InvalidSource.__init__" sErrInit f fd) (TE : TxtE K mg B CI) : FnOk P w K mg base CX0 1 f fd ["self", "part", "at"] (spErr CI) := by
  refine F.ok scErrInit (fun vs H Q E h => ?_) (fun cdv A outer s H vs Q E hr h => ?_)
  · obtain ⟨_, _, _, rfl, _⟩ := h
    rfl
  · obtain ⟨a, x, y, rfl, ha, k⟩ := h
    refine ⟨_, pss_cons (ps_expr (pe_baseI (by rfl) TE.mB (by decide) TE.ga TE.rd TE.fi (pa_cons (pv 0) (pa_cons pe_str pa_nil)))) (pss_cons (ps_setE (pv 0) (pv 1)) (pss_one (ps_setE (pv 0) (pv 2)))), ?_⟩
    refine ⟨_, rfl, a, CI, [.str "invalid source"], rfl, (by show 1 ≤ 1000; decide), TE.ax, ha, ?_⟩
    refine ⟨_, rfl, _, rfl, a, CI, rfl, TE.ax, TE.np, .inl ⟨ha, fun dx ndx nda => ?_⟩⟩
    refine ⟨_, rfl, _, rfl, a, CI, rfl, TE.ax, TE.na, .inr ⟨dx, _, upd_same, by rw [upd_ne nda, upd_same], (by show 1 ≤ 900; decide), ?_⟩⟩
    refine k dx _ ndx nda (fun b n1 n2 => by rw [upd_ne n2, upd_ne n1, upd_ne n2]) (by rw [upd_ne nda.symm, upd_same]) upd_same
end
end K12

namespace K12
open PySem PySem.Spec PyProof.Rows L2
abbrev sSrcInit : Stmt := inClass (topS 36) 0
structure SrcArg (H : Hp) (a b : Addr) (cs : List Cl) (fs : List Fn) : Prop where
  cl : ClsAt H a cs
  fn : LsAt FrV H b fs
  gc : GoodCls cs
  gh : GoodHds (fs.map (·.1))
  rl : ∀ f ∈ fs, 1 ≤ f.2.length ∧ f.2.length ≤ 40
/-- the first wrong row: at, place -/
structure FirstWrong (cs : List Cl) (fs : List Fn) (i j : Nat) : Prop where
  here : ∃ f r, fs[i]? = some f ∧ f.2[j]? = some r ∧ isRow cs (fs.map (·.1)) f.1 f.2.length r = false
  rows : ∀ f j' r, fs[i]? = some f → j' < j → f.2[j']? = some r → isRow cs (fs.map (·.1)) f.1 f.2.length r = true
  fns : ∀ i' f, i' < i → fs[i']? = some f → GoodFn cs (fs.map (·.1)) f
def spSrcInit (CS CI : Addr) : Sp := fun vs H Q E => ∃ (s dx a b : Addr) (H0 : Hp) (cs : List Cl) (fs : List Fn), vs = [.ref s, .ref a, .ref b] ∧ Same H0 H ∧ H0 s = none ∧ H s = some (.ins CS dx []) ∧ SrcArg H0 a b cs fs ∧
  (((∀ f ∈ fs, GoodFn cs (fs.map (·.1)) f) ∧ ∀ H', Same H0 H' → Q .non H') ∨
   ∃ i j, FirstWrong cs fs i j ∧ ∀ d t H', Same H0 H' → H' t = some (.tup [.int (i : Nat), .int (j : Nat)]) → H' d = some (.xd [("at", .ref t), ("part", .str "functions")]) → E (.ref CI) (some d) H')
/-- the keys stay texts -/
theorem putK_strs {kvs : List (Key × V)} {ks : List Str} (h : kvs.map (·.1) = ks.map (Sum.inr : Str → Key)) (x : Str) (v : V) : ∃ ks' : List Str, (putK kvs (Sum.inr x) v).map (·.1) = ks'.map (Sum.inr : Str → Key) ∧ ks'.length ≤ ks.length + 1 := by
  unfold putK
  split
  · refine ⟨ks, ?_, Nat.le_succ _⟩
    rw [List.map_map, ← h]
    refine List.map_congr_left fun kv _ => ?_
    show (if kv.1 = Sum.inr x then (kv.1, v) else kv).1 = kv.1
    split <;> rfl
  · exact ⟨ks ++ [x], by rw [List.map_append, List.map_append, h]; rfl, by rw [List.length_append]; exact Nat.le_refl _⟩
theorem mergeK_strs : ∀ {ds : List Dcl} {kvs : List (Key × V)} {ks : List Str}, kvs.map (·.1) = ks.map (Sum.inr : Str → Key) → ∃ ks' : List Str, (mergeK kvs (kvsOf ds)).map (·.1) = ks'.map (Sum.inr : Str → Key) ∧ ks'.length ≤ ks.length + ds.length
  | [], kvs, ks, h => ⟨ks, h, Nat.le_refl _⟩
  | d :: r, kvs, ks, h => by
    obtain ⟨k1, h1, l1⟩ := putK_strs h d.1 (V.str (kd d.2))
    obtain ⟨k2, h2, l2⟩ := mergeK_strs (ds := r) h1
    exact ⟨k2, h2, by rw [List.length_cons]; omega⟩
theorem look_app {xs ys : List Dcl} {f : Str} : look (xs ++ ys) f = (look xs f).or (look ys f) := by
  unfold look
  rw [List.find?_append]
  cases xs.find? (fun d => decide (d.1 = f)) <;> rfl
/-- one more class's fields put in -/
theorem merge_look {cs : List Cl} (g : GoodCls cs) {i : Nat} {c : Cl} (hc : cs[i]? = some c) {fkk : List (Key × V)} (hv : ∀ f, valV fkk (Sum.inr f) = (look (flds (cs.take i)) f).map fun b => V.str (kd b)) (f : Str) :
    valV (mergeK fkk (kvsOf c.2)) (Sum.inr f) = (look (flds (cs.take (i + 1))) f).map fun b => V.str (kd b) := by
  have gc := g.each c (ix_mem hc)
  have e1 : flds (cs.take (i + 1)) = flds (cs.take i) ++ c.2 := by
    unfold flds
    rw [take_more hc, List.flatMap_append]
    simp
  rw [e1, look_app, valV_merge]
  · have e2 : (kvsOf c.2).find? (fun kv => decide (kv.1 = Sum.inr f)) = (c.2.find? fun d => decide (d.1 = f)).map fun d => ((Sum.inr d.1 : Key), V.str (kd d.2)) := by
      unfold kvsOf
      rw [List.find?_map]
      have e : ((fun kv : Key × V => decide (kv.1 = Sum.inr f)) ∘ fun d : Dcl => ((Sum.inr d.1 : Key), V.str (kd d.2))) = fun d : Dcl => decide (d.1 = f) := by
        funext d
        show decide ((Sum.inr d.1 : Key) = Sum.inr f) = decide (d.1 = f)
        by_cases z : d.1 = f
        · rw [z]; simp
        · rw [decide_eq_false z, decide_eq_false fun q => z (Sum.inr.inj q)]
      rw [e]
    rw [e2]
    cases el : look (flds (cs.take i)) f with
    | none =>
      cases ef : c.2.find? (fun d => decide (d.1 = f)) with
      | none =>
        show valV fkk (Sum.inr f) = _
        rw [hv, el]
        unfold look
        rw [ef]
        rfl
      | some d =>
        unfold look
        rw [ef]
        rfl
    | some b =>
      have m1 := look_some el
      have hb : (f, b) ∈ fieldList := by
        obtain ⟨c', hc', hd⟩ := List.mem_flatMap.mp m1
        exact (g.each c' (List.mem_of_mem_take hc')).fl _ hd
      cases ef : c.2.find? (fun d => decide (d.1 = f)) with
      | none =>
        show valV fkk (Sum.inr f) = _
        rw [hv, el]
        rfl
      | some d =>
        have h1 := List.mem_of_find?_eq_some ef
        have h2 : d.1 = f := of_decide_eq_true (List.find?_some (p := fun d : Dcl => decide (d.1 = f)) ef)
        have h3 := gc.fl d h1
        obtain ⟨y, z⟩ := d
        have h2 : y = f := h2
        rw [h2] at h3
        have e3 : z = b := nd_one (ds := fieldList) (by decide +kernel) hb h3
        show some (V.str (kd z)) = some (V.str (kd b))
        rw [e3]
  · intro v v' h h'
    unfold kvsOf at h h'
    obtain ⟨d, hd, e⟩ := List.mem_map.mp h
    obtain ⟨d', hd', e'⟩ := List.mem_map.mp h'
    obtain ⟨y, c1⟩ := d
    obtain ⟨y', c2⟩ := d'
    have e1 : y = f := Sum.inr.inj (Prod.mk.inj e).1
    have e2 : y' = f := Sum.inr.inj (Prod.mk.inj e').1
    rw [e1] at hd
    rw [e2] at hd'
    rw [← (Prod.mk.inj e).2, ← (Prod.mk.inj e').2]
    show V.str (kd c1) = V.str (kd c2)
    rw [nd_one gc.nd hd hd']
/-- a new empty dict -/
def tDNewN : TE := fun _ H Q => ∀ p H', New H p (.dK []) H' → Q (.ref p) H'
theorem pe_dnewN {X : Cx} {pos : Pos} : PE X (.Dict [] [] pos) tDNewN := PE.imp pe_dnewK fun σ H Q h p hp => h p _ ⟨hp, rfl⟩
end K12

namespace K12
open PySem PySem.Spec PyProof.Rows L2
theorem dcls_tup {H : Hp} {vs : List V} {ds : List Dcl} (p : Paired (DclV H) vs ds) : ∃ ps : List Addr, vs = ps.map V.ref ∧ Paired (fun p kv => H p = some (.tup [kV kv.1, kv.2])) ps (kvsOf ds) := by
  induction p with
  | nil => exact ⟨[], rfl, .nil⟩
  | cons r _ ih =>
    obtain ⟨ps, e, h⟩ := ih
    obtain ⟨a, ea, ha⟩ := r
    exact ⟨a :: ps, by rw [e, ea]; rfl, .cons ha h⟩
/-- how far the asking comes: all is right ahead of (i, j) -/
structure Reach (cs : List Cl) (fs : List Fn) (Ep : Nat → Nat → Prop) (R : Nat → Nat → Prop) : Prop where
  zero : R 0 0
  row : ∀ i j f r, fs[i]? = some f → f.2[j]? = some r → R i j → (isRow cs (fs.map (·.1)) f.1 f.2.length r = true ∧ R i (j + 1)) ∨ (isRow cs (fs.map (·.1)) f.1 f.2.length r = false ∧ Ep i j)
  fn : ∀ i f, fs[i]? = some f → R i f.2.length → (∃ as r, f.2 = as ++ [r] ∧ r.isLast = true) ∧ R (i + 1) 0
theorem reach_good {cs : List Cl} {fs : List Fn} {Ep : Nat → Nat → Prop} (g : ∀ f ∈ fs, GoodFn cs (fs.map (·.1)) f) : Reach cs fs Ep fun _ _ => True :=
  ⟨trivial, fun i j f r h1 h2 _ => .inl ⟨(g f (ix_mem h1)).each r (ix_mem h2), trivial⟩, fun i f h _ => ⟨(g f (ix_mem h)).last, trivial⟩⟩
theorem reach_wrong {cs : List Cl} {fs : List Fn} {Ep : Nat → Nat → Prop} {a p : Nat} (g : FirstWrong cs fs a p) (e : Ep a p) : Reach cs fs Ep fun i j => i < a ∨ (i = a ∧ j ≤ p) := by
  obtain ⟨f0, r0, h0, k0, w0⟩ := g.here
  refine ⟨?_, fun i j f r h1 h2 h => ?_, fun i f h1 h => ?_⟩
  · by_cases c : 0 < a
    · exact .inl c
    · exact .inr ⟨by omega, Nat.zero_le _⟩
  · rcases h with h | ⟨rfl, h⟩
    · exact .inl ⟨(g.fns i f h h1).each r (ix_mem h2), .inl h⟩
    · by_cases c : j < p
      · exact .inl ⟨g.rows f j r h1 c h2, .inr ⟨rfl, c⟩⟩
      · have ej : j = p := by omega
        subst ej
        rw [h0] at h1
        cases h1
        rw [k0] at h2
        cases h2
        exact .inr ⟨w0, e⟩
  · rcases h with h | ⟨rfl, h⟩
    · refine ⟨(g.fns i f h h1).last, ?_⟩
      by_cases c : i + 1 < a
      · exact .inl c
      · exact .inr ⟨by omega, Nat.zero_le _⟩
    · rw [h0] at h1
      cases h1
      have := ix_lt k0
      omega
theorem frz_last {H : Hp} {vs : List V} {as : List Rw} {r : Rw} (p : Paired (FrzV H) vs (as ++ [r])) : ∃ vs0 v, vs = vs0 ++ [v] ∧ FrzV H v r := by
  have ne : vs ≠ [] := fun z => by
    have := p.none_iff.mp z
    simp at this
  obtain ⟨vs0, v, rfl⟩ : ∃ vs0 v, vs = vs0 ++ [v] := ⟨_, _, (List.dropLast_concat_getLast ne).symm⟩
  have l := p.len
  rw [List.length_append, List.length_append] at l
  have l : vs0.length = as.length := by simpa using l
  obtain ⟨x, hx, q⟩ := p.get2 (i := as.length) (y := r) (by simp)
  rw [← l, List.getElem?_append_right (Nat.le_refl _), Nat.sub_self] at hx
  cases hx
  exact ⟨vs0, v, rfl, q⟩
theorem f2_c (c f : V) : (putF "field_kinds" f (putF "class_rows" c [])).lookup ("class_rows" : Str) = some c := by
  rw [lookup_putF, if_neg (by decide +kernel), lookup_putF, if_pos rfl]
theorem f2_f (c f : V) : (putF "field_kinds" f (putF "class_rows" c [])).lookup ("field_kinds" : Str) = some f := by
  rw [lookup_putF, if_pos rfl]
theorem f2_no {c f : V} {m : Str} (h2 : ¬ m = "field_kinds") (h3 : ¬ m = "class_rows") : (putF "field_kinds" f (putF "class_rows" c [])).lookup m = none := by
  rw [lookup_putF, if_neg h2, lookup_putF, if_neg h3]
  rfl
section
variable {P : Program} {w : World} {K : PySem.W.Frag} {mg : Str → Option Value} {base : Heap}
theorem scSrcInit : FnScope ["self", "classes", "functions", "at", "thing", "function", "place", "row"] ["self", "classes", "functions"] (defScope sSrcInit) := ⟨rfl, rfl, rfl, by decide +kernel, rfl, by decide +kernel, by decide +kernel⟩
theorem ok_srcInit {f CS CF CI B fA fS fR fE : Addr} {fd fdA fdS fdR fdE : FuncData} (T : Txt mg) (TS : TxtS K mg) (TF : ClsFn K CF) (TC : ClsSrc K CS) (TE : TxtE K mg B CI) (mCI : mg "InvalidSource" = some (.ref CI)) (TLa : ∃ a, mg "LASTS" = some (.ref a) ∧ ∀ H, SqT K H a ([("jump" : Str), "return"].map V.str))
    (F : Fun K "__init__" "Source.__init__" sSrcInit f fd) (CL : Cal P w K mg base CX0 1 "is_list" ["thing", "least", "most"] spIsList) (CC : Cal P w K mg base CX0 4 "is_class" ["thing"] spIsClass)
    (GA : FnOk P w K mg base CX0 1 fA fdA ["self", "fields"] (spAgrees CS)) (mA : Meth K CS "agrees" fA) (bA : Binds K fdA ["self", "fields"] [])
    (GS : FnOk P w K mg base CX0 5 fS fdS ["self", "functions"] (spSetFns CS CF)) (mS : Meth K CS "set_functions" fS) (bS : Binds K fdS ["self", "functions"] [])
    (GR : FnOk P w K mg base CX0 4 fR fdR ["self", "function", "row"] (spRow CS CF anyRow)) (mR : Meth K CS "is_row" fR) (bR : Binds K fdR ["self", "function", "row"] [])
    (iE : PySem.W.findIn K (.ref CI) "__init__" = some (some (.ref fE))) (tE : PySem.W.typeIn K (.ref fE) = some (.type "function")) (GE : FnOk P w K mg base CX0 1 fE fdE ["self", "part", "at"] (spErr CI)) (bE : Binds K fdE ["self", "part", "at"] []) :
    FnOk P w K mg base (L2.CX P w) 6 f fd ["self", "classes", "functions"] (spSrcInit CS CI) := by
  obtain ⟨f1, fd1, m1, kp1, b1, G1⟩ := CL
  obtain ⟨f2, fd2, m2, kp2, b2, G2⟩ := CC
  obtain ⟨t6, g6⟩ := TS.classes
  obtain ⟨al, gal, hal⟩ := TLa
  refine F.okX scSrcInit (fun vs H Q E h => ?_) (fun cdv A outer s H vs Q E hr h => ?_)
  · obtain ⟨_, _, _, _, _, _, _, rfl, _⟩ := h
    rfl
  · obtain ⟨s, dx, a, b, H0, cs, fs, rfl, s0, s0n, hs, ⟨hcl, hfn, gc, gh, rl⟩, out⟩ := h
    have hr1 : Room 1 _ := hr.mono (by decide)
    have hr2 : Room 2 _ := hr.mono (by decide)
    have hr4 : Room 4 _ := hr.mono (by decide)
    have hu := hu_of hr
    refine ⟨_, pss_cons (ps_if (pt_not (pt_val (pe_call G1 hr1 (by rfl) m1 kp1 b1 .nil pass0 (pa_cons (pv 1) (pa_cons pe_int (pa_cons (pe_glob (v := .int 6) (by rfl) g6 ⟨_, rfl⟩) pa_nil)))))) (pss_one ps_never) pss_nil)
      (pss_cons (ps_fld (pv 0) pe_dnewN rfl) (pss_cons (ps_fld (pv 0) pe_dnewN rfl)
      (pss_cons (ps_for (passes_of rfl) rfl (pi_enum (by rfl) T.enumerate (pa_cons (pv 1) pa_nil)) (pg_tup rfl (pgs_cons (pg_name (i := 3) scSrcInit.nd rfl (.inl rfl)) (pgs_cons (pg_name (i := 4) scSrcInit.nd rfl (.inl rfl)) pgs_nil)))
        (pss_cons (ps_if (PW.pt (pw_or (pt_not (pt_val (pe_call G2 hr4 (by rfl) m2 kp2 b2 .nil pass0 (pa_cons (pv 4) pa_nil)))) (pw_or (pt_cmp (pc_din hu (pe_ix ix_tup (pv 4) pe_int (fun _ _ => rfl)) (pe_fld (pv 0) rfl)))
            (pw_or1 (pt_not (pt_val (pe_meth (pv 0) TC.cl mA GA hr1 bA .nil pass0 (pa_cons (pe_ix ix_tup (pv 4) pe_int (fun _ _ => rfl)) pa_nil)))))))) (pss_one ps_never) pss_nil)
        (pss_cons (ps_dput hu (pe_fld (pv 0) rfl) (pe_ix ix_tup (pv 4) pe_int (fun _ _ => rfl)) (pe_callTy call_listN (by rfl) T.list (by decide +kernel) (pa_cons (pe_ix ix_tup (pv 4) pe_int (fun _ _ => rfl)) pa_nil)) rfl)
        (pss_one (ps_expr (pe_bm PySem.F.plainAttrs_dict PySem.F.slot_dict_update PySem.F.type_dict_update (mt_update rfl) (pe_fld (pv 0) rfl) (pa_cons (pe_ix ix_tup (pv 4) pe_int (fun _ _ => rfl)) pa_nil)))))))
      (pss_cons (ps_fld (pv 0) pe_dnewN rfl)
      (pss_cons (ps_expr (pe_meth (pv 0) TC.cl mS GS hr bS .nil pass0 (pa_cons (pv 2) pa_nil)))
      (pss_one (ps_lock (ps_for (passes_of rfl) rfl (pi_enumVals (by rfl) T.enumerate (pe_fld (pv 0) rfl)) (pg_tup rfl (pgs_cons (pg_name (i := 3) scSrcInit.nd rfl (.inl rfl)) (pgs_cons (pg_name (i := 5) scSrcInit.nd rfl (.inl rfl)) pgs_nil)))
        (pss_cons (ps_for (passes_of rfl) rfl (pi_enum (by rfl) T.enumerate (pa_cons (pe_ix ix_tup (pe_ix ix_list (pv 2) (pv 3) (fun _ _ => rfl)) pe_int (fun _ _ => rfl)) pa_nil)) (pg_tup rfl (pgs_cons (pg_name (i := 6) scSrcInit.nd rfl (.inl rfl)) (pgs_cons (pg_name (i := 7) scSrcInit.nd rfl (.inl rfl)) pgs_nil)))
          (pss_one (ps_if (pt_not (pt_val (pe_meth (pv 0) TC.cl mR GR hr4 bR .nil pass0 (pa_cons (pv 5) (pa_cons (pv 7) pa_nil)))))
            (pss_one (ps_raise rfl (takes_of rfl rfl rfl rfl) (pmk_ax TE.ax iE tE GE hr2 bE pass0 (by rfl) mCI (pa_cons pe_str (pa_cons (pe_tupN (pa_cons (pv 3) (pa_cons (pv 6) pa_nil))) pa_nil))))) pss_nil)))
        (pss_one (ps_if (pt_cmpR op_notIn_seq (pe_ix ix_tup (pe_ix ix_list (pe_fld (pv 5) rfl) (pe_un un_neg pe_int) (fun _ _ => rfl)) pe_int (fun _ _ => rfl)) (pe_glob (v := .ref al) (by rfl) gal rfl) (by rfl)) (pss_one ps_never) pss_nil))))))))))), ?_⟩
    obtain ⟨va, hva, pa⟩ := id hcl
    have lva : va.length = cs.length := pa.len
    have l6 := gc.le
    refine ⟨_, rfl, a, va, 0, 6, rfl, s0 _ _ hva, true, (by rw [decide_eq_true (show (0 : Int) ≤ (va.length : Nat) ∧ ((va.length : Nat) : Int) ≤ 6 by omega)]), iteF ?_⟩
    -- self.class_rows = {}; self.field_kinds = {}
    refine fun cr H1 n1 => ⟨_, rfl, s, CS, dx, [], rfl, n1.same _ _ hs, TC.cl, TC.n1, (by decide), ?_⟩
    obtain ⟨H2, e2⟩ : ∃ H2, H2 = upd H1 s (.ins CS dx (putF "class_rows" (.ref cr) [])) := ⟨_, rfl⟩
    rw [← e2]
    have s2 : Same H0 H2 := by rw [e2]; exact same_own (s0.trans n1.same) s0n
    have hs2 : H2 s = some (.ins CS dx (putF "class_rows" (.ref cr) [])) := by rw [e2]; exact upd_same
    have nsr : cr ≠ s := (n1.ne hs).symm
    have hcr2 : H2 cr = some (.dK []) := by rw [e2, upd_ne nsr]; exact n1.at
    have cr0 : H0 cr = none := s0.free n1.free
    refine fun fk H3 n3 => ⟨_, rfl, s, CS, dx, _, rfl, n3.same _ _ hs2, TC.cl, TC.n2, (by show 1 < 1000; decide), ?_⟩
    obtain ⟨H4, e4⟩ : ∃ H4, H4 = upd H3 s (.ins CS dx (putF "field_kinds" (.ref fk) (putF "class_rows" (.ref cr) []))) := ⟨_, rfl⟩
    rw [← e4]
    have s4 : Same H0 H4 := by rw [e4]; exact same_own (s2.trans n3.same) s0n
    have hs4 : H4 s = some (.ins CS dx (putF "field_kinds" (.ref fk) (putF "class_rows" (.ref cr) []))) := by rw [e4]; exact upd_same
    have nsf : fk ≠ s := (n3.ne hs2).symm
    have ncf : cr ≠ fk := n3.ne hcr2
    have hcr4 : H4 cr = some (.dK []) := by rw [e4, upd_ne nsr]; exact n3.same _ _ hcr2
    have hfk4 : H4 fk = some (.dK []) := by rw [e4, upd_ne nsf]; exact n3.at
    have fk0 : H0 fk = none := s2.free n3.free
    refine ⟨_, rfl, a, va, rfl, SqL.of (s4 _ _ hva), ?_⟩
    refine for_it (walk_enum (K := K) (a := a) (xs := va)) (fun i σ H' => ∃ (v3 v4 : Option V) (crk fkk : List (Key × V)) (fks : List Str), σ = [some (.ref s), some (.ref a), some (.ref b), v3, v4, none, none, none] ∧ Same H0 H' ∧ H' s = some (.ins CS dx (putF "field_kinds" (.ref fk) (putF "class_rows" (.ref cr) []))) ∧ H' cr = some (.dK crk) ∧ H' fk = some (.dK fkk) ∧
        crk.map (·.1) = ((cs.take i).map (·.1)).map (Sum.inr : Str → Key) ∧ fkk.map (·.1) = fks.map (Sum.inr : Str → Key) ∧ fkk.length ≤ 4 * i ∧ ∀ f, valV fkk (Sum.inr f) = (look (flds (cs.take i)) f).map fun b => V.str (kd b))
      ⟨none, none, [], [], [], rfl, s4, hs4, hcr4, hfk4, rfl, rfl, Nat.zero_le _, fun f => rfl⟩ (fun i σ H' _ I => by obtain ⟨_, _, _, _, _, _, s', _⟩ := I; exact SqL.of (s' _ _ hva)) ?_ ?_
    · rintro i y σ H' H'' hi ⟨v3, v4, crk, fkk, fks, rfl, s', hs', hcr', hfk', kc, kf', lf, vf⟩ ⟨tt, x1, x2, rfl, ntt, eH, ex1, ex2⟩
      cases ex1
      obtain ⟨c, hc, p, fl, rfl, hp, hd⟩ := pa.get ex2
      have nt : New H' tt (.tup [.int (i : Nat), .ref p]) H'' := ⟨ntt, eH⟩
      have gcc := gc.each c (ix_mem hc)
      have i6 : i < 6 := by have := ix_lt hc; omega
      refine ⟨tt, _, rfl, SqT.of nt.at, rfl, _, _, rfl, _, _, rfl, rfl, ?_⟩
      have s3 := s'.trans nt.same
      refine ⟨_, rfl, .ref p, c, rfl, ClV.mono _ _ _ _ s3 ⟨p, fl, rfl, hp, hd⟩, gcc, fun H3 x3 => ⟨true, rfl, iteF ?_⟩⟩
      have x03 := nt.same.trans x3
      have s03 := s'.trans x03
      have fresh : valV crk (Sum.inr c.1) = none := by
        cases e : valV crk (Sum.inr c.1) with
        | none => rfl
        | some v =>
          have m1 := valV_in e
          rw [kc] at m1
          obtain ⟨x, hx, e1⟩ := List.mem_map.mp m1
          have e1 : x = c.1 := Sum.inr.inj e1
          rw [e1] at hx
          have n2 : ((cs.take (i + 1)).map (·.1)).Nodup := gc.nd.sublist ((List.take_sublist _ _).map _)
          rw [take_more hc, List.map_append] at n2
          exact absurd rfl ((List.nodup_append.mp n2).2.2 c.1 hx c.1 (List.mem_singleton.mpr rfl))
      refine ⟨_, rfl, p, _, _, _, rfl, rfl, SqT.of (s03 _ _ hp), at_of (j := 0) rfl rfl, _, rfl, s, CS, dx, _, _, rfl, x03 _ _ hs', TC.cl, TC.n1, f2_c _ _, cr, _, rfl, DGet.k (k := Sum.inr c.1) (x03 _ _ hcr'), false, (by rw [fresh]; rfl), iteF ?_⟩
      refine ⟨_, rfl, s, dx, _, rfl, x03 _ _ hs', f2_no (by decide +kernel) (by decide +kernel), _, rfl, p, _, _, _, rfl, rfl, SqT.of (s03 _ _ hp), at_of (j := 1) rfl rfl, s, fl, dx, fk, _, fkk, c.2, rfl, x03 _ _ hs', f2_f _ _, x03 _ _ hfk', hd.mono s03, by have := gcc.le; omega, fun d hd' => ?_, fun H4 x4 => ⟨true, rfl, iteF ?_⟩⟩
      · cases el : look (flds (cs.take i)) d.1 with
        | none => exact .inl (by rw [vf, el]; rfl)
        | some b =>
          have hb : (d.1, b) ∈ fieldList := by
            obtain ⟨c', hc', hdd⟩ := List.mem_flatMap.mp (look_some el)
            exact (gc.each c' (List.mem_of_mem_take hc')).fl _ hdd
          have e3 : b = d.2 := nd_one (ds := fieldList) (by decide +kernel) (gcc.fl d hd') hb
          exact .inr (by rw [vf, el, e3]; rfl)
      have x04 := x03.trans x4
      have s04 := s'.trans x04
      obtain ⟨vfl, hvfl, pfl⟩ := hd.mono s04
      refine ⟨_, rfl, p, _, _, _, rfl, rfl, SqT.of (s04 _ _ hp), at_of (j := 1) rfl rfl, fl, vfl, rfl, .inl (SqL.of hvfl), fun l H5 n5 => ?_⟩
      have x05 := x04.trans n5.same
      have s05 := s'.trans x05
      have lcr : crk.length ≤ 6 := by
        have := congrArg List.length kc
        rw [List.length_map, List.length_map, List.length_map, List.length_take] at this
        omega
      refine ⟨_, rfl, s, CS, dx, _, _, rfl, x05 _ _ hs', TC.cl, TC.n1, f2_c _ _, _, rfl, p, _, _, _, rfl, rfl, SqT.of (s05 _ _ hp), at_of (j := 0) rfl rfl, cr, _, rfl, DPut.k (k := Sum.inr c.1) (x05 _ _ hcr') (sz' (by omega)), ?_⟩
      obtain ⟨H6, e6⟩ : ∃ H6, H6 = upd H5 cr (.dK (putK crk (Sum.inr c.1) (.ref l))) := ⟨_, rfl⟩
      rw [← e6]
      have s06 : Same H0 H6 := by rw [e6]; exact same_own s05 cr0
      have hs6 : H6 s = some (.ins CS dx (putF "field_kinds" (.ref fk) (putF "class_rows" (.ref cr) []))) := by rw [e6, upd_ne nsr.symm]; exact x05 _ _ hs'
      have hfk6 : H6 fk = some (.dK fkk) := by rw [e6, upd_ne ncf.symm]; exact x05 _ _ hfk'
      have hcr6 : H6 cr = some (.dK (putK crk (Sum.inr c.1) (.ref l))) := by rw [e6]; exact upd_same
      obtain ⟨vf6, hvf6, pf6⟩ := hd.mono s06
      obtain ⟨ps, eps, pps⟩ := dcls_tup pf6
      have lps : (kvsOf c.2).length ≤ 4 := by unfold kvsOf; rw [List.length_map]; exact gcc.le
      refine ⟨_, rfl, s, CS, dx, _, _, rfl, hs6, TC.cl, TC.n2, f2_f _ _, .inr (.inr (.inl ⟨rfl, .inl ⟨_, hfk6⟩⟩)), _, rfl, p, _, _, _, rfl, rfl, SqT.of (s06 _ _ hp), at_of (j := 1) rfl rfl, fk, fl, fkk, ps, kvsOf c.2, rfl, rfl, hfk6, by rw [← eps]; exact hvf6, pps, by omega, ?_⟩
      obtain ⟨H7, e7⟩ : ∃ H7, H7 = upd H6 fk (.dK (mergeK fkk (kvsOf c.2))) := ⟨_, rfl⟩
      rw [← e7]
      obtain ⟨fks', kf7, lk7⟩ := mergeK_strs (ds := c.2) kf'
      refine ⟨_, _, _, mergeK fkk (kvsOf c.2), fks', rfl, by rw [e7]; exact same_own s06 fk0, by rw [e7, upd_ne nsf.symm]; exact hs6, by rw [e7, upd_ne ncf]; exact hcr6, by rw [e7]; exact upd_same, ?_, kf7, ?_, merge_look gc hc vf⟩
      · rw [putK_new _ fresh, List.map_append, kc, take_more hc, List.map_append, List.map_append]
        rfl
      · have h1 := congrArg List.length kf7
        have h2 := congrArg List.length kf'
        rw [List.length_map, List.length_map] at h1 h2
        have := gcc.le
        omega
    · rintro σ H' ⟨v3, v4, crk, fkk, fks, rfl, s', hs', hcr', hfk', kc, kf', lf, vf⟩
      rw [lva, List.take_length] at kc vf
      have lcr : crk.length ≤ 6 := by
        have := congrArg List.length kc
        rw [List.length_map, List.length_map, List.length_map] at this
        omega
      rw [lva] at lf
      -- self.kept_functions = {}
      refine fun kf Ha na => ⟨_, rfl, s, CS, dx, _, rfl, na.same _ _ hs', TC.cl, TC.n3, (by show 2 < 1000; decide), ?_⟩
      obtain ⟨Hb, eb⟩ : ∃ Hb, Hb = upd Ha s (.ins CS dx (putF "kept_functions" (.ref kf) (putF "field_kinds" (.ref fk) (putF "class_rows" (.ref cr) [])))) := ⟨_, rfl⟩
      rw [← eb]
      have sb : Same H0 Hb := by rw [eb]; exact same_own (s'.trans na.same) s0n
      have hsb : Hb s = some (.ins CS dx (srcF (.ref cr) (.ref fk) (.ref kf))) := by rw [eb]; exact upd_same
      have nsk : kf ≠ s := (na.ne hs').symm
      have hkb : Hb kf = some (.dK []) := by rw [eb, upd_ne nsk]; exact na.at
      have hcrb : Hb cr = some (.dK crk) := by rw [eb, upd_ne nsr]; exact na.same _ _ hcr'
      have hfkb : Hb fk = some (.dK fkk) := by rw [eb, upd_ne nsf]; exact na.same _ _ hfk'
      have nck : cr ≠ kf := na.ne hcr'
      have nfk : fk ≠ kf := na.ne hfk'
      have kf0 : H0 kf = none := s'.free na.free
      have toK : ∀ {G : Hp}, Same H0 G → Same H0 (hid [kf] G) := fun {G} sG b' o' e' => hid_get (sG _ _ e') (by simpa using ne_of_none e' kf0)
      refine ⟨_, rfl, s, dx, _, rfl, hsb, srcF_no (by decide +kernel) (by decide +kernel) (by decide +kernel), _, rfl, s, b, dx, kf, _, fs, rfl, hsb, srcF_k _ _ _, hkb, LsAt.mono FrV.mono (toK sb) hfn, gh, rl, fun kfk Hc sc hkc pkc => ?_⟩
      have lfs : fs.length ≤ 6 := by have := gh.le; rw [List.length_map] at this; exact this
      have s0c : Same H0 Hc := (toK sb).trans ((show Same _ _ from sc).trans (hid_sub _ _))
      have hsc : Hc s = some (.ins CS dx (srcF (.ref cr) (.ref fk) (.ref kf))) := sc.get hsb (by simpa using nsk.symm)
      have hcrc := sc.get hcrb (by simpa using nck)
      have hfkc := sc.get hfkb (by simpa using nfk)
      refine ⟨kf, _, hkc, trivial, fun od => ?_⟩
      obtain ⟨Hd, ed⟩ : ∃ Hd, Hd = upd Hc kf (.frz od (.dK kfk)) := ⟨_, rfl⟩
      rw [← ed]
      have hkd : Hd kf = some (.frz od (.dK kfk)) := by rw [ed]; exact upd_same
      have cd : Same (hid [kf] Hc) Hd := fun b' o' e' => by
        have : b' ≠ kf := fun z => (hid_some e').2 (by rw [z]; exact List.mem_cons_self)
        rw [ed, upd_ne this]
        exact (hid_some e').1
      have s0d : Same H0 Hd := (toK s0c).trans cd
      have hsd : Hd s = some (.ins CS dx (srcF (.ref cr) (.ref fk) (.ref kf))) := cd _ _ (hid_get hsc (by simpa using nsk.symm))
      have src : SrcOk CS CF Hd s cs fs := ⟨dx, cr, fk, kf, crk, fkk, kfk, fks, hsd, cd _ _ (hid_get hcrc (by simpa using nck)), kc, by omega, cd _ _ (hid_get hfkc (by simpa using nfk)), kf', by omega, vf, .inr ⟨od, hkd⟩, pkc.imp fun _ _ z => z.mono cd, by omega⟩
      have pkd : Paired (KeptV CF Hd) kfk fs := pkc.imp fun _ _ z => z.mono cd
      have lk : kfk.length = fs.length := pkd.len
      -- how far the asking comes
      let Ep : Nat → Nat → Prop := fun i j => ∀ d t H', Same H0 H' → H' t = some (.tup [.int (i : Nat), .int (j : Nat)]) → H' d = some (.xd [("at", .ref t), ("part", .str "functions")]) → E (.ref CI) (some d) H'
      obtain ⟨R, RR, Rend⟩ : ∃ R, Reach cs fs Ep R ∧ (R fs.length 0 → ∀ H', Same H0 H' → Q .non H') := by
        rcases out with ⟨g, q⟩ | ⟨i, j, fw, q⟩
        · exact ⟨_, reach_good g, fun _ => q⟩
        · refine ⟨_, reach_wrong fw q, fun z => ?_⟩
          obtain ⟨f, r, h1, _⟩ := fw.here
          have := ix_lt h1
          omega
      obtain ⟨vb, hvb, pb⟩ := id hfn
      refine ⟨_, rfl, s, CS, dx, _, _, rfl, hsd, TC.cl, TC.n3, srcF_k _ _ _, kf, od, kfk, rfl, hkd, ?_⟩
      refine for_it (walk_ev (d := kf) (o := od) (kvs := kfk)) (fun i σ H' => ∃ (v3 v4 v5 v6 v7 : Option V), σ = [some (.ref s), some (.ref a), some (.ref b), v3, v4, v5, v6, v7] ∧ Same Hd H' ∧ R i 0)
        ⟨_, _, _, _, _, rfl, Same.refl _, RR.zero⟩ (fun i σ H' _ I => by obtain ⟨_, _, _, _, _, _, z, _⟩ := I; exact z _ _ hkd) ?_ ?_
      · rintro i y σ H' H'' hi ⟨v3, v4, v5, v6, v7, rfl, z1, hR⟩ ⟨tt, k, x, rfl, nt, hkx⟩
        obtain ⟨f, hf, ek, xf, rfl, hxf⟩ := pkd.get hkx
        have z2 := z1.trans nt.same
        refine ⟨tt, _, rfl, SqT.of nt.at, rfl, _, _, rfl, _, _, rfl, rfl, ?_⟩
        obtain ⟨vbi, hvbi, p, L, rfl, ⟨ii, oo, hp, _, _⟩, vL, hvL, pL⟩ := pb.get2 hf
        have s0z := s0d.trans z2
        refine ⟨_, rfl, _, rfl, b, vb, _, _, rfl, rfl, SqL.of (s0z _ _ hvb), at_of (j := i) rfl hvbi, p, _, _, _, rfl, rfl, SqT.of (s0z _ _ hp), at_of (j := 4) rfl rfl, L, vL, rfl, SqL.of (s0z _ _ hvL), ?_⟩
        have gf := gh.each f.1 (List.mem_map_of_mem (f := fun f : Fn => f.1) (ix_mem hf))
        have rlf := rl f (ix_mem hf)
        refine for_it (walk_enum (K := K) (a := L) (xs := vL)) (fun j σ G => ∃ (v4 v6 v7 : Option V), σ = [some (.ref s), some (.ref a), some (.ref b), some (.int (i : Nat)), v4, some (.ref xf), v6, v7] ∧ Same Hd G ∧ R i j)
          ⟨_, _, _, rfl, z2, hR⟩ (fun j σ G _ I => by obtain ⟨_, _, _, _, z, _⟩ := I; exact SqL.of ((s0d.trans z) _ _ hvL)) ?_ ?_
        · rintro j y σ G G' hj ⟨v4, v6, v7, rfl, g1, hR⟩ ⟨uu, y1, y2, rfl, nuu, eG, ey1, ey2⟩
          cases ey1
          obtain ⟨r, hr', pr, rfl, hpr⟩ := pL.get ey2
          have nu : New G uu (.tup [.int (j : Nat), .ref pr]) G' := ⟨nuu, eG⟩
          have g2 := g1.trans nu.same
          refine ⟨uu, _, rfl, SqT.of nu.at, rfl, _, _, rfl, _, _, rfl, rfl, ?_⟩
          refine ⟨_, rfl, s, dx, _, rfl, g2 _ _ hsd, srcF_no (by decide +kernel) (by decide +kernel) (by decide +kernel), _, rfl, _, rfl, s, xf, pr, cs, fs, f, r, rfl, src.mono g2, hxf.mono g2, gf, fun g hg => gh.each g.1 (List.mem_map_of_mem (f := fun f : Fn => f.1) hg), hpr.mono (s0d.trans g2), by have := rlf.2; omega, trivial, fun G2 x2 => ⟨_, rfl, ?_⟩⟩
          have g3 := g2.trans x2
          rcases RR.row i j f r hf hr' hR with ⟨ht, hn⟩ | ⟨hw, he⟩
          · rw [ht]
            exact iteF ⟨_, _, _, rfl, g3, hn⟩
          · rw [hw]
            refine iteT ?_
            refine ⟨_, rfl, _, rfl, sz (by show 2 ≤ 100000; decide), fun t Gt nt' => ⟨by show 2 ≤ 1000; decide, fun e he0 => ?_⟩⟩
            refine ⟨e, .str "functions", .ref t, rfl, upd_same, fun d Gd nd nde keep hed hdd => ⟨rfl, d, _, hed, hdd, by rw [upd_ne nde] at nd; exact nd, ?_⟩⟩
            have s0t := (s0d.trans g3).trans nt'.same
            have nd0 : Gt d = none := by rw [upd_ne nde] at nd; exact nd
            have kp : ∀ {b' : Addr} {o' : HO}, Gt b' = some o' → (upd (del Gd e) d (.xd [("at", .ref t), ("part", .str "functions")])) b' = some o' := fun {b' o'} e' => by
              have n1 := ne_of_none e' nd0
              have n2 := ne_of_none e' he0
              rw [upd_ne n1]
              unfold del
              rw [if_neg n2, keep b' n2 n1, upd_ne n2]
              exact e'
            exact he d t _ (fun b' o' e' => kp (s0t _ _ e')) (kp nt'.at) upd_same
        · rintro σ G ⟨v4, v6, v7, rfl, g1, hR⟩
          rw [pL.len] at hR
          obtain ⟨⟨as, r, ef, il⟩, hn⟩ := RR.fn i f hf hR
          obtain ⟨dxf, i2, o2, k2, l2, hx2, _, _, vl, hvl, pvl⟩ := hxf.mono g1
          rw [ef] at pvl
          obtain ⟨vs0, v, rfl, q, more, rfl, hq⟩ := frz_last pvl
          refine ⟨_, rfl, xf, CF, dxf, _, _, rfl, hx2, TF.cl, TF.n6, fnF_rows _ _ _ _ _ _, _, rfl, l2, _, _, _, rfl, rfl, SqL.of hvl, atI_last _ _, q, _, _, _, rfl, rfl, SqT.of hq, at_of (j := 0) rfl rfl, al, _, rfl, .inr (hal _), rfl, flat_strs, _, rfl, ?_⟩
          show if (!inV (.str r.tag) ([("jump" : Str), "return"].map V.str)) = true then _ else _
          rw [inV_strs]
          have it : r.tag ∈ [("jump" : Str), "return"] := by
            cases r with
            | jump i => exact (show ("jump" : Str) ∈ [("jump" : Str), "return"] by decide +kernel)
            | ret x => exact (show ("return" : Str) ∈ [("jump" : Str), "return"] by decide +kernel)
            | _ => cases il
          rw [decide_eq_true it]
          exact iteF ⟨_, _, _, _, _, rfl, g1, hn⟩
      · rintro σ G ⟨v3, v4, v5, v6, v7, rfl, g1, hR⟩
        rw [lk] at hR
        refine ⟨g1 _ _ hkd, ?_⟩
        refine Rend hR _ (fun b' o' e' => ?_)
        rw [upd_ne (ne_of_none e' kf0)]
        exact (s0d.trans g1) _ _ e'
end
end K12

namespace K12
open PySem PySem.Spec PyProof.Rows L2
abbrev sSaid : Stmt := topS 53
theorem pss_own {X : Cx} {ss : List Stmt} {cls : Value} {d : Option Addr} {C : Addr} {t : Addr → TS} (h : ∀ dd, cls = .ref C → d = some dd → PSs X ss (t dd)) : PSs X ss (fun D σ H => ∃ dd, cls = .ref C ∧ d = some dd ∧ t dd D σ H) :=
  ⟨fun pins s σ H D I ⟨dd, e1, e2, q⟩ => (h dd e1 e2).run pins s σ H D I q⟩
/-- what is known of the errors' classes where they are caught -/
structure TxtQ (K : PySem.W.Frag) (mg : Str → Option Value) (B CI IT : Addr) : Prop where
  mB : mg "CodeError" = some (.ref B)
  mC : mg "InvalidSource" = some (.ref CI)
  mT : mg "InvalidText" = some (.ref IT)
  is : IsE K CI
  xf : XfC K CI
  np : PySem.W.findIn K (.ref CI) "part" = some none
  na : PySem.W.findIn K (.ref CI) "at" = some none
  ex : PySem.W.exmOne K (.ref CI) (.ref CI) = some true
  k1 : PySem.W.kitOne K (.ref CI) (.ref B) = some true
  k2 : PySem.W.kitOne K (.ref CI) (.type "ArithmeticError") = some true
  k3 : PySem.W.kitOne K (.ref CI) (.ref IT) = some false
def spSaid : Sp := fun vs H Q _ => ∃ (a b : Addr) (cs : List Cl) (fs : List Fn), vs = [.ref a, .ref b] ∧ SrcArg H a b cs fs ∧
  (((∀ f ∈ fs, GoodFn cs (fs.map (·.1)) f) ∧ ∀ H', Same H H' → Q .non H') ∨
   ∃ i j, FirstWrong cs fs i j ∧ ∀ t u H', Same H H' → H' u = some (.tup [.str "functions", .ref t]) → H' t = some (.tup [.int (i : Nat), .int (j : Nat)]) → Q (.ref u) H')
section
variable {P : Program} {w : World} {K : PySem.W.Frag} {mg : Str → Option Value} {base : Heap}
theorem scSaid : FnScope ["_law_classes_here", "_law_functions", "e"] ["_law_classes_here", "_law_functions"] (defScope sSaid) := ⟨rfl, rfl, rfl, by decide +kernel, rfl, by decide +kernel, by decide +kernel⟩
theorem cal_said {CS CI B IT fI : Addr} {fdI : FuncData} (T : Txt mg) (TQ : TxtQ K mg B CI IT) (D : Dfn K mg "_law_said" "_law_said" sSaid ["_law_classes_here", "_law_functions"]) (M : Mk K CS fI) (mS : mg "Source" = some (.ref CS))
    (GI : FnOk P w K mg base (L2.CX P w) 6 fI fdI ["self", "classes", "functions"] (spSrcInit CS CI)) (bI : Binds K fdI ["self", "classes", "functions"] []) : Cal P w K mg base CX0 8 "_law_said" ["_law_classes_here", "_law_functions"] spSaid := by
  obtain ⟨f, fd, F, m, b⟩ := D
  refine ⟨f, fd, m, F.kp, b, F.ok scSaid (fun vs H Q E h => ?_) (fun cdv A outer s H vs Q E hr h => ?_)⟩
  · obtain ⟨_, _, _, _, rfl, _⟩ := h
    rfl
  · obtain ⟨a, b, cs, fs, rfl, arg, out⟩ := h
    refine ⟨_, pss_cons (ps_try_first (i := 2) (tb := fun W => tDrop (tMakeS CS (spSrcInit CS CI) (WE W) (tCons (tVar 0) (tCons (tVar 1) tNil)))) rfl rfl scSaid.nd rfl rfl ⟨rfl, by decide, .inl TQ.mC⟩
        (fun W pn xe tk _ => pss_one (ps_expr (pe_makeS M GI hr (by rfl) mS bI (fun σ => passAt tk σ) (pa_cons (pv 0) (pa_cons (pv 1) pa_nil)))))
        (fun a oe cls d pn hz hf => pss_own (cls := cls) (d := d) (C := CI) fun dd e1 e2 => by
          have hz' : Zc (.ref CI) (some dd) oe := by rw [← e1, ← e2]; exact hz
          exact pss_cons (ps_if (PW.pt (pw_or (pt_not (pt_val (pe_callB (r := rIsErr K CI a dd) (call_isErr TQ.is hz' hf) (by rfl) T.isinstance (by decide +kernel) (pa_cons (pv 2) (pa_cons (pe_glob (v := .ref B) (by rfl) TQ.mB rfl) pa_nil)))))
              (pw_or (pt_not (pt_val (pe_callB (r := rIsErr K CI a dd) (call_isErr TQ.is hz' hf) (by rfl) T.isinstance (by decide +kernel) (pa_cons (pv 2) (pa_cons (pe_bltn (v := .ty "ArithmeticError") (by rfl) T.arit (by decide +kernel) rfl) pa_nil)))))
                (pw_or1 (pt_val (pe_callB (r := rIsErr K CI a dd) (call_isErr TQ.is hz' hf) (by rfl) T.isinstance (by decide +kernel) (pa_cons (pv 2) (pa_cons (pe_glob (v := .ref IT) (by rfl) TQ.mT rfl) pa_nil)))))))) (pss_one (ps_ret pe_str)) pss_nil)
            (pss_one (ps_ret (pe_tupN (pa_cons (pe_xf TQ.xf TQ.np hz hf (pv 2)) (pa_cons (pe_xf TQ.xf TQ.na hz hf (pv 2)) pa_nil)))))))
      (pss_one (ps_ret pe_non)), ?_⟩
    refine ⟨_, rfl, _, rfl, fun x dx nx ndx nex => ?_⟩
    have s2 : Same H (upd (upd H dx (.own x)) x (.ins CS dx [])) := same_new (same_new (Same.refl _) ndx) (by rw [upd_ne nex.symm]; exact nx)
    refine ⟨x, dx, a, b, H, cs, fs, rfl, s2, nx, upd_same, arg, ?_⟩
    rcases out with ⟨g, q⟩ | ⟨i, j, fw, q⟩
    · exact .inl ⟨g, fun H' s' => ⟨rfl, q H' s'⟩⟩
    · refine .inr ⟨i, j, fw, fun d t H' s' ht hd => ⟨TQ.ex, fun e he => ⟨d, rfl, rfl, ?_⟩⟩⟩
      refine ⟨_, rfl, _, _, true, _, rfl, .own B, TQ.k1, hd, true, rfl, iteF ?_⟩
      refine ⟨_, rfl, _, _, true, _, rfl, .ty "ArithmeticError", TQ.k2, hd, true, rfl, iteF ?_⟩
      refine ⟨_, rfl, _, _, false, _, rfl, .own IT, TQ.k3, hd, false, rfl, iteF ?_⟩
      refine ⟨_, rfl, rfl, rfl, d, _, .str "functions", rfl, hd, ?_, _, rfl, rfl, rfl, d, _, .ref t, rfl, hd, rfl, sz (by show 2 ≤ 100000; decide), fun u Hu nu => ?_⟩
      · rfl
      · exact q t u Hu (fun b o e => nu.same _ _ (s' _ _ e)) nu.at (nu.same _ _ ht)
end
end K12

namespace K12
open PySem PySem.Spec PyProof.Rows L2
abbrev sCopied : Stmt := topS 52
/-- as lc_dr, the items told without the new list -/
theorem lc_drO {α : Type} {J : It} {n : Nat} {G : Hp → Prop} {Y : Nat → Hp → V → Hp → Prop} (wk : Walk J n G Y) {g : TG} {te : TE} {vs : List Nat} {σ : L2.St} {H1 : Hp} {D : Addr} {Qd : Hp → Prop} {w : Addr} {S : List Addr} (R : Hp → V → α → Prop) (A : Nat → α → Prop) (mR : Mono R) (hx : n ≤ 100000) (W : Wl w S H1) (hD : H1 D = none)
    (hl : ∀ i H, i ≤ n → At w D S H1 H → G H)
    (hs : ∀ i x H H' (Qn : V → Hp → Prop), i < n → At w D S H1 H → Y i H x H' → (∀ y r H4, Dr w H H4 → R (hid (D :: S) H4) y r → A i r → Qn y H4) → g x (wipe σ vs) H' fun σ2 H2 => wipe σ2 vs = wipe σ vs ∧ te σ2 H2 Qn)
    (hd : ∀ H ys rs, At w D S H1 H → H D = some (.lst ys) → Paired (R (hid (D :: S) H)) ys rs → rs.length = n → (∀ i r, rs[i]? = some r → A i r) → Qd H) :
    ∃ W : Nat → Nat → Hp → Prop, (∃ m, W 0 m (upd H1 D (.lst []))) ∧ ∀ i m H, W i m H →
      (J.stop i H ∧ Qd H) ∨ (J.go i H ∧ ∃ Nx : Hp → Prop, (∀ H', Nx H' → ∃ m', m' < m ∧ W (i + 1) m' H') ∧ ∀ x H', J.yld i H x H' → g x (wipe σ vs) H' fun σ2 H2 => wipe σ2 vs = wipe σ vs ∧ tYes σ2 H2 fun b H3 =>
        if b = true then te σ2 H3 fun y H4 => ∃ acc, H4 D = some (.lst acc) ∧ acc.length < sizeLine ∧ Nx (upd H4 D (.lst (acc ++ [y]))) else Nx H3) := by
  have nD := W.nw hD
  refine lc_mapW wk (tt := tYes) (LcInv w D S H1 R A) hx hD (fun H' n => ⟨⟨W.new n, n.sm⟩, [], .nil, rfl, fun j r e => by simp at e⟩) (fun i ys H hi _ I => hl i H hi I.at_) (fun i x ys H H' hi hD' hl' I y => ?_) (fun ys H h _ I => ?_)
  · exact hs i x H H' (LcNew D i (LcInv w D S H1 R A)) hi I.at_ y fun y r H4 d q a => lc_turn mR nD I hD' hl' d q a
  · obtain ⟨a, rs, p, l, z⟩ := I
    exact hd H ys rs a h p l z
def spCopied : Sp := fun vs H Q _ => ∃ (w a b : Addr) (S : List Addr) (cs : List Cl) (fs : List Fn), vs = [.ref a, .ref b] ∧ Wl w S H ∧ ClsAt (hid S H) a cs ∧ cs.length ≤ 6 ∧ LsAt FrV (hid S H) b fs ∧ fs.length ≤ 6 ∧ (∀ c ∈ cs, c.2.length ≤ 4) ∧ (∀ f ∈ fs, f.2.length ≤ 40) ∧
  ∀ t a' b' (Ls : List Addr) H', Dr w H H' → hid (Ls ++ S) H' t = some (.tup [.ref a', .ref b']) → Ls.length = fs.length → Ls.Nodup → (∀ L ∈ Ls, H L = none) → ClsAt (hid (Ls ++ S) H') a' cs → FnsAt (hid (Ls ++ S) H') b' ((fs.map (·.1)).zip Ls) →
    (∀ (i : Nat) (L : Addr) (f : Fn), Ls[i]? = some L → fs[i]? = some f → ∃ vs, H' L = some (.lst vs) ∧ Paired (RwV (hid (Ls ++ S) H')) vs f.2) → Q (.ref t) H'
section
variable {P : Program} {w : World} {K : PySem.W.Frag} {mg : Str → Option Value} {base : Heap}
theorem scCopied : FnScope ["_law_classes_here", "_law_functions", "_law_some_here", "_law_found", "_law_name", "_law_inputs", "_law_others", "_law_kind", "_law_rows_here", "_law_its", "_law_fields", "_law_row", "_law_part"] ["_law_classes_here", "_law_functions"] (defScope sCopied) := ⟨rfl, rfl, rfl, by decide +kernel, rfl, by decide +kernel, by decide +kernel⟩
theorem cal_copied (T : Txt mg) (D : Dfn K mg "_law_copied" "_law_copied" sCopied ["_law_classes_here", "_law_functions"]) : Cal P w K mg base CX0 1 "_law_copied" ["_law_classes_here", "_law_functions"] spCopied := by
  obtain ⟨f, fd, F, m, b⟩ := D
  refine ⟨f, fd, m, F.kp, b, F.ok scCopied (fun vs H Q E h => ?_) (fun cdv A outer s H vs Q E hr h => ?_)⟩
  · obtain ⟨_, _, _, _, _, _, rfl, _⟩ := h
    rfl
  · obtain ⟨p, a, b, S, cs, fs, rfl, W, hcs, lcs, hfs, lfs, lfc, lfr, k⟩ := h
    refine ⟨_, pss_cons (ps_setLc (i := 2) (own := [("_law_name", 4), ("_law_fields", 10)]) (g := g2 K 4 10) (tt := tYes) rfl scCopied.nd rfl rfl (sw_true rfl rfl rfl (by decide +kernel)) (pi_list (pv 0))
              (blkOk_by (N := ["_law_classes_here", "_law_functions", "_law_some_here", "_law_found", "_law_name", "_law_inputs", "_law_others", "_law_kind", "_law_rows_here", "_law_its", "_law_fields", "_law_row", "_law_part"]) (sc := defScope sCopied) (by decide +kernel))
              (fun _ _ _ _ _ => pg_two 4 10 rfl scCopied.nd rfl rfl (.inl rfl) (.inl rfl)) (fun _ _ _ _ _ => pts_nil) (fun _ _ _ _ _ => pe_tupN (pa_cons (pv 4) (pa_cons (pe_callTy (r := rLoN K) call_listN (by rfl) T.list (by decide +kernel) (pa_cons (pv 10) pa_nil)) pa_nil))))
      (pss_cons (ps_set (i := 3) scCopied.nd rfl (.inl rfl) (pe_lstN pa_nil))
      (pss_cons (ps_for PassesOwn.never rfl (pi_list (pv 1)) (pg_tup rfl (pgs_cons (pg_name (i := 4) scCopied.nd rfl (.inl rfl)) (pgs_cons (pg_name (i := 5) scCopied.nd rfl (.inl rfl)) (pgs_cons (pg_name (i := 6) scCopied.nd rfl (.inl rfl)) (pgs_cons (pg_name (i := 7) scCopied.nd rfl (.inl rfl)) (pgs_cons (pg_name (i := 8) scCopied.nd rfl (.inl rfl)) pgs_nil))))))
        (pss_cons (ps_setLc (i := 9) (own := [("_law_row", 11)]) (g := gName 11) (tt := tYes) rfl scCopied.nd rfl rfl (sw_true rfl rfl rfl (by decide +kernel)) (pi_list (pv 8))
              (blkOk_by (N := ["_law_classes_here", "_law_functions", "_law_some_here", "_law_found", "_law_name", "_law_inputs", "_law_others", "_law_kind", "_law_rows_here", "_law_its", "_law_fields", "_law_row", "_law_part"]) (sc := defScope sCopied) (by decide +kernel))
              (fun _ _ _ _ _ => pg_name (i := 11) scCopied.nd rfl (.inl rfl)) (fun _ _ _ _ _ => pts_nil)
              (fun _ _ _ _ _ => pe_callTy (r := rToN K) call_tupleN (by rfl) T.tuple (by decide +kernel) (pa_cons (pe_lc (own := [("_law_part", 12)]) (g := gName 12) (tt := tYes) (wi := iTup K (tVar 11)) rfl scCopied.nd (pi_tup (pv 11))
                (blkOk_by (N := ["_law_classes_here", "_law_functions", "_law_some_here", "_law_found", "_law_name", "_law_inputs", "_law_others", "_law_kind", "_law_rows_here", "_law_its", "_law_fields", "_law_row", "_law_part"]) (by rfl))
                (fun _ _ _ _ _ => pg_name (i := 12) scCopied.nd rfl (.inl rfl)) (fun _ _ _ _ _ => pts_nil)
                (fun _ _ _ _ _ => pe_ifExp (pt_val (pe_callB (r := rIsi K) call_isi (by rfl) T.isinstance (by decide +kernel) (pa_cons (pv 12) (pa_cons (pe_bltn (v := .ty "list") (by rfl) T.list (by decide +kernel) rfl) pa_nil))))
                  (pe_callTy (r := rLoN K) call_listN (by rfl) T.list (by decide +kernel) (pa_cons (pv 12) pa_nil)) (pv 12))) pa_nil)))
        (pss_one (ps_expr (pe_bm PySem.F.plainAttrs_list PySem.F.slot_list_append PySem.F.type_list_append mt_appN (pv 3) (pa_cons
          (pe_tupN (pa_cons (pv 4) (pa_cons (pe_callTy call_listN (by rfl) T.list (by decide +kernel) (pa_cons (pv 5) pa_nil)) (pa_cons (pe_callTy call_listN (by rfl) T.list (by decide +kernel) (pa_cons (pv 6) pa_nil)) (pa_cons (pv 7) (pa_cons (pv 9) pa_nil)))))) pa_nil))))))
      (pss_one (ps_ret (pe_tupN (pa_cons (pv 2) (pa_cons (pv 3) pa_nil))))))), ?_⟩
    have ext : ∀ {α : Type} {xs ys : List α}, xs.length = ys.length → (∀ j b, xs[j]? = some b → ys[j]? = some b) → xs = ys := fun {α xs ys} l h => by
      refine List.ext_getElem? fun j => ?_
      cases e : xs[j]? with
      | some b => exact (h j b e).symm
      | none => exact (List.getElem?_eq_none_iff.mpr (by have := List.getElem?_eq_none_iff.mp e; omega)).symm
    obtain ⟨va, hva, pa⟩ := id hcs
    refine ⟨_, rfl, a, rfl, ⟨_, SqL.of (hid_some hva).1⟩, fun D1 hD1 => lc_dr (K := K) (w := p) (S := S) (a := a) (xs := va) ClV (fun j c => cs[j]? = some c) ClV.mono (by rw [pa.len]; omega) W hD1 (SqL.of hva) ?_ ?_⟩
    · rintro j y H1 Qn hj at1 kq
      obtain ⟨c, hc, q, fl, rfl, hq, ⟨vf, hvf, pf⟩⟩ := pa.get hj
      have up := at1.up W.mem hD1
      refine ⟨q, _, rfl, SqT.of (hid_some (up _ _ hq)).1, rfl, _, _, rfl, _, _, rfl, rfl, rfl, ?_⟩
      refine ⟨_, rfl, _, rfl, fl, vf, rfl, .inl (SqL.of (hid_some (up _ _ hvf)).1), fun l H2 n2 => ⟨sz (by show 2 ≤ 100000; decide), fun t H3 n3 => ?_⟩⟩
      have W2 := at1.wl.same n2.same
      exact kq _ c H3 ((Dr.of at1.wl.wl n2.same).same n3.same) ⟨t, l, rfl, hid_get n3.at (W2.nin n3.free), ⟨vf, n3.hid _ _ (hid_get n2.at (at1.wl.nin n2.free)), pf.imp fun _ _ z => DclV.mono _ _ _ _ ((up.trans n2.hid).trans n3.hid) z⟩⟩ hc
    · rintro H1 cs' d1 hcs1 lcs1 acs1
      have ecs : cs' = cs := ext (by rw [lcs1, pa.len]) acs1
      subst ecs
      have W1 := W.dr d1
      have hfs1 := LsAt.mono FrV.mono (W.up d1) hfs
      refine ⟨sz (by show 0 ≤ 100000; decide), fun lf H3 n3 => ?_⟩
      have W3 := W1.new n3
      have nfp := W1.nw n3.free
      have lf0 : H lf = none := d1.free n3.free
      have d3 : Dr p H H3 := d1.same n3.same
      have hcs3 : ClsAt (hid (lf :: S) H3) D1 cs' := LsAt.mono ClV.mono n3.hid1 hcs1
      have hfs3 : LsAt FrV (hid (lf :: S) H3) b fs := LsAt.mono FrV.mono n3.hid1 hfs1
      obtain ⟨vb, hvb, pb⟩ := id hfs3
      have base : ∀ {Ls : List Addr} {G : Hp}, Sm [lf, p] H3 G → (∀ L ∈ Ls, H3 L = none) → Same (hid (lf :: S) H3) (hid (Ls ++ lf :: S) G) := fun {Ls G} sG hL b' o' e' => by
        have h1 := W1.up1 sG b' o' e'
        refine hid_get (hid_some h1).1 fun m => ?_
        rcases List.mem_append.mp m with q | q
        · have := hL b' q
          rw [(hid_some e').1] at this
          cases this
        · exact (hid_some h1).2 q
      refine ⟨_, rfl, b, rfl, ⟨_, SqL.of (hid_some hvb).1⟩, ?_⟩
      refine for_list (K := K) (a := b) (xs := vb) (fun i σ H' => ∃ (v4 v5 v6 v7 v8 v9 : Option V) (Ls : List Addr) (vs : List V), σ = [some (.ref a), some (.ref b), some (.ref D1), some (.ref lf), v4, v5, v6, v7, v8, v9, none, none, none] ∧ Wl p (Ls ++ lf :: S) H' ∧ Sm [lf, p] H3 H' ∧ (∀ L ∈ Ls, H3 L = none) ∧ Ls.Nodup ∧ Ls.length = i ∧
          H' lf = some (.lst vs) ∧ Paired (FnV (hid (Ls ++ lf :: S) H')) vs (((fs.take i).map (·.1)).zip Ls) ∧ ∀ (j : Nat) (L : Addr) (f : Fn), Ls[j]? = some L → fs[j]? = some f → ∃ vL, H' L = some (.lst vL) ∧ Paired (RwV (hid (Ls ++ lf :: S) H')) vL f.2)
        ⟨none, none, none, none, none, none, [], [], rfl, W3, Sm.refl _ _, (fun _ m => nomatch m), List.nodup_nil, rfl, n3.at, .nil, fun j L f e => by simp at e⟩
        (fun i σ H' _ I => by obtain ⟨_, _, _, _, _, _, _, _, _, _, s', _⟩ := I; exact SqL.of (hid_some (W1.up1 s' _ _ hvb)).1) ?_ ?_
      · rintro i y σ H' hi ⟨v4, v5, v6, v7, v8, v9, Ls, vs, rfl, W', s', hLs, ndL, lLs, hlf, pv', rowsL⟩
        obtain ⟨f, hf, fa, L0, rfl, ⟨io, oo, hfa, hio, hoo⟩, hL0⟩ := pb.get hi
        have B := base s' hLs
        have hfa' := B _ _ hfa
        obtain ⟨vL0, hvL0, pL0⟩ := hL0.mono B
        obtain ⟨vio, hvio, pio⟩ := hio.mono B
        obtain ⟨voo, hvoo, poo⟩ := hoo.mono B
        have i6 : i < 6 := by have := ix_lt hf; omega
        have lf40 := lfr f (ix_mem hf)
        refine ⟨fa, _, rfl, SqT.of (hid_some hfa').1, rfl, _, _, rfl, _, _, rfl, _, _, rfl, _, _, rfl, _, _, rfl, rfl, ?_⟩
        refine ⟨_, rfl, L0, rfl, ⟨_, SqL.of (hid_some hvL0).1⟩, fun D hD => lc_drO (walk_list (K := K) (a := L0) (xs := vL0)) (w := p) (S := Ls ++ lf :: S) RwV (fun j r => f.2[j]? = some r) RwV.mono (by rw [pL0.len]; omega) W' hD (fun i H _ at' => SqL.of (hid_some (at'.up W'.mem hD _ _ hvL0)).1) ?_ ?_⟩
        · rintro j y H4 H4' Qn hj at4 ⟨rfl, hy⟩ kq
          obtain ⟨r, hr', ra, rfl, vr, hvr, pr, ar⟩ := pL0.get hy
          have up4 := at4.up W'.mem hD
          have hvr4 := up4 _ _ hvr
          have l4 : vr.length ≤ 4 := by
            rw [pr.len, Rw.cells_eq]
            have := (rest_len r).2
            show r.rest.length + 1 ≤ 4
            omega
          refine ⟨rfl, _, rfl, ra, rfl, ⟨_, SqT.of (hid_some hvr4).1⟩, fun Dp hDp => lc_drW (walk_tup (K := K) (a := ra) (xs := vr)) (w := p) (S := D :: (Ls ++ lf :: S)) CellV (fun j c => r.cells[j]? = some c) CellV.mono (by omega) at4.wl hDp (fun i H _ at' => SqT.of (hid_some (at'.up at4.wl.mem hDp _ _ hvr4)).1) ?_ ?_⟩
          · rintro jj v H5 H5' Qm hjj at5 ⟨rfl, hv⟩ kq2
            obtain ⟨c, hc, hcv⟩ := pr.get hv
            have hcv5 := CellV.mono _ _ _ _ (up4.trans (at5.up at4.wl.mem hDp)) hcv
            obtain ⟨t, ty, kt⟩ := cell_isL (K := K) (CellV.mono _ _ _ _ (hid_sub _ _) hcv5)
            refine ⟨rfl, _, rfl, _, _, t, _, c.isL, rfl, .ty "list", ty, kt, _, rfl, ?_⟩
            refine ite2 (fun e => ?_) (fun e => ?_)
            · cases c with
              | s x => cases e
              | n i => cases e
              | l as =>
                obtain ⟨q, rfl, las, hq⟩ := hcv5
                refine ⟨_, rfl, q, _, rfl, .inl (SqL.of (hid_some hq).1), fun l H6 n6 => ?_⟩
                exact kq2 _ (.l as) H6 (n6.dr (Dr.refl at5.wl.wl)) ⟨l, rfl, las, hid_get n6.at (at5.wl.nin n6.free)⟩ hc
            · exact ⟨_, rfl, kq2 _ c _ (Dr.refl at5.wl.wl) hcv5 hc⟩
          · rintro H5 cells5 d5 ⟨vc, hvc, pc⟩ lc ac
            have ec : cells5 = r.cells := ext (by rw [lc, pr.len]) ac
            subst ec
            refine ⟨Dp, vc, rfl, SqL.of (hid_some hvc).1, fun tt H6 n6 => ?_⟩
            exact kq _ r H6 (d5.same n6.same) ⟨tt, rfl, vc, hid_get n6.at ((at4.wl.dr d5).nin n6.free), pc.imp fun _ _ z => CellV.mono _ _ _ _ n6.hid z, ar⟩ hr'
        · rintro H4 ysL rs at4 hD4 pL lrs ars
          have ers : rs = f.2 := ext (by rw [lrs, pL0.len]) ars
          subst ers
          have W4 := at4.wl
          have d4 := at4.dr hD
          have up4 := at4.up W'.mem hD
          have hlf4 : H4 lf = some (.lst vs) := at4.get hD hlf nfp
          refine ⟨_, rfl, .inl ⟨rfl, _, SqL.of hlf4⟩, ?_⟩
          refine ⟨_, rfl, _, rfl, io, vio, rfl, .inl (SqL.of (hid_some (up4 _ _ hvio)).1), fun l5 H5 n5 => ?_⟩
          refine ⟨_, rfl, oo, voo, rfl, .inl (SqL.of (n5.same _ _ (hid_some (up4 _ _ hvoo)).1)), fun l6 H6 n6 => ?_⟩
          refine ⟨_, rfl, _, rfl, sz (by show 5 ≤ 100000; decide), fun t H7 n7 => ?_⟩
          have W5 := W4.same n5.same
          have W6 := W5.same n6.same
          have W7 := W6.same n7.same
          have x47 := (n5.same.trans n6.same).trans n7.same
          refine ⟨lf, vs, _, rfl, rfl, x47 _ _ hlf4, sz' (by have := pv'.len; rw [List.length_zip, List.length_map, List.length_take] at this; omega), fun H8 p8 => ?_⟩
          have W8 := W7.put p8 nfp
          -- the new hidden set
          have setEq : ∀ x, x ∈ (Ls ++ [D]) ++ lf :: S ↔ x ∈ D :: (Ls ++ lf :: S) := fun x => by
            simp only [List.mem_append, List.mem_cons, List.mem_nil_iff, or_false]
            constructor
            · rintro ((h | h) | h | h) <;> simp [h]
            · rintro (h | h | h | h) <;> simp [h]
          have toN : ∀ G : Hp, Same (hid (D :: (Ls ++ lf :: S)) G) (hid ((Ls ++ [D]) ++ lf :: S) G) := fun G => hid_less G fun x m => (setEq x).mp m
          have x78 : Same (hid (D :: (Ls ++ lf :: S)) H7) (hid (D :: (Ls ++ lf :: S)) H8) := p8.hid (by simp)
          have x48 : Same (hid (D :: (Ls ++ lf :: S)) H4) (hid ((Ls ++ [D]) ++ lf :: S) H8) := L2.Same.trans (L2.Same.trans (show Same (hid (D :: (Ls ++ lf :: S)) H4) (hid (D :: (Ls ++ lf :: S)) H7) from Sm.of x47) x78) (toN H8)
          have xo8 : Same (hid (Ls ++ lf :: S) H') (hid ((Ls ++ [D]) ++ lf :: S) H8) := up4.trans x48
          have D3 : H3 D = none := by
            refine (Sm.free s' hD ?_)
            intro m
            rcases List.mem_cons.mp m with e | e
            · rw [e, hlf] at hD; cases hD
            · exact W'.nw hD (List.mem_singleton.mp e)
          have nDL : D ∉ Ls := fun m => W'.nin hD (List.mem_append_left _ m)
          have sm8 : Sm [lf, p] H3 H8 := ((s'.trans (Sm.two d4)).trans (Sm.of x47)).trans (p8.sm List.mem_cons_self)
          have keepL : ∀ {L : Addr} {vL : List V}, H4 L = some (.lst vL) → L ≠ lf → H8 L = some (.lst vL) := fun {L vL} h n => by rw [p8.ne n]; exact x47 _ _ h
          have nlfS : lf ∈ Ls ++ lf :: S := by simp
          have nDlf : D ≠ lf := fun e => W'.nin hD (by rw [e]; exact nlfS)
          have nLlf : ∀ L ∈ Ls, L ≠ lf := fun L m e => by
            have := hLs L m
            rw [e, n3.at] at this
            cases this
          refine ⟨_, _, _, _, _, _, Ls ++ [D], vs ++ [.ref t], rfl, ⟨W8.wl, by simp [W.mem], fun x m => W8.there x ((setEq x).mp m)⟩, sm8, fun L m => ?_, ?_, by rw [List.length_append, lLs]; rfl, p8.at, ?_, ?_⟩
          · rcases List.mem_append.mp m with q | q
            · exact hLs L q
            · rw [List.mem_singleton.mp q]; exact D3
          · refine List.nodup_append.mpr ⟨ndL, by simp, fun x hx y hy e => ?_⟩
            rw [List.mem_singleton.mp hy] at e
            exact nDL (by rw [← e]; exact hx)
          · rw [take_more hf, List.map_append, List.zip_append (by rw [List.length_map, List.length_take, lLs]; have := ix_lt hf; omega)]
            refine (pv'.imp fun _ _ z => FnV.mono _ _ _ _ xo8 z).app (.one ⟨t, rfl, l5, l6, ?_, ⟨vio, ?_, pio.imp fun _ _ z => DclV.mono _ _ _ _ xo8 z⟩, ⟨voo, ?_, poo.imp fun _ _ z => DclV.mono _ _ _ _ xo8 z⟩⟩)
            · exact (x78.trans (toN H8)) _ _ (hid_get n7.at (W6.nin n7.free))
            · exact ((n6.hid.trans n7.hid).trans (x78.trans (toN H8))) _ _ (hid_get n5.at (W4.nin n5.free))
            · exact (n7.hid.trans (x78.trans (toN H8))) _ _ (hid_get n6.at (W5.nin n6.free))
          · intro j L g hj hg
            by_cases c : j < Ls.length
            · rw [List.getElem?_append_left c] at hj
              obtain ⟨vL, h1, h2⟩ := rowsL j L g hj hg
              have mL := ix_mem hj
              have nLp : L ≠ p := fun e => by
                have := hLs L mL
                obtain ⟨_, _, _, q⟩ := W3.wl
                rw [e, q] at this
                cases this
              exact ⟨vL, keepL (at4.get hD h1 nLp) (nLlf L mL), h2.imp fun _ _ z => RwV.mono _ _ _ _ xo8 z⟩
            · have ej : j = Ls.length := by
                have := ix_lt hj
                rw [List.length_append] at this
                have : j < Ls.length + 1 := this
                omega
              subst ej
              rw [List.getElem?_append_right (Nat.le_refl _), Nat.sub_self] at hj
              cases hj
              rw [lLs, hf] at hg
              cases hg
              exact ⟨ysL, keepL hD4 nDlf, pL.imp fun _ _ z => RwV.mono _ _ _ _ x48 z⟩
      · rintro σ H' ⟨v4, v5, v6, v7, v8, v9, Ls, vs, rfl, W', s', hLs, ndL, lLs, hlf, pv', rowsL⟩
        have lb : vb.length = fs.length := pb.len
        rw [lb] at lLs
        rw [lb, List.take_length] at pv'
        refine ⟨_, rfl, _, rfl, sz (by show 2 ≤ 100000; decide), fun t H9 n9 => ?_⟩
        have W9 := W'.same n9.same
        have sub : Same (hid (Ls ++ lf :: S) H') (hid (Ls ++ S) H9) := n9.hid.trans (hid_less H9 fun x m => by
          rcases List.mem_append.mp m with q | q
          · exact List.mem_append_left _ q
          · exact List.mem_append_right _ (List.mem_cons_of_mem _ q))
        have nLlf : ∀ L ∈ Ls, L ≠ lf := fun L m e => by
          have := hLs L m
          rw [e, n3.at] at this
          cases this
        refine k t D1 lf Ls H9 ⟨((Sm.two d3).trans (s'.trans n9.sm)).drop lf0, W9.wl⟩ (hid_get n9.at fun m => W'.nin n9.free (by
          rcases List.mem_append.mp m with q | q
          · exact List.mem_append_left _ q
          · exact List.mem_append_right _ (List.mem_cons_of_mem _ q))) lLs ndL (fun L m => d3.free (hLs L m)) (LsAt.mono ClV.mono ((base s' hLs).trans sub) hcs3) ⟨vs, hid_get (n9.same _ _ hlf) (fun m => ?_), pv'.imp fun _ _ z => FnV.mono _ _ _ _ sub z⟩ fun j L g hj hg => ?_
        · rcases List.mem_append.mp m with q | q
          · exact nLlf lf q rfl
          · exact W1.nin n3.free q
        · obtain ⟨vL, h1, h2⟩ := rowsL j L g hj hg
          exact ⟨vL, n9.same _ _ h1, h2.imp fun _ _ z => RwV.mono _ _ _ _ sub z⟩
end
end K12

namespace K12
open PySem PySem.Spec PyProof.Rows L2
abbrev sRight : Stmt := topS 60
/-- which rows stand: those at ps are wrong, the others the source's own -/
structure Marked (cs : List Cl) (fs : List Fn) (rows : List (List Rw)) (ps : List (Nat × Nat)) : Prop where
  len : rows.length = fs.length
  each : ∀ (j : Nat) (rs : List Rw) (f : Fn), rows[j]? = some rs → fs[j]? = some f → rs.length = f.2.length
  bad : ∀ (j k : Nat) (rs : List Rw) (f : Fn) (r : Rw), rows[j]? = some rs → fs[j]? = some f → rs[k]? = some r → (j, k) ∈ ps → isRow cs (fs.map (·.1)) f.1 f.2.length r = false
  good : ∀ (j k : Nat) (rs : List Rw) (f : Fn) (r : Rw), rows[j]? = some rs → fs[j]? = some f → rs[k]? = some r → (j, k) ∉ ps → f.2[k]? = some r
  there : ∀ q ∈ ps, ∃ f, fs[q.1]? = some f ∧ q.2 < f.2.length
def lexP (p q : Nat × Nat) : Prop := p.1 < q.1 ∨ (p.1 = q.1 ∧ p.2 < q.2)
def withRows (fs : List Fn) (rows : List (List Rw)) : List Fn := (fs.map (·.1)).zip rows
theorem with_get {fs : List Fn} {rows : List (List Rw)} {j : Nat} {g : Fn} (h : (withRows fs rows)[j]? = some g) : ∃ f, fs[j]? = some f ∧ g.1 = f.1 ∧ rows[j]? = some g.2 := by
  unfold withRows at h
  rw [List.getElem?_zip_eq_some] at h
  obtain ⟨h1, h2⟩ := h
  obtain ⟨f, hf, e⟩ := map_ix h1
  exact ⟨f, hf, e, h2⟩
theorem with_heads {fs : List Fn} {rows : List (List Rw)} (l : rows.length = fs.length) : (withRows fs rows).map (·.1) = fs.map (·.1) := by
  unfold withRows
  exact List.map_fst_zip (by rw [List.length_map]; omega)
theorem first_wrong {cs : List Cl} {fs : List Fn} {rows : List (List Rw)} {ps : List (Nat × Nat)} (g : ∀ f ∈ fs, GoodFn cs (fs.map (·.1)) f) (M : Marked cs fs rows ps) {i j : Nat} (m : (i, j) ∈ ps) (least : ∀ q ∈ ps, ¬ lexP q (i, j)) : FirstWrong cs (withRows fs rows) i j := by
  have eh := with_heads (fs := fs) M.len
  have row_of : ∀ {a : Nat} {f : Fn}, fs[a]? = some f → ∃ rs, rows[a]? = some rs ∧ rs.length = f.2.length := fun {a f} hf => by
    have lt := ix_lt hf
    rw [← M.len] at lt
    exact ⟨rows[a], List.getElem?_eq_getElem lt, M.each a _ f (List.getElem?_eq_getElem lt) hf⟩
  refine ⟨?_, fun g' k r hg hk hr => ?_, fun i' g' hi hg => ?_⟩
  · obtain ⟨f, hf, hj⟩ := M.there (i, j) m
    obtain ⟨rs, hrs, lr⟩ := row_of hf
    have hj : j < rs.length := by omega
    refine ⟨(f.1, rs), rs[j], ?_, List.getElem?_eq_getElem hj, ?_⟩
    · unfold withRows
      rw [List.getElem?_zip_eq_some]
      exact ⟨by rw [List.getElem?_map, hf]; rfl, hrs⟩
    · rw [eh]
      show isRow cs (fs.map (·.1)) f.1 rs.length rs[j] = false
      rw [lr]
      exact M.bad i j rs f _ hrs hf (List.getElem?_eq_getElem hj) m
  · obtain ⟨f, hf, e1, hrs⟩ := with_get hg
    have nm : (i, k) ∉ ps := fun q => least _ q (.inr ⟨rfl, hk⟩)
    have o := M.good i k g'.2 f r hrs hf hr nm
    rw [eh, e1, M.each i _ f hrs hf]
    exact (g f (ix_mem hf)).each r (ix_mem o)
  · obtain ⟨f, hf, e1, hrs⟩ := with_get hg
    have er : g'.2 = f.2 := by
      refine List.ext_getElem? fun k => ?_
      cases e : g'.2[k]? with
      | some r => exact (M.good i' k g'.2 f r hrs hf e (fun q => least _ q (.inl hi))).symm
      | none =>
        have h1 := List.getElem?_eq_none_iff.mp e
        have h2 := M.each i' _ f hrs hf
        exact (List.getElem?_eq_none_iff.mpr (by omega)).symm
    have eg : g' = f := by
      obtain ⟨x, y⟩ := g'
      obtain ⟨u, v⟩ := f
      simp only at e1 er
      rw [e1, er]
    rw [eh, eg]
    exact g f (ix_mem hf)
/-- one more place is spoilt -/
theorem Marked.more {cs : List Cl} {fs : List Fn} {rows : List (List Rw)} {ps : List (Nat × Nat)} (M : Marked cs fs rows ps) {a p : Nat} {rs : List Rw} {f : Fn} {r : Rw} (ha : rows[a]? = some rs) (hf : fs[a]? = some f) (hp : p < f.2.length) (w : isRow cs (fs.map (·.1)) f.1 f.2.length r = false) :
    Marked cs fs (rows.set a (rs.set p r)) (ps ++ [(a, p)]) := by
  have la := ix_lt ha
  have at_ : ∀ {j : Nat} {rs' : List Rw}, (rows.set a (rs.set p r))[j]? = some rs' → (j = a ∧ rs' = rs.set p r) ∨ (j ≠ a ∧ rows[j]? = some rs') := fun {j rs'} h => by
    by_cases c : j = a
    · subst c
      rw [List.getElem?_set_self la] at h
      exact .inl ⟨rfl, (Option.some.inj h).symm⟩
    · rw [List.getElem?_set_ne (Ne.symm c)] at h
      exact .inr ⟨c, h⟩
  have lrs := M.each a rs f ha hf
  refine ⟨by rw [List.length_set]; exact M.len, fun j rs' g h1 h2 => ?_, fun j k rs' g x h1 h2 h3 h4 => ?_, fun j k rs' g x h1 h2 h3 h4 => ?_, fun q hq => ?_⟩
  · rcases at_ h1 with ⟨rfl, rfl⟩ | ⟨_, h⟩
    · rw [hf] at h2
      cases h2
      rw [List.length_set]
      exact lrs
    · exact M.each j rs' g h h2
  · rcases at_ h1 with ⟨rfl, rfl⟩ | ⟨n, h⟩
    · rw [hf] at h2
      cases h2
      by_cases c : k = p
      · subst c
        rw [List.getElem?_set_self (by omega)] at h3
        cases h3
        exact w
      · rw [List.getElem?_set_ne (Ne.symm c)] at h3
        rcases List.mem_append.mp h4 with z | z
        · exact M.bad j k rs f x ha hf h3 z
        · exact absurd (Prod.mk.inj (List.mem_singleton.mp z)).2 c
    · rcases List.mem_append.mp h4 with z | z
      · exact M.bad j k rs' g x h h2 h3 z
      · exact absurd (Prod.mk.inj (List.mem_singleton.mp z)).1 n
  · have n1 : (j, k) ∉ ps := fun z => h4 (List.mem_append_left _ z)
    rcases at_ h1 with ⟨rfl, rfl⟩ | ⟨n, h⟩
    · rw [hf] at h2
      cases h2
      have c : k ≠ p := fun z => h4 (List.mem_append_right _ (by rw [z]; exact List.mem_singleton.mpr rfl))
      rw [List.getElem?_set_ne (Ne.symm c)] at h3
      exact M.good j k rs f x ha hf h3 n1
    · exact M.good j k rs' g x h h2 h3 n1
  · rcases List.mem_append.mp hq with z | z
    · exact M.there q z
    · rw [List.mem_singleton.mp z]
      exact ⟨f, hf, hp⟩
end K12

namespace K12
open PySem PySem.Spec PyProof.Rows L2
def ltN (a b : Pn) : Prop := a.2.1 < b.2.1 ∨ (a.2.1 = b.2.1 ∧ a.2.2 < b.2.2)
instance (a b : Pn) : Decidable (ltN a b) := inferInstanceAs (Decidable (_ ∨ _))
theorem ltN_enc (a b : Pn) : PySem.W.dataLt (encN a) (encN b) = decide (ltN a b) := PySem.W.dataLt_ii _ _ _ _
theorem min_least : ∀ (ps : List Pn) (p0 : Pn), ∃ q, q ∈ p0 :: ps ∧ PySem.W.minD (encN p0) (ps.map encN) = encN q ∧ ∀ r ∈ p0 :: ps, ¬ ltN r q
  | [], p0 => ⟨p0, List.mem_cons_self, rfl, fun r m => by
      rw [List.mem_singleton.mp m]
      unfold ltN
      omega⟩
  | y :: ys, p0 => by
    have e : PySem.W.minD (encN p0) ((y :: ys).map encN) = PySem.W.minD (if PySem.W.dataLt (encN y) (encN p0) then encN y else encN p0) (ys.map encN) := rfl
    rw [e, ltN_enc]
    by_cases c : ltN y p0
    · rw [if_pos (decide_eq_true c)]
      obtain ⟨q, m, e, h⟩ := min_least ys y
      refine ⟨q, List.mem_cons_of_mem _ m, e, fun r mr => ?_⟩
      rcases List.mem_cons.mp mr with z | z
      · have := h y List.mem_cons_self
        rw [z]
        unfold ltN at *
        omega
      · exact h r z
    · rw [if_neg (by simpa using c)]
      obtain ⟨q, m, e, h⟩ := min_least ys p0
      refine ⟨q, ?_, e, fun r mr => ?_⟩
      · rcases List.mem_cons.mp m with z | z
        · rw [z]; exact List.mem_cons_self
        · exact List.mem_cons_of_mem _ (List.mem_cons_of_mem _ z)
      · rcases List.mem_cons.mp mr with z | z
        · rw [z]; exact h p0 List.mem_cons_self
        · rcases List.mem_cons.mp z with z | z
          · have := h p0 List.mem_cons_self
            rw [z]
            unfold ltN at *
            omega
          · exact h r (List.mem_cons_of_mem _ z)
theorem encN_inj {a b : Pn} (h : encN a = encN b) : a.2 = b.2 := by
  unfold encN at h
  injection h with h
  injection h with h1 h2
  injection h1 with h1
  injection h2 with h2 _
  injection h2 with h2
  exact Prod.ext h1 h2
theorem Paired.zipR {α β γ δ : Type} {R : α → β × γ → Prop} {S : α → β × δ → Prop} : ∀ {ys : List β} {zs : List γ} {ws : List δ} {xs : List α}, Paired R xs (ys.zip zs) → zs.length = ys.length → ws.length = ys.length → (∀ (j : Nat) (x : α) (y : β) (z : γ) (w : δ), zs[j]? = some z → ws[j]? = some w → R x (y, z) → S x (y, w)) → Paired S xs (ys.zip ws)
  | [], _, _, _, .nil, _, _, _ => .nil
  | _ :: _, [], _, _, _, l, _, _ => by simp at l
  | _ :: _, _ :: _, [], _, _, _, l, _ => by simp at l
  | y :: ys, z :: zs, w :: ws, _, .cons r t, l1, l2, h => .cons (h 0 _ _ _ _ rfl rfl r) (Paired.zipR t (by simpa using l1) (by simpa using l2) fun j x y z w e1 e2 q => h (j + 1) x y z w (by simpa using e1) (by simpa using e2) q)
end K12

namespace K12
open PySem PySem.Spec PyProof.Rows L2
def spRight : Sp := fun vs H Q _ => ∃ w : Addr, vs = [.ref w] ∧ Well H w ∧ ∀ H', Dr w H H' → Q (.bl true) H'
section
variable {P : Program} {w : World} {K : PySem.W.Frag} {mg : Str → Option Value} {base : Heap}
theorem scRight : FnScope ["_law_well_here", "_law_parts_here", "_law_turn", "_law_classes_here", "_law_functions", "_law_found", "_law_more", "_law_at", "_law_rows_here", "_law_place"] ["_law_well_here"] (defScope sRight) := ⟨rfl, rfl, rfl, by decide +kernel, rfl, by decide +kernel, by decide +kernel⟩
theorem ixN_nat' {n j : Nat} (hj : j < n) : ixN n (j : Int) = some j := by
  unfold ixN
  rw [if_pos (by omega), if_pos (by omega)]
  rfl
theorem cal_right (T : Txt mg) (D : Dfn K mg "_law_right" "_law_right" sRight ["_law_well_here"]) (CP : Cal P w K mg base CX0 6 "_law_parts" ["_law_well_here"] spParts) (CO : Cal P w K mg base CX0 1 "_law_copied" ["_law_classes_here", "_law_functions"] spCopied)
    (CD : Cal P w K mg base CX0 2 "_law_draw" ["_law_well_here", "_law_many"] spDraw) (CK : Cal P w K mg base CX0 3 "_law_pick" ["_law_well_here", "_law_items"] (spPick K)) (CW : Cal P w K mg base CX0 6 "_law_wrong" ["_law_well_here", "_law_functions", "_law_classes_here", "_law_at"] spWrong)
    (CS : Cal P w K mg base CX0 8 "_law_said" ["_law_classes_here", "_law_functions"] spSaid) : Cal P w K mg base CX0 9 "_law_right" ["_law_well_here"] spRight := by
  obtain ⟨f, fd, F, m, b⟩ := D
  obtain ⟨f1, fd1, m1, kp1, b1, G1⟩ := CP
  obtain ⟨f2, fd2, m2, kp2, b2, G2⟩ := CO
  obtain ⟨f3, fd3, m3, kp3, b3, G3⟩ := CD
  obtain ⟨f4, fd4, m4, kp4, b4, G4⟩ := CK
  obtain ⟨f5, fd5, m5, kp5, b5, G5⟩ := CW
  obtain ⟨f6, fd6, m6, kp6, b6, G6⟩ := CS
  refine ⟨f, fd, m, F.kp, b, F.ok scRight (fun vs H Q E h => ?_) (fun cdv A outer s H vs Q E hr h => ?_)⟩
  · obtain ⟨_, rfl, _⟩ := h
    rfl
  · obtain ⟨p, rfl, W0, k⟩ := h
    have hr1 : Room 1 _ := hr.mono (by decide)
    have hr2 : Room 2 _ := hr.mono (by decide)
    have hr3 : Room 3 _ := hr.mono (by decide)
    have hr6 : Room 6 _ := hr.mono (by decide)
    have hu2 := Nat.lt_of_le_of_lt (Nat.add_le_add_left (by decide : 2 ≤ 64) _) hr.units
    refine ⟨_, pss_cons (ps_set (i := 1) scRight.nd rfl (.inl rfl) (pe_call G1 hr6 (by rfl) m1 kp1 b1 .nil pass0 (pa_cons (pv 0) pa_nil)))
      (pss_cons (ps_for PassesOwn.never rfl (pi_range1 (by rfl) T.range (pa_cons pe_int pa_nil)) (pg_name (i := 2) scRight.nd rfl (.inl rfl))
        (pss_cons (ps_asg (pe_call G2 hr1 (by rfl) m2 kp2 b2 .nil pass0 (pa_cons (pe_ix ix_tup (pv 1) pe_int (fun _ _ => rfl)) (pa_cons (pe_ix ix_tup (pv 1) pe_int (fun _ _ => rfl)) pa_nil))) (pg_tup rfl (pgs_cons (pg_name (i := 3) scRight.nd rfl (.inl rfl)) (pgs_cons (pg_name (i := 4) scRight.nd rfl (.inl rfl)) pgs_nil))))
        (pss_cons (ps_set (i := 5) scRight.nd rfl (.inl rfl) (pe_lstN pa_nil))
        (pss_cons (ps_for PassesOwn.never rfl (pi_range1 (by rfl) T.range (pa_cons (pe_op op_add pe_int (pe_call G3 hr2 (by rfl) m3 kp3 b3 .nil pass0 (pa_cons (pv 0) (pa_cons pe_int pa_nil)))) pa_nil)) (pg_name (i := 6) scRight.nd rfl (.inl rfl))
          (pss_cons (ps_set (i := 7) scRight.nd rfl (.inl rfl) (pe_call G3 hr2 (by rfl) m3 kp3 b3 .nil pass0 (pa_cons (pv 0) (pa_cons (pe_callB call_len_seq (by rfl) T.len PySem.boot_len (pa_cons (pv 4) pa_nil)) pa_nil))))
          (pss_cons (ps_set (i := 8) scRight.nd rfl (.inl rfl) (pe_ix ix_tup (pe_ix ix_list (pv 4) (pv 7) (fun _ _ => rfl)) pe_int (fun _ _ => rfl)))
          (pss_cons (ps_set (i := 9) scRight.nd rfl (.inl rfl) (pe_call G4 hr3 (by rfl) m4 kp4 b4 .nil pass0 (pa_cons (pv 0) (pa_cons (pe_lstN (pa_cons (pe_call G3 hr2 (by rfl) m3 kp3 b3 .nil pass0 (pa_cons (pv 0) (pa_cons (pe_callB call_len_seq (by rfl) T.len PySem.boot_len (pa_cons (pv 8) pa_nil)) pa_nil)))
              (pa_cons (pe_op op_sub (pe_callB call_len_seq (by rfl) T.len PySem.boot_len (pa_cons (pv 8) pa_nil)) pe_int) pa_nil))) pa_nil))))
          (pss_cons (ps_asg (pe_call G5 hr6 (by rfl) m5 kp5 b5 .nil pass0 (pa_cons (pv 0) (pa_cons (pv 4) (pa_cons (pv 3) (pa_cons (pv 7) pa_nil))))) (pg_sub (pv 8) (pv 9) set_list))
          (pss_one (ps_expr (pe_bm PySem.F.plainAttrs_list PySem.F.slot_list_append PySem.F.type_list_append mt_appN (pv 5) (pa_cons (pe_tupN (pa_cons (pv 7) (pa_cons (pv 9) pa_nil))) pa_nil)))))))))
        (pss_one (ps_if (pt_cmpR (op_neD hr.units) (pe_call G6 hr (by rfl) m6 kp6 b6 .nil pass0 (pa_cons (pv 3) (pa_cons (pv 4) pa_nil))) (pe_tupN (pa_cons pe_str (pa_cons (pe_callB (call_minP rfl hu2) (by rfl) T.min (by decide +kernel) (pa_cons (pv 5) pa_nil)) pa_nil))) (nomark _)) (pss_one (ps_ret pe_bl)) pss_nil))))))
      (pss_one (ps_ret (pe_cmpR op_isN (pe_call G6 hr (by rfl) m6 kp6 b6 .nil pass0 (pa_cons (pe_ix ix_tup (pv 1) pe_int (fun _ _ => rfl)) (pa_cons (pe_ix ix_tup (pv 1) pe_int (fun _ _ => rfl)) pa_nil))) pe_non (nomark _))))), ?_⟩
    refine ⟨_, rfl, p, [p], rfl, .of W0, fun t a b cs fs H1 d1 ht hcs hfs src => ?_⟩
    have W1 := (Wl.of W0).dr d1
    have gfs := src.each
    have gh := src.hd
    have l6 : fs.length ≤ 6 := by have := gh.le; rw [List.length_map] at this; exact this
    have l1 : 1 ≤ fs.length := by
      have := gh.ne
      cases fs with
      | nil => exact absurd rfl this
      | cons _ _ => exact Nat.succ_pos _
    have rlen : ∀ f ∈ fs, 1 ≤ f.2.length ∧ f.2.length ≤ 40 := fun f hf => ⟨(gfs f hf).l1, (gfs f hf).l40⟩
    refine ⟨12, rfl, by decide, by decide, for_range (n := 12) (fun i σ H' => ∃ (v2 v3 v4 v5 v6 v7 v8 v9 : Option V), σ = [some (.ref p), some (.ref t), v2, v3, v4, v5, v6, v7, v8, v9] ∧ Dr p H1 H')
      ⟨_, _, _, _, _, _, _, _, rfl, Dr.refl d1.wl⟩ ?_ ?_⟩
    · rintro i σ H' hi ⟨v2, v3, v4, v5, v6, v7, v8, v9, rfl, d2⟩
      have W2 := W1.dr d2
      have up2 := W1.up d2
      have ht2 := (hid_some (up2 _ _ ht)).1
      refine ⟨_, rfl, t, _, _, _, rfl, rfl, SqT.of ht2, at_of (j := 0) rfl rfl, _, rfl, t, _, _, _, rfl, rfl, SqT.of ht2, at_of (j := 1) rfl rfl, p, a, b, [p], cs, fs, rfl, W2, LsAt.mono ClV.mono up2 hcs, src.cl.le, LsAt.mono FrV.mono up2 hfs, l6, fun c hc => (src.cl.each c hc).le, fun f hf => (rlen f hf).2, fun t2 a2 b2 Ls H3 d3 ht3 lLs ndL nL hcs3 hfn3 rows3 => ?_⟩
      refine ⟨t2, _, rfl, SqT.of (hid_some ht3).1, rfl, _, _, rfl, _, _, rfl, rfl, ?_⟩
      refine ⟨sz (by show 0 ≤ 100000; decide), fun lf H4 n4 => ?_⟩
      have there3 : ∀ L ∈ Ls, ∃ vL, H3 L = some (.lst vL) := fun L m => by
        obtain ⟨j, lj, e⟩ := List.mem_iff_getElem.mp m
        have h1 : Ls[j]? = some L := by rw [List.getElem?_eq_getElem lj, e]
        obtain ⟨vL, hv, _⟩ := rows3 j L fs[j] h1 (List.getElem?_eq_getElem (by omega))
        exact ⟨vL, hv⟩
      have W3 : Wl p (Ls ++ [p]) H3 := ⟨d3.wl, List.mem_append_right _ List.mem_cons_self, fun a' m z => by
        rcases List.mem_append.mp m with q | q
        · obtain ⟨_, hv⟩ := there3 a' q
          rw [hv] at z; cases z
        · rw [List.mem_singleton.mp q] at z
          obtain ⟨_, _, _, hv⟩ := d3.wl
          rw [hv] at z; cases z⟩
      have W4 := W3.new n4
      have d4 : Dr p H' H4 := d3.same n4.same
      have lf0 : H' lf = none := d3.free n4.free
      have nlf : lf ≠ p := W3.nw n4.free
      have lin : lf ∈ lf :: (Ls ++ [p]) := List.mem_cons_self
      have Lin : ∀ L ∈ Ls, L ∈ lf :: (Ls ++ [p]) := fun L m => List.mem_cons_of_mem _ (List.mem_append_left _ m)
      have Lnp : ∀ L ∈ Ls, L ≠ p := fun L m => W2.nw (nL L m)
      have Lnl : ∀ L ∈ Ls, L ≠ lf := fun L m => by
        obtain ⟨_, hv⟩ := there3 L m
        exact n4.ne hv
      have hcs4 : ClsAt (hid (lf :: (Ls ++ [p])) H4) a2 cs := LsAt.mono ClV.mono n4.hid1 hcs3
      have hfn4 : FnsAt (hid (lf :: (Ls ++ [p])) H4) b2 ((fs.map (·.1)).zip Ls) := LsAt.mono FnV.mono n4.hid1 hfn3
      refine ⟨_, rfl, p, 2, rfl, d4.wl, by decide, by decide, fun n0 H5 ln ln' d5 => ?_⟩
      obtain ⟨n, rfl⟩ := Int.eq_ofNat_of_zero_le ln
      refine ⟨_, _, rfl, rfl, ?_⟩
      have d45 : Dr p H' H5 := d4.trans d5
      have W5 := W4.dr d5
      have up5 := W4.up d5
      have lf5 : H5 lf = some (.lst []) := d5.get n4.at nlf
      refine ⟨1 + n, by show [V.int (1 + (n : Int))] = [V.int ((1 + n : Nat) : Int)]; rw [Int.natCast_add]; rfl, by omega, by omega, ?_⟩
      refine for_range (n := 1 + n) (fun k σ G => ∃ (v2 v6 v7 v8 v9 : Option V) (ps : List (Addr × Nat × Nat)) (rows : List (List Rw)), σ = [some (.ref p), some (.ref t), v2, some (.ref a2), some (.ref b2), some (.ref lf), v6, v7, v8, v9] ∧ Wl p (lf :: (Ls ++ [p])) G ∧ Dr p H' G ∧ Sm (lf :: (Ls ++ [p])) H4 G ∧
          G lf = some (.lst (ps.map fun q => V.ref q.1)) ∧ (∀ q ∈ ps, hid (lf :: (Ls ++ [p])) G q.1 = some (.tup [.int (q.2.1 : Nat), .int (q.2.2 : Nat)])) ∧ ps.length = k ∧ Marked cs fs rows (ps.map (·.2)) ∧
          ∀ (j : Nat) (L : Addr) (rs : List Rw), Ls[j]? = some L → rows[j]? = some rs → ∃ vL, G L = some (.lst vL) ∧ Paired (RwV (hid (lf :: (Ls ++ [p])) G)) vL rs)
        ⟨_, _, _, _, _, [], fs.map (·.2), rfl, W5, d45, up5, lf5, (fun _ m => nomatch m), rfl, ?_, ?_⟩ ?_ ?_
      · refine ⟨by rw [List.length_map], fun j rs f h1 h2 => ?_, (fun _ _ _ _ _ _ _ _ m => nomatch m), fun j k rs f r h1 h2 h3 _ => ?_, (fun _ m => nomatch m)⟩
        · rw [List.getElem?_map, h2] at h1
          cases h1; rfl
        · rw [List.getElem?_map, h2] at h1
          cases h1; exact h3
      · intro j L rs h1 h2
        rw [List.getElem?_map] at h2
        cases hf : fs[j]? with
        | none => rw [hf] at h2; cases h2
        | some f =>
          rw [hf] at h2
          cases h2
          obtain ⟨vL, hv, pv'⟩ := rows3 j L f h1 hf
          refine ⟨vL, d5.get (n4.same _ _ hv) (Lnp L (List.mem_of_getElem? h1)), pv'.imp fun _ _ z => RwV.mono _ _ _ _ (n4.hid1.trans up5) z⟩
      · rintro k σ G hk ⟨v2, v6, v7, v8, v9, ps, rows, rfl, WG, dG, sG, hlf, hps, lps, M, rowsG⟩
        have hfnG : FnsAt (hid (lf :: (Ls ++ [p])) G) b2 ((fs.map (·.1)).zip Ls) := LsAt.mono FnV.mono sG hfn4
        have hcsG : ClsAt (hid (lf :: (Ls ++ [p])) G) a2 cs := LsAt.mono ClV.mono sG hcs4
        obtain ⟨vb, hvb, pb⟩ := id hfnG
        have lvb : vb.length = fs.length := by rw [pb.len, List.length_zip, List.length_map]; omega
        refine ⟨_, rfl, _, rfl, b2, vb, rfl, .inl (SqL.of (hid_some hvb).1), p, _, rfl, WG.wl, by omega, by omega, fun at0 G1 g1 g2 e1 => ?_⟩
        obtain ⟨at_, rfl⟩ := Int.eq_ofNat_of_zero_le g1
        have lat : at_ < fs.length := by omega
        have up1 := WG.up e1
        obtain ⟨f, hf⟩ : ∃ f, fs[at_]? = some f := ⟨_, List.getElem?_eq_getElem lat⟩
        obtain ⟨L, hL⟩ : ∃ L, Ls[at_]? = some L := ⟨_, List.getElem?_eq_getElem (by omega)⟩
        obtain ⟨rs, hrs⟩ : ∃ rs, rows[at_]? = some rs := ⟨_, List.getElem?_eq_getElem (by have := M.len; omega)⟩
        obtain ⟨y0, hy0⟩ : ∃ y, vb[at_]? = some y := ⟨_, List.getElem?_eq_getElem (by omega)⟩
        have mL := List.mem_of_getElem? hL
        have hzip : ((fs.map (·.1)).zip Ls)[at_]? = some (f.1, L) := by
          rw [List.getElem?_zip_eq_some]
          exact ⟨by rw [List.getElem?_map, hf]; rfl, hL⟩
        obtain ⟨y, hy, q, rfl, io, oo, hq, hio, hoo⟩ := pb.get hy0
        rw [hzip] at hy
        cases hy
        have hq1 := (hid_some (up1 _ _ hq)).1
        refine ⟨_, rfl, _, rfl, b2, vb, at_, .ref q, rfl, rfl, SqL.of (hid_some (up1 _ _ hvb)).1, at_of (j := at_) rfl hy0, q, _, _, _, rfl, rfl, SqT.of hq1, at_of (j := 4) rfl rfl, ?_⟩
        obtain ⟨vL, hvL, pL⟩ := rowsG at_ L rs hL hrs
        have lrs : rs.length = f.2.length := M.each at_ rs f hrs hf
        have lvL : vL.length = f.2.length := by rw [pL.len, lrs]
        have lf2 := rlen f (ix_mem hf)
        have hvL1 := e1.get hvL (Lnp L mL)
        refine ⟨_, rfl, _, rfl, _, rfl, L, vL, rfl, .inl (SqL.of hvL1), p, _, rfl, e1.wl, by omega, by omega, fun c0 G2 c1 c2 e2 => ?_⟩
        have hvL2 := e2.get hvL1 (Lnp L mL)
        have e12 := e1.trans e2
        have W2' := WG.dr e12
        refine ⟨_, rfl, L, vL, rfl, .inl (SqL.of hvL2), _, _, rfl, rfl, sz (by show 2 ≤ 100000; decide), fun lp G3 n3 => ?_⟩
        have W3' := W2'.same n3.same
        refine ⟨p, lp, [.int c0, .int ((vL.length : Int) - 1)], rfl, W3'.wl, SqL.of (hid_get n3.at fun m => W2'.wl.ne n3.free (List.mem_singleton.mp m)), (fun z => nomatch z), (by show 2 < 1000000; decide), fun x hx G4 e4 => ?_⟩
        obtain ⟨pl, rfl, lpl⟩ : ∃ pl : Nat, x = .int pl ∧ pl < vL.length := by
          rcases List.mem_cons.mp hx with z | z
          · obtain ⟨c, rfl⟩ := Int.eq_ofNat_of_zero_le c1
            exact ⟨c, z, by omega⟩
          · refine ⟨vL.length - 1, ?_, by omega⟩
            rw [List.mem_singleton.mp z]
            congr 1
            omega
        have e14 : Dr p G G4 := (e12.same n3.same).trans e4
        have up4 := WG.up e14
        have W4' := WG.dr e14
        have hvL4 := e14.get hvL (Lnp L mL)
        have efst : ((fs.map (·.1)).zip Ls).map (·.1) = fs.map (·.1) := List.map_fst_zip (by rw [List.length_map]; omega)
        refine ⟨_, rfl, _, rfl, _, rfl, _, rfl, p, b2, a2, L, at_, lf :: (Ls ++ [p]), cs, (fs.map (·.1)).zip Ls, f.1, vL, rfl, W4', LsAt.mono FnV.mono up4 hfnG, hzip, hvL4, Lnp L mL, LsAt.mono ClV.mono up4 hcsG, src.cl, by rw [efst]; exact gh, by omega, by omega, fun v r G5 e5 hv5 bad => ?_⟩
        rw [efst, lvL] at bad
        have e15 := e14.trans e5
        have hvL5 := e15.get hvL (Lnp L mL)
        refine ⟨_, rfl, _, rfl, L, vL, (pl : Int), pl, rfl, rfl, hvL5, ixN_nat' lpl, ?_⟩
        have P6 : Put G5 L (.lst (vL.set pl v)) (upd G5 L (.lst (vL.set pl v))) := ⟨rfl⟩
        generalize upd G5 L (.lst (vL.set pl v)) = G6 at P6 ⊢
        have nLl := Lnl L mL
        have dLf : ∀ {H8 : Hp}, Dr p G H8 → H8 lf = some (.lst (ps.map fun q => V.ref q.1)) := fun {H8} d8 => d8.get hlf nlf
        have hlf6 : G6 lf = some (.lst (ps.map fun q => V.ref q.1)) := by rw [P6.ne nLl.symm]; exact dLf e15
        have W5' := WG.dr e15
        have W6 := W5'.put P6 (Lnp L mL)
        refine ⟨_, rfl, .inl ⟨rfl, _, SqL.of hlf6⟩, _, rfl, _, rfl, sz (by show 2 ≤ 100000; decide), fun tq G7 n7 => ?_⟩
        have hlf7 := n7.same _ _ hlf6
        have W7 := W6.same n7.same
        have psz : ps.length ≤ 100000 := by omega
        refine ⟨lf, _, _, rfl, rfl, hlf7, by rw [List.length_map]; exact sz' psz, fun G8 p8 => ?_⟩
        have W8 := W7.put p8 nlf
        have up56 : Same (hid (lf :: (Ls ++ [p])) G5) (hid (lf :: (Ls ++ [p])) G6) := P6.hid (Lin L mL)
        have up67 : Same (hid (lf :: (Ls ++ [p])) G6) (hid (lf :: (Ls ++ [p])) G7) := n7.hid
        have up78 : Same (hid (lf :: (Ls ++ [p])) G7) (hid (lf :: (Ls ++ [p])) G8) := p8.hid lin
        have up58 := (up56.trans up67).trans up78
        have upG8 := (WG.up e15).trans up58
        have d8 : Dr p H' G8 := (((dG.trans e15).putOwn (nL L mL) (Lnp L mL) P6).same n7.same).putOwn lf0 nlf p8
        refine ⟨_, _, _, _, _, ps ++ [(tq, at_, pl)], rows.set at_ (rs.set pl r), rfl, W8, d8, sG.trans upG8, by rw [p8.at, List.map_append]; rfl, fun q mq => ?_, by rw [List.length_append, lps]; rfl, by rw [List.map_append]; exact M.more hrs hf (by omega) bad, fun j L' rs' e1' e2' => ?_⟩
        · rcases List.mem_append.mp mq with z | z
          · exact upG8 _ _ (hps q z)
          · rw [List.mem_singleton.mp z]
            exact up78 _ _ (hid_get n7.at (W6.nin n7.free))
        · have mL' := List.mem_of_getElem? e1'
          have get8 : ∀ {o}, G6 L' = some o → G8 L' = some o := fun {o} h => by
            rw [p8.ne (Lnl L' mL')]
            exact n7.same _ _ h
          by_cases c : j = at_
          · subst c
            rw [hL] at e1'
            cases e1'
            rw [List.getElem?_set_self (ix_lt hrs)] at e2'
            cases e2'
            refine ⟨_, get8 P6.at, Paired.set (RwV.mono _ _ _ _ up58 hv5) pl (pL.imp fun _ _ z => RwV.mono _ _ _ _ upG8 z)⟩
          · rw [List.getElem?_set_ne (Ne.symm c)] at e2'
            obtain ⟨v1, hv1, pv1⟩ := rowsG j L' rs' e1' e2'
            have ne : L' ≠ L := fun z => by
              subst z
              exact c ((List.getElem?_inj (ix_lt e1') ndL).mp (e1'.trans hL.symm))
            refine ⟨v1, get8 (by rw [P6.ne ne]; exact e15.get hv1 (Lnp L' mL')), pv1.imp fun _ _ z => RwV.mono _ _ _ _ upG8 z⟩
      · rintro σ G ⟨v2, v6, v7, v8, v9, ps, rows, rfl, WG, dG, sG, hlf, hps, lps, M, rowsG⟩
        have eh := with_heads (fs := fs) M.len
        have hfnG : FnsAt (hid (lf :: (Ls ++ [p])) G) b2 ((fs.map (·.1)).zip Ls) := LsAt.mono FnV.mono sG hfn4
        have hcsG : ClsAt (hid (lf :: (Ls ++ [p])) G) a2 cs := LsAt.mono ClV.mono sG hcs4
        have arg : SrcArg G a2 b2 cs (withRows fs rows) := by
          refine ⟨LsAt.mono ClV.mono (hid_sub _ _) hcsG, ?_, src.cl, by rw [eh]; exact gh, fun g mg' => ?_⟩
          · obtain ⟨vb, hvb, pb⟩ := hfnG
            refine ⟨vb, (hid_some hvb).1, ?_⟩
            unfold withRows
            refine K12.Paired.zipR pb (by rw [List.length_map]; exact lLs) (by rw [List.length_map]; exact M.len) fun j v h L r e1 e2 ⟨q, ev, fa⟩ => ?_
            obtain ⟨vL, hv, pv'⟩ := rowsG j L r e1 e2
            exact ⟨q, L, ev, FnAt.mono (hid_sub _ _) fa, vL, hv, pv'.imp fun _ _ z => RwV.mono _ _ _ _ (hid_sub _ _) z⟩
          · obtain ⟨j, e⟩ := List.mem_iff_getElem?.mp mg'
            obtain ⟨f, hf, _, hr'⟩ := with_get e
            rw [M.each j _ f hr' hf]
            exact rlen f (ix_mem hf)
        cases ps with
        | nil => cases n <;> simp at lps
        | cons p0 pr =>
          obtain ⟨q, mq, eq, least⟩ := min_least ((pr.map fun q => ((q.1, (q.2.1 : Int), (q.2.2 : Int)) : Pn))) (p0.1, (p0.2.1 : Int), (p0.2.2 : Int))
          obtain ⟨q', mq', rfl⟩ : ∃ q' ∈ p0 :: pr, ((q'.1, (q'.2.1 : Int), (q'.2.2 : Int)) : Pn) = q := by
            rcases List.mem_cons.mp mq with z | z
            · exact ⟨p0, List.mem_cons_self, z.symm⟩
            · obtain ⟨q', m', e'⟩ := List.mem_map.mp z
              exact ⟨q', List.mem_cons_of_mem _ m', e'⟩
          have fw : FirstWrong cs (withRows fs rows) q'.2.1 q'.2.2 := first_wrong gfs M (List.mem_map_of_mem mq') fun r mr => by
            obtain ⟨r', mr', rfl⟩ := List.mem_map.mp mr
            have := least (r'.1, (r'.2.1 : Int), (r'.2.2 : Int)) (by
              rcases List.mem_cons.mp mr' with z | z
              · rw [z]; exact List.mem_cons_self
              · exact List.mem_cons_of_mem _ (List.mem_map.mpr ⟨r', z, rfl⟩))
            unfold ltN at this
            unfold lexP
            simp only at this
            omega
          refine ⟨_, rfl, _, rfl, a2, b2, cs, withRows fs rows, rfl, arg, .inr ⟨_, _, fw, fun t3 u G2 s2 hu ht3' => ?_⟩⟩
          have hl2 : G2 lf = some (.lst ((p0 :: pr).map fun q => V.ref q.1)) := s2 _ _ hlf
          refine ⟨_, rfl, lf, (p0.1, (p0.2.1 : Int), (p0.2.2 : Int)), pr.map fun q => ((q.1, (q.2.1 : Int), (q.2.2 : Int)) : Pn), rfl, ?_, fun r mr => ?_, fun r mr er => ⟨sz (by show 2 ≤ 100000; decide), fun u2 G3 n3 => ?_⟩⟩
          · refine SqL.of (xs := _) ?_
            rw [hl2]
            simp only [List.map_cons, List.map_map]
            rfl
          · obtain ⟨r', mr', rfl⟩ : ∃ q' ∈ p0 :: pr, ((q'.1, (q'.2.1 : Int), (q'.2.2 : Int)) : Pn) = r := by
              rcases List.mem_cons.mp mr with z | z
              · exact ⟨p0, List.mem_cons_self, z.symm⟩
              · obtain ⟨q', m', e'⟩ := List.mem_map.mp z
                exact ⟨q', List.mem_cons_of_mem _ m', e'⟩
            exact s2 _ _ (hid_some (hps r' mr')).1
          · obtain ⟨r', mr', rfl⟩ : ∃ q' ∈ p0 :: pr, ((q'.1, (q'.2.1 : Int), (q'.2.2 : Int)) : Pn) = r := by
              rcases List.mem_cons.mp mr with z | z
              · exact ⟨p0, List.mem_cons_self, z.symm⟩
              · obtain ⟨q', m', e'⟩ := List.mem_map.mp z
                exact ⟨q', List.mem_cons_of_mem _ m', e'⟩
            have e2 := encN_inj (er.trans eq)
            have hr2 : G2 r'.1 = some (.tup [.int (r'.2.1 : Nat), .int (r'.2.2 : Nat)]) := s2 _ _ (hid_some (hps r' mr')).1
            have h1 : (r'.2.1 : Int) = (q'.2.1 : Int) := congrArg Prod.fst e2
            have h2 : (r'.2.2 : Int) = (q'.2.2 : Int) := congrArg Prod.snd e2
            rw [h1, h2] at hr2
            refine ⟨.tuple [.str (Str.ofString "functions"), .tuple [.int q'.2.1, .int q'.2.2]], .tuple [.str (Str.ofString "functions"), .tuple [.int q'.2.1, .int q'.2.2]], ?_, ?_, ?_⟩
            · exact .tup (SqT.of (n3.same _ _ hu)) (.cons (.str _) (.cons (.tup (SqT.of (n3.same _ _ ht3')) (.cons (.int _) (.cons (.int _) .nil))) .nil))
            · exact .tup (SqT.of n3.at) (.cons (.str _) (.cons (.tup (SqT.of (n3.same _ _ hr2)) (.cons (.int _) (.cons (.int _) .nil))) .nil))
            · have sh : SeqAt.shaped (.tuple [.str (Str.ofString "functions"), .tuple [.int q'.2.1, .int q'.2.2]]) = true := by
                simp [SeqAt.shaped, PyData.canLay0, PyData.depth, PyData.depthAll, PyData.canLayAll0]
                decide +kernel
              refine ⟨sh, sh, false, congrArg V.bl (by rw [SeqAt.eqv_refl _ (SeqAt.canLay_of_shaped sh)]; rfl), ?_⟩
              refine iteF ?_
              exact ⟨_, _, _, _, _, _, _, _, rfl, d2.trans ((dG.same s2).same n3.same)⟩
    · rintro σ H' ⟨v2, v3, v4, v5, v6, v7, v8, v9, rfl, d2⟩
      have W2 := W1.dr d2
      have up2 := (W1.up d2)
      have ht2 := (hid_some (up2 _ _ ht)).1
      have arg : SrcArg H' a b cs fs := ⟨LsAt.mono ClV.mono (up2.trans (hid_sub _ _)) hcs, LsAt.mono FrV.mono (up2.trans (hid_sub _ _)) hfs, src.cl, gh, rlen⟩
      refine ⟨_, rfl, t, _, _, _, rfl, rfl, SqT.of ht2, at_of (j := 0) rfl rfl, _, rfl, t, _, _, _, rfl, rfl, SqT.of ht2, at_of (j := 1) rfl rfl, a, b, cs, fs, rfl, arg, .inl ⟨gfs, fun H3 s3 => ?_⟩⟩
      refine ⟨rfl, ?_⟩
      exact k H3 ((d1.trans d2).same s3)
end
end K12

namespace K12
open PySem PySem.Spec PyProof.Rows L2
abbrev sLaw : Stmt := topS 61
def spLaw (K : PySem.W.Frag) : Sp := fun vs H Q _ => ∃ (a : Addr) (ns : List Int), vs = [.ref a] ∧ SqL K H a (ns.map V.int) ∧ ns.length ≤ 63 ∧ ∀ H', Q (.bl true) H'
section
variable {P : Program} {w : World} {K : PySem.W.Frag} {mg : Str → Option Value} {base : Heap}
theorem scLaw : FnScope ["_law_script", "_law_k"] ["_law_script"] (defScope sLaw) := ⟨rfl, rfl, rfl, by decide +kernel, rfl, by decide +kernel, by decide +kernel⟩
theorem ok_law {f : Addr} {fd : FuncData} (T : Txt mg) (F : Fun K "law" "law" sLaw f fd) (CW : Cal P w K mg base CX0 1 "_law_well" ["_law_script", "_law_k"] (spWell K)) (CR : Cal P w K mg base CX0 9 "_law_right" ["_law_well_here"] spRight) :
    FnOk P w K mg base CX0 10 f fd ["_law_script"] (spLaw K) := by
  obtain ⟨f1, fd1, m1, kp1, b1, G1⟩ := CW
  obtain ⟨f2, fd2, m2, kp2, b2, G2⟩ := CR
  refine F.ok scLaw (fun vs H Q E h => ?_) (fun cdv A outer s H vs Q E hr h => ?_)
  · obtain ⟨_, _, rfl, _⟩ := h
    rfl
  · obtain ⟨a, ns, rfl, hS, hlen, k⟩ := h
    have hr1 : Room 1 _ := hr.mono (by decide)
    refine ⟨_, pss_cons (ps_for PassesOwn.never rfl (pi_range1 (by rfl) T.range (pa_cons (pe_callB (call_max2 rfl) (by rfl) T.max (by decide +kernel) (pa_cons pe_int (pa_cons (pe_callB (call_min2 rfl) (by rfl) T.min (by decide +kernel) (pa_cons pe_int (pa_cons (pe_callB call_len_seq (by rfl) T.len PySem.boot_len (pa_cons (pv 0) pa_nil)) pa_nil))) pa_nil))) pa_nil)) (pg_name (i := 1) scLaw.nd rfl (.inl rfl))
        (pss_one (ps_if (pt_not (pt_val (pe_call G2 hr (by rfl) m2 kp2 b2 .nil pass0 (pa_cons (pe_call G1 hr1 (by rfl) m1 kp1 b1 .nil pass0 (pa_cons (pv 0) (pa_cons (pv 1) pa_nil))) pa_nil)))) (pss_one (ps_ret pe_bl)) pss_nil)))
      (pss_one (ps_ret pe_bl)), ?_⟩
    refine ⟨_, rfl, a, _, rfl, .inl hS, _, _, rfl, _, _, rfl, ?_⟩
    obtain ⟨n, en, ln⟩ : ∃ n : Nat, (if (if ((ns.map V.int).length : Int) < 4 then ((ns.map V.int).length : Int) else 4) > 1 then (if ((ns.map V.int).length : Int) < 4 then ((ns.map V.int).length : Int) else 4) else 1) = (n : Int) ∧ n ≤ 4 := by
      rw [List.length_map]
      by_cases c : (ns.length : Int) < 4
      · rw [if_pos c]
        by_cases c2 : (ns.length : Int) > 1
        · rw [if_pos c2]; exact ⟨ns.length, rfl, by omega⟩
        · rw [if_neg c2]; exact ⟨1, rfl, by omega⟩
      · rw [if_neg c]; exact ⟨4, rfl, by omega⟩
    refine ⟨n, congrArg (fun z => [V.int z]) en, by omega, by omega, for_range (n := n) (fun i σ H' => ∃ (v1 : Option V), σ = [some (.ref a), v1] ∧ SqL K H' a (ns.map V.int)) ⟨_, rfl, hS⟩ ?_ ?_⟩
    · rintro i σ H' hi ⟨v1, rfl, hS'⟩
      refine ⟨_, rfl, _, rfl, a, ns, _, rfl, hS', hlen, by omega, by omega, fun p H1 p0 s1 W1 => ?_⟩
      refine ⟨p, rfl, W1, fun H2 d2 => ?_⟩
      refine ⟨true, rfl, ?_⟩
      refine iteF ?_
      exact ⟨_, rfl, d2.seq (Same.seq (fun b o e => hid_get (s1 _ _ e) fun m => by
        rw [List.mem_singleton.mp m] at e
        rw [e] at p0; cases p0) hS')⟩
    · rintro σ H' ⟨v1, rfl, hS'⟩
      exact k _
end
end K12

/-! The end: what the top has written, put together; the law's def holds its promise. -/
namespace K12
open PySem PySem.Spec PyProof.Rows L2
/-- a method of a class of ours -/
def Mtd (K : PySem.W.Frag) (C : Addr) (x qual : Str) (st : Stmt) (ps : List Str) : Prop := ∃ f fd, Fun K x qual st f fd ∧ Meth K C x f ∧ Binds K fd ps []
/-- its __init__ -/
def Ini (K : PySem.W.Frag) (C : Addr) (qual : Str) (st : Stmt) (ps : List Str) : Prop := ∃ f fd, Fun K "__init__" qual st f fd ∧ Mk K C f ∧ Binds K fd ps []
/-- the error's __init__ -/
def IniE (K : PySem.W.Frag) (C : Addr) (qual : Str) (st : Stmt) (ps : List Str) : Prop := ∃ f fd, Fun K "__init__" qual st f fd ∧ PySem.W.findIn K (.ref C) "__init__" = some (some (.ref f)) ∧ PySem.W.typeIn K (.ref f) = some (.type "function") ∧ Binds K fd ps []
section
variable {w : World} {K : PySem.W.Frag} {mg : Str → Option Value} {h : Heap} {G : Prop}
theorem w_dfn {f : Addr} {x qual : Str} {st : Stmt} {ps : List Str} (X : K.In h) (N : h.Ns mainGlobals mg) (hb : ∀ (kV doc pm : Value) (an : Option Addr) (cdv ct : Value) (us : List Value), us.length = ps.length → bindArgs (PySem.W.fnOf x qual (defArgs st) (defBody st) (defScope st) .none kV doc pm an cdv ct) ⟨us, []⟩ = pure (ps.zip us)) (a : PySem.W.nsIn K mainGlobals x = some (some (.ref f))) {oc : Value} {od an : Option Addr} {sl : Array (Option Value)} {kV doc pm cd ct : Value} (l : K.lookup f = some ⟨oc, od, .func (PySem.W.fnOf x qual (defArgs st) (defBody st) (defScope st) .none kV doc pm an cd ct), sl⟩) (c : PySem.W.codeIn K cd qual = true) (k : PySem.W.keepIn K (.ref f) = true) (r : Dfn K mg x qual st ps → G) : G :=
  r ⟨f, _, fun_mk l c k, PySem.W.mg_of X N a, (fun_mk l c k).binds hb⟩
theorem w_mtd {f C : Addr} {x qual : Str} {st : Stmt} {ps : List Str} {y : Str} (X : K.In h) (hC : mg y = some (.ref C)) (hb : ∀ (kV doc pm : Value) (an : Option Addr) (cdv ct : Value) (us : List Value), us.length = ps.length → bindArgs (PySem.W.fnOf x qual (defArgs st) (defBody st) (defScope st) .none kV doc pm an cdv ct) ⟨us, []⟩ = pure (ps.zip us)) (a : PySem.W.findIn K (.ref C) x = some (some (.ref f))) (i : PySem.W.isFn K (.ref f) = true) {oc : Value} {od an : Option Addr} {sl : Array (Option Value)} {kV doc pm cd ct : Value} (l : K.lookup f = some ⟨oc, od, .func (PySem.W.fnOf x qual (defArgs st) (defBody st) (defScope st) .none kV doc pm an cd ct), sl⟩) (c : PySem.W.codeIn K cd qual = true) (k : PySem.W.keepIn K (.ref f) = true) (r : Mtd K C x qual st ps → G) : G :=
  r ⟨f, _, fun_mk l c k, ⟨a, i, k⟩, (fun_mk l c k).binds hb⟩
theorem w_ini {f C : Addr} {x qual : Str} {st : Stmt} {ps : List Str} {y : Str} (X : K.In h) (hC : mg y = some (.ref C)) (hx : x = "__init__") (hb : ∀ (kV doc pm : Value) (an : Option Addr) (cdv ct : Value) (us : List Value), us.length = ps.length → bindArgs (PySem.W.fnOf x qual (defArgs st) (defBody st) (defScope st) .none kV doc pm an cdv ct) ⟨us, []⟩ = pure (ps.zip us)) (a : PySem.W.findIn K (.ref C) x = some (some (.ref f))) (i : PySem.W.isFn K (.ref f) = true) (mk : PySem.W.makesIn K C = true) (kc : PySem.W.keepIn K (.ref C) = true) {oc : Value} {od an : Option Addr} {sl : Array (Option Value)} {kV doc pm cd ct : Value} (l : K.lookup f = some ⟨oc, od, .func (PySem.W.fnOf x qual (defArgs st) (defBody st) (defScope st) .none kV doc pm an cd ct), sl⟩) (c : PySem.W.codeIn K cd qual = true) (k : PySem.W.keepIn K (.ref f) = true) (r : Ini K C qual st ps → G) : G := by
  subst hx
  exact r ⟨f, _, fun_mk l c k, ⟨mk, a, i, kc⟩, (fun_mk l c k).binds hb⟩
theorem w_inE {f C : Addr} {x qual : Str} {st : Stmt} {ps : List Str} {y : Str} (X : K.In h) (hC : mg y = some (.ref C)) (hx : x = "__init__") (hb : ∀ (kV doc pm : Value) (an : Option Addr) (cdv ct : Value) (us : List Value), us.length = ps.length → bindArgs (PySem.W.fnOf x qual (defArgs st) (defBody st) (defScope st) .none kV doc pm an cdv ct) ⟨us, []⟩ = pure (ps.zip us)) (a : PySem.W.findIn K (.ref C) x = some (some (.ref f))) (t : PySem.W.typeIn K (.ref f) = some (.type "function")) {oc : Value} {od an : Option Addr} {sl : Array (Option Value)} {kV doc pm cd ct : Value} (l : K.lookup f = some ⟨oc, od, .func (PySem.W.fnOf x qual (defArgs st) (defBody st) (defScope st) .none kV doc pm an cd ct), sl⟩) (c : PySem.W.codeIn K cd qual = true) (k : PySem.W.keepIn K (.ref f) = true) (r : IniE K C qual st ps → G) : G := by
  subst hx
  exact r ⟨f, _, fun_mk l c k, a, t, (fun_mk l c k).binds hb⟩
theorem w_clsFn {C : Addr} (X : K.In h) (N : h.Ns mainGlobals mg) (a : PySem.W.nsIn K mainGlobals "Function" = some (some (.ref C))) (pg : PySem.W.plainGet K C Str.empty = true) (hd : PySem.W.hasDictIn K C = true) (po : PySem.W.plainOver K C = true) (sa : PySem.W.findIn K (.ref C) "__setattr__" = some (some (.builtin "object.__setattr__")))
    (n1 : PySem.W.findIn K (.ref C) "title" = some none) (n2 : PySem.W.findIn K (.ref C) "inputs" = some none) (n3 : PySem.W.findIn K (.ref C) "extras" = some none) (n4 : PySem.W.findIn K (.ref C) "kind_of" = some none) (n5 : PySem.W.findIn K (.ref C) "result_kind" = some none) (n6 : PySem.W.findIn K (.ref C) "row_list" = some none)
    (r : mg "Function" = some (.ref C) → ClsFn K C → G) : G := r (PySem.W.mg_of X N a) ⟨⟨pg, hd, po, sa⟩, n1, n2, n3, n4, n5, n6⟩
theorem w_clsSrc {C : Addr} (X : K.In h) (N : h.Ns mainGlobals mg) (a : PySem.W.nsIn K mainGlobals "Source" = some (some (.ref C))) (pg : PySem.W.plainGet K C Str.empty = true) (hd : PySem.W.hasDictIn K C = true) (po : PySem.W.plainOver K C = true) (sa : PySem.W.findIn K (.ref C) "__setattr__" = some (some (.builtin "object.__setattr__")))
    (n1 : PySem.W.findIn K (.ref C) "class_rows" = some none) (n2 : PySem.W.findIn K (.ref C) "field_kinds" = some none) (n3 : PySem.W.findIn K (.ref C) "kept_functions" = some none)
    (r : mg "Source" = some (.ref C) → ClsSrc K C → G) : G := r (PySem.W.mg_of X N a) ⟨⟨pg, hd, po, sa⟩, n1, n2, n3⟩
theorem kit_ref {A B : Addr} {b : Bool} (ne : ¬ A = B) (i : PySem.W.isClsIn K B = true) (t : PySem.W.typeIn K (.ref B) = some (.type "type")) (s : PySem.W.subIn K (.ref A) (.ref B) = some b) : PySem.W.kitOne K (.ref A) (.ref B) = some b := by
  have e1 : ((Value.ref A) == (Value.ref B)) = false := by
    cases q : ((Value.ref A) == (Value.ref B)) with
    | false => rfl
    | true => exact absurd (Value.ref.inj (beq_iff_eq.mp q)) ne
  have i' : (PySem.W.clsIn K B).isSome = true := i
  have e2 : ((PySem.W.clsIn K B).isSome && PySem.W.typeIn K (.ref B) == some (.type "type")) = true := by rw [i', t] <;> rfl
  unfold PySem.W.kitOne
  rw [if_neg (by rw [e1]; exact Bool.false_ne_true)]
  show (if ((PySem.W.clsIn K B).isSome && PySem.W.typeIn K (.ref B) == some (.type "type")) = true then PySem.W.subIn K (.ref A) (.ref B) else none) = some b
  rw [if_pos e2]
  exact s
theorem kit_typ {A : Addr} {T : String} {b : Bool} (m : PySem.W.kitMeta T = true) (s : PySem.W.subIn K (.ref A) (.type T) = some b) : PySem.W.kitOne K (.ref A) (.type T) = some b := by
  have e1 : ((Value.ref A) == (Value.type T)) = false := by
    cases q : ((Value.ref A) == (Value.type T)) with
    | false => rfl
    | true => exact absurd (beq_iff_eq.mp q) (fun z => nomatch z)
  unfold PySem.W.kitOne
  rw [if_neg (by rw [e1]; exact Bool.false_ne_true)]
  show (if PySem.W.kitMeta T = true then PySem.W.subIn K (.ref A) (.type T) else none) = some b
  rw [if_pos m]
  exact s
theorem exm_own {S : Addr} (h1 : PySem.W.subIn K (.ref S) (.type "BaseException") = some true) (h2 : PySem.W.isClsIn K S = true) (h3 : PySem.W.typeIn K (.ref S) = some (.type "type")) (h4 : PySem.W.subIn K (.ref S) (.ref S) = some true) :
    PySem.W.exmOne K (.ref S) (.ref S) = some true := by
  have e1 : (PySem.W.subIn K (.ref S) (.type "BaseException") == some true) = true := by rw [h1] <;> rfl
  have h2' : (PySem.W.clsIn K S).isSome = true := h2
  have e2 : ((PySem.W.clsIn K S).isSome && PySem.W.typeIn K (.ref S) == some (.type "type")) = true := by rw [h2', h3] <;> rfl
  unfold PySem.W.exmOne
  rw [if_pos e1]
  show (if ((PySem.W.clsIn K S).isSome && PySem.W.typeIn K (.ref S) == some (.type "type")) = true then PySem.W.subIn K (.ref S) (.ref S) else none) = some true
  rw [if_pos e2]
  exact h4
theorem w_err {B C I : Addr} (X : K.In h) (N : h.Ns mainGlobals mg) (aB : PySem.W.nsIn K mainGlobals "CodeError" = some (some (.ref B))) (aC : PySem.W.nsIn K mainGlobals "InvalidSource" = some (some (.ref C))) (aI : PySem.W.nsIn K mainGlobals "InvalidText" = some (some (.ref I)))
    (gB : PySem.W.specialIn K (.ref B) "__getattribute__" = some (some (.builtin "type.__getattribute__"))) (rB : PySem.W.readsIn K B (.type "type") = true) (fB : PySem.W.findCls K (.ref B) (.type "type") "__init__" = some (.val (.builtin "ArithmeticError.__init__")))
    {nm q : Str} {Nn : Addr} {bs : List Value} {sn : List Str} {sub : List Value} {ab : Bool} {col : Option Bool} {dd : Option Addr} {k0 k1 k2 k3 k5 : Option Value}
    (xC : K.lookup C = some (excClassObj nm q C Nn bs [.ref B, .type "ArithmeticError", .type "Exception", .type "BaseException", .type "object"] true sn sub ab col dd k0 k1 k2 k3 k5 "ArithmeticError.__new__"))
    (sa : PySem.W.findIn K (.ref C) "__setattr__" = some (some (.builtin "object.__setattr__"))) (eC : PySem.W.subIn K (.ref C) (.type "BaseException") = some true) (tC : PySem.W.typeIn K (.ref C) = some (.type "type")) (kC : PySem.W.keepIn K (.ref C) = true)
    (np : PySem.W.findIn K (.ref C) "part" = some none) (na : PySem.W.findIn K (.ref C) "at" = some none)
    (iC : PySem.W.isClsIn K C = true) (ga : PySem.W.findIn K (.ref C) "__getattribute__" = some (some (.builtin "BaseException.__getattribute__"))) (gg : PySem.W.findIn K (.ref C) "__getattr__" = some none)
    (ca : PySem.W.findIn K (.ref C) "__class__" = some (some (.builtin "object.__class__"))) (sg : PySem.W.specialIn K (.builtin "object.__class__") "__get__" = some (some (.builtin "getset_descriptor.__get__"))) (tk : PySem.W.takesIn K (.builtin "object.__class__") = some true) (mr : PySem.W.mroIn K C (.type "object") = some true)
    (hC : PySem.W.hasDictIn K C = true) (sC : PySem.W.subIn K (.ref C) (.ref C) = some true)
    (iB : PySem.W.isClsIn K B = true) (tB : PySem.W.typeIn K (.ref B) = some (.type "type")) (sB : PySem.W.subIn K (.ref C) (.ref B) = some true) (sA : PySem.W.subIn K (.ref C) (.type "ArithmeticError") = some true)
    (iI : PySem.W.isClsIn K I = true) (tI : PySem.W.typeIn K (.ref I) = some (.type "type")) (sI : PySem.W.subIn K (.ref C) (.ref I) = some false) (neB : ¬ C = B) (neI : ¬ C = I)
    (r : mg "InvalidSource" = some (.ref C) → TxtE K mg B C → TxtQ K mg B C I → G) : G :=
  r (PySem.W.mg_of X N aC) ⟨PySem.W.mg_of X N aB, gB, rB, fB, ⟨⟨nm, q, Nn, bs, _, sn, sub, ab, col, dd, k0, k1, k2, k3, k5, xC, by rfl⟩, sa, eC, tC, kC⟩, np, na⟩
    ⟨PySem.W.mg_of X N aB, PySem.W.mg_of X N aC, PySem.W.mg_of X N aI, ⟨iC, ga, gg, eC, ca, sg, tk, mr⟩, ⟨ga, gg, eC, hC⟩, np, na, exm_own eC iC tC sC, kit_ref neB iB tB sB, kit_typ (by decide +kernel) sA, kit_ref neI iI tI sI⟩

theorem w_txt (X : K.In h) (N : h.Ns mainGlobals mg) (z0 : PySem.W.nsIn K mainGlobals "len" = some none) (z1 : PySem.W.nsIn K mainGlobals "range" = some none) (z2 : PySem.W.nsIn K mainGlobals "int" = some none) (z3 : PySem.W.nsIn K mainGlobals "list" = some none) (z4 : PySem.W.nsIn K mainGlobals "min" = some none) (z5 : PySem.W.nsIn K mainGlobals "max" = some none) (z6 : PySem.W.nsIn K mainGlobals "sorted" = some none) (z7 : PySem.W.nsIn K mainGlobals "set" = some none) (z8 : PySem.W.nsIn K mainGlobals "sum" = some none) (z9 : PySem.W.nsIn K mainGlobals "dict" = some none) (z10 : PySem.W.nsIn K mainGlobals "tuple" = some none) (z11 : PySem.W.nsIn K mainGlobals "all" = some none) (z12 : PySem.W.nsIn K mainGlobals "enumerate" = some none) (z13 : PySem.W.nsIn K mainGlobals "isinstance" = some none) (z14 : PySem.W.nsIn K mainGlobals "str" = some none) (z15 : PySem.W.nsIn K mainGlobals "bool" = some none) (z16 : PySem.W.nsIn K mainGlobals "ArithmeticError" = some none) (r : Txt mg → G) : G :=
  r ⟨PySem.W.mg_none_of X N z0, PySem.W.mg_none_of X N z1, PySem.W.mg_none_of X N z2, PySem.W.mg_none_of X N z3, PySem.W.mg_none_of X N z4, PySem.W.mg_none_of X N z5, PySem.W.mg_none_of X N z6, PySem.W.mg_none_of X N z7, PySem.W.mg_none_of X N z8, PySem.W.mg_none_of X N z9, PySem.W.mg_none_of X N z10, PySem.W.mg_none_of X N z11, PySem.W.mg_none_of X N z12, PySem.W.mg_none_of X N z13, PySem.W.mg_none_of X N z14, PySem.W.mg_none_of X N z15, PySem.W.mg_none_of X N z16⟩

theorem sqT_strs {a : Addr} {n : Nat} {sl : Array (Option Value)} {its : Array Value} {xs : List Str} (l : K.lookup a = some ⟨.type "tuple", none, .seq its n, sl⟩) (hs : its.size ≤ sizeLine) (hv : Vals (xs.map V.str) its.toList) : ∀ H, SqT K H a (xs.map V.str) :=
  fun _ => .inr ⟨_, its, n, l, rfl, rfl, hs, hv⟩

theorem w_txtW {aK : Addr} {t1 t2 t3 t4 t5 t6 t7 : Tok} {n : Nat} {sl : Array (Option Value)} (X : K.In h) (N : h.Ns mainGlobals mg) (a1 : PySem.W.nsIn K mainGlobals "LETTERS" = some (some (.str "abcdefghijklmnopqrstuvwxyz" t1))) (a2 : PySem.W.nsIn K mainGlobals "FIGURES" = some (some (.str "0123456789" t2)))
    (a3 : PySem.W.nsIn K mainGlobals "MOST_LETTERS" = some (some (.int 8 t3))) (a4 : PySem.W.nsIn K mainGlobals "NUMBER" = some (some (.str "number" t4))) (a5 : PySem.W.nsIn K mainGlobals "OBJECT" = some (some (.str "object" t5)))
    (a6 : PySem.W.nsIn K mainGlobals "KINDS" = some (some (.ref aK))) (l : K.lookup aK = some ⟨.type "tuple", none, .seq #[.str "number" t6, .str "object" t7] n, sl⟩) (r : TxtW K mg → G) : G :=
  r ⟨⟨t1, PySem.W.mg_of X N a1⟩, ⟨t2, PySem.W.mg_of X N a2⟩, ⟨t3, PySem.W.mg_of X N a3⟩, ⟨t4, PySem.W.mg_of X N a4⟩, ⟨t5, PySem.W.mg_of X N a5⟩, ⟨aK, PySem.W.mg_of X N a6, sqT_strs (xs := ["number", "object"]) l (by show 2 ≤ sizeLine; decide) (.cons ⟨t6, rfl⟩ (.cons ⟨t7, rfl⟩ .nil))⟩⟩

theorem w_txtS {t0 t1 t2 t3 t4 t5 t6 : Tok} (X : K.In h) (N : h.Ns mainGlobals mg) (a0 : PySem.W.nsIn K mainGlobals "MOST_CLASSES" = some (some (.int 6 t0))) (a1 : PySem.W.nsIn K mainGlobals "MOST_FIELDS" = some (some (.int 4 t1))) (a2 : PySem.W.nsIn K mainGlobals "MOST_FUNCTIONS" = some (some (.int 6 t2))) (a3 : PySem.W.nsIn K mainGlobals "MOST_PARAMETERS" = some (some (.int 4 t3))) (a4 : PySem.W.nsIn K mainGlobals "MOST_OTHERS" = some (some (.int 8 t4))) (a5 : PySem.W.nsIn K mainGlobals "MOST_ROWS" = some (some (.int 40 t5))) (a6 : PySem.W.nsIn K mainGlobals "GREATEST" = some (some (.int 1000000000 t6))) (r : TxtS K mg → G) : G :=
  r ⟨⟨t0, PySem.W.mg_of X N a0⟩, ⟨t1, PySem.W.mg_of X N a1⟩, ⟨t2, PySem.W.mg_of X N a2⟩, ⟨t3, PySem.W.mg_of X N a3⟩, ⟨t4, PySem.W.mg_of X N a4⟩, ⟨t5, PySem.W.mg_of X N a5⟩, ⟨t6, PySem.W.mg_of X N a6⟩⟩

theorem w_lasts {a : Addr} {t0 t1 : Tok} {n : Nat} {sl : Array (Option Value)} (X : K.In h) (N : h.Ns mainGlobals mg) (a1 : PySem.W.nsIn K mainGlobals "LASTS" = some (some (.ref a))) (l : K.lookup a = some ⟨.type "tuple", none, .seq #[.str "jump" t0, .str "return" t1] n, sl⟩) (r : (∃ a, mg "LASTS" = some (.ref a) ∧ ∀ H, SqT K H a (([("jump" : Str), "return"]).map V.str)) → G) : G :=
  r ⟨a, PySem.W.mg_of X N a1, sqT_strs (xs := ([("jump" : Str), "return"])) l (by show 2 ≤ sizeLine; decide) (.cons ⟨t0, rfl⟩ (.cons ⟨t1, rfl⟩ .nil))⟩

theorem w_ariths {a : Addr} {t0 t1 t2 t3 : Tok} {n : Nat} {sl : Array (Option Value)} (X : K.In h) (N : h.Ns mainGlobals mg) (a1 : PySem.W.nsIn K mainGlobals "ARITHMETIC" = some (some (.ref a))) (l : K.lookup a = some ⟨.type "tuple", none, .seq #[.str "add" t0, .str "sub" t1, .str "times" t2, .str "less" t3] n, sl⟩) (r : (∃ a, mg "ARITHMETIC" = some (.ref a) ∧ ∀ H, SqT K H a (ariths.map V.str)) → G) : G :=
  r ⟨a, PySem.W.mg_of X N a1, sqT_strs (xs := ariths) l (by show 4 ≤ sizeLine; decide) (.cons ⟨t0, rfl⟩ (.cons ⟨t1, rfl⟩ (.cons ⟨t2, rfl⟩ (.cons ⟨t3, rfl⟩ .nil))))⟩

abbrev lenKeys : List Str := ["number", "nil", "copy", "add", "sub", "times", "less", "same", "new", "get", "put", "call", "see", "if", "jump", "return"]
theorem keyStr_of : ∀ {l : List DictEntry} {ks : List Str} {P : Params}, l.map He.keyOf = He.keysIn P ks → l.map keyStr = ks
  | [], [], _, _ => rfl
  | [], _ :: _, _, h => by cases h
  | _ :: _, [], _, h => by cases h
  | e :: r, k :: ks, P, h => by
    have h1 : He.keyOf e :: r.map He.keyOf = some (k, PyData.keyHash P k) :: He.keysIn P ks := h
    injection h1 with h2 h3
    have h4 : keyStr e = k := by
      unfold He.keyOf at h2
      unfold keyStr
      split at h2
      · rename_i x t q
        rw [q]
        exact (Prod.mk.inj (Option.some.inj h2)).1
      · cases h2
    show keyStr e :: r.map keyStr = k :: ks
    rw [h4, keyStr_of h3]

theorem w_txtL {a : Addr} {es : Array DictEntry} {n : Nat} {t0 t1 t2 t3 t4 t5 t6 t7 t8 t9 t10 t11 t12 t13 t14 t15 : Tok} (X : K.In h) (N : h.Ns mainGlobals mg) (a1 : PySem.W.nsIn K mainGlobals "LENGTHS" = some (some (.ref a))) (l : K.lookup a = some ⟨.type "dict", none, .dict es n, #[]⟩) (v0 : PySem.W.nsIn K a "number" = some (some (.int 3 t0))) (v1 : PySem.W.nsIn K a "nil" = some (some (.int 2 t1))) (v2 : PySem.W.nsIn K a "copy" = some (some (.int 3 t2))) (v3 : PySem.W.nsIn K a "add" = some (some (.int 4 t3))) (v4 : PySem.W.nsIn K a "sub" = some (some (.int 4 t4))) (v5 : PySem.W.nsIn K a "times" = some (some (.int 4 t5))) (v6 : PySem.W.nsIn K a "less" = some (some (.int 4 t6))) (v7 : PySem.W.nsIn K a "same" = some (some (.int 4 t7))) (v8 : PySem.W.nsIn K a "new" = some (some (.int 3 t8))) (v9 : PySem.W.nsIn K a "get" = some (some (.int 4 t9))) (v10 : PySem.W.nsIn K a "put" = some (some (.int 4 t10))) (v11 : PySem.W.nsIn K a "call" = some (some (.int 4 t11))) (v12 : PySem.W.nsIn K a "see" = some (some (.int 2 t12))) (v13 : PySem.W.nsIn K a "if" = some (some (.int 3 t13))) (v14 : PySem.W.nsIn K a "jump" = some (some (.int 2 t14))) (v15 : PySem.W.nsIn K a "return" = some (some (.int 2 t15))) (low : (a == sysModules) = false) (hk : es.toList.map He.keyOf = He.keysIn w.params lenKeys) (r : TxtL K w mg → G) : G := by
  have kl := He.keysLit_of hk
  refine r ⟨a, PySem.W.mg_of X N a1, ⟨es, n, l, kl, low, ?_, by decide +kernel⟩, ?_⟩
  · rw [keyStr_of hk]
    decide +kernel
  · intro k v m
    have mk : ∀ {x : Str} {i : Int} {t : Tok}, PySem.W.nsIn K a x = some (some (.int i t)) → KDct K w a x (.int i) := fun q => ⟨es, n, _, l, kl, q, ⟨_, rfl⟩⟩
    have m2 : (k, v) ∈ ([("number", 3), ("nil", 2), ("copy", 3), ("add", 4), ("sub", 4), ("times", 4), ("less", 4), ("same", 4), ("new", 3), ("get", 4), ("put", 4), ("call", 4), ("see", 2), ("if", 3), ("jump", 2), ("return", 2)] : List (Str × Nat)) := m
    simp only [List.mem_cons, List.not_mem_nil, or_false, Prod.mk.injEq] at m2
    rcases m2 with ⟨rfl, rfl⟩ | ⟨rfl, rfl⟩ | ⟨rfl, rfl⟩ | ⟨rfl, rfl⟩ | ⟨rfl, rfl⟩ | ⟨rfl, rfl⟩ | ⟨rfl, rfl⟩ | ⟨rfl, rfl⟩ | ⟨rfl, rfl⟩ | ⟨rfl, rfl⟩ | ⟨rfl, rfl⟩ | ⟨rfl, rfl⟩ | ⟨rfl, rfl⟩ | ⟨rfl, rfl⟩ | ⟨rfl, rfl⟩ | ⟨rfl, rfl⟩
    · exact mk v0
    · exact mk v1
    · exact mk v2
    · exact mk v3
    · exact mk v4
    · exact mk v5
    · exact mk v6
    · exact mk v7
    · exact mk v8
    · exact mk v9
    · exact mk v10
    · exact mk v11
    · exact mk v12
    · exact mk v13
    · exact mk v14
    · exact mk v15

end
theorem all_ok {P : Program} {w : World} {K : PySem.W.Frag} {mg : Str → Option Value} {h : Heap} {fa f CF CS B CI IT : Addr} (X : K.In h) (N : h.Ns mainGlobals mg) (hfa : mg "law" = some (.ref fa))
    {oc : Value} {od an : Option Addr} {sl : Array (Option Value)} {kV dc pm cd ct : Value} (a : PySem.W.nsIn K mainGlobals "law" = some (some (.ref f))) (l : K.lookup f = some ⟨oc, od, .func (PySem.W.fnOf "law" "law" (defArgs sLaw) (defBody sLaw) (defScope sLaw) .none kV dc pm an cd ct), sl⟩) (c : PySem.W.codeIn K cd "law" = true) (k : PySem.W.keepIn K (.ref f) = true)
    (T : Txt mg) (TW : TxtW K mg) (TS : TxtS K mg) (TL : TxtL K w mg) (TLa : ∃ a, mg "LASTS" = some (.ref a) ∧ ∀ H, SqT K H a (([("jump" : Str), "return"]).map V.str)) (TA : ∃ a, mg "ARITHMETIC" = some (.ref a) ∧ ∀ H, SqT K H a (ariths.map V.str))
    (mF : mg "Function" = some (.ref CF)) (TF : ClsFn K CF) (mS : mg "Source" = some (.ref CS)) (TC : ClsSrc K CS) (mCI : mg "InvalidSource" = some (.ref CI)) (TE : TxtE K mg B CI) (TQ : TxtQ K mg B CI IT)
    (IF : Ini K CF "Function.__init__" sFnInit ["self", "title", "inputs", "extras", "result_kind", "rows"]) (IS : Ini K CS "Source.__init__" sSrcInit ["self", "classes", "functions"]) (IE : IniE K CI "InvalidSource.__init__" sErrInit ["self", "part", "at"])
    (Dmix : Dfn K mg "_law_mix" "_law_mix" sMix ["_law_cell", "_law_lap"])
    (Dwell : Dfn K mg "_law_well" "_law_well" sWell ["_law_script", "_law_k"])
    (Ddraw : Dfn K mg "_law_draw" "_law_draw" sDraw ["_law_well_here", "_law_many"])
    (Dpick : Dfn K mg "_law_pick" "_law_pick" sPick ["_law_well_here", "_law_items"])
    (Dsome : Dfn K mg "_law_some" "_law_some" sSome ["_law_well_here", "_law_items", "_law_most"])
    (Dclasses : Dfn K mg "_law_classes" "_law_classes" sClasses ["_law_well_here"])
    (Dheads : Dfn K mg "_law_heads" "_law_heads" sHeads ["_law_well_here"])
    (Dnamed : Dfn K mg "_law_named" "_law_named" sNamed ["_law_head", "_law_kind"])
    (DnumberRows : Dfn K mg "_law_number_rows" "_law_number_rows" sNumberRows ["_law_well_here", "_law_names", "_law_many"])
    (DobjectRows : Dfn K mg "_law_object_rows" "_law_object_rows" sObjectRows ["_law_well_here", "_law_names", "_law_classes_here"])
    (DfieldRows : Dfn K mg "_law_field_rows" "_law_field_rows" sFieldRows ["_law_well_here", "_law_head", "_law_classes_here"])
    (DcallRows : Dfn K mg "_law_call_rows" "_law_call_rows" sCallRows ["_law_well_here", "_law_head", "_law_heads_here"])
    (Drows : Dfn K mg "_law_rows" "_law_rows" sRows ["_law_well_here", "_law_head", "_law_heads_here", "_law_classes_here", "_law_many"])
    (Dparts : Dfn K mg "_law_parts" "_law_parts" sParts ["_law_well_here"])
    (Dcopied : Dfn K mg "_law_copied" "_law_copied" sCopied ["_law_classes_here", "_law_functions"])
    (Dsaid : Dfn K mg "_law_said" "_law_said" sSaid ["_law_classes_here", "_law_functions"])
    (DcallsApart : Dfn K mg "_law_calls_apart" "_law_calls_apart" sCallsApart ["_law_head", "_law_called"])
    (DallNames : Dfn K mg "_law_all_names" "_law_all_names" sAllNames ["_law_head"])
    (DisVar : Dfn K mg "_law_is_variable" "_law_is_variable" sIsVar ["_law_row", "_law_at"])
    (DrightRows : Dfn K mg "_law_right_rows" "_law_right_rows" sRightRows ["_law_well_here", "_law_head", "_law_heads_here", "_law_classes_here", "_law_many"])
    (Dbent : Dfn K mg "_law_bent" "_law_bent" sBent ["_law_well_here", "_law_head", "_law_heads_here", "_law_row"])
    (Dwrong : Dfn K mg "_law_wrong" "_law_wrong" sWrong ["_law_well_here", "_law_functions", "_law_classes_here", "_law_at"])
    (Dright : Dfn K mg "_law_right" "_law_right" sRight ["_law_well_here"])
    (DisInteger : Dfn K mg "is_integer" "is_integer" sIsInteger ["thing"])
    (DisBetween : Dfn K mg "is_between" "is_between" sIsBetween ["thing", "least", "most"])
    (DisName : Dfn K mg "is_name" "is_name" sIsName ["thing"])
    (DisWord : Dfn K mg "is_word" "is_word" sIsWord ["thing", "words"])
    (DisList : Dfn K mg "is_list" "is_list" sIsList ["thing", "least", "most"])
    (DisTuple : Dfn K mg "is_tuple" "is_tuple" sIsTuple ["thing", "many"])
    (DisDeclared : Dfn K mg "is_declared" "is_declared" sIsDeclared ["thing"])
    (DareDeclared : Dfn K mg "are_declared" "are_declared" sAreDeclared ["thing", "least", "most"])
    (DisClass : Dfn K mg "is_class" "is_class" sIsClass ["thing"])
    (DisHead : Dfn K mg "is_head" "is_head" sIsHead ["thing"])
    (Dfrozen : Dfn K mg "frozen" "frozen" sFrozen ["row"])
    (MkindIn : Mtd K CS "kind_in" "Source.kind_in" sKindIn ["self", "function", "thing"])
    (MnumRow : Mtd K CS "is_number_row" "Source.is_number_row" sNumRow ["self", "function", "row"])
    (MobjRow : Mtd K CS "is_object_row" "Source.is_object_row" sObjRow ["self", "function", "row"])
    (McallRow : Mtd K CS "is_call" "Source.is_call" sCallRow ["self", "function", "row"])
    (MplainRow : Mtd K CS "is_plain_row" "Source.is_plain_row" sPlainRow ["self", "function", "row"])
    (MisRow : Mtd K CS "is_row" "Source.is_row" sIsRow ["self", "function", "row"])
    (Magrees : Mtd K CS "agrees" "Source.agrees" sAgrees ["self", "fields"])
    (MsetFns : Mtd K CS "set_functions" "Source.set_functions" sSetFns ["self", "functions"]) :
    ∃ fd : FuncData, (∀ (s : Shared) (v : Value), BindsTo s fd ⟨[v], []⟩ [("_law_script", v)]) ∧ ∀ base : Heap, K.In base → base.Ns mainGlobals mg → FnOk P w K mg base CX0 10 fa fd ["_law_script"] (spLaw K) := by
  have e := hfa.symm.trans (PySem.W.mg_of X N a)
  cases e
  refine ⟨PySem.W.fnOf "law" "law" (defArgs sLaw) (defBody sLaw) (defScope sLaw) .none kV dc pm an cd ct, fun s v => .of_eq rfl, fun base _ _ => ?_⟩
  have Cmix := cal_mix (P := P) (w := w) (base := base) T Dmix
  have Cdraw := cal_draw T Ddraw Cmix
  have Cpick := cal_pick T Dpick Cdraw
  have Cwell := cal_well (P := P) (w := w) (base := base) T Dwell
  have Csome := cal_some T Dsome Cdraw
  have Cnamed := cal_named (P := P) (w := w) (base := base) T Dnamed
  have CallNames := cal_allNames (P := P) (w := w) (base := base) T DallNames
  have Cclasses := cal_classes T Dclasses Csome
  have Cheads := cal_heads T Dheads Csome Cdraw Cpick
  have CnumberRows := cal_numberRows T DnumberRows Cdraw Cpick
  have CobjectRows := cal_objectRows T DobjectRows Cpick
  have CfieldRows := cal_fieldRows T DfieldRows Cnamed Cpick
  have CcallRows := cal_callRows T DcallRows Cnamed Cpick
  have MM : Makers P w K mg base := ⟨Cnamed, Cdraw, Cpick, CnumberRows, CobjectRows, CfieldRows, CcallRows⟩
  have CrightRows := cal_rightRows T DrightRows MM
  have Crows := cal_rows T Drows MM
  have Cparts := cal_parts T Dparts Cclasses Cheads Cdraw Cpick Crows
  have CisVar := cal_isVar (P := P) (w := w) (base := base) T DisVar
  have CcallsApart := cal_callsApart T DcallsApart Cnamed
  have Cbent := cal_bent T Dbent CallNames CisVar Cdraw Cpick
  have Cwrong := cal_wrong T Dwrong Cnamed Cpick CrightRows Cbent CcallsApart
  have CisInteger := cal_isInteger (P := P) (w := w) (base := base) T DisInteger
  have CisBetween := cal_isBetween T DisBetween CisInteger
  have CisWord := cal_isWord (P := P) (w := w) (base := base) T DisWord
  have CisList := cal_isList (P := P) (w := w) (base := base) T DisList
  have CisTuple := cal_isTuple (P := P) (w := w) (base := base) T DisTuple
  have CisName := cal_isName (P := P) (w := w) (base := base) T TW DisName
  have CisDeclared := cal_isDeclared T TW DisDeclared CisTuple CisName CisWord
  have CareDeclared := cal_areDeclared T DareDeclared CisList CisDeclared
  have WW : Wholes P w K mg base := ⟨CisBetween, CisName, CisWord, CisList, CisTuple, CareDeclared⟩
  have CisClass := cal_isClass T TS WW DisClass
  have CisHead := cal_isHead T TW TS WW DisHead
  have Cfrozen := cal_frozen (P := P) (w := w) (base := base) T Dfrozen
  obtain ⟨fI, fdI, FI, MI, bI⟩ := IF
  have GI := ok_fnInit T FI TF Cfrozen
  obtain ⟨fK, fdK, FK, mK, bK⟩ := MkindIn
  have GK := ok_kindIn (P := P) (w := w) (mg := mg) (base := base) T FK TF
  obtain ⟨f1, fd1, F1, m1, b1⟩ := MnumRow
  have G1 := ok_numRow T TW TS TF TC F1 CisBetween GK mK bK
  obtain ⟨f2, fd2, F2, m2, b2⟩ := MobjRow
  have G2 := ok_objRow T TW TF TC F2 CisWord GK mK bK
  obtain ⟨f3, fd3, F3, m3, b3⟩ := McallRow
  have G3 := ok_callRow T TF TC F3 CisWord GK mK bK
  obtain ⟨f4, fd4, F4, m4, b4⟩ := MplainRow
  have G4 := ok_plainRow T TW TF TC TA F4 GK mK bK
  obtain ⟨fR, fdR, FR, mR, bR⟩ := MisRow
  have GR := ok_isRow T TL TC FR CisWord G1 m1 b1 G2 m2 b2 G3 m3 b3 G4 m4 b4
  obtain ⟨fA, fdA, FA, mA, bA⟩ := Magrees
  have GA := ok_agrees (P := P) (w := w) (base := base) T TC FA
  obtain ⟨fS, fdS, FS, mSf, bS⟩ := MsetFns
  have GS := ok_setFns T TS TC FS CisList CisHead MI GI bI mF
  obtain ⟨fE, fdE, FE, iE, tE, bE⟩ := IE
  have GE := ok_errInit (P := P) (w := w) (base := base) FE TE
  obtain ⟨fC, fdC, FC, MC, bC⟩ := IS
  have GC := ok_srcInit T TS TF TC TE mCI TLa FC CisList CisClass GA mA bA GS mSf bS GR mR bR iE tE GE bE
  have Csaid := cal_said T TQ Dsaid MC mS GC bC
  have Ccopied := cal_copied (P := P) (w := w) (base := base) T Dcopied
  have Cright := cal_right T Dright Cparts Ccopied Cdraw Cpick Cwrong Csaid
  exact ok_law T (fun_mk (st := sLaw) l c k) Cwell Cright
theorem walk {l : PySem.W.OpenLaw} {q : Program} {loose : List Str} {XP : (Str → Option Value) → Heap → Prop} {YP : World → Heap → Prop} {d : DefRec} {K : Params → PySem.W.Frag} (hn : l.most = some 63) (hdf : d.params.defaults = [])
    (hY : ∀ (w : World) (h : Heap), YP w h → (K w.params).In h)
    (F : ∀ (w : World) (mg : Str → Option Value) (fa : Addr) (h : Heap), (K w.params).In h → h.Ns mainGlobals mg → mg d.name = some (.ref fa) →
      ∃ fd : FuncData, (∀ (s : Shared) (u : Value), BindsTo s fd ⟨[u], []⟩ [("_law_script", u)]) ∧ ∀ base : Heap, (K w.params).In base → base.Ns mainGlobals mg → FnOk l.prog w (K w.params) mg base CX0 10 fa fd ["_law_script"] (spLaw (K w.params))) :
    PySem.W.WalkO q loose XP YP l.row.toRowW d [] (fun f vs => PySem.call f vs) :=
  L2.walk_of (n := 63) (k := 10) (x := "_law_script") (CX := fun _ => CX0) (sp := fun w => spLaw (K w.params)) hn (by decide) hdf ⟨rfl, by decide, by decide⟩ hY F (fun _ _ a ns hl _ hS => ⟨a, ns, rfl, hS, hl, fun _ => rfl⟩) fun _ _ _ _ _ z => z
end K12

open PySem PySem.W PyProof.Rows in
set_option maxRecDepth 100000 in
set_option maxHeartbeats 0 in
theorem PySem.Challenge.cw_backframes_k12_whole_rows_of_sources_ref_holds : PySem.Challenge.rw_backframes_k12_whole_rows_of_sources_ref.Holds := by
  w_on; o_law; k_head; (case hw => w_witness2)
  k_fill
  refine K12.walk (l := PySem.Challenge.rw_backframes_k12_whole_rows_of_sources_ref) rfl rfl (fun w h Y => PySem.W.kIn_of Y) ?F
  case F =>
    intro w mg fa h KX G hmg
    refine' K12.w_txt KX G ?z0 ?z1 ?z2 ?z3 ?z4 ?z5 ?z6 ?z7 ?z8 ?z9 ?z10 ?z11 ?z12 ?z13 ?z14 ?z15 ?z16 ?_
    (case z0 => k_is)
    (case z1 => k_is)
    (case z2 => k_is)
    (case z3 => k_is)
    (case z4 => k_is)
    (case z5 => k_is)
    (case z6 => k_is)
    (case z7 => k_is)
    (case z8 => k_is)
    (case z9 => k_is)
    (case z10 => k_is)
    (case z11 => k_is)
    (case z12 => k_is)
    (case z13 => k_is)
    (case z14 => k_is)
    (case z15 => k_is)
    (case z16 => k_is)
    intro T
    refine' K12.w_txtW KX G ?a1 ?a2 ?a3 ?a4 ?a5 ?a6 ?l ?_
    (case a1 => k_is)
    (case a2 => k_is)
    (case a3 => k_is)
    (case a4 => k_is)
    (case a5 => k_is)
    (case a6 => k_is)
    (case l => k_is)
    intro TW
    refine' K12.w_txtS KX G ?a0 ?a1 ?a2 ?a3 ?a4 ?a5 ?a6 ?_
    (case a0 => k_is)
    (case a1 => k_is)
    (case a2 => k_is)
    (case a3 => k_is)
    (case a4 => k_is)
    (case a5 => k_is)
    (case a6 => k_is)
    intro TS
    refine' K12.w_lasts KX G ?a1 ?l ?_
    (case a1 => k_is)
    (case l => k_is)
    intro TLa
    refine' K12.w_ariths KX G ?a1 ?l ?_
    (case a1 => k_is)
    (case l => k_is)
    intro TA
    refine' K12.w_txtL (w := w) KX G ?a1 ?l ?v0 ?v1 ?v2 ?v3 ?v4 ?v5 ?v6 ?v7 ?v8 ?v9 ?v10 ?v11 ?v12 ?v13 ?v14 ?v15 ?low ?hk ?_
    (case a1 => k_is)
    (case l => k_is)
    (case v0 => k_is)
    (case v1 => k_is)
    (case v2 => k_is)
    (case v3 => k_is)
    (case v4 => k_is)
    (case v5 => k_is)
    (case v6 => k_is)
    (case v7 => k_is)
    (case v8 => k_is)
    (case v9 => k_is)
    (case v10 => k_is)
    (case v11 => k_is)
    (case v12 => k_is)
    (case v13 => k_is)
    (case v14 => k_is)
    (case v15 => k_is)
    (case low => rfl)
    (case hk => rfl)
    intro TL
    refine' K12.w_clsFn KX G ?a ?pg ?hd ?po ?sa ?n1 ?n2 ?n3 ?n4 ?n5 ?n6 ?_
    (case a => k_is)
    (case pg => k_is)
    (case hd => k_is)
    (case po => k_is)
    (case sa => k_is)
    (case n1 => k_is)
    (case n2 => k_is)
    (case n3 => k_is)
    (case n4 => k_is)
    (case n5 => k_is)
    (case n6 => k_is)
    intro mF TF
    refine' K12.w_clsSrc KX G ?a ?pg ?hd ?po ?sa ?n1 ?n2 ?n3 ?_
    (case a => k_is)
    (case pg => k_is)
    (case hd => k_is)
    (case po => k_is)
    (case sa => k_is)
    (case n1 => k_is)
    (case n2 => k_is)
    (case n3 => k_is)
    intro mS TC
    refine' K12.w_err KX G ?aB ?aC ?aI ?gB ?rB ?fB ?xC ?sa ?eC ?tC ?kC ?np ?na ?iC ?ga ?gg ?ca ?sg ?tk ?mr ?hC ?sC ?iB ?tB ?sB ?sA ?iI ?tI ?sI ?neB ?neI ?_
    (case aB => k_is)
    (case aC => k_is)
    (case aI => k_is)
    (case gB => k_is)
    (case rB => k_is)
    (case fB => k_is)
    (case xC => k_is)
    (case sa => k_is)
    (case eC => k_is)
    (case tC => k_is)
    (case kC => k_is)
    (case np => k_is)
    (case na => k_is)
    (case iC => k_is)
    (case ga => k_is)
    (case gg => k_is)
    (case ca => k_is)
    (case sg => k_is)
    (case tk => k_is)
    (case mr => k_is)
    (case hC => k_is)
    (case sC => first | rfl | k_is)
    (case iB => k_is)
    (case tB => k_is)
    (case sB => k_is)
    (case sA => k_is)
    (case iI => k_is)
    (case tI => k_is)
    (case sI => k_is)
    (case neB => decide)
    (case neI => decide)
    intro mCI TE TQ
    refine' K12.w_ini (x := "__init__") (qual := "Function.__init__") (st := K12.sFnInit) (ps := ["self", "title", "inputs", "extras", "result_kind", "rows"]) KX mF rfl (fun _ _ _ _ _ _ us hl => match us, hl with | [_, _, _, _, _, _], _ => rfl) ?a ?i ?mk ?kc ?l ?c ?k ?_
    (case a => k_is)
    (case i => k_is)
    (case mk => k_is)
    (case kc => k_is)
    (case l => k_is)
    (case c => k_is)
    (case k => k_is)
    intro IF
    refine' K12.w_ini (x := "__init__") (qual := "Source.__init__") (st := K12.sSrcInit) (ps := ["self", "classes", "functions"]) KX mS rfl (fun _ _ _ _ _ _ us hl => match us, hl with | [_, _, _], _ => rfl) ?a ?i ?mk ?kc ?l ?c ?k ?_
    (case a => k_is)
    (case i => k_is)
    (case mk => k_is)
    (case kc => k_is)
    (case l => k_is)
    (case c => k_is)
    (case k => k_is)
    intro IS
    refine' K12.w_inE (x := "__init__") (qual := "InvalidSource.__init__") (st := K12.sErrInit) (ps := ["self", "part", "at"]) KX mCI rfl (fun _ _ _ _ _ _ us hl => match us, hl with | [_, _, _], _ => rfl) ?a ?t ?l ?c ?k ?_
    (case a => k_is)
    (case t => k_is)
    (case l => k_is)
    (case c => k_is)
    (case k => k_is)
    intro IE
    refine' K12.w_dfn (x := "_law_mix") (qual := "_law_mix") (st := K12.sMix) (ps := ["_law_cell", "_law_lap"]) KX G (fun _ _ _ _ _ _ us hl => match us, hl with | [_, _], _ => rfl) ?a ?l ?c ?k ?_
    (case a => k_is)
    (case l => k_is)
    (case c => k_is)
    (case k => k_is)
    intro Dmix
    refine' K12.w_dfn (x := "_law_well") (qual := "_law_well") (st := K12.sWell) (ps := ["_law_script", "_law_k"]) KX G (fun _ _ _ _ _ _ us hl => match us, hl with | [_, _], _ => rfl) ?a ?l ?c ?k ?_
    (case a => k_is)
    (case l => k_is)
    (case c => k_is)
    (case k => k_is)
    intro Dwell
    refine' K12.w_dfn (x := "_law_draw") (qual := "_law_draw") (st := K12.sDraw) (ps := ["_law_well_here", "_law_many"]) KX G (fun _ _ _ _ _ _ us hl => match us, hl with | [_, _], _ => rfl) ?a ?l ?c ?k ?_
    (case a => k_is)
    (case l => k_is)
    (case c => k_is)
    (case k => k_is)
    intro Ddraw
    refine' K12.w_dfn (x := "_law_pick") (qual := "_law_pick") (st := K12.sPick) (ps := ["_law_well_here", "_law_items"]) KX G (fun _ _ _ _ _ _ us hl => match us, hl with | [_, _], _ => rfl) ?a ?l ?c ?k ?_
    (case a => k_is)
    (case l => k_is)
    (case c => k_is)
    (case k => k_is)
    intro Dpick
    refine' K12.w_dfn (x := "_law_some") (qual := "_law_some") (st := K12.sSome) (ps := ["_law_well_here", "_law_items", "_law_most"]) KX G (fun _ _ _ _ _ _ us hl => match us, hl with | [_, _, _], _ => rfl) ?a ?l ?c ?k ?_
    (case a => k_is)
    (case l => k_is)
    (case c => k_is)
    (case k => k_is)
    intro Dsome
    refine' K12.w_dfn (x := "_law_classes") (qual := "_law_classes") (st := K12.sClasses) (ps := ["_law_well_here"]) KX G (fun _ _ _ _ _ _ us hl => match us, hl with | [_], _ => rfl) ?a ?l ?c ?k ?_
    (case a => k_is)
    (case l => k_is)
    (case c => k_is)
    (case k => k_is)
    intro Dclasses
    refine' K12.w_dfn (x := "_law_heads") (qual := "_law_heads") (st := K12.sHeads) (ps := ["_law_well_here"]) KX G (fun _ _ _ _ _ _ us hl => match us, hl with | [_], _ => rfl) ?a ?l ?c ?k ?_
    (case a => k_is)
    (case l => k_is)
    (case c => k_is)
    (case k => k_is)
    intro Dheads
    refine' K12.w_dfn (x := "_law_named") (qual := "_law_named") (st := K12.sNamed) (ps := ["_law_head", "_law_kind"]) KX G (fun _ _ _ _ _ _ us hl => match us, hl with | [_, _], _ => rfl) ?a ?l ?c ?k ?_
    (case a => k_is)
    (case l => k_is)
    (case c => k_is)
    (case k => k_is)
    intro Dnamed
    refine' K12.w_dfn (x := "_law_number_rows") (qual := "_law_number_rows") (st := K12.sNumberRows) (ps := ["_law_well_here", "_law_names", "_law_many"]) KX G (fun _ _ _ _ _ _ us hl => match us, hl with | [_, _, _], _ => rfl) ?a ?l ?c ?k ?_
    (case a => k_is)
    (case l => k_is)
    (case c => k_is)
    (case k => k_is)
    intro DnumberRows
    refine' K12.w_dfn (x := "_law_object_rows") (qual := "_law_object_rows") (st := K12.sObjectRows) (ps := ["_law_well_here", "_law_names", "_law_classes_here"]) KX G (fun _ _ _ _ _ _ us hl => match us, hl with | [_, _, _], _ => rfl) ?a ?l ?c ?k ?_
    (case a => k_is)
    (case l => k_is)
    (case c => k_is)
    (case k => k_is)
    intro DobjectRows
    refine' K12.w_dfn (x := "_law_field_rows") (qual := "_law_field_rows") (st := K12.sFieldRows) (ps := ["_law_well_here", "_law_head", "_law_classes_here"]) KX G (fun _ _ _ _ _ _ us hl => match us, hl with | [_, _, _], _ => rfl) ?a ?l ?c ?k ?_
    (case a => k_is)
    (case l => k_is)
    (case c => k_is)
    (case k => k_is)
    intro DfieldRows
    refine' K12.w_dfn (x := "_law_call_rows") (qual := "_law_call_rows") (st := K12.sCallRows) (ps := ["_law_well_here", "_law_head", "_law_heads_here"]) KX G (fun _ _ _ _ _ _ us hl => match us, hl with | [_, _, _], _ => rfl) ?a ?l ?c ?k ?_
    (case a => k_is)
    (case l => k_is)
    (case c => k_is)
    (case k => k_is)
    intro DcallRows
    refine' K12.w_dfn (x := "_law_rows") (qual := "_law_rows") (st := K12.sRows) (ps := ["_law_well_here", "_law_head", "_law_heads_here", "_law_classes_here", "_law_many"]) KX G (fun _ _ _ _ _ _ us hl => match us, hl with | [_, _, _, _, _], _ => rfl) ?a ?l ?c ?k ?_
    (case a => k_is)
    (case l => k_is)
    (case c => k_is)
    (case k => k_is)
    intro Drows
    refine' K12.w_dfn (x := "_law_parts") (qual := "_law_parts") (st := K12.sParts) (ps := ["_law_well_here"]) KX G (fun _ _ _ _ _ _ us hl => match us, hl with | [_], _ => rfl) ?a ?l ?c ?k ?_
    (case a => k_is)
    (case l => k_is)
    (case c => k_is)
    (case k => k_is)
    intro Dparts
    refine' K12.w_dfn (x := "_law_copied") (qual := "_law_copied") (st := K12.sCopied) (ps := ["_law_classes_here", "_law_functions"]) KX G (fun _ _ _ _ _ _ us hl => match us, hl with | [_, _], _ => rfl) ?a ?l ?c ?k ?_
    (case a => k_is)
    (case l => k_is)
    (case c => k_is)
    (case k => k_is)
    intro Dcopied
    refine' K12.w_dfn (x := "_law_said") (qual := "_law_said") (st := K12.sSaid) (ps := ["_law_classes_here", "_law_functions"]) KX G (fun _ _ _ _ _ _ us hl => match us, hl with | [_, _], _ => rfl) ?a ?l ?c ?k ?_
    (case a => k_is)
    (case l => k_is)
    (case c => k_is)
    (case k => k_is)
    intro Dsaid
    refine' K12.w_dfn (x := "_law_calls_apart") (qual := "_law_calls_apart") (st := K12.sCallsApart) (ps := ["_law_head", "_law_called"]) KX G (fun _ _ _ _ _ _ us hl => match us, hl with | [_, _], _ => rfl) ?a ?l ?c ?k ?_
    (case a => k_is)
    (case l => k_is)
    (case c => k_is)
    (case k => k_is)
    intro DcallsApart
    refine' K12.w_dfn (x := "_law_all_names") (qual := "_law_all_names") (st := K12.sAllNames) (ps := ["_law_head"]) KX G (fun _ _ _ _ _ _ us hl => match us, hl with | [_], _ => rfl) ?a ?l ?c ?k ?_
    (case a => k_is)
    (case l => k_is)
    (case c => k_is)
    (case k => k_is)
    intro DallNames
    refine' K12.w_dfn (x := "_law_is_variable") (qual := "_law_is_variable") (st := K12.sIsVar) (ps := ["_law_row", "_law_at"]) KX G (fun _ _ _ _ _ _ us hl => match us, hl with | [_, _], _ => rfl) ?a ?l ?c ?k ?_
    (case a => k_is)
    (case l => k_is)
    (case c => k_is)
    (case k => k_is)
    intro DisVar
    refine' K12.w_dfn (x := "_law_right_rows") (qual := "_law_right_rows") (st := K12.sRightRows) (ps := ["_law_well_here", "_law_head", "_law_heads_here", "_law_classes_here", "_law_many"]) KX G (fun _ _ _ _ _ _ us hl => match us, hl with | [_, _, _, _, _], _ => rfl) ?a ?l ?c ?k ?_
    (case a => k_is)
    (case l => k_is)
    (case c => k_is)
    (case k => k_is)
    intro DrightRows
    refine' K12.w_dfn (x := "_law_bent") (qual := "_law_bent") (st := K12.sBent) (ps := ["_law_well_here", "_law_head", "_law_heads_here", "_law_row"]) KX G (fun _ _ _ _ _ _ us hl => match us, hl with | [_, _, _, _], _ => rfl) ?a ?l ?c ?k ?_
    (case a => k_is)
    (case l => k_is)
    (case c => k_is)
    (case k => k_is)
    intro Dbent
    refine' K12.w_dfn (x := "_law_wrong") (qual := "_law_wrong") (st := K12.sWrong) (ps := ["_law_well_here", "_law_functions", "_law_classes_here", "_law_at"]) KX G (fun _ _ _ _ _ _ us hl => match us, hl with | [_, _, _, _], _ => rfl) ?a ?l ?c ?k ?_
    (case a => k_is)
    (case l => k_is)
    (case c => k_is)
    (case k => k_is)
    intro Dwrong
    refine' K12.w_dfn (x := "_law_right") (qual := "_law_right") (st := K12.sRight) (ps := ["_law_well_here"]) KX G (fun _ _ _ _ _ _ us hl => match us, hl with | [_], _ => rfl) ?a ?l ?c ?k ?_
    (case a => k_is)
    (case l => k_is)
    (case c => k_is)
    (case k => k_is)
    intro Dright
    refine' K12.w_dfn (x := "is_integer") (qual := "is_integer") (st := K12.sIsInteger) (ps := ["thing"]) KX G (fun _ _ _ _ _ _ us hl => match us, hl with | [_], _ => rfl) ?a ?l ?c ?k ?_
    (case a => k_is)
    (case l => k_is)
    (case c => k_is)
    (case k => k_is)
    intro DisInteger
    refine' K12.w_dfn (x := "is_between") (qual := "is_between") (st := K12.sIsBetween) (ps := ["thing", "least", "most"]) KX G (fun _ _ _ _ _ _ us hl => match us, hl with | [_, _, _], _ => rfl) ?a ?l ?c ?k ?_
    (case a => k_is)
    (case l => k_is)
    (case c => k_is)
    (case k => k_is)
    intro DisBetween
    refine' K12.w_dfn (x := "is_name") (qual := "is_name") (st := K12.sIsName) (ps := ["thing"]) KX G (fun _ _ _ _ _ _ us hl => match us, hl with | [_], _ => rfl) ?a ?l ?c ?k ?_
    (case a => k_is)
    (case l => k_is)
    (case c => k_is)
    (case k => k_is)
    intro DisName
    refine' K12.w_dfn (x := "is_word") (qual := "is_word") (st := K12.sIsWord) (ps := ["thing", "words"]) KX G (fun _ _ _ _ _ _ us hl => match us, hl with | [_, _], _ => rfl) ?a ?l ?c ?k ?_
    (case a => k_is)
    (case l => k_is)
    (case c => k_is)
    (case k => k_is)
    intro DisWord
    refine' K12.w_dfn (x := "is_list") (qual := "is_list") (st := K12.sIsList) (ps := ["thing", "least", "most"]) KX G (fun _ _ _ _ _ _ us hl => match us, hl with | [_, _, _], _ => rfl) ?a ?l ?c ?k ?_
    (case a => k_is)
    (case l => k_is)
    (case c => k_is)
    (case k => k_is)
    intro DisList
    refine' K12.w_dfn (x := "is_tuple") (qual := "is_tuple") (st := K12.sIsTuple) (ps := ["thing", "many"]) KX G (fun _ _ _ _ _ _ us hl => match us, hl with | [_, _], _ => rfl) ?a ?l ?c ?k ?_
    (case a => k_is)
    (case l => k_is)
    (case c => k_is)
    (case k => k_is)
    intro DisTuple
    refine' K12.w_dfn (x := "is_declared") (qual := "is_declared") (st := K12.sIsDeclared) (ps := ["thing"]) KX G (fun _ _ _ _ _ _ us hl => match us, hl with | [_], _ => rfl) ?a ?l ?c ?k ?_
    (case a => k_is)
    (case l => k_is)
    (case c => k_is)
    (case k => k_is)
    intro DisDeclared
    refine' K12.w_dfn (x := "are_declared") (qual := "are_declared") (st := K12.sAreDeclared) (ps := ["thing", "least", "most"]) KX G (fun _ _ _ _ _ _ us hl => match us, hl with | [_, _, _], _ => rfl) ?a ?l ?c ?k ?_
    (case a => k_is)
    (case l => k_is)
    (case c => k_is)
    (case k => k_is)
    intro DareDeclared
    refine' K12.w_dfn (x := "is_class") (qual := "is_class") (st := K12.sIsClass) (ps := ["thing"]) KX G (fun _ _ _ _ _ _ us hl => match us, hl with | [_], _ => rfl) ?a ?l ?c ?k ?_
    (case a => k_is)
    (case l => k_is)
    (case c => k_is)
    (case k => k_is)
    intro DisClass
    refine' K12.w_dfn (x := "is_head") (qual := "is_head") (st := K12.sIsHead) (ps := ["thing"]) KX G (fun _ _ _ _ _ _ us hl => match us, hl with | [_], _ => rfl) ?a ?l ?c ?k ?_
    (case a => k_is)
    (case l => k_is)
    (case c => k_is)
    (case k => k_is)
    intro DisHead
    refine' K12.w_dfn (x := "frozen") (qual := "frozen") (st := K12.sFrozen) (ps := ["row"]) KX G (fun _ _ _ _ _ _ us hl => match us, hl with | [_], _ => rfl) ?a ?l ?c ?k ?_
    (case a => k_is)
    (case l => k_is)
    (case c => k_is)
    (case k => k_is)
    intro Dfrozen
    refine' K12.w_mtd (x := "kind_in") (qual := "Source.kind_in") (st := K12.sKindIn) (ps := ["self", "function", "thing"]) KX mS (fun _ _ _ _ _ _ us hl => match us, hl with | [_, _, _], _ => rfl) ?a ?i ?l ?c ?k ?_
    (case a => k_is)
    (case i => k_is)
    (case l => k_is)
    (case c => k_is)
    (case k => k_is)
    intro MkindIn
    refine' K12.w_mtd (x := "is_number_row") (qual := "Source.is_number_row") (st := K12.sNumRow) (ps := ["self", "function", "row"]) KX mS (fun _ _ _ _ _ _ us hl => match us, hl with | [_, _, _], _ => rfl) ?a ?i ?l ?c ?k ?_
    (case a => k_is)
    (case i => k_is)
    (case l => k_is)
    (case c => k_is)
    (case k => k_is)
    intro MnumRow
    refine' K12.w_mtd (x := "is_object_row") (qual := "Source.is_object_row") (st := K12.sObjRow) (ps := ["self", "function", "row"]) KX mS (fun _ _ _ _ _ _ us hl => match us, hl with | [_, _, _], _ => rfl) ?a ?i ?l ?c ?k ?_
    (case a => k_is)
    (case i => k_is)
    (case l => k_is)
    (case c => k_is)
    (case k => k_is)
    intro MobjRow
    refine' K12.w_mtd (x := "is_call") (qual := "Source.is_call") (st := K12.sCallRow) (ps := ["self", "function", "row"]) KX mS (fun _ _ _ _ _ _ us hl => match us, hl with | [_, _, _], _ => rfl) ?a ?i ?l ?c ?k ?_
    (case a => k_is)
    (case i => k_is)
    (case l => k_is)
    (case c => k_is)
    (case k => k_is)
    intro McallRow
    refine' K12.w_mtd (x := "is_plain_row") (qual := "Source.is_plain_row") (st := K12.sPlainRow) (ps := ["self", "function", "row"]) KX mS (fun _ _ _ _ _ _ us hl => match us, hl with | [_, _, _], _ => rfl) ?a ?i ?l ?c ?k ?_
    (case a => k_is)
    (case i => k_is)
    (case l => k_is)
    (case c => k_is)
    (case k => k_is)
    intro MplainRow
    refine' K12.w_mtd (x := "is_row") (qual := "Source.is_row") (st := K12.sIsRow) (ps := ["self", "function", "row"]) KX mS (fun _ _ _ _ _ _ us hl => match us, hl with | [_, _, _], _ => rfl) ?a ?i ?l ?c ?k ?_
    (case a => k_is)
    (case i => k_is)
    (case l => k_is)
    (case c => k_is)
    (case k => k_is)
    intro MisRow
    refine' K12.w_mtd (x := "agrees") (qual := "Source.agrees") (st := K12.sAgrees) (ps := ["self", "fields"]) KX mS (fun _ _ _ _ _ _ us hl => match us, hl with | [_, _], _ => rfl) ?a ?i ?l ?c ?k ?_
    (case a => k_is)
    (case i => k_is)
    (case l => k_is)
    (case c => k_is)
    (case k => k_is)
    intro Magrees
    refine' K12.w_mtd (x := "set_functions") (qual := "Source.set_functions") (st := K12.sSetFns) (ps := ["self", "functions"]) KX mS (fun _ _ _ _ _ _ us hl => match us, hl with | [_, _], _ => rfl) ?a ?i ?l ?c ?k ?_
    (case a => k_is)
    (case i => k_is)
    (case l => k_is)
    (case c => k_is)
    (case k => k_is)
    intro MsetFns
    refine' K12.all_ok KX G hmg ?a ?l ?c ?k T TW TS TL TLa TA mF TF mS TC mCI TE TQ IF IS IE Dmix Dwell Ddraw Dpick Dsome Dclasses Dheads Dnamed DnumberRows DobjectRows DfieldRows DcallRows Drows Dparts Dcopied Dsaid DcallsApart DallNames DisVar DrightRows Dbent Dwrong Dright DisInteger DisBetween DisName DisWord DisList DisTuple DisDeclared DareDeclared DisClass DisHead Dfrozen MkindIn MnumRow MobjRow McallRow MplainRow MisRow Magrees MsetFns
    (case a => k_is)
    (case l => k_is)
    (case c => k_is)
    (case k => k_is)
#print axioms PySem.Challenge.cw_backframes_k12_whole_rows_of_sources_ref_holds
