import PyProof.Rows.All
import Wide.All
import OpenK.AllK
import Wide.FinOn
import Lean
import PySem.Challenge.RW_xw0200_01
set_option Elab.async false
set_option compiler.extract_closed false

local macro_rules | `(tactic| walk_at "mine_enterC") => `(tactic| (refine' PySem.W.code_defC (by k_asm) (by k_asm) (by k_asm) (by k_asm) (by k_asm) (by exact rfl) (by exact rfl) (by assumption) (by k_is) (by k_is) (by ktr_room) (by exact PySem.BindsTo.of_eq rfl) (by exact rfl) (by decide +kernel) ?_ (by exact rfl) (by exact rfl) (by exact rfl); k_whole; intro g' L' h' tk' cells' FG' F' N' Y' B' X' T' l1; (try k_lt l1); k_cells Y'; (try simp only [List.cons_append, List.nil_append] at N'); (try dsimp only); (try k_lift B'); (try k_fold)))

-- text W0
section
namespace Mine
theorem gen_eq {α : Type} (a : α) {G : Prop} (h : ∀ x, x = a → G) : G := h a rfl
theorem dig {G : Prop} (h : ¬ G → False) : G := Classical.byContradiction h
end Mine
end

-- text Z0
section
namespace Mine
theorem room1 {a k n R : Nat} (h : a + n < R) (hk : k ≤ n) : a + k < R := by omega
theorem room2 {a b k n R : Nat} (h : a + n < R) (hk : b + k ≤ n) : a + b + k < R := by omega
theorem room1c {a k x c R : Nat} (h : a + (x + c) < R) (hk : k ≤ c) : a + k < R := by omega
theorem room2c {a b k x c R : Nat} (h : a + (x + c) < R) (hk : b + k ≤ c) : a + b + k < R := by omega
theorem room2s {a b k x c R : Nat} (h : a + (x + c) < R) (hk : b + k ≤ c) : a + b + (x + k) < R := by omega
theorem room2h {a b t u y c R : Nat} (h : a + (t * y + c) < R) (hu : u ≤ y) (hk : b ≤ c) : a + b + t * u < R := by
  have := Nat.mul_le_mul_left t hu
  omega
theorem room2hs {a b t u y c k R : Nat} (h : a + (t * y + c) < R) (hu : u ≤ y) (hk : b + k ≤ c) : a + b + (t * u + k) < R := by
  have := Nat.mul_le_mul_left t hu
  omega
theorem room0 {a n R : Nat} (h : a + n < R) : a < R := by omega
end Mine
end

-- text T0
section
open PySem PySem.W PyProof.Rows
set_option maxRecDepth 100000
set_option maxHeartbeats 8000000
namespace Mine
set_option synthInstance.maxSize 1 in
open_top hd for PySem.Challenge.rw_xw0200_01
end Mine
end

-- text W1
section
open PySem PySem.W PyProof.Rows PySem.Calls
set_option maxRecDepth 100000
namespace Mine
section
variable {prog : Program} {w : World} {A : Around} {E : Value → Shared → Prop} {s : Shared}

theorem keys_miss_list {a : Addr} {o : Obj} {xs : Array Value} {k : Nat} {Q : Option Value → Shared → Prop}
    (hx : s.heap.get? a = some o) (hc : o.cls = .type "list") (hdat : o.data = .seq xs k) (hd : o.dict = none) (hA : A.handled = none)
    (h : ∀ h' tk, (∀ b o, s.heap.get? b = some o → h'.get? b = some o) → Q none { s with heap := h', toks := tk }) :
    wpAny (model prog w) A (getAttr? (.ref a) "keys") Q E s := by
  obtain ⟨c, dct, dat, sl⟩ := o
  simp only at hc hdat hd
  subst hc hdat hd
  obtain ⟨hp, g, d, tk, os⟩ := s
  have hT : ∀ tk', (⟨hp, g, d, tk', os⟩ : Shared).TypeIs (.ref a) "list" := fun _ => ⟨_, hx, rfl⟩
  have hmiss : typeLookup (.type "list") "keys" = pure none := am_miss_of_fast (by kernel_rfl)
  have hsz : (Str.ofString "keys").length + 100 ≤ sizeLine := by rw [sizeLine_eq]; decide +kernel
  have f1 := sub_AttributeError
  have f3 := F.slot_list_getattribute.lookup
  have f4 := F.slot_list_getattribute.bind (.ref a)
  have f5 := am_list_getattr_none
  unfold getAttr? getAttrBy? getAttrBy
  repeat (any_goals (first | assumption | exact hT _ | ((with_reducible show wpAny _ _ (call (Value.builtin "list.__getattribute__") _ _) _ _ _); refine call_meets F.slot_list_getattribute (hT _) am_entry_list_getattribute (F.args_list_getattribute_2 _ _) (meets_getattribute_miss_list a xs k sl "keys" _ hmiss (by decide +kernel) hsz) ⟨hx, hA, fun h' tk' e hx' => ?_⟩) | wp_step))
  obtain ⟨t', u', he⟩ := hx'.there
  show wpAny _ _ (getattributeRaised _ _ _ _ _ _ _) _ _ _
  unfold getattributeRaised
  repeat (any_goals (first | assumption | wp_step))
  exact h _ _ hx'.keeps
end
end Mine
end

-- text W2
section
open PySem PySem.W PyProof.Rows PySem.Calls
set_option maxRecDepth 100000
namespace Mine
abbrev tupOf (vs : Array Value) (n : Nat) : Obj := { cls := .type "tuple", data := .seq vs n }
inductive PairsAt (h : Heap) : List Value → List Int → Prop
  | nil : PairsAt h [] []
  | cons {t : Addr} {k : Int} {tk : Tok} {n : Nat} {r : List Value} {ks : List Int} : h.get? t = some (tupOf #[.int k tk, .bool true] n) → PairsAt h r ks → PairsAt h (.ref t :: r) (k :: ks)
theorem PairsAt.keeps {h h' : Heap} {r : List Value} {ks : List Int} (x : PairsAt h r ks) (k : ∀ b o, (∃ v n, o = tupOf v n) → h.get? b = some o → h'.get? b = some o) : PairsAt h' r ks := by
  induction x with
  | nil => exact .nil
  | cons e _ ih => exact .cons (k _ _ ⟨_, _, rfl⟩ e) ih
theorem PairsAt.length {h : Heap} {r : List Value} {ks : List Int} (x : PairsAt h r ks) : r.length = ks.length := by
  induction x with
  | nil => rfl
  | cons _ _ ih => simp [ih]

theorem entry_upd_loop : entryFor table "dict.update.loop" = some Builtin.«dict.update.loop» := entryFor_of_tree (by kernel_rfl)
theorem plain_upd_loop : plainId "dict.update.loop" = true := by decide +kernel

section
variable {prog : Program} {w : World} {A : Around} {R : Result → Shared → Prop}

theorem upd_loop {D d it : Addr} {its : List Value} {nD : Nat} (hh : A.handled = none) (hdi : d ≠ it) (hiD : it ≠ D) (hsz : its.length ≤ 1000) :
    ∀ (rest : List Value) (ks : List Int) (i : Nat) (j : Int) (tj : Tok) (s : Shared) (kvs : List (Int × Value)), its.drop i = rest → s.heap.IsListIter it D i → s.heap.get? D = some (listOf its.toArray nD) →
      PairsAt s.heap rest ks → s.heap.DictOf (intKind prog w) d kvs → kvs.length ≤ i → (kvs.map (·.1) ++ ks).Nodup →
      (∀ h' tk' kvs', (∀ b o, b ≠ d → b ≠ it → s.heap.get? b = some o → h'.get? b = some o) → h'.DictOf (intKind prog w) d kvs' → kvs'.map (·.1) = kvs.map (·.1) ++ ks → R (.ok (.ret .none)) { s with heap := h', toks := tk' }) →
      codeAny (model prog w) A (.builtin "dict.update.loop" ⟨[.ref d, .ref it, .int j tj, .none], []⟩) R s := by
  intro rest
  induction rest with
  | nil =>
    intro ks i j tj s kvs hd hit hD hP hdd hlen hnd hR
    cases hP
    refine codeAny_builtin entry_upd_loop ?_
    rw [Around.under_plainId plain_upd_loop _]
    show wpAny _ A.in1 (pyNext (.ref it) >>= _) _ _ s
    have hx : its.toArray[i]? = none := by
      have := List.drop_eq_nil_iff.mp hd
      simpa using this
    refine wpAny_bind (wpAny_pyNext_list_end (A := A.in1) hh hit ⟨_, hD, rfl, _, rfl⟩ hx fun h' hk => ?_)
    show wpAny _ A.in1 (Builtin.Dict.addKeywords d [] >>= _) _ _ _
    refine wpAny_bind (wpAny_pure ?_)
    refine wpAny_pure ?_
    obtain ⟨o, es, ep, ho, r⟩ := hdd
    exact hR h' _ kvs (fun b o _ hb e => hk b o hb e) ⟨o, es, ep, hk _ _ hdi ho, r⟩ (by simp)
  | cons v rest ih =>
    intro ks i j tj s kvs hd hit hD hP hdd hlen hnd hR
    obtain ⟨_, ho, hP'⟩ : ∃ k, True ∧ True := ⟨0, trivial, trivial⟩
    cases hP with
    | @cons t k tk n _ ks' e hP =>
    refine codeAny_builtin entry_upd_loop ?_
    rw [Around.under_plainId plain_upd_loop _]
    show wpAny _ A.in1 (pyNext (.ref it) >>= _) _ _ s
    have hx : its.toArray[i]? = some (.ref t) := by
      have h1 : (its.drop i)[0]? = some (.ref t) := by rw [hd]; rfl
      simpa using h1
    have hlt : i < its.length := by
      have h1 : its[i]? = some (.ref t) := by simpa using hx
      exact (List.getElem?_eq_some_iff.mp h1).1
    refine wpAny_bind (wpAny_pyNext_list_item hit ⟨_, hD, rfl, _, rfl⟩ hx fun h' hit' hk => ?_)
    have hit_obj : ∀ v n, s.heap.get? it ≠ some (tupOf v n) := by
      intro v n q
      obtain ⟨o, ho, hc, _⟩ := hit
      rw [q] at ho; cases ho
      exact absurd (show ("tuple" : String) = "list_iterator" by injection hc) (by decide)
    have htit : t ≠ it := fun q => hit_obj _ _ (q ▸ e)
    have e' : h'.get? t = some (tupOf #[.int k tk, .bool true] n) := hk.2 t htit ▸ e
    refine wpAny_bind (wpAny_holding ?_)
    refine wpAny_bind (m := tryCatch (Builtin.Dict.pairItems (.ref t)) _) (wpAny_tryCatch ?_)
    unfold Builtin.Dict.pairItems
    refine wpAny_bind (wpAny_typeOf (T := "tuple") ⟨_, e', rfl⟩ ?_)
    rw [if_pos (by decide)]
    refine wpAny_bind (wpAny_seqItems e' rfl ?_)
    refine wpAny_pure ?_
    show wpAny _ A.in1 (holding [.int k tk, .bool true] (dictSet d (.int k tk) (.bool true))) _ _ _
    refine wpAny_holding ?_
    have hdd' : h'.DictOf (intKind prog w) d kvs := by
      obtain ⟨o, es, ep, ho, r⟩ := hdd
      exact ⟨o, es, ep, hk.2 d hdi ▸ ho, r⟩
    refine wpAny_dictSet_pairs (hsz := by rw [sizeLine_eq]; show kvs.length ≤ _; omega) (intKind_is prog w k tk) hdd' fun h₂ hd₂ hs₂ => ?_
    have hfresh : ¬ (kvs.any fun x => decide (x.1 = k)) = true := by
      rw [List.any_eq_true]; rintro ⟨x, hx, he⟩
      rw [List.nodup_append] at hnd
      exact hnd.2.2 x.1 (List.mem_map.mpr ⟨x, hx, rfl⟩) k (.head _) (of_decide_eq_true he)
    have hst : stored kvs k (.bool true) = kvs ++ [(k, .bool true)] := by rw [stored, if_neg hfresh]
    rw [hst] at hd₂
    have hdt : ∀ v n, h'.get? d ≠ some (tupOf v n) := by
      intro v n q
      obtain ⟨o, es, ep, ho, hc, hdat, _⟩ := hdd'
      rw [q] at ho; cases ho; cases hdat
    have hkeep : ∀ b o, b ≠ d → b ≠ it → s.heap.get? b = some o → h₂.get? b = some o := fun b o h1 h2 q => (hs₂.2 b h1).trans ((hk.2 b h2).trans q)
    have hDd : D ≠ d := by
      rintro rfl
      obtain ⟨o, es, ep, ho, hc, hdat, _⟩ := hdd
      rw [hD] at ho; cases ho; cases hdat
    refine wpAny_pure ⟨plainId_quiet plain_upd_loop _, ih ks' (i + 1) (j + 1) 0 _ (kvs ++ [(k, .bool true)]) ?_ ?_ ?_ ?_ hd₂ ?_ ?_ fun h₃ tk₃ kvs₃ hk₃ hd₃ he₃ => ?_⟩
    · rw [← List.drop_drop, hd]; rfl
    · obtain ⟨o, ho, r⟩ := hit'
      exact ⟨o, (hs₂.2 it (Ne.symm hdi)).trans ho, r⟩
    · exact hkeep D _ hDd (Ne.symm hiD) hD
    · refine hP.keeps fun b o hb q => ?_
      obtain ⟨v, n, rfl⟩ := hb
      refine hkeep b _ (fun z => ?_) (fun z => hit_obj _ _ (z ▸ q)) q
      subst z
      exact hdt v n ((hk.2 b hdi).trans q)
    · rw [List.length_append, List.length_singleton]; omega
    · simpa using hnd
    · refine hR h₃ tk₃ kvs₃ (fun b o h1 h2 q => hk₃ b o h1 h2 (hkeep b o h1 h2 q)) hd₃ ?_
      rw [he₃]; simp
end
end Mine
end

-- text W3
section
open PySem PySem.W PyProof.Rows PySem.Calls
set_option maxRecDepth 100000
namespace Mine
section
variable {prog : Program} {w : World} {A : Around} {E : Value → Shared → Prop} {s : Shared}
theorem call_dict_pairs {D : Addr} {its : List Value} {nD : Nat} {ks : List Int} {Q : Value → Shared → Prop} (hh : A.handled = none) (hD : s.heap.get? D = some (listOf its.toArray nD)) (hP : PairsAt s.heap its ks) (hnd : ks.Nodup) (hsz : its.length ≤ 1000)
    (h : ∀ h' tk' kvs, (∀ b o, s.heap.get? b = some o → h'.get? b = some o) → h'.DictOf (intKind prog w) s.heap.objs.size kvs → kvs.map (·.1) = ks → Q (.ref s.heap.objs.size) { s with heap := h', toks := tk' }) :
    wpAny (model prog w) A (call (.type "dict") [.ref D]) Q E s := by
  refine callType_codes (Q₁ := fun obj s₁ => obj = .ref s.heap.objs.size ∧ s₁ = { s with heap := s.heap.push { cls := .type "dict", data := .dict #[] } }) F.kt_called_dict (F.kt_typeCall_dict_1 _) F.entry_dict_init (kt_code_dict_new _ ⟨rfl, rfl⟩) ?_
  rintro obj s₁ ⟨rfl, rfl⟩
  have hnew : (s.heap.push { cls := .type "dict", data := .dict #[] }).DictOf (intKind prog w) s.heap.objs.size [] := Heap.DictOf.new s.heap
  have hD' : (s.heap.push { cls := .type "dict", data := .dict #[] }).get? D = some (listOf its.toArray nD) := Heap.get?_push_of_some _ hD
  have hDlt : D < s.heap.objs.size := Heap.lt_size hD
  refine ⟨hnew.typeIs, F.args_dict_init_2 _ _, ?_⟩
  unfold Builtin.«dict.__init__»
  refine wpAny_bind ?_
  unfold Builtin.Dict.selfAndRest
  refine wpAny_bind (wpAny_notOrdered_dict hnew.typeIs ?_)
  show wpAny _ _ (pure (s.heap.objs.size, [Value.ref D])) _ _ _
  refine wpAny_pure ?_
  show wpAny _ _ (Builtin.Dict.updateFrom "dict.__init__" s.heap.objs.size (.ref D) [] .none) _ _ _
  unfold Builtin.Dict.updateFrom
  refine wpAny_bind (wpAny_typeOf (T := "list") ⟨_, hD', rfl⟩ ?_)
  rw [if_pos (by decide)]
  refine wpAny_bind (keys_miss_list (A := A.in1.in1) hD' rfl rfl rfl hh fun h₁ tk₁ hk₁ => ?_)
  simp only [Option.isNone_none, if_true]
  refine wpAny_bind (wpAny_rule ?_)
  have hD₁ := hk₁ _ _ hD'
  refine wpAny_bind (wpAny_pyIter_list ⟨_, hD₁, rfl, _, rfl⟩ ?_)
  have hk₂ : ∀ b o, s.heap.get? b = some o → (h₁.push { cls := .type "list_iterator", data := .fields #[.ref D, .int 0 0] }).get? b = some o :=
    fun b o q => Heap.get?_push_of_some _ (hk₁ _ _ (Heap.get?_push_of_some _ q))
  have hd₁ : h₁.DictOf (intKind prog w) s.heap.objs.size [] := hnew.keep hk₁
  have hdlt : s.heap.objs.size < h₁.objs.size := by obtain ⟨_, _, _, ho, _⟩ := hd₁; exact Heap.lt_size ho
  refine wpAny_pure ⟨plainId_quiet plain_upd_loop _, upd_loop (A := A.in1) (nD := nD) hh (Nat.ne_of_lt hdlt) (Nat.ne_of_gt (Nat.lt_trans hDlt hdlt)) hsz its ks 0 0 0 _ [] (List.drop_zero ..) ⟨_, Heap.get?_push_size _ rfl, rfl, rfl⟩ (hk₂ _ _ hD) (hP.keeps fun b o _ q => hk₂ b o q) (hd₁.keep fun b o q => Heap.get?_push_of_some _ q) (Nat.le_refl _) (by simpa using hnd) fun h₃ tk₃ kvs₃ hk₃ hd₃ he₃ => ?_⟩
  refine ⟨rfl, h h₃ tk₃ kvs₃ (fun b o q => hk₃ b o (Nat.ne_of_lt (Heap.lt_size q)) (Nat.ne_of_lt (Nat.lt_trans (Heap.lt_size q) hdlt)) (hk₂ b o q)) hd₃ (by simpa using he₃)⟩
end
end Mine
end

-- text W4
section
open PySem PySem.W PyProof.Rows PySem.Calls PyProof.Rows.LCg
set_option maxRecDepth 100000
namespace Mine
inductive PairsIn (news : List (Addr × Obj)) : List Value → List Int → Prop
  | nil : PairsIn news [] []
  | cons {t : Addr} {k : Int} {tk : Tok} {n : Nat} {r : List Value} {ks : List Int} : (t, tupOf #[.int k tk, .bool true] n) ∈ news → PairsIn news r ks → PairsIn news (.ref t :: r) (k :: ks)
theorem PairsIn.at {h₀ h : Heap} {L : Addr} {news : List (Addr × Obj)} (N : News h₀ L h news) {r : List Value} {ks : List Int} (x : PairsIn news r ks) : PairsAt h r ks := by
  induction x with
  | nil => exact .nil
  | cons e _ ih => exact .cons (N _ e).1 ih
theorem PairsIn.mono {news news' : List (Addr × Obj)} (hs : ∀ p ∈ news, p ∈ news') {r : List Value} {ks : List Int} (x : PairsIn news r ks) : PairsIn news' r ks := by
  induction x with
  | nil => exact .nil
  | cons e _ ih => exact .cons (hs _ e) ih
theorem PairsIn.snoc {news : List (Addr × Obj)} {t : Addr} {k : Int} {tk : Tok} {n : Nat} (e : (t, tupOf #[.int k tk, .bool true] n) ∈ news) {r : List Value} {ks : List Int} (x : PairsIn news r ks) : PairsIn news (r ++ [.ref t]) (ks ++ [k]) := by
  induction x with
  | nil => exact .cons e .nil
  | cons e' _ ih => exact .cons e' ih
section
variable {prog : Program} {w : World} {A : Around} {E : Value → Shared → Prop} {s : Shared} {h₀ : Heap} {L : Addr} {m : Str → Option Value} {env : Env} {news : List (Addr × Obj)}

theorem comp_pairs_rest {x : Str} {p1 p2 p3 : Pos} {k1 k2 : Nat} {scope : Scope} {cl : List (Str × Addr)} {vs : List Value} {xs : List Int} {S : List (Addr × Obj) → Prop} {Fin : List Value → List (Addr × Obj) → Prop}
    (hi : IntsAre vs xs) (hS : ∀ p l, S l → S (p :: l)) (hkind : scope.kind = .function) (hx : scope.names.lookup x = some .local) (hd : (x == ("__debug__" : Str)) = false)
    (hfin : ∀ ys news', (∀ p ∈ news, p ∈ news') → PairsIn news' ys xs → Fin ys news') :
    ∀ (k i : Nat) (ys : List Value) (news' : List (Addr × Obj)), i + k = vs.length → (∀ p ∈ news, p ∈ news') → S news' → PairsIn news' ys (xs.take i) →
      CompRest prog w A h₀ L m env (.Tuple [.Name x p1, .Constant (.bool true) k1 p2] k2 p3) x scope cl s S (fun i v => vs[i]? = some v) Fin k i ys news' := by
  intro k
  induction k with
  | zero =>
    intro i ys news' hik hsub hSn hP
    refine CompRest.zero (hfin ys news' hsub ?_)
    rw [List.take_of_length_le (by rw [← hi.length]; omega)] at hP
    exact hP
  | succ k ih =>
    intro i ys news' hik hsub hSn hP
    refine CompRest.succ fun v I oI C oC D m₂ h tk E' hv hC hm F N off hne => ?_
    have hlt : i < xs.length := by rw [← hi.length]; omega
    obtain ⟨t, hx'⟩ := hi.get i xs[i] (List.getElem?_eq_getElem hlt)
    rw [hx'] at hv
    cases hv
    have hns : h.Ns C m₂ := hC.ns (N (C, oC) (.tail _ (.head _))).1
    have hkd : (compEnvC scope cl C env).scope.kind = .function := by simpa [compEnvC, relabel] using hkind
    refine Tuple_ (spliced_more (wpAny_Name (wpAny_loadName_local hkd (lookup_relabel_local hx) hns hm ?_) hd))
    refine spliced_more (wpAny_Constant_bool ?_)
    refine spliced_none ?_
    refine newTuple_N F N (fun h' F' N' => ?_) (by rw [sizeLine_eq]; exact Nat.le_of_ble_eq_true rfl)
    have lt : ∀ p ∈ (I, oI) :: (C, oC) :: (D, lst ys) :: news', p.1 < h.objs.size := fun p hp => Heap.lt_size (N p hp).1
    refine CompEnd.intro F' N' ((h.objs.size, tupOf #[.int xs[i] t, .bool true] 0) :: news') (fun p hp => ?_) ⟨⟨?_, ?_, ?_⟩, off⟩ (hS _ _ hSn) ?_
    · rcases List.mem_cons.mp hp with rfl | hp
      · exact .tail _ (.head _)
      rcases List.mem_cons.mp hp with rfl | hp
      · exact .tail _ (.tail _ (.head _))
      rcases List.mem_cons.mp hp with rfl | hp
      · exact .tail _ (.tail _ (.tail _ (.head _)))
      rcases List.mem_cons.mp hp with rfl | hp
      · exact .head _
      · exact .tail _ (.tail _ (.tail _ (.tail _ hp)))
    · exact Nat.ne_of_gt (lt (I, oI) (.head _))
    · exact Nat.ne_of_gt (lt (C, oC) (.tail _ (.head _)))
    · exact Nat.ne_of_gt (lt (D, lst ys) (.tail _ (.tail _ (.head _))))
    · refine ih (i + 1) _ _ (by omega) (fun p hp => .tail _ (hsub p hp)) (hS _ _ hSn) ?_
      have e : xs.take (i + 1) = xs.take i ++ [xs[i]] := by rw [List.take_add_one, List.getElem?_eq_getElem hlt]; rfl
      rw [e]
      exact PairsIn.snoc (.head _) (hP.mono fun p hp => .tail _ hp)

theorem comp_pairs {iter : Expr} {x : Str} {px p1 p2 p3 pos : Pos} {k1 k2 : Nat} {scope : Scope} {vs : List Value} {xs : List Int} {P : Addr} {n : Nat} {Q : Value → Shared → Prop}
    (F : Fr h₀ L s.heap m) (N : News h₀ L s.heap news) (hP : (P, listOf vs.toArray n) ∈ news) (hi : IntsAre vs xs) (hh : A.handled = none) (hsz : vs.length ≤ 1000)
    (hiter : ∀ Q : Value → Shared → Prop, Q (.ref P) s → wpAny (model prog w) A (eval iter env) Q E s)
    (hclos : closureFor scope env = pure []) (hcell : ∀ y ∈ scope.names, y.2 ≠ .cell) (hkind : scope.kind = .function)
    (hnames : ∀ y ∈ scope.names, y.2 = .local → scope.names.lookup y.1 = some .local) (hx : scope.names.lookup x = some .local) (hd : (x == ("__debug__" : Str)) = false)
    (hQ : ∀ D h tk ys news', Fr h₀ L h m → News h₀ L h ((D, lst ys) :: news') → (∀ p ∈ news, p ∈ news') → PairsIn news' ys xs → (∀ p ∈ news', p.1 ≠ D) → Q (.ref D) { s with heap := h, toks := tk })
    (hs : ∀ x, foldedSetIterable iter env x = pure x := by intro _; rfl) :
    wpAny (model prog w) A (eval (.ListComp (.Tuple [.Name x p1, .Constant (.bool true) k1 p2] k2 p3) [⟨.Name x px, iter, [], 0⟩] scope pos) env) Q E s := by
  refine ListComp_U (cl := []) F hclos hcell hkind hnames hx (hiter _ ?_) hs
  refine CompSrc.ledger hh F N hP (by rw [sizeLine_eq, List.size_toArray]; omega) fun g => ?_
  have e : (fun (i : Nat) (v : Value) => vs.toArray[i]? = some v) = fun i v => vs[i]? = some v := by funext i v; rw [List.getElem?_toArray]
  rw [e, List.size_toArray]
  refine comp_pairs_rest (news := news) hi (fun p l => ?_) hkind hx hd (fun ys news' hsub hP' => ?_) vs.length 0 [] news (Nat.zero_add _) (fun _ hp => hp) (.inr ⟨_, hP, rfl, _, rfl⟩) .nil
  · rintro (h1 | ⟨o, hm, r⟩)
    · exact .inl h1
    · exact .inr ⟨o, .tail _ hm, r⟩
  · intro D h tk F' N' off
    refine hQ D h tk ys news' F' N' hsub hP' fun p hp => ?_
    clear F' N' hP' hsub
    induction news' with
    | nil => cases hp
    | cons q r ih =>
      rcases List.mem_cons.mp hp with rfl | hp
      · exact off.1
      · exact ih off.2 hp
end
end Mine
end

-- text W5
section
open PySem PySem.W PyProof.Rows PySem.Calls PyProof.Rows.LCg
set_option maxRecDepth 100000
namespace Mine
section
variable {prog : Program} {w : World} {A : Around} {E : Value → Shared → Prop} {s : Shared} {h₀ : Heap} {L : Addr} {m : Str → Option Value} {env : Env} {news news' : List (Addr × Obj)}
theorem call_dict_pairs_K {D : Addr} {ys : List Value} {xs : List Int} {Q : Value → Shared → Prop} (F : Fr h₀ L s.heap m) (N : News h₀ L s.heap ((D, lst ys) :: news')) (hsub : ∀ p ∈ news, p ∈ news') (hP : PairsIn news' ys xs) (hbig : h₀.NoLimit) (hh : A.handled = none) (hnd : xs.Nodup) (hsz : xs.length ≤ 1000)
    (h : ∀ h' tk' d o kvs, Fr h₀ L h' m → News h₀ L h' ((d, o) :: news) → (∀ p ∈ news, p.1 < d) → (d == sysModules) = false → o.IsDictOf (intKind prog w) kvs → kvs.map (·.1) = xs → Q (.ref d) { s with heap := h', toks := tk' }) :
    wpAny (model prog w) A (call (.type "dict") [.ref D]) Q E s := by
  have N0 : News h₀ L s.heap news' := fun p hp => N p (.tail _ hp)
  have hPA := hP.at N0
  refine call_dict_pairs hh (N _ (.head _)).1 hPA hnd (by rw [hPA.length]; exact hsz) fun h' tk' kvs hk hd he => ?_
  obtain ⟨o, ho, hd'⟩ := Heap.dictOf_iff.mp hd
  have Nn : News h₀ L s.heap news := fun p hp => N0 p (hsub p hp)
  have hlt : ∀ p ∈ news, p.1 < s.heap.objs.size := fun p hp => Heap.lt_size (Nn p hp).1
  refine h h' tk' _ o kvs (F.keeps hk) (fun p hp => ?_) hlt (F.notModules (modules_low hbig)) hd' he
  rcases List.mem_cons.mp hp with rfl | hp
  · refine ⟨ho, Nat.ne_of_gt F.ns.lt, ?_⟩
    exact next_is_new F
  · exact ⟨hk _ _ (Nn p hp).1, (Nn p hp).2⟩
end
end Mine
end

-- text W6
section
open PySem PySem.W PyProof.Rows PySem.Calls PyProof.Rows.LCg
set_option maxRecDepth 100000
namespace Mine
/-- one more place, unless it stands already -/
def addStep (acc : List Int) (y : Int) : List Int := if y ∈ acc then acc else acc ++ [y]
theorem addStep_nodup {acc : List Int} {y : Int} (h : acc.Nodup) : (addStep acc y).Nodup := by
  unfold addStep
  split
  · exact h
  · rename_i hn
    rw [List.nodup_append]
    refine ⟨h, by simp, ?_⟩
    intro a ha b hb
    rw [List.mem_singleton.mp hb]
    exact fun e => hn (e ▸ ha)
theorem addStep_length (acc : List Int) (y : Int) : (addStep acc y).length ≤ acc.length + 1 := by
  unfold addStep
  split
  · omega
  · simp
theorem addFold_nodup {acc : List Int} (ys : List Int) (h : acc.Nodup) : (ys.foldl addStep acc).Nodup := by
  induction ys generalizing acc with
  | nil => exact h
  | cons y r ih => exact ih (addStep_nodup h)
theorem addFold_length (acc ys : List Int) : (ys.foldl addStep acc).length ≤ acc.length + ys.length := by
  induction ys generalizing acc with
  | nil => exact Nat.le_refl _
  | cons y r ih =>
    have h1 := ih (addStep acc y)
    have h2 := addStep_length acc y
    rw [List.foldl_cons, List.length_cons]
    omega
theorem mem_addFold {acc ys : List Int} {z : Int} : z ∈ ys.foldl addStep acc ↔ z ∈ acc ∨ z ∈ ys := by
  induction ys generalizing acc with
  | nil => simp
  | cons y r ih =>
    rw [List.foldl_cons, ih]
    unfold addStep
    by_cases h : y ∈ acc
    · rw [if_pos h]
      constructor
      · rintro (h1 | h1)
        · exact .inl h1
        · exact .inr (.tail _ h1)
      · rintro (h1 | h1)
        · exact .inl h1
        · rcases List.mem_cons.mp h1 with rfl | h1
          · exact .inl h
          · exact .inr h1
    · rw [if_neg h]
      simp only [List.mem_append, List.mem_cons, List.not_mem_nil, or_false]
      constructor
      · rintro ((h1 | h1) | h1)
        · exact .inl h1
        · exact .inr (.inl h1)
        · exact .inr (.inr h1)
      · rintro (h1 | h1 | h1)
        · exact .inl (.inl h1)
        · exact .inl (.inr h1)
        · exact .inr h1

def AddTurn (prog : Program) (w : World) (h₀ : Heap) (L : Addr) (m₀ : Str → Option Value) (x : Str) (d P M : Addr) (us : List Value) (n2 : Nat) (own : List (Addr × Obj)) (xs : List Int) (s : Shared) (f : Flow) (s₂ : Shared) : Prop :=
  f = .next ∧ ∃ h' tk' vs' n' o' kvs' m', s₂ = { s with heap := h', toks := tk' } ∧ Fr h₀ L h' m' ∧ (∀ z, z ≠ x → m' z = m₀ z) ∧ News h₀ L h' ((d, o') :: (P, listOf vs'.toArray n') :: (M, listOf us.toArray n2) :: own) ∧ IntsAre vs' xs ∧ Obj.IsDictOf (intKind prog w) o' kvs' ∧ kvs'.map (·.1) = xs

section
variable {prog : Program} {w : World} {A : Around} {E : Value → Shared → Prop} {s : Shared} {h₀ : Heap} {env : Env}
theorem addAll_iter {x : Str} {body : List Stmt} {m₀ : Str → Option Value} {d P M : Addr} {o : Obj} {vs us : List Value} {xs ys : List Int} {n1 n2 : Nat} {own : List (Addr × Obj)} {kvs : List (Int × Value)} {Q : Flow → Shared → Prop}
    (hh : A.handled = none) (F : Fr h₀ env.locals s.heap m₀) (N : News h₀ env.locals s.heap ((d, o) :: (P, listOf vs.toArray n1) :: (M, listOf us.toArray n2) :: own))
    (hus : IntsAre us ys) (hvs : IntsAre vs xs) (hnd : xs.Nodup) (hd : Obj.IsDictOf (intKind prog w) o kvs) (he : kvs.map (·.1) = xs)
    (turn : ∀ (y : Int) t xs' vs' n' o' kvs' h tk own', xs'.Nodup → xs'.length ≤ xs.length + ys.length → IntsAre vs' xs' → Obj.IsDictOf (intKind prog w) o' kvs' → kvs'.map (·.1) = xs' → OwnOff own' [d, P, M] → Fr h₀ env.locals h (fun z => if z = x then some (.int y t) else m₀ z) →
      News h₀ env.locals h ((d, o') :: (P, listOf vs'.toArray n') :: (M, listOf us.toArray n2) :: own') →
      wpAny (model prog w) A (execs body env) (AddTurn prog w h₀ env.locals m₀ x d P M us n2 own' (addStep xs' y) { s with heap := h, toks := tk }) E { s with heap := h, toks := tk })
    (hoff : OwnOff own [d, P, M])
    (done : ∀ vs' n' o' (u : Str → Option Value) h tk, (ys.foldl addStep xs).length ≤ xs.length + ys.length → IntsAre vs' (ys.foldl addStep xs) → Fr h₀ env.locals h (fun z => if z = x then u z else m₀ z) → News h₀ env.locals h ((d, o') :: (P, listOf vs'.toArray n') :: (M, listOf us.toArray n2) :: own) → Q .next { s with heap := h, toks := tk }) :
    wpAny (model prog w) A (pyIter (.ref M)) (fun it s₂ => LoopAtV prog w A h₀ env x body Q E it s₂) E s := by
  refine iter_invNL (fun i m nx => (∀ z, z ≠ x → m z = m₀ z) ∧ ∃ vs' n' o' kvs', nx = (d, o') :: (P, listOf vs'.toArray n') :: (M, listOf us.toArray n2) :: own ∧ IntsAre vs' ((ys.take i).foldl addStep xs) ∧ Obj.IsDictOf (intKind prog w) o' kvs' ∧ kvs'.map (·.1) = (ys.take i).foldl addStep xs)
    hh (.tail _ (.tail _ (.head _))) hus F N ⟨fun _ _ => rfl, vs, n1, o, kvs, rfl, hvs, hd, he⟩ ?_ ?_
  · rintro i y t m₁ news₁ h tk own₁ hy _ hsep _ ⟨hm, vs', n', o', kvs', rfl, hi', hd', he'⟩ F₁ N₁
    have hst : (ys.take (i + 1)).foldl addStep xs = addStep ((ys.take i).foldl addStep xs) y := by
      rw [List.take_add_one, hy, List.foldl_append]; rfl
    have hlen : ((ys.take i).foldl addStep xs).length ≤ xs.length + ys.length := by
      have h1 := addFold_length xs (ys.take i)
      have h2 : (ys.take i).length ≤ ys.length := by rw [List.length_take]; omega
      omega
    have e : (fun z => if z = x then some (Value.int y t) else m₁ z) = fun z => if z = x then some (Value.int y t) else m₀ z := by
      funext z
      by_cases h1 : z = x
      · rw [if_pos h1, if_pos h1]
      · rw [if_neg h1, if_neg h1]; exact hm z h1
    rw [e] at F₁
    refine wpAny_mono (turn y t _ vs' n' o' kvs' h tk (own ++ own₁) (addFold_nodup _ hnd) hlen hi' hd' he' ?_ F₁ (by simpa using N₁)) ?_ fun _ _ e => e
    · intro p hp b hb
      rcases List.mem_append.mp hp with hp | hp
      · exact hoff p hp b hb
      · refine hsep p hp b ?_
        simp only [List.map_cons]
        simp only [List.mem_cons, List.not_mem_nil, or_false] at hb
        rcases hb with rfl | rfl | rfl
        · exact .head _
        · exact .tail _ (.head _)
        · exact .tail _ (.tail _ (.head _))
    · rintro f s₂ ⟨rfl, h', tk', vs₂, n₂, o₂, kvs₂, m₂, rfl, F₂, hm₂, N₂, hi₂, hd₂, he₂⟩
      refine InvEndN.intro (nx := (d, o₂) :: (P, listOf vs₂.toArray n₂) :: (M, listOf us.toArray n2) :: own) F₂ N₂ ⟨.tail _ (.tail _ (.head _)), hm₂, vs₂, n₂, o₂, kvs₂, rfl, hst ▸ hi₂, hd₂, hst ▸ he₂⟩ rfl ?_ ?_
      · intro p hp
        rcases List.mem_cons.mp hp with rfl | hp
        · exact .head _
        rcases List.mem_cons.mp hp with rfl | hp
        · exact .tail _ (.head _)
        rcases List.mem_cons.mp hp with rfl | hp
        · exact .tail _ (.tail _ (.head _))
        · exact .tail _ (.tail _ (.tail _ (List.mem_append_left _ hp)))
      · intro p hp
        exact .tail _ (.tail _ (.tail _ (List.mem_append_right _ hp)))
  · rintro m₁ news₁ h tk _ ⟨hm, vs', n', o', kvs', rfl, hi', hd', he'⟩ F₁ N₁
    rw [List.take_length] at hi'
    refine done vs' n' o' m₁ h tk (addFold_length xs ys) hi' ?_ N₁
    have e : (fun z => if z = x then m₁ z else m₀ z) = m₁ := by
      funext z
      by_cases h1 : z = x
      · rw [if_pos h1]
      · rw [if_neg h1]; exact (hm z h1).symm
    rw [e]; exact F₁
end
end Mine
end

-- text W7
section
open PySem PySem.W PyProof.Rows PySem.Calls PyProof.Rows.LCg
set_option maxRecDepth 100000
namespace Mine
theorem valueAt_isSome_iff {kvs : List (Int × Value)} {y : Int} : (valueAt kvs y).isSome = true ↔ y ∈ kvs.map (·.1) := by
  unfold valueAt
  rw [Option.isSome_map, List.find?_isSome]
  simp only [decide_eq_true_eq, List.mem_map]
section
variable {prog : Program} {w : World} {A : Around} {E : Value → Shared → Prop} {s : Shared} {h₀ : Heap} {L : Addr} {m : Str → Option Value} {env : Env} {news : List (Addr × Obj)}
theorem notIn_K {d : Addr} {o : Obj} {kvs : List (Int × Value)} {xs : List Int} {y : Int} {t : Tok} {Q : Value → Shared → Prop} (N : News h₀ L s.heap news) (hp : (d, o) ∈ news) (lo : (d == sysModules) = false) (hd : Obj.IsDictOf (intKind prog w) o kvs) (he : kvs.map (·.1) = xs)
    (hy : y ∉ xs → Q (.bool true) { s with toks := s.toks + 1 }) (hn : y ∈ xs → Q (.bool false) { s with toks := s.toks + 1 }) : wpAny (model prog w) A (compareOp .NotIn (.int y t) (.ref d)) Q E s := by
  refine wpAny_notIn_of (intKind_is prog w y t) lo (kda_dict N hp hd).mapOf ?_
  subst he
  by_cases h : y ∈ kvs.map (·.1)
  · rw [valueAt_isSome_iff.mpr h]; exact hn h
  · rw [show (valueAt kvs y).isSome = false from Bool.eq_false_iff.mpr fun q => h (valueAt_isSome_iff.mp q)]
    exact hy h
theorem setNew_K {d : Addr} {o : Obj} {kvs : List (Int × Value)} {xs : List Int} {y : Int} {t : Tok} {v : Value} {g : Obj → List (Addr × Obj)} {Q : Unit → Shared → Prop} (F : Fr h₀ L s.heap m) (N : News h₀ L s.heap news) (U : UpdF d o news g) (hd : Obj.IsDictOf (intKind prog w) o kvs) (he : kvs.map (·.1) = xs) (hy : y ∉ xs) (hsz : xs.length ≤ 1000)
    (h : ∀ h' o' kvs', Fr h₀ L h' m → News h₀ L h' (g o') → Obj.IsDictOf (intKind prog w) o' kvs' → kvs' = kvs ++ [(y, v)] → kvs'.map (·.1) = xs ++ [y] → Q () { s with heap := h', toks := s.toks + 1 }) : wpAny (model prog w) A (setItem (.ref d) (.int y t) v) Q E s := by
  subst he
  refine kda_set F N U hd (intKind_is prog w y t) (by rw [sizeLine_eq]; rw [List.length_map] at hsz; omega) fun h' o' F' N' hd' => ?_
  have hfresh : ¬ (kvs.any fun x => decide (x.1 = y)) = true := by
    rw [List.any_eq_true]; rintro ⟨x, hx, he⟩
    exact hy (List.mem_map.mpr ⟨x, hx, of_decide_eq_true he⟩)
  have hst : stored kvs y v = kvs ++ [(y, v)] := by rw [stored, if_neg hfresh]
  rw [hst] at hd'
  exact h h' o' _ F' N' hd' rfl (by simp)
theorem sort_K {D : Addr} {vs : List Value} {xs : List Int} {n : Nat} {g : Obj → List (Addr × Obj)} {Q : Value → Shared → Prop} (F : Fr h₀ L s.heap m) (N : News h₀ L s.heap news) (U : UpdF D (listOf vs.toArray n) news g) (hi : IntsAre vs xs) (h64 : xs.length < 64)
    (h : ∀ h' vs' xs' n', Fr h₀ L h' m → News h₀ L h' (g (listOf vs'.toArray n')) → IntsAre vs' xs' → xs'.Perm xs → xs'.Pairwise (· ≤ ·) → Q .none { s with heap := h' }) : wpAny (model prog w) A (call (.builtin "list.sort") [.ref D]) Q E s := by
  obtain ⟨pre, post, rfl, hg, a, b⟩ := U.split
  have z := N (D, listOf vs.toArray n) (List.mem_append.mpr (.inr (.head _)))
  refine wpAny_call_entry PyProof.Rows.slot_list_sort ⟨_, z.1, rfl⟩ PyProof.Rows.entry_list_sort (list_sort_tree (n := n) (vs := vs) z.1 hi (by rw [hi.length]; exact h64) fun out ns' hI hp hP => ⟨.none, rfl, ?_⟩) (PyProof.Rows.args_list_sort _)
  have F1 : Fr h₀ L (s.heap.update D (Obj.mapSeq fun _ => (#[] : Array Value))) m := F.change (Heap.SameBut.update ..) z.2.1 z.2.2
  have N1 : ∃ k, News h₀ L (s.heap.update D (Obj.mapSeq fun _ => (#[] : Array Value))) (pre ++ (D, listOf #[] k) :: post) := ⟨_, (news_upd F N a b (o' := listOf #[] _) rfl rfl).2⟩
  obtain ⟨k1, N1⟩ := N1
  have N2 := News.grown N1 fun _ _ e => Heap.get?_push_of_some (seqObj "tuple" vs.toArray 0) e
  have N3 := News.grown N2 fun _ _ e => Heap.get?_push_of_some (seqObj "list" #[] 0) e
  have F3 := (F1.push (seqObj "tuple" vs.toArray 0)).push (seqObj "list" #[] 0)
  have R : ∃ k, Fr h₀ L ((((s.heap.update D (Obj.mapSeq fun _ => (#[] : Array Value))).push (seqObj "tuple" vs.toArray 0)).push (seqObj "list" #[] 0)).update D (Obj.mapSeq fun _ => out)) m ∧
      News h₀ L ((((s.heap.update D (Obj.mapSeq fun _ => (#[] : Array Value))).push (seqObj "tuple" vs.toArray 0)).push (seqObj "list" #[] 0)).update D (Obj.mapSeq fun _ => out)) (pre ++ (D, listOf out k) :: post) :=
    ⟨_, news_upd (o' := listOf out _) F3 N3 a b rfl rfl⟩
  obtain ⟨k2, R1, R2⟩ := R
  refine h _ out.toList ns' k2 R1 ?_ hI hp hP
  rw [hg, Array.toArray_toList]
  exact R2
theorem AddTurn.new {x : Str} {m₀ : Str → Option Value} {d P M : Addr} {o' : Obj} {vs us : List Value} {xs : List Int} {n' n2 : Nat} {own : List (Addr × Obj)} {kvs' : List (Int × Value)} {y : Int} {t : Tok} {v : Value} {h' : Heap} {tk' : Nat}
    (F : Fr h₀ L h' (fun z => if z = x then some v else m₀ z)) (N : News h₀ L h' ((d, o') :: (P, listOf (vs.toArray.push (.int y t)) n') :: (M, listOf us.toArray n2) :: own)) (hi : IntsAre vs xs) (hd : Obj.IsDictOf (intKind prog w) o' kvs') (he : kvs'.map (·.1) = xs ++ [y]) (hn : y ∉ xs) :
    AddTurn prog w h₀ L m₀ x d P M us n2 own (addStep xs y) s .next { s with heap := h', toks := tk' } := by
  unfold addStep
  rw [if_neg hn]
  refine ⟨rfl, h', tk', vs ++ [.int y t], n', o', kvs', _, rfl, F, fun z hz => if_neg hz, ?_, ?_, hd, he⟩
  · rw [List.push_toArray] at N
    exact N
  · clear hd he hn N F
    induction hi with
    | nil => exact .cons _ _ .nil
    | cons n t' _ ih => exact .cons _ _ ih
theorem AddTurn.old {x : Str} {m₀ : Str → Option Value} {d P M : Addr} {o' : Obj} {vs us : List Value} {xs : List Int} {n' n2 : Nat} {own : List (Addr × Obj)} {kvs' : List (Int × Value)} {y : Int} {v : Value} {h' : Heap} {tk' : Nat}
    (F : Fr h₀ L h' (fun z => if z = x then some v else m₀ z)) (N : News h₀ L h' ((d, o') :: (P, listOf vs.toArray n') :: (M, listOf us.toArray n2) :: own)) (hi : IntsAre vs xs) (hd : Obj.IsDictOf (intKind prog w) o' kvs') (he : kvs'.map (·.1) = xs) (hn : y ∈ xs) :
    AddTurn prog w h₀ L m₀ x d P M us n2 own (addStep xs y) s .next { s with heap := h', toks := tk' } := by
  unfold addStep
  rw [if_pos hn]
  exact ⟨rfl, h', tk', vs, n', o', kvs', _, rfl, F, fun z hz => if_neg hz, N, hi, hd, he⟩
end
end Mine
end

-- text P1
section
open PySem PySem.W PyProof.Rows PySem.Calls
set_option maxRecDepth 100000
namespace Mine
/-- the places 1 .. n of which f tells, rising -/
def sel (n : Nat) (f : Int → Bool) : List Int := ((List.range n).map fun (i : Nat) => (i : Int) + 1).filter f
theorem mem_sel {n : Nat} {f : Int → Bool} {z : Int} : z ∈ sel n f ↔ (1 ≤ z ∧ z ≤ n) ∧ f z = true := by
  unfold sel
  rw [List.mem_filter, List.mem_map]
  constructor
  · rintro ⟨⟨i, hi, rfl⟩, hf⟩
    rw [List.mem_range] at hi
    exact ⟨⟨by omega, by omega⟩, hf⟩
  · rintro ⟨⟨h1, h2⟩, hf⟩
    exact ⟨⟨(z - 1).toNat, by rw [List.mem_range]; omega, by omega⟩, hf⟩
theorem sel_lt (n : Nat) (f : Int → Bool) : (sel n f).Pairwise (· < ·) := by
  unfold sel
  refine List.Pairwise.filter f ?_
  rw [List.pairwise_map]
  exact List.Pairwise.imp (fun h => by omega) (List.pairwise_lt_range)
theorem sel_le (n : Nat) (f : Int → Bool) : (sel n f).Pairwise (· ≤ ·) := List.Pairwise.imp (fun h => by omega) (sel_lt n f)
theorem sel_nodup (n : Nat) (f : Int → Bool) : (sel n f).Nodup := List.Pairwise.imp (fun h => by omega) (sel_lt n f)
theorem sel_length (n : Nat) (f : Int → Bool) : (sel n f).length ≤ n := by
  unfold sel
  refine Nat.le_trans (List.length_filter_le _ _) ?_
  simp
theorem sel_congr {n : Nat} {f g : Int → Bool} (h : ∀ z : Int, 1 ≤ z → z ≤ n → f z = g z) : sel n f = sel n g := by
  unfold sel
  refine List.filter_congr fun z hz => ?_
  rw [List.mem_map] at hz
  obtain ⟨i, hi, rfl⟩ := hz
  rw [List.mem_range] at hi
  refine h ((i : Int) + 1) ?_ ?_ <;> omega
theorem sel_false (n : Nat) : sel n (fun _ => false) = [] := by
  unfold sel
  rw [List.filter_eq_nil_iff]
  intro a _ h; cases h
theorem perm_of_mem {a b : List Int} (ha : a.Nodup) (hb : b.Nodup) (h : ∀ z, z ∈ a ↔ z ∈ b) : a.Perm b := (List.perm_ext_iff_of_nodup ha hb).mpr h
/-- what add_all leaves -/
theorem sorted_union {n : Nat} {f g : Int → Bool} {zs : List Int} (hp : zs.Perm ((sel n g).foldl addStep (sel n f))) (hs : zs.Pairwise (· ≤ ·)) : zs = sel n (fun z => f z || g z) := by
  refine lks_uniq (hp.trans (perm_of_mem (addFold_nodup _ (sel_nodup n f)) (sel_nodup n _) fun z => ?_)) hs (sel_le n _)
  rw [mem_addFold, mem_sel, mem_sel, mem_sel, Bool.or_eq_true]
  constructor
  · rintro (⟨h1, h2⟩ | ⟨h1, h2⟩)
    · exact ⟨h1, .inl h2⟩
    · exact ⟨h1, .inr h2⟩
  · rintro ⟨h1, h2 | h2⟩
    · exact .inl ⟨h1, h2⟩
    · exact .inr ⟨h1, h2⟩

/-- what stands off some addresses -/
def offs (W : List Addr) (news : List (Addr × Obj)) : List (Addr × Obj) := news.filter fun p => !W.contains p.1
theorem mem_offs {W : List Addr} {news : List (Addr × Obj)} {p : Addr × Obj} : p ∈ offs W news ↔ p ∈ news ∧ p.1 ∉ W := by
  unfold offs
  rw [List.mem_filter]
  simp
theorem offs_off (W : List Addr) (news : List (Addr × Obj)) : OwnOff (offs W news) W := fun _ hp _ hb e => (mem_offs.mp hp).2 (e ▸ hb)
theorem nw_sub {h₀ h : Heap} {L : Addr} {l l' : List (Addr × Obj)} (N : News h₀ L h l) (hs : ∀ p ∈ l', p ∈ l) : News h₀ L h l' := fun p hp => N p (hs p hp)
theorem nw_same {h₀ h : Heap} {L a : Addr} {o o' : Obj} {l : List (Addr × Obj)} (N : News h₀ L h l) (h1 : (a, o) ∈ l) (h2 : (a, o') ∈ l) : o = o' := by
  have e1 := (N _ h1).1
  have e2 := (N _ h2).1
  rw [e1] at e2
  exact Option.some.inj e2
theorem nw_join {h₀ h : Heap} {L : Addr} {l l' : List (Addr × Obj)} (N : News h₀ L h l) (N' : News h₀ L h l') : News h₀ L h (l ++ l') := fun p hp => (List.mem_append.mp hp).elim (N p) (N' p)
theorem nw_lt {h₀ h : Heap} {L : Addr} {l : List (Addr × Obj)} (N : News h₀ L h l) : ∀ p ∈ l, p.1 < h.objs.size := fun p hp => Heap.lt_size (N p hp).1
end Mine
end

-- text B0
section
open PySem PySem.W PyProof.Rows PySem.Calls PyProof.Rows.LCg
set_option maxRecDepth 100000
set_option maxHeartbeats 8000000
namespace Mine
/-- what a call of the text's def at f does, upon a ledger -/
def CallSpec (w : World) (f : Addr) (dd du : Nat) (news : List (Addr × Obj)) (args : List Value) (Post : Nat → Value → List (Addr × Obj) → Prop) : Prop :=
  ∀ (loose : List Str) (mean : ExcName → Option Value) (mg mb : Str → Option Value) (dp un : Nat) (gd : Option (List Code)) (cn : Str) (cs : Scope) (a : Addr) (ccd : Value) (cl : List (Str × Addr)) (outer : List Env) (A₀ : Around) (base h₀ : Heap) (L : Addr) (m : Str → Option Value) (s : Shared) (Q E : Value → Shared → Prop),
    Below A₀ base outer h₀ → Fr h₀ L s.heap m → (hd.heap_39 w.params).In h₀ → News h₀ L s.heap news → Top hd.view_39 loose mean mg mb h₀ → cs.kind = .function → dp + dd < recursionLimit → un + du < cLine →
    (∀ (b : Nat) r h' tk' news', (∀ p ∈ news, p.1 < b) → Fr h₀ L h' m → News h₀ L h' news' → Post b r news' → Q r { s with heap := h', toks := tk' }) →
    wpAny (model PySem.Challenge.rw_xw0200_01.row.prog w) (ktrTop dp un gd cn cs L a ccd cl outer) (call (.ref f) args) Q E s

theorem CallSpec.use {w : World} {f : Addr} {dd du : Nat} {news : List (Addr × Obj)} {args : List Value} {Post : Nat → Value → List (Addr × Obj) → Prop} (C : CallSpec w f dd du news args Post)
    {loose : List Str} {mean : ExcName → Option Value} {mg mb : Str → Option Value} {dp un : Nat} {gd : Option (List Code)} {cn : Str} {cs : Scope} {a : Addr} {ccd : Value} {cl : List (Str × Addr)} {outer : List Env} {A₀ : Around} {base h₀ : Heap} {L : Addr} {m : Str → Option Value} {s : Shared} {Q E : Value → Shared → Prop}
    (B : Below A₀ base outer h₀) (F : Fr h₀ L s.heap m) (X : (hd.heap_39 w.params).In h₀) (N : News h₀ L s.heap news) (T : Top hd.view_39 loose mean mg mb h₀) (hk : cs.kind = .function) (hd : dp + dd < recursionLimit) (hu : un + du < cLine)
    (ret : ∀ (b : Nat) r h' tk' news', (∀ p ∈ news, p.1 < b) → Fr h₀ L h' m → News h₀ L h' news' → Post b r news' → Q r { s with heap := h', toks := tk' }) :
    wpAny (model PySem.Challenge.rw_xw0200_01.row.prog w) (ktrTop dp un gd cn cs L a ccd cl outer) (call (.ref f) args) Q E s := C _ _ _ _ _ _ _ _ _ _ _ _ _ _ _ _ _ _ _ _ _ B F X N T hk hd hu ret

local macro_rules | `(tactic| walk_at "eval ListComp") => `(tactic| (k_here; (with_reducible show wpAny _ _ (eval (Expr.ListComp (Expr.Tuple [_, Expr.Constant (Const.bool true) _ _] _ _) _ _ _) _) _ _ _); k_dflt (refine' comp_pairs (by k_asm) (by k_asm) (by k_mem) (by assumption) rfl (by assumption) (by (intro Q' hq'; refine' ld (by k_asm) rfl hq')) rfl (by decide) rfl (by decide) rfl (by decide) ?_ (by (intro _; exact rfl))); intro D' h' tk' ys' news' F' N' hsub' hP' hD'))
local macro_rules | `(tactic| walk_at "call type:dict") => `(tactic| (k_here; (with_reducible show wpAny _ _ (call (Value.type "dict") [Value.ref _]) _ _ _); k_dflt (refine' call_dict_pairs_K (by k_asm) (by k_asm) (by assumption) (by assumption) (by exact Top.nolimit (by k_asm)) rfl (by assumption) (by assumption) ?_); intro h' tk' d' o' kvs' F' N' l1 lo' hd' he'; (have l9 := l1); (replace l1 := allLt_of l1); simp only [AllLt] at l1; obtain ⟨l1a, l1b, l1c⟩ := l1))
local macro_rules | `(tactic| walk_at "pyIter ref") => `(tactic| (k_here; k_dflt (refine' addAll_iter rfl (by k_asm) (by k_asm) (by assumption) (by assumption) (by assumption) (by assumption) (by assumption) ?_ ?of ?_); (all_goals try (intro y' t' xs' vs' n' o' kvs' h' tk' own' nd' len' iv' id' ke' off' F' N'))))
local macro_rules | `(tactic| walk_at "compareOp NotIn int ref") => `(tactic| (k_here; k_dflt (refine' notIn_K (by k_asm) (by k_mem) (by assumption) (by assumption) (by assumption) ?_ ?_); all_goals intro ny'))
local macro_rules | `(tactic| walk_at "setItem ref int") => `(tactic| (k_here; k_dflt (refine' setNew_K (by k_asm) (by k_asm) (by k_updF) (by assumption) (by assumption) (by assumption) (by omega) ?_); intro h' o' kvs' F' N' d' _ e'))
local macro_rules | `(tactic| walk_at "call builtin:list.sort") => `(tactic| (k_here; k_dflt (refine' sort_K (by k_asm) (by k_asm) (by k_updF) (by assumption) (by omega) ?_); intro h' vs' xs' n' F' N' i' p' w'))
theorem addAll_walk (w : World) {loose : List Str} {mean : ExcName → Option Value} {mg mb : Str → Option Value}
  {dp un : Nat} {gd : Option (List Code)} {cn : Str} {cs : Scope} {a : Addr} {ccd : Value} {cl : List (Str × Addr)} {outer : List Env} {A₀ : Around} {base h₀ : Heap} {L : Addr} {m : Str → Option Value} {s : Shared} {Q E : Value → Shared → Prop}
  {P M : Addr} {vs us : List Value} {xs ys : List Int} {n1 n2 : Nat} {own : List (Addr × Obj)}
  (B : Below A₀ base outer h₀) (F : Fr h₀ L s.heap m) (X : (hd.heap_39 w.params).In h₀)
  (N : News h₀ L s.heap ((P, listOf vs.toArray n1) :: (M, listOf us.toArray n2) :: own))
  (hoff : OwnOff own [P, M]) (hPM : @Ne Nat P M) (hvs : IntsAre vs xs) (hus : IntsAre us ys) (hnd : xs.Nodup) (hsz : xs.length + ys.length < 64) (T : Top hd.view_39 loose mean mg mb h₀) (hk : cs.kind = .function) (hdp : dp + 10 < recursionLimit) (hu : un + 80 < cLine)
  (hret : ∀ h' tk' vs' n' zs, IntsAre vs' zs → zs.Perm (ys.foldl addStep xs) → zs.Pairwise (· ≤ ·) → Fr h₀ L h' m → News h₀ L h' ((P, listOf vs'.toArray n') :: (M, listOf us.toArray n2) :: own) → Q .none { s with heap := h', toks := tk' }) :
  wpAny (model PySem.Challenge.rw_xw0200_01.row.prog w) (ktrTop dp un gd cn cs L a ccd cl outer) (call (.ref 26) [.ref P, .ref M]) Q E s := by
  have hsx : vs.length ≤ 1000 := by rw [hvs.length]; omega
  have hsx2 : xs.length ≤ 1000 := by omega
  w_top off
  revert X; k_fill; intro X
  refine wpAny_call ?_
  k_dflt cell_enter
  k_steps
  · exact AddTurn.new (by k_asm) (by k_asm) (by assumption) (by assumption) (by assumption) (by assumption)
  · exact AddTurn.old (by k_asm) (by k_asm) (by assumption) (by assumption) (by assumption) (by assumption)
  · rename_i l9 _ _ l1c _ _ _
    intro p hp b hb
    rcases List.mem_cons.mp hb with rfl | hb
    · exact Nat.ne_of_lt (l9 p (.tail _ (.tail _ hp)))
    · exact hoff p hp b hb
  · refine hret _ _ _ _ _ (by assumption) (by assumption) (by assumption) (by k_asm) (nw_sub (by k_asm) fun p hp => .tail _ hp)

theorem addAll_c {w : World} {news : List (Addr × Obj)} {P M : Addr} {vs us : List Value} {n1 n2 : Nat} {n : Nat} {f g : Int → Bool} (hP : (P, listOf vs.toArray n1) ∈ news) (hM : (M, listOf us.toArray n2) ∈ news) (hPM : @Ne Nat P M) (hvs : IntsAre vs (sel n f)) (hus : IntsAre us (sel n g)) (hn : n ≤ 30) :
    CallSpec w 26 10 80 news [.ref P, .ref M] (fun _ r news' => r = .none ∧ ∃ vs' n', IntsAre vs' (sel n fun z => f z || g z) ∧ news' = (P, listOf vs'.toArray n') :: offs [P] news) := by
  intro loose mean mg mb dp un gd cn cs a ccd cl outer A₀ base h₀ L m s Q E B F X N T hk hd hu ret
  have lt := nw_lt N
  refine addAll_walk w (own := offs [P, M] news) (n1 := n1) (n2 := n2) B F X (nw_sub N fun p hp => ?_) (offs_off _ _) hPM hvs hus (sel_nodup _ _) ?_ T hk hd hu fun h' tk' vs' n' zs hi hp hw F' N' => ?_
  · rcases List.mem_cons.mp hp with rfl | hp
    · exact hP
    rcases List.mem_cons.mp hp with rfl | hp
    · exact hM
    · exact (mem_offs.mp hp).1
  · have h1 := sel_length n f
    have h2 := sel_length n g
    omega
  · rw [sorted_union hp hw] at hi
    refine ret s.heap.objs.size _ h' tk' _ lt F' (nw_sub N' fun p hp => ?_) ⟨rfl, vs', n', hi, rfl⟩
    rcases List.mem_cons.mp hp with rfl | hp
    · exact .head _
    · refine dig fun kG => ?_
      obtain ⟨h1, h2⟩ := mem_offs.mp hp
      refine kG ?_
      clear kG
      by_cases e : p.1 = M
      · have : p = (M, listOf us.toArray n2) := by
          refine dig fun kG => ?_
          obtain ⟨q, o⟩ := p
          refine kG ?_
          clear kG
          simp only at e
          subst e
          rw [nw_same N h1 hM]
        rw [this]
        exact .tail _ (.head _)
      · refine .tail _ (.tail _ (mem_offs.mpr ⟨h1, ?_⟩))
        intro h3
        rcases List.mem_cons.mp h3 with h3 | h3
        · exact h2 (h3 ▸ .head _)
        · rcases List.mem_cons.mp h3 with h3 | h3
          · exact e h3
          · cases h3
end Mine
end

-- text C0
section
open PySem PySem.W PyProof.Rows PySem.Calls PyProof.Rows.LCg
set_option maxRecDepth 100000
namespace Mine
/-- what an automaton holds while it reads: its names, its follow table -/
structure AS where
  na : Addr
  nv : List Value
  nn : Nat
  fa : Addr
  fo : Obj
  kvs : List (Int × Value)
  fl : List (Addr × List Value × Nat)
def AS.core (S : AS) : List (Addr × Obj) := (S.na, listOf S.nv.toArray S.nn) :: (S.fa, S.fo) :: S.fl.map fun x => (x.1, listOf x.2.1.toArray x.2.2)
def AS.adrs (S : AS) : List Addr := S.na :: S.fa :: S.fl.map (·.1)
theorem AS.core_adrs (S : AS) : S.core.map (·.1) = S.adrs := by
  unfold AS.core AS.adrs
  simp only [List.map_cons, List.map_map]
  rfl
theorem AS.mem_adrs {S : AS} {p : Addr × Obj} (h : p ∈ S.core) : p.1 ∈ S.adrs := by
  rw [← S.core_adrs]; exact List.mem_map_of_mem h
structure AS.Ok (w : World) (S : AS) (nms : List Str) (n : Nat) (fol : Int → Int → Bool) : Prop where
  names : StrsAre S.nv nms
  dict : Obj.IsDictOf (intKind PySem.Challenge.rw_xw0200_01.row.prog w) S.fo S.kvs
  keys : ∀ (i : Nat) x, S.fl[i]? = some x → valueAt S.kvs ((i : Int) + 1) = some (.ref x.1)
  kmap : S.kvs.map (·.1) = (List.range S.fl.length).map fun (i : Nat) => (i : Int) + 1
  len : S.fl.length = nms.length
  lists : ∀ (i : Nat) x, S.fl[i]? = some x → IntsAre x.2.1 (sel n (fol ((i : Int) + 1)))
  nodup : S.adrs.Nodup
  low : (S.fa == sysModules) = false
  bound : nms.length ≤ n
  off : ∀ p q, fol p q = true → p ≤ nms.length
theorem AS.Ok.congr {w : World} {S : AS} {nms : List Str} {n : Nat} {fol fol' : Int → Int → Bool} (h : S.Ok w nms n fol) (e : ∀ p q, fol p q = fol' p q) : S.Ok w nms n fol' := by
  have : fol = fol' := funext fun p => funext fun q => e p q
  exact this ▸ h
def AS.put (S : AS) (i : Nat) (A : Addr) (vs : List Value) (k : Nat) : AS := { S with fl := S.fl.set i (A, vs, k) }
theorem AS.put_adrs {S : AS} {i : Nat} {A : Addr} {vs vs' : List Value} {k k' : Nat} (hi : S.fl[i]? = some (A, vs, k)) : (S.put i A vs' k').adrs = S.adrs := by
  unfold AS.put AS.adrs
  simp only [List.map_set]
  congr 2
  refine dig fun kG => ?_
  obtain ⟨hlt, e⟩ := List.getElem?_eq_some_iff.mp hi
  refine kG ?_
  clear kG
  refine List.ext_getElem (by simp) fun j h1 h2 => ?_
  rw [List.getElem_set]
  split
  · rename_i h
    subst h
    simp [e]
  · rfl
theorem AS.put_ok {w : World} {S : AS} {nms : List Str} {n : Nat} {fol : Int → Int → Bool} {b : Int → Bool} {i : Nat} {A : Addr} {vs vs' : List Value} {k k' : Nat} (h : S.Ok w nms n fol) (hi : S.fl[i]? = some (A, vs, k)) (hv : IntsAre vs' (sel n fun q => fol ((i : Int) + 1) q || b q)) :
    (S.put i A vs' k').Ok w nms n (fun p q => fol p q || (p == (i : Int) + 1 && b q)) := by
  refine dig fun kG => ?_
  obtain ⟨hlt, e⟩ := List.getElem?_eq_some_iff.mp hi
  have hlen : (S.put i A vs' k').fl.length = S.fl.length := List.length_set
  have get : ∀ (j : Nat) x, (S.put i A vs' k').fl[j]? = some x → (j = i ∧ x = (A, vs', k')) ∨ (j ≠ i ∧ S.fl[j]? = some x) := by
    intro j x hx
    unfold AS.put at hx
    simp only [List.getElem?_set] at hx
    by_cases hj : i = j
    · subst hj
      rw [if_pos rfl, if_pos hlt] at hx
      exact .inl ⟨rfl, (Option.some.inj hx).symm⟩
    · rw [if_neg hj] at hx
      exact .inr ⟨Ne.symm hj, hx⟩
  refine kG ?_
  clear kG
  refine ⟨h.names, h.dict, fun j x hx => ?_, ?_, by rw [hlen]; exact h.len, fun j x hx => ?_, by rw [AS.put_adrs hi]; exact h.nodup, h.low, h.bound, fun p q hpq => ?_⟩
  · rcases get j x hx with ⟨rfl, rfl⟩ | ⟨_, hx⟩
    · exact h.keys j (A, vs, k) hi
    · exact h.keys j x hx
  · rw [hlen]; exact h.kmap
  · rcases get j x hx with ⟨rfl, rfl⟩ | ⟨hj, hx⟩
    · have e1 : (fun q => fol ((j : Int) + 1) q || ((j : Int) + 1 == (j : Int) + 1 && b q)) = fun q => fol ((j : Int) + 1) q || b q := by
        funext q; rw [beq_self_eq_true, Bool.true_and]
      rw [e1]; exact hv
    · have e1 : (fun q => fol ((j : Int) + 1) q || ((j : Int) + 1 == (i : Int) + 1 && b q)) = fol ((j : Int) + 1) := by
        funext q
        have : ((j : Int) + 1 == (i : Int) + 1) = false := by rw [beq_eq_false_iff_ne]; omega
        rw [this, Bool.false_and, Bool.or_false]
      rw [e1]; exact h.lists j x hx
  · rw [Bool.or_eq_true, Bool.and_eq_true, beq_iff_eq] at hpq
    rcases hpq with h1 | ⟨rfl, _⟩
    · exact h.off p q h1
    · have := h.len; omega
theorem AS.put_core {S : AS} {i : Nat} {A : Addr} {vs vs' : List Value} {k k' : Nat} (hn : S.adrs.Nodup) (hi : S.fl[i]? = some (A, vs, k)) : ∀ p ∈ (S.put i A vs' k').core, p = (A, listOf vs'.toArray k') ∨ (p ∈ S.core ∧ p.1 ≠ A) := by
  intro p hp
  refine dig fun kG => ?_
  obtain ⟨hlt, e⟩ := List.getElem?_eq_some_iff.mp hi
  refine kG ?_
  clear kG
  unfold AS.adrs at hn
  have hA : A ∈ S.fl.map (·.1) := List.mem_map.mpr ⟨_, List.mem_of_getElem? hi, rfl⟩
  rw [List.nodup_cons, List.nodup_cons] at hn
  refine dig fun kG => ?_
  obtain ⟨h1, h2, h3⟩ := hn
  refine kG ?_
  clear kG
  unfold AS.core AS.put at hp
  simp only at hp
  rcases List.mem_cons.mp hp with rfl | hp
  · refine .inr ⟨.head _, fun (q : S.na = A) => h1 (q ▸ .tail _ hA)⟩
  rcases List.mem_cons.mp hp with rfl | hp
  · refine .inr ⟨.tail _ (.head _), fun (q : S.fa = A) => h2 (q ▸ hA)⟩
  refine dig fun kG => ?_
  obtain ⟨x, hx, rfl⟩ := List.mem_map.mp hp
  obtain ⟨j, hj, hx⟩ := List.mem_iff_getElem.mp hx
  rw [List.getElem_set] at hx
  refine kG ?_
  clear kG
  split at hx
  · subst hx; exact .inl rfl
  · rename_i hne
    have hj' : j < S.fl.length := by simpa using hj
    refine .inr ⟨.tail _ (.tail _ (List.mem_map.mpr ⟨x, hx ▸ List.getElem_mem hj', rfl⟩)), fun q => ?_⟩
    have a1 : (S.fl.map (·.1))[i]'(by simpa using hlt) = A := by simp [e]
    have a2 : (S.fl.map (·.1))[j]'(by simpa using hj') = A := by simp only [List.getElem_map, hx]; exact q
    have h4 := List.pairwise_iff_getElem.mp h3
    rcases Nat.lt_or_gt_of_ne hne with h5 | h5
    · exact h4 i j (by simpa using hlt) (by simpa using hj') h5 (a1.trans a2.symm)
    · exact h4 j i (by simpa using hj') (by simpa using hlt) h5 (a2.trans a1.symm)
theorem AS.list_core {S : AS} {i : Nat} {A : Addr} {vs : List Value} {k : Nat} (hi : S.fl[i]? = some (A, vs, k)) : (A, listOf vs.toArray k) ∈ S.core :=
  .tail _ (.tail _ (List.mem_map.mpr ⟨_, List.mem_of_getElem? hi, rfl⟩))
theorem AS.list_adr {S : AS} {i : Nat} {A : Addr} {vs : List Value} {k : Nat} (hi : S.fl[i]? = some (A, vs, k)) : A ∈ S.adrs := AS.mem_adrs (AS.list_core hi)
end Mine
end

-- text C1
section
open PySem PySem.W PyProof.Rows PySem.Calls PyProof.Rows.LCg
set_option maxRecDepth 100000
set_option maxHeartbeats 8000000
namespace Mine
def JoinTurn (w : World) (h₀ : Heap) (L : Addr) (m₀ : Str → Option Value) (x : Str) (S : AS) (nms : List Str) (n : Nat) (fol : Int → Int → Bool) (nw : List (Addr × Obj)) (s : Shared) (f : Flow) (s₂ : Shared) : Prop :=
  f = .next ∧ ∃ (h' : Heap) (tk' : Nat) (S' : AS) (m' : Str → Option Value), s₂ = { s with heap := h', toks := tk' } ∧ Fr h₀ L h' m' ∧ (∀ z, z ≠ x → m' z = m₀ z) ∧ News h₀ L h' (S'.core ++ offs S.adrs nw) ∧ S'.adrs = S.adrs ∧ S'.Ok w nms n fol

section
variable {w : World} {A : Around} {E : Value → Shared → Prop} {s : Shared} {h₀ : Heap} {env : Env}
theorem join_iter {x : Str} {body : List Stmt} {m₀ : Str → Option Value} {news : List (Addr × Obj)} {eA : Addr} {es : List Value} {ne n : Nat} {e b : Int → Bool} {S : AS} {nms : List Str} {fol : Int → Int → Bool} {Q : Flow → Shared → Prop}
    (hh : A.handled = none) (F : Fr h₀ env.locals s.heap m₀) (N : News h₀ env.locals s.heap news) (hE : (eA, listOf es.toArray ne) ∈ news) (hE' : eA ∉ S.adrs) (hes : IntsAre es (sel n e)) (hel : ∀ z, e z = true → z ≤ nms.length)
    (hS : ∀ p ∈ S.core, p ∈ news) (hOk : S.Ok w nms n fol)
    (turn : ∀ (y : Int) t (S' : AS) fol' nw h tk, 1 ≤ y → y ≤ nms.length → S'.Ok w nms n fol' → S'.adrs = S.adrs → (∀ p ∈ S'.core, p ∈ nw) → (∀ p ∈ news, p.1 ∉ S.adrs → p ∈ nw) → Fr h₀ env.locals h (fun z => if z = x then some (.int y t) else m₀ z) → News h₀ env.locals h nw →
      wpAny (model PySem.Challenge.rw_xw0200_01.row.prog w) A (execs body env) (JoinTurn w h₀ env.locals m₀ x S' nms n (fun p q => fol' p q || (p == y && b q)) nw { s with heap := h, toks := tk }) E { s with heap := h, toks := tk })
    (done : ∀ (S' : AS) (u : Str → Option Value) h tk, S'.adrs = S.adrs → S'.Ok w nms n (fun p q => fol p q || (e p && b q)) → Fr h₀ env.locals h (fun z => if z = x then u z else m₀ z) → News h₀ env.locals h (S'.core ++ offs S.adrs news) → Q .next { s with heap := h, toks := tk }) :
    wpAny (model PySem.Challenge.rw_xw0200_01.row.prog w) A (pyIter (.ref eA)) (fun it s₂ => LoopAtV PySem.Challenge.rw_xw0200_01.row.prog w A h₀ env x body Q E it s₂) E s := by
  have hin : (eA, listOf es.toArray ne) ∈ offs S.adrs news := mem_offs.mpr ⟨hE, hE'⟩
  have N₀ : News h₀ env.locals s.heap (S.core ++ offs S.adrs news) := nw_sub N fun p hp => (List.mem_append.mp hp).elim (hS p) fun h => (mem_offs.mp h).1
  have done' : ∀ p q, ((sel n e).contains p && b q) = (e p && b q) ∨ ¬ (1 ≤ p ∧ p ≤ (n : Int)) := by
    intro p q
    by_cases hp : 1 ≤ p ∧ p ≤ (n : Int)
    · left
      congr 1
      rw [Bool.eq_iff_iff, List.contains_iff_mem, mem_sel]
      exact ⟨fun h => h.2, fun h => ⟨hp, h⟩⟩
    · exact .inr hp
  refine iter_invNL (fun i m nx => (∀ z, z ≠ x → m z = m₀ z) ∧ ∃ S' : AS, nx = S'.core ++ offs S.adrs news ∧ S'.adrs = S.adrs ∧ S'.Ok w nms n (fun p q => fol p q || (((sel n e).take i).contains p && b q)))
    hh (List.mem_append_right _ hin) hes F N₀ ⟨fun _ _ => rfl, S, rfl, rfl, hOk.congr fun p q => by simp⟩ ?_ ?_
  · intro i y t m₁ news₁ h tk own₁ hy _ hsep _ hP_1 F₁ N₁
    refine dig fun kG => ?_
    obtain ⟨hm, S', rfl, ha, hOk'⟩ := hP_1
    have hst : (sel n e).take (i + 1) = (sel n e).take i ++ [y] := by rw [List.take_add_one, hy]; rfl
    have hmem := mem_sel.mp (List.mem_of_getElem? hy)
    have e1 : (fun z => if z = x then some (Value.int y t) else m₁ z) = fun z => if z = x then some (Value.int y t) else m₀ z := by
      funext z
      by_cases h1 : z = x
      · rw [if_pos h1, if_pos h1]
      · rw [if_neg h1, if_neg h1]; exact hm z h1
    rw [e1] at F₁
    refine kG ?_
    clear kG
    refine wpAny_mono (turn y t S' _ (S'.core ++ offs S.adrs news ++ own₁) h tk hmem.1.1 (hel y hmem.2) hOk' ha (fun p hp => List.mem_append_left _ (List.mem_append_left _ hp)) (fun p hp hn => List.mem_append_left _ (List.mem_append_right _ (mem_offs.mpr ⟨hp, hn⟩))) F₁ N₁) ?_ fun _ _ e => e
    intro f s₂ hP_2
    refine dig fun kG => ?_
    obtain ⟨rfl, h', tk', S₂, m₂, rfl, F₂, hm₂, N₂, ha₂, hOk₂⟩ := hP_2
    have ha' : S₂.adrs = S.adrs := ha₂.trans ha
    refine kG ?_
    clear kG
    refine InvEndN.intro (nx := S₂.core ++ offs S.adrs news) F₂ N₂ ⟨List.mem_append_right _ hin, hm₂, S₂, rfl, ha', hOk₂.congr fun p q => ?_⟩ ?_ ?_ ?_
    · have e3 : [y].contains p = (p == y) := by rw [List.contains_cons, List.contains_nil, Bool.or_false]
      rw [hst, List.contains_append, e3]
      cases fol p q <;> cases (List.take i (sel n e)).contains p <;> cases (p == y) <;> cases b q <;> rfl
    · simp only [List.map_append, AS.core_adrs, ha']
    · intro p hp
      rcases List.mem_append.mp hp with hp | hp
      · exact List.mem_append_left _ hp
      · refine List.mem_append_right _ (mem_offs.mpr ⟨List.mem_append_left _ (List.mem_append_right _ hp), ?_⟩)
        rw [ha]; exact (mem_offs.mp hp).2
    · intro p hp
      refine List.mem_append_right _ (mem_offs.mpr ⟨List.mem_append_right _ hp, fun hq => ?_⟩)
      rw [ha] at hq
      exact hsep p hp p.1 (by rw [List.map_append, AS.core_adrs]; exact List.mem_append_left _ hq) rfl
  · intro m₁ news₁ h tk _ hP_3 F₁ N₁
    refine dig fun kG => ?_
    obtain ⟨hm, S', rfl, ha, hOk'⟩ := hP_3
    refine kG ?_
    clear kG
    refine done S' m₁ h tk ha ?_ ?_ N₁
    · rw [List.take_length] at hOk'
      refine ⟨hOk'.names, hOk'.dict, hOk'.keys, hOk'.kmap, hOk'.len, fun i z hz => ?_, hOk'.nodup, hOk'.low, hOk'.bound, fun p q hpq => ?_⟩
      · have hi : i < S'.fl.length := (List.getElem?_eq_some_iff.mp hz).1
        have hl := hOk'.len
        have hb := hOk'.bound
        have := hOk'.lists i z hz
        have e2 : (fun q => fol ((i : Int) + 1) q || ((sel n e).contains ((i : Int) + 1) && b q)) = fun q => fol ((i : Int) + 1) q || (e ((i : Int) + 1) && b q) := by
          funext q
          rcases done' ((i : Int) + 1) q with h1 | h1
          · rw [h1]
          · exact absurd ⟨by omega, by omega⟩ h1
        rw [e2] at this
        exact this
      · rw [Bool.or_eq_true, Bool.and_eq_true] at hpq
        rcases hpq with h1 | ⟨h1, _⟩
        · exact hOk.off p q h1
        · exact hel p h1
    · have e1 : (fun z => if z = x then m₁ z else m₀ z) = m₁ := by
        funext z
        by_cases h1 : z = x
        · rw [if_pos h1]
        · rw [if_neg h1]; exact (hm z h1).symm
      rw [e1]; exact F₁
end
end Mine
end

-- text C2
section
open PySem PySem.W PyProof.Rows PySem.Calls PyProof.Rows.LCg
set_option maxRecDepth 100000
set_option maxHeartbeats 8000000
namespace Mine
def KeepOk (keep news : List (Addr × Obj)) (W : List Addr) : Prop := ∀ p ∈ keep, p ∈ news ∧ p.1 ∉ W
structure JoinB (b : Int → Bool) : Prop where
  mk ::
section
variable {w : World} {A : Around} {E : Value → Shared → Prop} {s : Shared} {h₀ : Heap} {env : Env}
theorem join_iterK {x : Str} {body : List Stmt} {m₀ : Str → Option Value} {news keep : List (Addr × Obj)} {eA : Addr} {es : List Value} {ne n : Nat} {e b : Int → Bool} {S : AS} {nms : List Str} {fol : Int → Int → Bool} {Q : Flow → Shared → Prop}
    (hh : A.handled = none) (F : Fr h₀ env.locals s.heap m₀) (N : News h₀ env.locals s.heap news) (hE : (eA, listOf es.toArray ne) ∈ news) (hE' : eA ∉ S.adrs) (hes : IntsAre es (sel n e)) (hel : ∀ z, e z = true → z ≤ nms.length)
    (hS : ∀ p ∈ S.core, p ∈ news) (hOk : S.Ok w nms n fol) (hb0 : JoinB b) (hK : KeepOk keep news S.adrs)
    (turn : ∀ (y : Int) t (S' : AS) fol' nw h tk, 1 ≤ y → y ≤ nms.length → S'.Ok w nms n fol' → S'.adrs = S.adrs → (∀ p ∈ S'.core, p ∈ nw) → (∀ p ∈ keep, p ∈ nw ∧ p.1 ∉ S'.adrs) → Fr h₀ env.locals h (fun z => if z = x then some (.int y t) else m₀ z) → News h₀ env.locals h (keep ++ nw) →
      wpAny (model PySem.Challenge.rw_xw0200_01.row.prog w) A (execs body env) (JoinTurn w h₀ env.locals m₀ x S' nms n (fun p q => fol' p q || (p == y && b q)) nw { s with heap := h, toks := tk }) E { s with heap := h, toks := tk })
    (done : ∀ (S' : AS) (u : Str → Option Value) h tk, S'.adrs = S.adrs → S'.Ok w nms n (fun p q => fol p q || (e p && b q)) → Fr h₀ env.locals h (fun z => if z = x then u z else m₀ z) → News h₀ env.locals h (S'.core ++ offs S.adrs news) → Q .next { s with heap := h, toks := tk }) :
    wpAny (model PySem.Challenge.rw_xw0200_01.row.prog w) A (pyIter (.ref eA)) (fun it s₂ => LoopAtV PySem.Challenge.rw_xw0200_01.row.prog w A h₀ env x body Q E it s₂) E s := by
  refine join_iter hh F N hE hE' hes hel hS hOk (fun y t S' fol' nw h tk h1 h2 ok ha hc hn F' N' => ?_) done
  have hk : ∀ p ∈ keep, p ∈ nw ∧ p.1 ∉ S'.adrs := fun p hp => ⟨hn p (hK p hp).1 (hK p hp).2, by rw [ha]; exact (hK p hp).2⟩
  exact turn y t S' fol' nw h tk h1 h2 ok ha hc hk F' (nw_join (fun p hp => N' p (hk p hp).1) N')

theorem join_sub {L : Addr} {value slice : PySem.Expr} {S S' : AS} {nms : List Str} {n : Nat} {fol : Int → Int → Bool} {nw led : List (Addr × Obj)} {y : Int} {t : Tok} {Q : Value → Shared → Prop}
    (N : News h₀ L s.heap led) (hl : ∀ p ∈ nw, p ∈ led) (h1 : 1 ≤ y) (h2 : y ≤ nms.length) (ok : S'.Ok w nms n fol) (ha : S'.adrs = S.adrs) (hc : ∀ p ∈ S'.core, p ∈ nw)
    (h : ∀ (i : Nat) A vs k, y = (i : Int) + 1 → S'.fl[i]? = some (A, vs, k) → Q (.ref A) { s with toks := s.toks + 1 })
    (hs : subscripted slice false (.ref S.fa) (.int y t) = operate [.ref S.fa, .int y t] (getItem (.ref S.fa) (.int y t))) (hg : ∀ r, letTemporaryGo value (.ref S.fa) r = pure ()) :
    wpAny (model PySem.Challenge.rw_xw0200_01.row.prog w) A (subscriptTail value slice (.ref S.fa) (.int y t)) Q E s := by
  have hfa : S'.fa = S.fa := by
    unfold AS.adrs at ha
    injection ha with _ ha
    injection ha
  have hlen := ok.len
  refine dig fun kG => ?_
  obtain ⟨i, rfl⟩ : ∃ i : Nat, y = (i : Int) + 1 := ⟨(y - 1).toNat, by omega⟩
  have hi : i < S'.fl.length := by omega
  obtain ⟨⟨A', vs, k⟩, hx⟩ : ∃ x, S'.fl[i]? = some x := ⟨_, List.getElem?_eq_getElem hi⟩
  refine kG ?_
  clear kG
  rw [← hfa] at hs hg ⊢
  exact kda_item (knd := intKind _ w) (k := (i : Int) + 1) N (hl _ (hc _ (.tail _ (.head _)))) ok.dict (intKind_is _ w _ t) (ok.keys i _ hx) (h i A' vs k rfl hx) hs hg

theorem join_add {loose : List Str} {mean : ExcName → Option Value} {mg mb : Str → Option Value} {dp un : Nat} {gd : Option (List Code)} {cn : Str} {cs : Scope} {a : Addr} {ccd : Value} {cl : List (Str × Addr)} {outer : List Env} {A₀ : Around} {base h₀ : Heap} {L : Addr} {m : Str → Option Value} {Q : Value → Shared → Prop}
    {S : AS} {nms : List Str} {n : Nat} {fol : Int → Int → Bool} {b : Int → Bool} {nw keep : List (Addr × Obj)} {i : Nat} {A' : Addr} {vs bs : List Value} {k nb : Nat} {bA : Addr}
    (B : Below A₀ base outer h₀) (F : Fr h₀ L s.heap m) (X : (hd.heap_39 w.params).In h₀) (N : News h₀ L s.heap (keep ++ nw)) (T : Top hd.view_39 loose mean mg mb h₀) (hk : cs.kind = .function) (hd : dp + 10 < recursionLimit) (hu : un + 80 < cLine)
    (hi : S.fl[i]? = some (A', vs, k)) (ok : S.Ok w nms n fol) (hc : ∀ p ∈ S.core, p ∈ nw) (hkp : ∀ p ∈ keep, p ∈ nw ∧ p.1 ∉ S.adrs) (hB : (bA, listOf bs.toArray nb) ∈ keep) (hbs : IntsAre bs (sel n b)) (hn : n ≤ 30)
    (ret : ∀ h' tk' (S' : AS), Fr h₀ L h' m → News h₀ L h' (S'.core ++ offs S.adrs nw) → S'.adrs = S.adrs → S'.Ok w nms n (fun p q => fol p q || (p == (i : Int) + 1 && b q)) → Q .none { s with heap := h', toks := tk' }) :
    wpAny (model PySem.Challenge.rw_xw0200_01.row.prog w) (ktrTop dp un gd cn cs L a ccd cl outer) (call (.ref 26) [.ref A', .ref bA]) Q E s := by
  have hA := AS.list_core hi
  have hne : @Ne Nat A' bA := fun e => (hkp _ hB).2 (e ▸ AS.list_adr hi)
  refine CallSpec.use (addAll_c (n := n) (List.mem_append_right _ (hc _ hA)) (List.mem_append_left _ hB) hne (ok.lists i _ hi) hbs hn) B F X N T hk hd hu fun _ r h' tk' news' _ F' N' hp => ?_
  refine dig fun kG => ?_
  obtain ⟨rfl, vs', n', hi', rfl⟩ := hp
  refine kG ?_
  clear kG
  refine ret h' tk' (S.put i A' vs' n') F' (nw_sub N' fun p hp => ?_) (AS.put_adrs hi) (AS.put_ok ok hi hi')
  rcases List.mem_append.mp hp with hp | hp
  · rcases AS.put_core ok.nodup hi p hp with rfl | ⟨h1, h2⟩
    · exact .head _
    · exact .tail _ (mem_offs.mpr ⟨List.mem_append_right _ (hc _ h1), fun h3 => h2 (List.mem_singleton.mp h3)⟩)
  · refine dig fun kG => ?_
    obtain ⟨h1, h2⟩ := mem_offs.mp hp
    refine kG ?_
    clear kG
    exact .tail _ (mem_offs.mpr ⟨List.mem_append_right _ h1, fun h3 => h2 (List.mem_singleton.mp h3 ▸ AS.list_adr hi)⟩)
end
end Mine
end

-- text C3
section
open PySem PySem.W PyProof.Rows PySem.Calls PyProof.Rows.LCg
set_option maxRecDepth 100000
set_option maxHeartbeats 8000000
namespace Mine
abbrev selfDict (w : World) (na fa : Addr) (h1 h2 : Int) (t1 t2 : Tok) (k : Nat) : Obj := dictOf [⟨h1, .str (Str.ofString "names") t1, .ref na⟩, ⟨h2, .str (Str.ofString "follow") t2, .ref fa⟩] k
local macro_rules | `(tactic| walk_at "pyIter ref") => `(tactic| (k_here; k_dflt (refine' join_iterK rfl (by k_asm) (by k_asm) (by k_mem) (by assumption) (by assumption) (by assumption) (by assumption) (by assumption) (by assumption) (by assumption) ?_ ?_); (all_goals try (intro y' t' S' fol' nw' h' tk' y1' y2' ok' ha' hc' hk' F' N'))))
local macro_rules | `(tactic| walk_at "subscriptTail") => `(tactic| (k_here; (with_reducible show wpAny _ _ (subscriptTail _ _ (Value.ref _) (Value.int _ _)) _ _ _); k_dflt (refine' join_sub (by k_asm) (by exact fun _ h => List.mem_append_right _ h) (by assumption) (by assumption) (by assumption) (by assumption) (by assumption) ?_ (by with_unfolding_all rfl) (by intro _; with_unfolding_all rfl)); intro i' A' vs' k' e' hi'; subst e'))
local macro_rules | `(tactic| walk_at "call ref") => `(tactic| (k_here; (with_reducible show wpAny _ _ (call (Value.ref 26) _ _) _ _ _); k_dflt (refine' join_add (by k_asm) (by k_asm) (by k_asm) (by k_asm) (by k_asm) rfl (by ktr_room) (by ktr_units) (by assumption) (by assumption) (by assumption) (by assumption) (by k_mem) (by assumption) (by assumption) ?_); intro h' tk' S2' F' N' ha2' ok2'))
theorem join_walk (w : World) {loose : List Str} {mean : ExcName → Option Value} {mg mb : Str → Option Value}
  {dp un : Nat} {gd : Option (List Code)} {cn : Str} {cs : Scope} {a : Addr} {ccd : Value} {cl : List (Str × Addr)} {outer : List Env} {A₀ : Around} {base h₀ : Heap} {L : Addr} {m : Str → Option Value} {s : Shared} {Q E : Value → Shared → Prop}
  {self dx eA bA : Addr} {S : AS} {nms : List Str} {fol : Int → Int → Bool} {es bs : List Value} {e b : Int → Bool} {ne nb n kd : Nat} {news : List (Addr × Obj)} {g1 g2 : Int} {t1 t2 : Tok}
  (B : Below A₀ base outer h₀) (F : Fr h₀ L s.heap m) (X : (hd.heap_39 w.params).In h₀) (N : News h₀ L s.heap news)
  (hs : (self, instObj 127 dx) ∈ news) (hdx : (dx, selfDict w S.na S.fa g1 g2 t1 t2 kd) ∈ news) (hE : (eA, listOf es.toArray ne) ∈ news) (hE' : eA ∉ S.adrs) (hes : IntsAre es (sel n e)) (hel : ∀ z, e z = true → z ≤ nms.length)
  (hbs : IntsAre bs (sel n b)) (hS : ∀ p ∈ S.core, p ∈ news) (hOk : S.Ok w nms n fol) (hb : JoinB b) (hK : KeepOk [(self, instObj 127 dx), (dx, selfDict w S.na S.fa g1 g2 t1 t2 kd), (bA, listOf bs.toArray nb)] news S.adrs) (hn : n ≤ 30)
  (T : Top hd.view_39 loose mean mg mb h₀) (hk : cs.kind = .function) (hdp : dp + 20 < recursionLimit) (hu : un + 120 < cLine)
  (hret : ∀ h' tk' (S' : AS), S'.adrs = S.adrs → S'.Ok w nms n (fun p q => fol p q || (e p && b q)) → Fr h₀ L h' m → News h₀ L h' (S'.core ++ offs S.adrs news) → Q .none { s with heap := h', toks := tk' }) :
  wpAny (model PySem.Challenge.rw_xw0200_01.row.prog w) (ktrTop dp un gd cn cs L a ccd cl outer) (call (.ref 75) [.ref self, .ref eA, .ref bA]) Q E s := by
  w_top off
  revert X; k_fill; intro X
  refine wpAny_call ?_
  k_dflt cell_enter
  k_steps
  · exact ⟨rfl, _, _, _, _, rfl, (by k_asm), (fun z hz => if_neg hz), (by k_asm), (by assumption), (by assumption)⟩
  · exact hret _ _ _ (by assumption) (by assumption) (by k_asm) (by k_asm)

/-- self, its dict (two entries), as a reading automaton has them -/
structure SelfAt (w : World) (news : List (Addr × Obj)) (me dx : Addr) (S : AS) : Prop where
  has : ∃ g1 g2 t1 t2 kd, (me, instObj 127 dx) ∈ news ∧ (dx, selfDict w S.na S.fa g1 g2 t1 t2 kd) ∈ news
  me_off : me ∉ S.adrs
  dx_off : dx ∉ S.adrs

theorem join_c {w : World} {news : List (Addr × Obj)} {self dx eA bA : Addr} {S : AS} {nms : List Str} {fol : Int → Int → Bool} {es bs : List Value} {e b : Int → Bool} {ne nb n : Nat}
    (hs : SelfAt w news self dx S) (hE : (eA, listOf es.toArray ne) ∈ news) (hE' : eA ∉ S.adrs) (hes : IntsAre es (sel n e)) (hel : ∀ z, e z = true → z ≤ nms.length)
    (hB : (bA, listOf bs.toArray nb) ∈ news) (hB' : bA ∉ S.adrs) (hbs : IntsAre bs (sel n b)) (hS : ∀ p ∈ S.core, p ∈ news) (hOk : S.Ok w nms n fol) (hn : n ≤ 30) :
    CallSpec w 75 20 120 news [.ref self, .ref eA, .ref bA] (fun _ r news' => r = .none ∧ ∃ S' : AS, S'.adrs = S.adrs ∧ S'.Ok w nms n (fun p q => fol p q || (e p && b q)) ∧ news' = S'.core ++ offs S.adrs news) := by
  intro loose mean mg mb dp un gd cn cs a ccd cl outer A₀ base h₀ L m s Q E B F X N T hk hd hu ret
  have lt := nw_lt N
  refine dig fun kG => ?_
  obtain ⟨g1, g2, t1, t2, kd, h1, h2⟩ := hs.has
  refine kG ?_
  clear kG
  refine join_walk w (nb := nb) B F X N h1 h2 hE hE' hes hel hbs hS hOk ⟨⟩ (fun p hp => ?_) hn T hk hd hu fun h' tk' S' ha ok F' N' => ret s.heap.objs.size _ h' tk' _ lt F' N' ⟨rfl, S', ha, ok, rfl⟩
  rcases List.mem_cons.mp hp with rfl | hp
  · exact ⟨h1, hs.me_off⟩
  rcases List.mem_cons.mp hp with rfl | hp
  · exact ⟨h2, hs.dx_off⟩
  rcases List.mem_cons.mp hp with rfl | hp
  · exact ⟨hB, hB'⟩
  · cases hp
abbrev fullDict (w : World) (na fa F L : Addr) (nu : Bool) (g1 g2 g3 g4 g5 : Int) (t1 t2 t3 t4 t5 : Tok) (k : Nat) : Obj :=
  dictOf [⟨g1, .str (Str.ofString "names") t1, .ref na⟩, ⟨g2, .str (Str.ofString "follow") t2, .ref fa⟩, ⟨g3, .str (Str.ofString "is_nullable") t3, .bool nu⟩, ⟨g4, .str (Str.ofString "first") t4, .ref F⟩, ⟨g5, .str (Str.ofString "last") t5, .ref L⟩] k
theorem join_walk5 (w : World) {loose : List Str} {mean : ExcName → Option Value} {mg mb : Str → Option Value}
  {dp un : Nat} {gd : Option (List Code)} {cn : Str} {cs : Scope} {a : Addr} {ccd : Value} {cl : List (Str × Addr)} {outer : List Env} {A₀ : Around} {base h₀ : Heap} {L : Addr} {m : Str → Option Value} {s : Shared} {Q E : Value → Shared → Prop}
  {self dx eA bA : Addr} {S : AS} {nms : List Str} {fol : Int → Int → Bool} {es bs : List Value} {e b : Int → Bool} {ne nb n kd : Nat} {news : List (Addr × Obj)} {g1 g2 g3 g4 g5 : Int} {t1 t2 t3 t4 t5 : Tok} {fF5 fL5 : Addr} {nu5 : Bool}
  (B : Below A₀ base outer h₀) (F : Fr h₀ L s.heap m) (X : (hd.heap_39 w.params).In h₀) (N : News h₀ L s.heap news)
  (hs : (self, instObj 127 dx) ∈ news) (hdx : (dx, fullDict w S.na S.fa fF5 fL5 nu5 g1 g2 g3 g4 g5 t1 t2 t3 t4 t5 kd) ∈ news) (hE : (eA, listOf es.toArray ne) ∈ news) (hE' : eA ∉ S.adrs) (hes : IntsAre es (sel n e)) (hel : ∀ z, e z = true → z ≤ nms.length)
  (hbs : IntsAre bs (sel n b)) (hS : ∀ p ∈ S.core, p ∈ news) (hOk : S.Ok w nms n fol) (hb : JoinB b) (hK : KeepOk [(self, instObj 127 dx), (dx, fullDict w S.na S.fa fF5 fL5 nu5 g1 g2 g3 g4 g5 t1 t2 t3 t4 t5 kd), (bA, listOf bs.toArray nb)] news S.adrs) (hn : n ≤ 30)
  (T : Top hd.view_39 loose mean mg mb h₀) (hk : cs.kind = .function) (hdp : dp + 20 < recursionLimit) (hu : un + 120 < cLine)
  (hret : ∀ h' tk' (S' : AS), S'.adrs = S.adrs → S'.Ok w nms n (fun p q => fol p q || (e p && b q)) → Fr h₀ L h' m → News h₀ L h' (S'.core ++ offs S.adrs news) → Q .none { s with heap := h', toks := tk' }) :
  wpAny (model PySem.Challenge.rw_xw0200_01.row.prog w) (ktrTop dp un gd cn cs L a ccd cl outer) (call (.ref 75) [.ref self, .ref eA, .ref bA]) Q E s := by
  revert X; k_fill; intro X
  refine wpAny_call ?_
  k_dflt cell_enter
  k_steps
  · exact ⟨rfl, _, _, _, _, rfl, (by k_asm), (fun z hz => if_neg hz), (by k_asm), (by assumption), (by assumption)⟩
  · exact hret _ _ _ (by assumption) (by assumption) (by k_asm) (by k_asm)

/-- self, its dict (two entries), as a reading automaton has them -/
structure SelfAt5 (w : World) (news : List (Addr × Obj)) (me dx : Addr) (S : AS) : Prop where
  has : ∃ g1 g2 g3 g4 g5 t1 t2 t3 t4 t5 fF5 fL5 nu5 kd, (me, instObj 127 dx) ∈ news ∧ (dx, fullDict w S.na S.fa fF5 fL5 nu5 g1 g2 g3 g4 g5 t1 t2 t3 t4 t5 kd) ∈ news
  me_off : me ∉ S.adrs
  dx_off : dx ∉ S.adrs

theorem join_c5 {w : World} {news : List (Addr × Obj)} {self dx eA bA : Addr} {S : AS} {nms : List Str} {fol : Int → Int → Bool} {es bs : List Value} {e b : Int → Bool} {ne nb n : Nat}
    (hs : SelfAt5 w news self dx S) (hE : (eA, listOf es.toArray ne) ∈ news) (hE' : eA ∉ S.adrs) (hes : IntsAre es (sel n e)) (hel : ∀ z, e z = true → z ≤ nms.length)
    (hB : (bA, listOf bs.toArray nb) ∈ news) (hB' : bA ∉ S.adrs) (hbs : IntsAre bs (sel n b)) (hS : ∀ p ∈ S.core, p ∈ news) (hOk : S.Ok w nms n fol) (hn : n ≤ 30) :
    CallSpec w 75 20 120 news [.ref self, .ref eA, .ref bA] (fun _ r news' => r = .none ∧ ∃ S' : AS, S'.adrs = S.adrs ∧ S'.Ok w nms n (fun p q => fol p q || (e p && b q)) ∧ news' = S'.core ++ offs S.adrs news) := by
  intro loose mean mg mb dp un gd cn cs a ccd cl outer A₀ base h₀ L m s Q E B F X N T hk hd hu ret
  have lt := nw_lt N
  refine dig fun kG => ?_
  obtain ⟨g1, g2, g3, g4, g5, t1, t2, t3, t4, t5, fF5, fL5, nu5, kd, h1, h2⟩ := hs.has
  refine kG ?_
  clear kG
  refine join_walk5 w (nb := nb) B F X N h1 h2 hE hE' hes hel hbs hS hOk ⟨⟩ (fun p hp => ?_) hn T hk hd hu fun h' tk' S' ha ok F' N' => ret s.heap.objs.size _ h' tk' _ lt F' N' ⟨rfl, S', ha, ok, rfl⟩
  rcases List.mem_cons.mp hp with rfl | hp
  · exact ⟨h1, hs.me_off⟩
  rcases List.mem_cons.mp hp with rfl | hp
  · exact ⟨h2, hs.dx_off⟩
  rcases List.mem_cons.mp hp with rfl | hp
  · exact ⟨hB, hB'⟩
  · cases hp
end Mine
end

-- text P2
section
open PySem PySem.W PyProof.Rows PySem.Calls
set_option maxRecDepth 100000
namespace Mine
def isStar (mk : Str) : Bool := [Str.ofString "*", Str.ofString "+"].any fun x => x == mk
def isOpt (mk : Str) : Bool := [Str.ofString "?", Str.ofString "*"].any fun x => x == mk
/-- a particle -/
inductive Part where
  | name (nm mk : Str)
  | node (isSeq : Bool) (ps : List Part) (mk : Str)
mutual
def Part.size : Part → Nat
  | .name _ _ => 1
  | .node _ ps _ => Part.sizes ps
def Part.sizes : List Part → Nat
  | [] => 0
  | p :: r => p.size + Part.sizes r
end
mutual
def Part.height : Part → Nat
  | .name _ _ => 1
  | .node _ ps _ => Part.heights ps + 1
def Part.heights : List Part → Nat
  | [] => 0
  | p :: r => max p.height (Part.heights r)
end
mutual
def Part.names : Part → List Str
  | .name nm _ => [nm]
  | .node _ ps _ => Part.namess ps
def Part.namess : List Part → List Str
  | [] => []
  | p :: r => p.names ++ Part.namess r
end
mutual
def Part.null : Part → Bool
  | .name _ mk => isOpt mk
  | .node s ps mk => (if s then Part.allNull ps else Part.anyNull ps) || isOpt mk
def Part.allNull : List Part → Bool
  | [] => true
  | p :: r => p.null && Part.allNull r
def Part.anyNull : List Part → Bool
  | [] => false
  | p :: r => p.null || Part.anyNull r
end
mutual
def Part.first (n : Nat) : Part → Int → Bool
  | .name _ _, z => z == (n : Int) + 1
  | .node s ps _, z => if s then Part.firstS n ps z else Part.firstC n ps z
def Part.firstS (n : Nat) : List Part → Int → Bool
  | [], _ => false
  | p :: r, z => p.first n z || (p.null && Part.firstS (n + p.size) r z)
def Part.firstC (n : Nat) : List Part → Int → Bool
  | [], _ => false
  | p :: r, z => p.first n z || Part.firstC (n + p.size) r z
end
mutual
def Part.last (n : Nat) : Part → Int → Bool
  | .name _ _, z => z == (n : Int) + 1
  | .node s ps _, z => if s then Part.lastS n ps z else Part.lastC n ps z
def Part.lastS (n : Nat) : List Part → Int → Bool
  | [], _ => false
  | p :: r, z => (p.last n z && Part.allNull r) || Part.lastS (n + p.size) r z
def Part.lastC (n : Nat) : List Part → Int → Bool
  | [], _ => false
  | p :: r, z => p.last n z || Part.lastC (n + p.size) r z
end
mutual
def Part.fol (n : Nat) : Part → Int → Int → Bool
  | .name _ mk, p, q => isStar mk && (p == (n : Int) + 1) && (q == (n : Int) + 1)
  | .node s ps mk, p, q => (if s then Part.folS n ps p q else Part.folC n ps p q) || (isStar mk && (if s then Part.lastS n ps p else Part.lastC n ps p) && (if s then Part.firstS n ps q else Part.firstC n ps q))
def Part.folS (n : Nat) : List Part → Int → Int → Bool
  | [], _, _ => false
  | c :: r, p, q => c.fol n p q || (c.last n p && Part.firstS (n + c.size) r q) || Part.folS (n + c.size) r p q
def Part.folC (n : Nat) : List Part → Int → Int → Bool
  | [], _, _ => false
  | c :: r, p, q => c.fol n p q || Part.folC (n + c.size) r p q
end
namespace Part
def nullX : Bool → List Part → Bool
  | true => allNull
  | false => anyNull
def firstX : Bool → Nat → List Part → Int → Bool
  | true => firstS
  | false => firstC
def lastX : Bool → Nat → List Part → Int → Bool
  | true => lastS
  | false => lastC
def folX : Bool → Nat → List Part → Int → Int → Bool
  | true => folS
  | false => folC
theorem sizes_snoc (c : Part) : ∀ ps : List Part, sizes (ps ++ [c]) = sizes ps + c.size
  | [] => by simp [sizes]
  | p :: r => by simp [sizes, sizes_snoc c r, Nat.add_assoc]
theorem namess_snoc (c : Part) : ∀ ps : List Part, namess (ps ++ [c]) = namess ps ++ c.names
  | [] => by simp [namess]
  | p :: r => by simp [namess, namess_snoc c r]
theorem allNull_snoc (c : Part) : ∀ ps : List Part, allNull (ps ++ [c]) = (allNull ps && c.null)
  | [] => by simp [allNull]
  | p :: r => by simp [allNull, allNull_snoc c r, Bool.and_assoc]
theorem anyNull_snoc (c : Part) : ∀ ps : List Part, anyNull (ps ++ [c]) = (anyNull ps || c.null)
  | [] => by simp [anyNull]
  | p :: r => by simp [anyNull, anyNull_snoc c r, Bool.or_assoc]
theorem firstS_snoc (c : Part) (z : Int) : ∀ (ps : List Part) (n : Nat), firstS n (ps ++ [c]) z = (firstS n ps z || (allNull ps && c.first (n + sizes ps) z))
  | [], n => by simp [firstS, allNull, sizes]
  | p :: r, n => by
    simp only [List.cons_append, firstS, allNull, sizes, firstS_snoc c z r (n + p.size), Nat.add_assoc]
    cases p.first n z <;> cases p.null <;> simp
theorem firstC_snoc (c : Part) (z : Int) : ∀ (ps : List Part) (n : Nat), firstC n (ps ++ [c]) z = (firstC n ps z || c.first (n + sizes ps) z)
  | [], n => by simp [firstC, sizes]
  | p :: r, n => by
    simp only [List.cons_append, firstC, sizes, firstC_snoc c z r (n + p.size), Nat.add_assoc]
    cases p.first n z <;> simp
theorem lastS_snoc (c : Part) (z : Int) : ∀ (ps : List Part) (n : Nat), lastS n (ps ++ [c]) z = ((lastS n ps z && c.null) || c.last (n + sizes ps) z)
  | [], n => by simp [lastS, sizes, allNull]
  | p :: r, n => by
    simp only [List.cons_append, lastS, sizes, lastS_snoc c z r (n + p.size), Nat.add_assoc, allNull_snoc]
    cases p.last n z <;> cases c.null <;> simp [Bool.or_assoc]
theorem lastC_snoc (c : Part) (z : Int) : ∀ (ps : List Part) (n : Nat), lastC n (ps ++ [c]) z = (lastC n ps z || c.last (n + sizes ps) z)
  | [], n => by simp [lastC, sizes]
  | p :: r, n => by
    simp only [List.cons_append, lastC, sizes, lastC_snoc c z r (n + p.size), Nat.add_assoc]
    cases p.last n z <;> simp
theorem folS_snoc (c : Part) (p q : Int) : ∀ (ps : List Part) (n : Nat), folS n (ps ++ [c]) p q = (folS n ps p q || (lastS n ps p && c.first (n + sizes ps) q) || c.fol (n + sizes ps) p q)
  | [], n => by simp [folS, lastS, sizes, firstS]
  | a :: r, n => by
    simp only [List.cons_append, folS, lastS, sizes, folS_snoc c p q r (n + a.size), firstS_snoc c q r (n + a.size), Nat.add_assoc]
    cases a.fol n p q <;> cases a.last n p <;> cases allNull r <;> cases firstS (n + a.size) r q <;> cases folS (n + a.size) r p q <;> cases lastS (n + a.size) r p <;> simp
theorem folC_snoc (c : Part) (p q : Int) : ∀ (ps : List Part) (n : Nat), folC n (ps ++ [c]) p q = (folC n ps p q || c.fol (n + sizes ps) p q)
  | [], n => by simp [folC, sizes]
  | a :: r, n => by
    simp only [List.cons_append, folC, sizes, folC_snoc c p q r (n + a.size), Nat.add_assoc]
    cases a.fol n p q <;> simp
mutual
theorem first_bd (n : Nat) (z : Int) : ∀ P : Part, P.first n z = true → (n : Int) < z ∧ z ≤ (n : Int) + P.size
  | .name _ _, h => by
    simp only [first, beq_iff_eq, size] at h ⊢
    omega
  | .node s ps _, h => by
    simp only [first, size] at h ⊢
    cases s with
    | true => exact firstS_bd n z ps h
    | false => exact firstC_bd n z ps h
theorem firstS_bd (n : Nat) (z : Int) : ∀ ps : List Part, firstS n ps z = true → (n : Int) < z ∧ z ≤ (n : Int) + sizes ps
  | [], h => by simp [firstS] at h
  | p :: r, h => by
    simp only [firstS, Bool.or_eq_true, Bool.and_eq_true, sizes] at h ⊢
    rcases h with h | ⟨_, h⟩
    · have := first_bd n z p h
      omega
    · have := firstS_bd (n + p.size) z r h
      omega
theorem firstC_bd (n : Nat) (z : Int) : ∀ ps : List Part, firstC n ps z = true → (n : Int) < z ∧ z ≤ (n : Int) + sizes ps
  | [], h => by simp [firstC] at h
  | p :: r, h => by
    simp only [firstC, Bool.or_eq_true, sizes] at h ⊢
    rcases h with h | h
    · have := first_bd n z p h
      omega
    · have := firstC_bd (n + p.size) z r h
      omega
end
mutual
theorem last_bd (n : Nat) (z : Int) : ∀ P : Part, P.last n z = true → (n : Int) < z ∧ z ≤ (n : Int) + P.size
  | .name _ _, h => by
    simp only [last, beq_iff_eq, size] at h ⊢
    omega
  | .node s ps _, h => by
    simp only [last, size] at h ⊢
    cases s with
    | true => exact lastS_bd n z ps h
    | false => exact lastC_bd n z ps h
theorem lastS_bd (n : Nat) (z : Int) : ∀ ps : List Part, lastS n ps z = true → (n : Int) < z ∧ z ≤ (n : Int) + sizes ps
  | [], h => by simp [lastS] at h
  | p :: r, h => by
    simp only [lastS, Bool.or_eq_true, Bool.and_eq_true, sizes] at h ⊢
    rcases h with ⟨h, _⟩ | h
    · have := last_bd n z p h
      omega
    · have := lastS_bd (n + p.size) z r h
      omega
theorem lastC_bd (n : Nat) (z : Int) : ∀ ps : List Part, lastC n ps z = true → (n : Int) < z ∧ z ≤ (n : Int) + sizes ps
  | [], h => by simp [lastC] at h
  | p :: r, h => by
    simp only [lastC, Bool.or_eq_true, sizes] at h ⊢
    rcases h with h | h
    · have := last_bd n z p h
      omega
    · have := lastC_bd (n + p.size) z r h
      omega
end
mutual
theorem names_length : ∀ P : Part, P.names.length = P.size
  | .name _ _ => rfl
  | .node _ ps _ => by simp only [names, size]; exact namess_length ps
theorem namess_length : ∀ ps : List Part, (namess ps).length = sizes ps
  | [] => rfl
  | p :: r => by simp only [namess, sizes, List.length_append, names_length p, namess_length r]
end
theorem height_le {p : Part} : ∀ {ps : List Part}, p ∈ ps → p.height ≤ heights ps
  | a :: r, h => by
    simp only [heights]
    rcases List.mem_cons.mp h with rfl | h
    · exact Nat.le_max_left _ _
    · exact Nat.le_trans (height_le h) (Nat.le_max_right _ _)
theorem height_pos (P : Part) : 1 ≤ P.height := by
  cases P <;> simp [height]
end Part
mutual
/-- a particle's tuple, as the ledger bears it -/
def PartIn (pw : List (Addr × Obj)) : Part → Value → Prop
  | .name nm mk, v => ∃ t k t1 t2 t3, v = .ref t ∧ (t, tupOf #[.str (Str.ofString "name") t1, .str nm t2, .str mk t3] k) ∈ pw
  | .node s ps mk, v => ∃ t k t1 t3 a vs k2, v = .ref t ∧ (t, tupOf #[.str (if s then Str.ofString "seq" else Str.ofString "choice") t1, .ref a, .str mk t3] k) ∈ pw ∧ (a, tupOf vs.toArray k2) ∈ pw ∧ PartsIn pw ps vs
def PartsIn (pw : List (Addr × Obj)) : List Part → List Value → Prop
  | [], vs => vs = []
  | p :: r, vs => ∃ v vs', vs = v :: vs' ∧ PartIn pw p v ∧ PartsIn pw r vs'
end
theorem PartsIn.length {pw : List (Addr × Obj)} : ∀ {ps : List Part} {vs : List Value}, PartsIn pw ps vs → vs.length = ps.length
  | [], vs, h => by simp only [PartsIn] at h; rw [h]; rfl
  | p :: r, vs, h => by
    simp only [PartsIn] at h
    obtain ⟨v, vs', rfl, _, h⟩ := h
    simp [PartsIn.length h]
theorem PartsIn.get {pw : List (Addr × Obj)} : ∀ {ps : List Part} {vs : List Value} (i : Nat) {v : Value}, PartsIn pw ps vs → vs[i]? = some v → ∃ p, ps[i]? = some p ∧ PartIn pw p v
  | [], vs, i, v, h, hv => by simp only [PartsIn] at h; rw [h] at hv; simp at hv
  | p :: r, vs, i, v, h, hv => by
    simp only [PartsIn] at h
    obtain ⟨v', vs', rfl, hp, h⟩ := h
    cases i with
    | zero =>
      simp only [List.getElem?_cons_zero, Option.some.injEq] at hv
      subst hv
      exact ⟨p, rfl, hp⟩
    | succ i =>
      simp only [List.getElem?_cons_succ] at hv ⊢
      exact PartsIn.get i h hv
end Mine
end

-- text D0
section
open PySem PySem.W PyProof.Rows PySem.Calls PyProof.Rows.LCg
set_option maxRecDepth 100000
set_option maxHeartbeats 8000000
namespace Mine
theorem lt_news {S S' : AS} {news nw : List (Addr × Obj)} {D : Nat} (ha : S'.adrs = S.adrs) (e : nw = S'.core ++ offs S.adrs news) (h : ∀ p ∈ nw, p.1 < D) : ∀ p ∈ news, p.1 < D := by
  subst e
  intro p hp
  by_cases hm : p.1 ∈ S.adrs
  · rw [← ha, ← AS.core_adrs] at hm
    refine dig fun kG => ?_
    obtain ⟨q, hq, e⟩ := List.mem_map.mp hm
    refine kG ?_
    clear kG
    rw [← e]
    exact h q (List.mem_append_left _ hq)
  · exact h p (List.mem_append_right _ (mem_offs.mpr ⟨hp, hm⟩))
theorem join_keep {w : World} {s : Shared} {E : Value → Shared → Prop} {loose : List Str} {mean : ExcName → Option Value} {mg mb : Str → Option Value} {dp un : Nat} {gd : Option (List Code)} {cn : Str} {cs : Scope} {a : Addr} {ccd : Value} {cl : List (Str × Addr)} {outer : List Env} {A₀ : Around} {base h₀ : Heap} {L : Addr} {m : Str → Option Value} {Q : Value → Shared → Prop}
    {news keep : List (Addr × Obj)} {self dx eA bA : Addr} {S : AS} {nms : List Str} {fol : Int → Int → Bool} {es bs : List Value} {e b : Int → Bool} {ne nb n : Nat}
    (hK : KeepOk keep news S.adrs) (hs : SelfAt w news self dx S) (hE : (eA, listOf es.toArray ne) ∈ news) (hE' : eA ∉ S.adrs) (hes : IntsAre es (sel n e)) (hel : ∀ z, e z = true → z ≤ nms.length)
    (hB : (bA, listOf bs.toArray nb) ∈ news) (hB' : bA ∉ S.adrs) (hbs : IntsAre bs (sel n b)) (hS : ∀ p ∈ S.core, p ∈ news) (hOk : S.Ok w nms n fol) (hn : n ≤ 30)
    (B : Below A₀ base outer h₀) (F : Fr h₀ L s.heap m) (X : (hd.heap_39 w.params).In h₀) (N : News h₀ L s.heap news) (T : Top hd.view_39 loose mean mg mb h₀) (hk : cs.kind = .function) (hd : dp + 20 < recursionLimit) (hu : un + 120 < cLine)
    (ret : ∀ (S' : AS) nw h' tk', S'.adrs = S.adrs → S'.Ok w nms n (fun p q => fol p q || (e p && b q)) → nw = S'.core ++ offs S.adrs news → Fr h₀ L h' m → News h₀ L h' (keep ++ nw) → Q .none { s with heap := h', toks := tk' }) :
    wpAny (model PySem.Challenge.rw_xw0200_01.row.prog w) (ktrTop dp un gd cn cs L a ccd cl outer) (call (.ref 75) [.ref self, .ref eA, .ref bA]) Q E s := by
  refine CallSpec.use (join_c hs hE hE' hes hel hB hB' hbs hS hOk hn) B F X N T hk hd hu fun _ r h' tk' news' _ F' N' hp => ?_
  refine dig fun kG => ?_
  obtain ⟨rfl, S', ha, ok, rfl⟩ := hp
  refine kG ?_
  clear kG
  refine ret S' _ h' tk' ha ok rfl F' (nw_join (fun p hp => N' p (List.mem_append_right _ (mem_offs.mpr (hK p hp)))) N')

theorem copy_sel {prog : Program} {w : World} {A : Around} {E : Value → Shared → Prop} {s : Shared} {h₀ : Heap} {L : Addr} {m : Str → Option Value} {news : List (Addr × Obj)} {l : Addr} {vs : List Value} {k n : Nat} {f : Int → Bool} {Q : Value → Shared → Prop} (F : Fr h₀ L s.heap m) (N : News h₀ L s.heap news) (hm : (l, listOf vs.toArray k) ∈ news) (hi : IntsAre vs (sel n f)) (hn : n ≤ 30)
    (h : ∀ D c h', Fr h₀ L h' m → News h₀ L h' ((D, listOf vs.toArray c) :: news) → (∀ p ∈ news, p.1 < D) → Q (.ref D) { s with heap := h' }) : wpAny (model prog w) A (call (.type "list") [.ref l]) Q E s := by
  refine list_copyK F N ⟨_, (N _ hm).1, rfl, _, rfl⟩ h ?_
  have h1 := sel_length n f
  have h2 := hi.length
  rw [sizeLine_eq, List.size_toArray]; omega
local macro_rules | `(tactic| k_mem) => `(tactic| assumption)
local macro_rules | `(tactic| walk_at "call ref") => `(tactic| (k_here; (with_reducible show wpAny _ _ (call (Value.ref 75) _ _) _ _ _); k_dflt (refine' join_keep (by assumption) (by assumption) (by assumption) (by assumption) (by assumption) (by assumption) (by assumption) (by assumption) (by assumption) (by assumption) (by assumption) (by assumption) (by k_asm) (by k_asm) (by k_asm) (by first | k_asm | exact nw_sub (by k_asm) (fun _ h => List.Mem.tail _ h)) (by k_asm) rfl (by ktr_room) (by ktr_units) ?_); intro S' nw' h' tk' ha' ok' e' F' N'; (try simp only [List.cons_append, List.nil_append] at N')))
local macro_rules | `(tactic| walk_at "call type:list") => `(tactic| (k_here; k_dflt (refine' copy_sel (by k_asm) (by k_asm) (by k_mem) (by assumption) (by assumption) ?_); intro D' c' h' F' N' l1))
theorem marked_walk (w : World) {loose : List Str} {mean : ExcName → Option Value} {mg mb : Str → Option Value}
  {dp un : Nat} {gd : Option (List Code)} {cn : Str} {cs : Scope} {a : Addr} {ccd : Value} {cl : List (Str × Addr)} {outer : List Env} {A₀ : Around} {base h₀ : Heap} {L : Addr} {m : Str → Option Value} {s : Shared} {Q E : Value → Shared → Prop}
  {self dx fA lA tA : Addr} {S : AS} {nms : List Str} {fol : Int → Int → Bool} {fs ls : List Value} {f l : Int → Bool} {nf nl n kd kt : Nat} {news : List (Addr × Obj)} {g1 g2 : Int} {t1 t2 tk : Tok} {mk : Str} {nu : Bool}
  (B : Below A₀ base outer h₀) (F : Fr h₀ L s.heap m) (X : (hd.heap_39 w.params).In h₀) (N : News h₀ L s.heap news)
  (hs : (self, instObj 127 dx) ∈ news) (hdx : (dx, selfDict w S.na S.fa g1 g2 t1 t2 kd) ∈ news) (hsa : SelfAt w news self dx S) (hT : (tA, tupOf #[.bool nu, .ref fA, .ref lA] kt) ∈ news) (hf : (fA, listOf fs.toArray nf) ∈ news) (hl : (lA, listOf ls.toArray nl) ∈ news) (hf' : fA ∉ S.adrs) (hl' : lA ∉ S.adrs) (hfs : IntsAre fs (sel n f)) (hls : IntsAre ls (sel n l)) (hel : ∀ z, l z = true → z ≤ nms.length)
  (hS : ∀ p ∈ S.core, p ∈ news) (hOk : S.Ok w nms n fol) (hn : n ≤ 30) (hK : KeepOk [(fA, listOf fs.toArray nf), (lA, listOf ls.toArray nl)] news S.adrs)
  (T : Top hd.view_39 loose mean mg mb h₀) (hk : cs.kind = .function) (hdp : dp + 40 < recursionLimit) (hu : un + 200 < cLine)
  (hret : ∀ (D1 D2 D3 c1 c2 : Nat) (S' : AS) nu' h' tk', (∀ p ∈ news, p.1 < D1) → D1 < D2 → D2 < D3 → S'.adrs = S.adrs → S'.Ok w nms n (fun p q => fol p q || (isStar mk && l p && f q)) → nu' = (nu || isOpt mk) → Fr h₀ L h' m →
    News h₀ L h' ((D3, tupOf #[.bool nu', .ref D1, .ref D2] 0) :: (D2, listOf ls.toArray c2) :: (D1, listOf fs.toArray c1) :: (S'.core ++ offs S.adrs news)) → Q (.ref D3) { s with heap := h', toks := tk' }) :
  wpAny (model PySem.Challenge.rw_xw0200_01.row.prog w) (ktrTop dp un gd cn cs L a ccd cl outer) (call (.ref 68) [.ref self, .ref tA, .str mk tk]) Q E s := by
  w_top off
  revert X; k_fill; intro X
  refine wpAny_call ?_
  k_dflt cell_enter
  k_steps
  · rename_i D1 c1 h1 l1 D2 c2 h2 l2 D3 h3 F3 N3 l3 kF kN T9 X9
    have hst : isStar mk = true := by assumption
    rename_i S' nw' h4 tk4 ha' ok' e' hnu
    refine hret D1 D2 D3 c1 c2 S' nu _ _ (lt_news ha' e' fun p hp => l1 p (by repeat (first | exact hp | refine List.Mem.tail _ ?_))) (l2 _ (.head _)) l3.1 ha' (ok'.congr fun p q => by rw [hst, Bool.true_and]) (by simp [hnu]) kF (nw_sub kN fun p hp => ?_)
    subst e'
    rcases List.mem_cons.mp hp with rfl | hp
    · exact .head _
    rcases List.mem_cons.mp hp with rfl | hp
    · exact .tail _ (.head _)
    rcases List.mem_cons.mp hp with rfl | hp
    · exact .tail _ (.tail _ (.head _))
    · repeat (first | exact hp | refine List.Mem.tail _ ?_)
  · rename_i D1 c1 h1 l1 D2 c2 h2 l2 D3 h3 F3 N3 l3 kF kN T9 X9
    have hst : isStar mk = true := by assumption
    rename_i S' nw' h4 tk4 ha' ok' e' hnu tD tN tL
    refine hret D1 D2 D3 c1 c2 S' (isOpt mk) _ _ (lt_news ha' e' fun p hp => l1 p (by repeat (first | exact hp | refine List.Mem.tail _ ?_))) (l2 _ (.head _)) l3.1 ha' (ok'.congr fun p q => by rw [hst, Bool.true_and]) (by simp [hnu]) kF (nw_sub kN fun p hp => ?_)
    subst e'
    rcases List.mem_cons.mp hp with rfl | hp
    · exact .head _
    rcases List.mem_cons.mp hp with rfl | hp
    · exact .tail _ (.head _)
    rcases List.mem_cons.mp hp with rfl | hp
    · exact .tail _ (.tail _ (.head _))
    · repeat (first | exact hp | refine List.Mem.tail _ ?_)
  · rename_i D1 c1 h1 l1 D2 c2 h2 l2 D3 h3 F3 N3 l3 kF kN T9 X9
    have hst : isStar mk = false := by assumption
    rename_i hnu
    refine hret D1 D2 D3 c1 c2 S nu _ _ (fun p hp => l1 p (by repeat (first | exact hp | refine List.Mem.tail _ ?_))) (l2 _ (.head _)) l3.1 rfl (hOk.congr fun p q => by rw [hst, Bool.false_and, Bool.false_and, Bool.or_false]) (by simp [hnu]) kF (nw_sub kN fun p hp => ?_)
    rcases List.mem_cons.mp hp with rfl | hp
    · exact .head _
    rcases List.mem_cons.mp hp with rfl | hp
    · exact .tail _ (.head _)
    rcases List.mem_cons.mp hp with rfl | hp
    · exact .tail _ (.tail _ (.head _))
    have hp' : p ∈ news := (List.mem_append.mp hp).elim (hS p) fun h => (mem_offs.mp h).1
    repeat (first | exact hp' | refine List.Mem.tail _ ?_)
  · rename_i D1 c1 h1 l1 D2 c2 h2 l2 D3 h3 F3 N3 l3 kF kN T9 X9
    have hst : isStar mk = false := by assumption
    rename_i hnu tD tN tL
    refine hret D1 D2 D3 c1 c2 S (isOpt mk) _ _ (fun p hp => l1 p (by repeat (first | exact hp | refine List.Mem.tail _ ?_))) (l2 _ (.head _)) l3.1 rfl (hOk.congr fun p q => by rw [hst, Bool.false_and, Bool.false_and, Bool.or_false]) (by simp [hnu]) kF (nw_sub kN fun p hp => ?_)
    rcases List.mem_cons.mp hp with rfl | hp
    · exact .head _
    rcases List.mem_cons.mp hp with rfl | hp
    · exact .tail _ (.head _)
    rcases List.mem_cons.mp hp with rfl | hp
    · exact .tail _ (.tail _ (.head _))
    have hp' : p ∈ news := (List.mem_append.mp hp).elim (hS p) fun h => (mem_offs.mp h).1
    repeat (first | exact hp' | refine List.Mem.tail _ ?_)

theorem marked_c {w : World} {news : List (Addr × Obj)} {self dx fA lA tA : Addr} {S : AS} {nms : List Str} {fol : Int → Int → Bool} {fs ls : List Value} {f l : Int → Bool} {nf nl n kt : Nat} {tk : Tok} {mk : Str} {nu : Bool}
    (hsa : SelfAt w news self dx S) (hT : (tA, tupOf #[.bool nu, .ref fA, .ref lA] kt) ∈ news) (hf : (fA, listOf fs.toArray nf) ∈ news) (hl : (lA, listOf ls.toArray nl) ∈ news) (hf' : fA ∉ S.adrs) (hl' : lA ∉ S.adrs) (hfs : IntsAre fs (sel n f)) (hls : IntsAre ls (sel n l)) (hel : ∀ z, l z = true → z ≤ nms.length)
    (hS : ∀ p ∈ S.core, p ∈ news) (hOk : S.Ok w nms n fol) (hn : n ≤ 30) :
    CallSpec w 68 40 200 news [.ref self, .ref tA, .str mk tk] (fun b r news' => ∃ (D1 D2 D3 c1 c2 : Nat) (S' : AS), r = .ref D3 ∧ b ≤ D1 ∧ D1 < D2 ∧ D2 < D3 ∧ S'.adrs = S.adrs ∧ S'.Ok w nms n (fun p q => fol p q || (isStar mk && l p && f q)) ∧
      news' = (D3, tupOf #[.bool (nu || isOpt mk), .ref D1, .ref D2] 0) :: (D2, listOf ls.toArray c2) :: (D1, listOf fs.toArray c1) :: (S'.core ++ offs S.adrs news)) := by
  intro loose mean mg mb dp un gd cn cs a ccd cl outer A₀ base h₀ L m s Q E B F X N T hk hd hu ret
  refine dig fun kG => ?_
  obtain ⟨g1, g2, t1, t2, kd, h1, h2⟩ := hsa.has
  refine kG ?_
  clear kG
  refine marked_walk w B F X N h1 h2 hsa hT hf hl hf' hl' hfs hls hel hS hOk hn (fun p hp => ?_) T hk hd hu fun D1 D2 D3 c1 c2 S' nu' h' tk' lt l1 l2 ha ok e F' N' => ret D1 _ h' tk' _ lt F' N' ⟨D1, D2, D3, c1, c2, S', rfl, Nat.le_refl _, l1, l2, ha, ok, by rw [e]⟩
  rcases List.mem_cons.mp hp with rfl | hp
  · exact ⟨hf, hf'⟩
  rcases List.mem_cons.mp hp with rfl | hp
  · exact ⟨hl, hl'⟩
  · cases hp
theorem join_keep5 {w : World} {s : Shared} {E : Value → Shared → Prop} {loose : List Str} {mean : ExcName → Option Value} {mg mb : Str → Option Value} {dp un : Nat} {gd : Option (List Code)} {cn : Str} {cs : Scope} {a : Addr} {ccd : Value} {cl : List (Str × Addr)} {outer : List Env} {A₀ : Around} {base h₀ : Heap} {L : Addr} {m : Str → Option Value} {Q : Value → Shared → Prop}
    {news keep : List (Addr × Obj)} {self dx eA bA : Addr} {S : AS} {nms : List Str} {fol : Int → Int → Bool} {es bs : List Value} {e b : Int → Bool} {ne nb n : Nat}
    (hK : KeepOk keep news S.adrs) (hs : SelfAt5 w news self dx S) (hE : (eA, listOf es.toArray ne) ∈ news) (hE' : eA ∉ S.adrs) (hes : IntsAre es (sel n e)) (hel : ∀ z, e z = true → z ≤ nms.length)
    (hB : (bA, listOf bs.toArray nb) ∈ news) (hB' : bA ∉ S.adrs) (hbs : IntsAre bs (sel n b)) (hS : ∀ p ∈ S.core, p ∈ news) (hOk : S.Ok w nms n fol) (hn : n ≤ 30)
    (B : Below A₀ base outer h₀) (F : Fr h₀ L s.heap m) (X : (hd.heap_39 w.params).In h₀) (N : News h₀ L s.heap news) (T : Top hd.view_39 loose mean mg mb h₀) (hk : cs.kind = .function) (hd : dp + 20 < recursionLimit) (hu : un + 120 < cLine)
    (ret : ∀ (S' : AS) nw h' tk', S'.adrs = S.adrs → S'.Ok w nms n (fun p q => fol p q || (e p && b q)) → nw = S'.core ++ offs S.adrs news → Fr h₀ L h' m → News h₀ L h' (keep ++ nw) → Q .none { s with heap := h', toks := tk' }) :
    wpAny (model PySem.Challenge.rw_xw0200_01.row.prog w) (ktrTop dp un gd cn cs L a ccd cl outer) (call (.ref 75) [.ref self, .ref eA, .ref bA]) Q E s := by
  refine CallSpec.use (join_c5 hs hE hE' hes hel hB hB' hbs hS hOk hn) B F X N T hk hd hu fun _ r h' tk' news' _ F' N' hp => ?_
  refine dig fun kG => ?_
  obtain ⟨rfl, S', ha, ok, rfl⟩ := hp
  refine kG ?_
  clear kG
  refine ret S' _ h' tk' ha ok rfl F' (nw_join (fun p hp => N' p (List.mem_append_right _ (mem_offs.mpr (hK p hp)))) N')

local macro_rules | `(tactic| walk_at "call ref") => `(tactic| (k_here; (with_reducible show wpAny _ _ (call (Value.ref 75) _ _) _ _ _); k_dflt (refine' join_keep5 (by assumption) (by assumption) (by assumption) (by assumption) (by assumption) (by assumption) (by assumption) (by assumption) (by assumption) (by assumption) (by assumption) (by assumption) (by k_asm) (by k_asm) (by k_asm) (by first | k_asm | exact nw_sub (by k_asm) (fun _ h => List.Mem.tail _ h)) (by k_asm) rfl (by ktr_room) (by ktr_units) ?_); intro S' nw' h' tk' ha' ok' e' F' N'; (try simp only [List.cons_append, List.nil_append] at N')))
theorem marked_walk5 (w : World) {loose : List Str} {mean : ExcName → Option Value} {mg mb : Str → Option Value}
  {dp un : Nat} {gd : Option (List Code)} {cn : Str} {cs : Scope} {a : Addr} {ccd : Value} {cl : List (Str × Addr)} {outer : List Env} {A₀ : Around} {base h₀ : Heap} {L : Addr} {m : Str → Option Value} {s : Shared} {Q E : Value → Shared → Prop}
  {self dx fA lA tA : Addr} {S : AS} {nms : List Str} {fol : Int → Int → Bool} {fs ls : List Value} {f l : Int → Bool} {nf nl n kd kt : Nat} {news : List (Addr × Obj)} {g1 g2 : Int} {t1 t2 tk : Tok} {mk : Str} {nu : Bool}
  (B : Below A₀ base outer h₀) (F : Fr h₀ L s.heap m) (X : (hd.heap_39 w.params).In h₀) (N : News h₀ L s.heap news)
  (hs : (self, instObj 127 dx) ∈ news) (hdx : (dx, fullDict w S.na S.fa fF5 fL5 nu5 g1 g2 g3 g4 g5 t1 t2 t3 t4 t5 kd) ∈ news) (hsa : SelfAt5 w news self dx S) (hT : (tA, tupOf #[.bool nu, .ref fA, .ref lA] kt) ∈ news) (hf : (fA, listOf fs.toArray nf) ∈ news) (hl : (lA, listOf ls.toArray nl) ∈ news) (hf' : fA ∉ S.adrs) (hl' : lA ∉ S.adrs) (hfs : IntsAre fs (sel n f)) (hls : IntsAre ls (sel n l)) (hel : ∀ z, l z = true → z ≤ nms.length)
  (hS : ∀ p ∈ S.core, p ∈ news) (hOk : S.Ok w nms n fol) (hn : n ≤ 30) (hK : KeepOk [(fA, listOf fs.toArray nf), (lA, listOf ls.toArray nl)] news S.adrs)
  (T : Top hd.view_39 loose mean mg mb h₀) (hk : cs.kind = .function) (hdp : dp + 40 < recursionLimit) (hu : un + 200 < cLine)
  (hret : ∀ (D1 D2 D3 c1 c2 : Nat) (S' : AS) nu' h' tk', (∀ p ∈ news, p.1 < D1) → D1 < D2 → D2 < D3 → S'.adrs = S.adrs → S'.Ok w nms n (fun p q => fol p q || (isStar mk && l p && f q)) → nu' = (nu || isOpt mk) → Fr h₀ L h' m →
    News h₀ L h' ((D3, tupOf #[.bool nu', .ref D1, .ref D2] 0) :: (D2, listOf ls.toArray c2) :: (D1, listOf fs.toArray c1) :: (S'.core ++ offs S.adrs news)) → Q (.ref D3) { s with heap := h', toks := tk' }) :
  wpAny (model PySem.Challenge.rw_xw0200_01.row.prog w) (ktrTop dp un gd cn cs L a ccd cl outer) (call (.ref 68) [.ref self, .ref tA, .str mk tk]) Q E s := by
  revert X; k_fill; intro X
  refine wpAny_call ?_
  k_dflt cell_enter
  k_steps
  · rename_i D1 c1 h1 l1 D2 c2 h2 l2 D3 h3 F3 N3 l3 kF kN T9 X9
    have hst : isStar mk = true := by assumption
    rename_i S' nw' h4 tk4 ha' ok' e' hnu
    refine hret D1 D2 D3 c1 c2 S' nu _ _ (lt_news ha' e' fun p hp => l1 p (by repeat (first | exact hp | refine List.Mem.tail _ ?_))) (l2 _ (.head _)) l3.1 ha' (ok'.congr fun p q => by rw [hst, Bool.true_and]) (by simp [hnu]) kF (nw_sub kN fun p hp => ?_)
    subst e'
    rcases List.mem_cons.mp hp with rfl | hp
    · exact .head _
    rcases List.mem_cons.mp hp with rfl | hp
    · exact .tail _ (.head _)
    rcases List.mem_cons.mp hp with rfl | hp
    · exact .tail _ (.tail _ (.head _))
    · repeat (first | exact hp | refine List.Mem.tail _ ?_)
  · rename_i D1 c1 h1 l1 D2 c2 h2 l2 D3 h3 F3 N3 l3 kF kN T9 X9
    have hst : isStar mk = true := by assumption
    rename_i S' nw' h4 tk4 ha' ok' e' hnu tD tN tL
    refine hret D1 D2 D3 c1 c2 S' (isOpt mk) _ _ (lt_news ha' e' fun p hp => l1 p (by repeat (first | exact hp | refine List.Mem.tail _ ?_))) (l2 _ (.head _)) l3.1 ha' (ok'.congr fun p q => by rw [hst, Bool.true_and]) (by simp [hnu]) kF (nw_sub kN fun p hp => ?_)
    subst e'
    rcases List.mem_cons.mp hp with rfl | hp
    · exact .head _
    rcases List.mem_cons.mp hp with rfl | hp
    · exact .tail _ (.head _)
    rcases List.mem_cons.mp hp with rfl | hp
    · exact .tail _ (.tail _ (.head _))
    · repeat (first | exact hp | refine List.Mem.tail _ ?_)
  · rename_i D1 c1 h1 l1 D2 c2 h2 l2 D3 h3 F3 N3 l3 kF kN T9 X9
    have hst : isStar mk = false := by assumption
    rename_i hnu
    refine hret D1 D2 D3 c1 c2 S nu _ _ (fun p hp => l1 p (by repeat (first | exact hp | refine List.Mem.tail _ ?_))) (l2 _ (.head _)) l3.1 rfl (hOk.congr fun p q => by rw [hst, Bool.false_and, Bool.false_and, Bool.or_false]) (by simp [hnu]) kF (nw_sub kN fun p hp => ?_)
    rcases List.mem_cons.mp hp with rfl | hp
    · exact .head _
    rcases List.mem_cons.mp hp with rfl | hp
    · exact .tail _ (.head _)
    rcases List.mem_cons.mp hp with rfl | hp
    · exact .tail _ (.tail _ (.head _))
    have hp' : p ∈ news := (List.mem_append.mp hp).elim (hS p) fun h => (mem_offs.mp h).1
    repeat (first | exact hp' | refine List.Mem.tail _ ?_)
  · rename_i D1 c1 h1 l1 D2 c2 h2 l2 D3 h3 F3 N3 l3 kF kN T9 X9
    have hst : isStar mk = false := by assumption
    rename_i hnu tD tN tL
    refine hret D1 D2 D3 c1 c2 S (isOpt mk) _ _ (fun p hp => l1 p (by repeat (first | exact hp | refine List.Mem.tail _ ?_))) (l2 _ (.head _)) l3.1 rfl (hOk.congr fun p q => by rw [hst, Bool.false_and, Bool.false_and, Bool.or_false]) (by simp [hnu]) kF (nw_sub kN fun p hp => ?_)
    rcases List.mem_cons.mp hp with rfl | hp
    · exact .head _
    rcases List.mem_cons.mp hp with rfl | hp
    · exact .tail _ (.head _)
    rcases List.mem_cons.mp hp with rfl | hp
    · exact .tail _ (.tail _ (.head _))
    have hp' : p ∈ news := (List.mem_append.mp hp).elim (hS p) fun h => (mem_offs.mp h).1
    repeat (first | exact hp' | refine List.Mem.tail _ ?_)

theorem marked_c5 {w : World} {news : List (Addr × Obj)} {self dx fA lA tA : Addr} {S : AS} {nms : List Str} {fol : Int → Int → Bool} {fs ls : List Value} {f l : Int → Bool} {nf nl n kt : Nat} {tk : Tok} {mk : Str} {nu : Bool}
    (hsa : SelfAt5 w news self dx S) (hT : (tA, tupOf #[.bool nu, .ref fA, .ref lA] kt) ∈ news) (hf : (fA, listOf fs.toArray nf) ∈ news) (hl : (lA, listOf ls.toArray nl) ∈ news) (hf' : fA ∉ S.adrs) (hl' : lA ∉ S.adrs) (hfs : IntsAre fs (sel n f)) (hls : IntsAre ls (sel n l)) (hel : ∀ z, l z = true → z ≤ nms.length)
    (hS : ∀ p ∈ S.core, p ∈ news) (hOk : S.Ok w nms n fol) (hn : n ≤ 30) :
    CallSpec w 68 40 200 news [.ref self, .ref tA, .str mk tk] (fun b r news' => ∃ (D1 D2 D3 c1 c2 : Nat) (S' : AS), r = .ref D3 ∧ b ≤ D1 ∧ D1 < D2 ∧ D2 < D3 ∧ S'.adrs = S.adrs ∧ S'.Ok w nms n (fun p q => fol p q || (isStar mk && l p && f q)) ∧
      news' = (D3, tupOf #[.bool (nu || isOpt mk), .ref D1, .ref D2] 0) :: (D2, listOf ls.toArray c2) :: (D1, listOf fs.toArray c1) :: (S'.core ++ offs S.adrs news)) := by
  intro loose mean mg mb dp un gd cn cs a ccd cl outer A₀ base h₀ L m s Q E B F X N T hk hd hu ret
  refine dig fun kG => ?_
  obtain ⟨g1, g2, g3, g4, g5, t1, t2, t3, t4, t5, fF5, fL5, nu5, kd, h1, h2⟩ := hsa.has
  refine kG ?_
  clear kG
  refine marked_walk5 w B F X N h1 h2 hsa hT hf hl hf' hl' hfs hls hel hS hOk hn (fun p hp => ?_) T hk hd hu fun D1 D2 D3 c1 c2 S' nu' h' tk' lt l1 l2 ha ok e F' N' => ret D1 _ h' tk' _ lt F' N' ⟨D1, D2, D3, c1, c2, S', rfl, Nat.le_refl _, l1, l2, ha, ok, by rw [e]⟩
  rcases List.mem_cons.mp hp with rfl | hp
  · exact ⟨hf, hf'⟩
  rcases List.mem_cons.mp hp with rfl | hp
  · exact ⟨hl, hl'⟩
  · cases hp
end Mine
end

-- text R0
section
open PySem PySem.W PyProof.Rows PySem.Calls
set_option maxRecDepth 100000
namespace Mine
/-- a turn's end: the iterator stands, the rest is as J says -/
def TurnPost (h₀ : Heap) (L : Addr) (J : (Str → Option Value) → List (Addr × Obj) → Prop) (it : Addr) (io : Obj) (s : Shared) (Q : Flow → Shared → Prop) (f : Flow) (s₂ : Shared) : Prop :=
  match f with
  | .ret v => Q (.ret v) s₂
  | .brk => Q .next s₂
  | _ => ∃ (h' : Heap) (tk' : Nat) (m' : Str → Option Value) (nx : List (Addr × Obj)), s₂ = { s with heap := h', toks := tk' } ∧ Fr h₀ L h' m' ∧ News h₀ L h' ((it, io) :: nx) ∧ (∀ p ∈ nx, p.1 ≠ it) ∧ J m' nx

section
variable {prog : Program} {w : World} {A : Around} {E : Value → Shared → Prop} {s : Shared} {env : Env} {h₀ : Heap} {x : Str} {body : List Stmt} {Q : Flow → Shared → Prop}
theorem loopAt_core {I : Addr} {fx : List (Addr × Obj)} {n : Nat} {P : Nat → Value → Prop} {St : Nat → Heap → Prop} {m₀ : Str → Option Value} {news : List (Addr × Obj)} (J : Nat → (Str → Option Value) → List (Addr × Obj) → Prop)
    (W : Walks prog w A I (I :: fx.map (·.1)) [I] n P St) (hSt : ∀ i h, St i h → ∃ o, h.get? I = some o) (hI₀ : h₀.get? I = none) (hIL : I ≠ env.locals)
    (hfx : ∀ p ∈ fx, ∀ i m nx, J i m nx → p ∈ nx) (hst : St 0 s.heap) (F : Fr h₀ env.locals s.heap m₀) (N : News h₀ env.locals s.heap news) (hIn : ∀ p ∈ news, p.1 ≠ I) (hj : J 0 m₀ news)
    (turn : ∀ i v m₁ nx h tk io, i < n → P i v → J i m₁ nx → (∀ p ∈ nx, p.1 ≠ I) → Fr h₀ env.locals h (fun y => if y = x then some v else m₁ y) → News h₀ env.locals h ((I, io) :: nx) →
      wpAny (model prog w) A (execs body env) (TurnPost h₀ env.locals (J (i + 1)) I io { s with heap := h, toks := tk } Q) E { s with heap := h, toks := tk })
    (done : ∀ m₁ nx h tk, J n m₁ nx → Fr h₀ env.locals h m₁ → News h₀ env.locals h nx → Q .next { s with heap := h, toks := tk }) :
    LoopAtV prog w A h₀ env x body Q E (.ref I) s := by
  have hL₀ : ∀ p ∈ fx, p.1 ≠ env.locals := fun p hp => (N _ (hfx p hp _ _ _ hj)).2.1
  refine ⟨I, _, _, n, P, St, m₀, news, J, rfl, W, ?_, ?_, ?_, hst, F, N, hj, ?_, ?_⟩
  · intro hm
    rcases List.mem_cons.mp hm with e | hm
    · exact hIL e.symm
    · refine dig fun kG => ?_
      obtain ⟨p, hp, e⟩ := List.mem_map.mp hm
      refine kG ?_
      clear kG
      exact hL₀ p hp e
  · intro b hb
    rw [List.mem_singleton.mp hb]; exact hI₀
  · intro p hp hI
    exact hIn p hp (List.mem_singleton.mp hI)
  · intro i v m₁ nx s₁ own hP_1 hi hP hJ hoff hown hget hfp hst' F₁ N₁
    refine dig fun kG => ?_
    obtain ⟨h, tk, rfl⟩ := hP_1
    revert F₁ N₁
    intro F₁ N₁
    obtain ⟨io, hio⟩ := hSt _ _ hst'
    have hIin : (I, io) ∈ own := hfp I (.head _) hI₀ io hio
    have hoff' : ∀ p ∈ nx, p.1 ≠ I := fun p hp e => hoff p hp (List.mem_singleton.mpr e)
    refine kG ?_
    clear kG
    refine wpAny_mono (turn i v m₁ nx h tk io hi hP hJ hoff' F₁ (fun p hp => ?_)) (fun f s₂ p => ?_) fun _ _ e => e
    · rcases List.mem_cons.mp hp with rfl | hp
      · exact N₁ _ (List.mem_append_left _ hIin)
      · exact N₁ _ (List.mem_append_right _ hp)
    have fin : (∃ (h' : Heap) (tk' : Nat) (m' : Str → Option Value) (nx : List (Addr × Obj)), s₂ = { s with heap := h', toks := tk' } ∧ Fr h₀ env.locals h' m' ∧ News h₀ env.locals h' ((I, io) :: nx) ∧ (∀ p ∈ nx, p.1 ≠ I) ∧ J (i + 1) m' nx) →
        LoopStepU h₀ env.locals [I] own (J (i + 1)) { s with heap := h, toks := tk } .next s₂ := by
      intro hP_2
      refine dig fun kG => ?_
      obtain ⟨h', tk', m', nx', rfl, F', N', hn, hJ'⟩ := hP_2
      refine kG ?_
      clear kG
      refine LoopStepU.intro F' (fun p hp => ?_) (fun p hp hI => hn p hp (List.mem_singleton.mp hI)) hJ'
      rcases List.mem_append.mp hp with hp | hp
      · rcases List.mem_cons.mp (hown p hp) with e | e
        · have h1 := hget p hp
          rw [e] at h1
          have h2 : h.get? I = some io := hio
          have h3 : p = (I, io) := Prod.ext e (Option.some.inj (h1.symm.trans h2))
          rw [h3]; exact N' _ (.head _)
        · refine dig fun kG => ?_
          obtain ⟨q, hq, e⟩ := List.mem_map.mp e
          have h1 := hget p hp
          have h2 := (N₁ _ (List.mem_append_right _ (hfx q hq _ _ _ hJ))).1
          rw [← e] at h1
          have h3 : p = q := Prod.ext e.symm (Option.some.inj (h1.symm.trans h2))
          refine kG ?_
          clear kG
          rw [h3]; exact N' _ (.tail _ (hfx q hq _ _ _ hJ'))
      · exact N' _ (.tail _ hp)
    cases f with
    | ret v => exact .ret p
    | brk => exact .brk p
    | next => exact .next (fin p)
    | cont => exact .cont (fin p)
  · rintro h' tk m' nx F' N' _ hJ
    exact done m' nx h' tk hJ F' N'

/-- a for over a tuple of the ledger's -/
theorem iter_tup {tA : Addr} {vs : List Value} {k : Nat} {m₀ : Str → Option Value} {news : List (Addr × Obj)} (J : Nat → (Str → Option Value) → List (Addr × Obj) → Prop)
    (hh : A.handled = none) (F : Fr h₀ env.locals s.heap m₀) (N : News h₀ env.locals s.heap news) (hj : J 0 m₀ news) (hJt : ∀ i m nx, J i m nx → (tA, tupOf vs.toArray k) ∈ nx)
    (turn : ∀ i v m₁ nx h tk it io, vs[i]? = some v → J i m₁ nx → (∀ p ∈ news, p.1 < it) → (∀ p ∈ nx, p.1 ≠ it) → Fr h₀ env.locals h (fun y => if y = x then some v else m₁ y) → News h₀ env.locals h ((it, io) :: nx) →
      wpAny (model prog w) A (execs body env) (TurnPost h₀ env.locals (J (i + 1)) it io { s with heap := h, toks := tk } Q) E { s with heap := h, toks := tk })
    (done : ∀ m₁ nx h tk, J vs.length m₁ nx → Fr h₀ env.locals h m₁ → News h₀ env.locals h nx → Q .next { s with heap := h, toks := tk }) :
    wpAny (model prog w) A (pyIter (.ref tA)) (fun it s₂ => LoopAtV prog w A h₀ env x body Q E it s₂) E s := by
  have hot := (N _ (hJt _ _ _ hj)).1
  have hlt : tA < s.heap.objs.size := Heap.lt_size hot
  refine wpAny_pyIter_tuple (items := vs.toArray) ⟨_, hot, rfl, _, rfl⟩ ?_
  have up : ∀ b o, s.heap.get? b = some o → (s.heap.push { cls := .type "tuple_iterator", data := .fields #[.ref tA, .int 0 0] }).get? b = some o := fun b o e => Heap.get?_push_of_some _ e
  have W := Walks.tuple (prog := prog) (w := w) hh s.heap.objs.size tA (Nat.ne_of_lt hlt) vs.toArray
  have hlen : vs.toArray.size = vs.length := List.size_toArray ..
  rw [hlen] at W
  refine loopAt_core (s := { s with heap := s.heap.push _ }) (fx := [(tA, tupOf vs.toArray k)]) J W (fun i h st => by obtain ⟨o, e, _⟩ := st.1; exact ⟨o, e⟩) (next_is_new F) (Nat.ne_of_gt F.ns.lt) (fun p hp i m nx hJ => by rw [List.mem_singleton.mp hp]; exact hJt i m nx hJ)
    ⟨⟨_, Heap.get?_push_size _ rfl, rfl, rfl⟩, ⟨_, up _ _ hot, rfl, _, rfl⟩⟩ (F.push _) (N.grown up) (fun p hp => Nat.ne_of_lt (nw_lt N p hp)) hj (fun i v m₁ nx h tk io hi hP hJ hoff F₁ N₁ => turn i v m₁ nx h tk _ io (by simpa using hP) hJ (nw_lt N) hoff F₁ N₁) done

/-- a for over a list of the ledger's -/
theorem iter_lst {tA : Addr} {vs : List Value} {k : Nat} {m₀ : Str → Option Value} {news : List (Addr × Obj)} (J : Nat → (Str → Option Value) → List (Addr × Obj) → Prop)
    (hh : A.handled = none) (F : Fr h₀ env.locals s.heap m₀) (N : News h₀ env.locals s.heap news) (hj : J 0 m₀ news) (hJt : ∀ i m nx, J i m nx → (tA, listOf vs.toArray k) ∈ nx)
    (turn : ∀ i v m₁ nx h tk it io, vs[i]? = some v → J i m₁ nx → (∀ p ∈ news, p.1 < it) → (∀ p ∈ nx, p.1 ≠ it) → Fr h₀ env.locals h (fun y => if y = x then some v else m₁ y) → News h₀ env.locals h ((it, io) :: nx) →
      wpAny (model prog w) A (execs body env) (TurnPost h₀ env.locals (J (i + 1)) it io { s with heap := h, toks := tk } Q) E { s with heap := h, toks := tk })
    (done : ∀ m₁ nx h tk, J vs.length m₁ nx → Fr h₀ env.locals h m₁ → News h₀ env.locals h nx → Q .next { s with heap := h, toks := tk }) :
    wpAny (model prog w) A (pyIter (.ref tA)) (fun it s₂ => LoopAtV prog w A h₀ env x body Q E it s₂) E s := by
  have hot := (N _ (hJt _ _ _ hj)).1
  have hlt : tA < s.heap.objs.size := Heap.lt_size hot
  refine wpAny_pyIter_list (items := vs.toArray) ⟨_, hot, rfl, _, rfl⟩ ?_
  have up : ∀ b o, s.heap.get? b = some o → (s.heap.push { cls := .type "list_iterator", data := .fields #[.ref tA, .int 0 0] }).get? b = some o := fun b o e => Heap.get?_push_of_some _ e
  have W := Walks.list (prog := prog) (w := w) hh s.heap.objs.size tA (Nat.ne_of_lt hlt) vs.toArray
  have hlen : vs.toArray.size = vs.length := List.size_toArray ..
  rw [hlen] at W
  refine loopAt_core (s := { s with heap := s.heap.push _ }) (fx := [(tA, listOf vs.toArray k)]) J W (fun i h st => by obtain ⟨o, e, _⟩ := st.1; exact ⟨o, e⟩) (next_is_new F) (Nat.ne_of_gt F.ns.lt) (fun p hp i m nx hJ => by rw [List.mem_singleton.mp hp]; exact hJt i m nx hJ)
    ⟨⟨_, Heap.get?_push_size _ rfl, rfl, rfl⟩, ⟨_, up _ _ hot, rfl, _, rfl⟩⟩ (F.push _) (N.grown up) (fun p hp => Nat.ne_of_lt (nw_lt N p hp)) hj (fun i v m₁ nx h tk io hi hP hJ hoff F₁ N₁ => turn i v m₁ nx h tk _ io (by simpa using hP) hJ (nw_lt N) hoff F₁ N₁) done
end
end Mine
end

-- text D2
section
open PySem PySem.W PyProof.Rows PySem.Calls PyProof.Rows.LCg
set_option maxRecDepth 100000
namespace Mine
def Hold (p : Prop) : Prop := p
theorem Hold.mk {p : Prop} (h : Hold p) : p := h
theorem Hold.out {p : Prop} (h : p) : Hold p := h
theorem sel_one {n : Nat} {k : Int} (h1 : 1 ≤ k) (h2 : k ≤ n) : sel n (fun z => z == k) = [k] := by
  refine lks_uniq (perm_of_mem (sel_nodup n _) (by simp) fun z => ?_) (sel_le n _) (by simp)
  rw [mem_sel, beq_iff_eq, List.mem_singleton]
  constructor
  · exact fun h => h.2
  · rintro rfl; exact ⟨⟨h1, h2⟩, rfl⟩
/-- S' has grown out of S by places that are new -/
structure Grow (b : Nat) (S S' : AS) : Prop where
  na : S'.na = S.na
  fa : S'.fa = S.fa
  ex : ∃ ex, S'.adrs = S.adrs ++ ex ∧ ∀ a ∈ ex, b ≤ a
theorem Grow.refl (b : Nat) (S : AS) : Grow b S S := ⟨rfl, rfl, [], by simp, by simp⟩
theorem Grow.of_adrs {b : Nat} {S S' : AS} (h : S'.adrs = S.adrs) : Grow b S S' := by
  refine ⟨?_, ?_, [], by simpa using h, by simp⟩
  · unfold AS.adrs at h; injection h
  · unfold AS.adrs at h; injection h with _ h; injection h
theorem Grow.trans {b b' : Nat} {S S' S'' : AS} (h : Grow b S S') (h' : Grow b' S' S'') (hb : b ≤ b') : Grow b S S'' := by
  refine dig fun kG => ?_
  obtain ⟨a1, a2, ex, e1, e2⟩ := h
  obtain ⟨a1', a2', ex', e1', e2'⟩ := h'
  refine kG ?_
  clear kG
  refine ⟨a1'.trans a1, a2'.trans a2, ex ++ ex', by rw [e1', e1, List.append_assoc], fun a ha => ?_⟩
  rcases List.mem_append.mp ha with ha | ha
  · exact e2 a ha
  · exact Nat.le_trans hb (e2' a ha)
theorem Grow.mono {b b' : Nat} {S S' : AS} (h : Grow b S S') (hb : b' ≤ b) : Grow b' S S' := by
  refine dig fun kG => ?_
  obtain ⟨a1, a2, ex, e1, e2⟩ := h
  refine kG ?_
  clear kG
  exact ⟨a1, a2, ex, e1, fun a ha => Nat.le_trans hb (e2 a ha)⟩
theorem Grow.notin {b : Nat} {S S' : AS} (h : Grow b S S') {a : Addr} (h1 : a ∉ S.adrs) (h2 : a < b) : a ∉ S'.adrs := by
  refine dig fun kG => ?_
  obtain ⟨_, _, ex, e1, e2⟩ := h
  refine kG ?_
  clear kG
  rw [e1]
  intro hm
  rcases List.mem_append.mp hm with hm | hm
  · exact h1 hm
  · exact absurd (e2 a hm) (Nat.not_le.mpr h2)
theorem Grow.sub {b : Nat} {S S' : AS} (h : Grow b S S') {a : Addr} (h1 : a ∈ S.adrs) : a ∈ S'.adrs := by
  refine dig fun kG => ?_
  obtain ⟨_, _, ex, e1, _⟩ := h
  refine kG ?_
  clear kG
  rw [e1]; exact List.mem_append_left _ h1
theorem adrs_lt {S : AS} {news : List (Addr × Obj)} {b : Nat} (hS : ∀ p ∈ S.core, p ∈ news) (hb : ∀ p ∈ news, p.1 < b) : ∀ a ∈ S.adrs, a < b := by
  intro a ha
  rw [← AS.core_adrs] at ha
  refine dig fun kG => ?_
  obtain ⟨p, hp, rfl⟩ := List.mem_map.mp ha
  refine kG ?_
  clear kG
  exact hb p (hS p hp)
theorem KeepOk.grow {pw news news' : List (Addr × Obj)} {b : Nat} {S S' : AS} (h : KeepOk pw news S.adrs) (g : Grow b S S') (hb : ∀ p ∈ news, p.1 < b) (hn : ∀ p ∈ offs S.adrs news, p ∈ news') : KeepOk pw news' S'.adrs := fun p hp =>
  ⟨hn p (mem_offs.mpr (h p hp)), g.notin (h p hp).2 (hb p (h p hp).1)⟩
theorem SelfAt.grow {w : World} {news news' : List (Addr × Obj)} {me dx : Addr} {b : Nat} {S S' : AS} (h : SelfAt w news me dx S) (g : Grow b S S') (hb : ∀ p ∈ news, p.1 < b) (hn : ∀ p ∈ offs S.adrs news, p ∈ news') : SelfAt w news' me dx S' := by
  refine dig fun kG => ?_
  obtain ⟨g1, g2, t1, t2, kd, h1, h2⟩ := h.has
  refine kG ?_
  clear kG
  refine ⟨⟨g1, g2, t1, t2, kd, hn _ (mem_offs.mpr ⟨h1, h.me_off⟩), ?_⟩, g.notin h.me_off (hb _ h1), g.notin h.dx_off (hb _ h2)⟩
  rw [g.na, g.fa]
  exact hn _ (mem_offs.mpr ⟨h2, h.dx_off⟩)

def AS.grown (S : AS) (x : Value) (fo : Obj) (kvs : List (Int × Value)) (l : Addr) : AS := { S with nv := S.nv ++ [x], nn := S.nn + 1, fo := fo, kvs := kvs, fl := S.fl ++ [(l, [], 0)] }
theorem AS.grown_adrs (S : AS) (x : Value) (fo : Obj) (kvs : List (Int × Value)) (l : Addr) : (S.grown x fo kvs l).adrs = S.adrs ++ [l] := by
  simp [AS.grown, AS.adrs]
theorem AS.grown_grow {S : AS} {x : Value} {fo : Obj} {kvs : List (Int × Value)} {l b : Addr} (h : b ≤ l) : Grow b S (S.grown x fo kvs l) := ⟨rfl, rfl, [l], S.grown_adrs x fo kvs l, fun a ha => by rw [List.mem_singleton.mp ha]; exact h⟩
theorem AS.grown_ok {w : World} {S : AS} {nms : List Str} {n : Nat} {fol : Int → Int → Bool} {nm : Str} {u : Tok} {fo : Obj} {kvs : List (Int × Value)} {l : Addr} (h : S.Ok w nms n fol) (hd : Obj.IsDictOf (intKind PySem.Challenge.rw_xw0200_01.row.prog w) fo kvs)
    (hk : kvs = S.kvs ++ [((nms.length : Int) + 1, .ref l)]) (hl : l ∉ S.adrs) (hb : nms.length + 1 ≤ n) : (S.grown (.str nm u) fo kvs l).Ok w (nms ++ [nm]) n fol := by
  have hlen := h.len
  have get : ∀ (i : Nat) x, (S.fl ++ [(l, ([] : List Value), 0)])[i]? = some x → (i < S.fl.length ∧ S.fl[i]? = some x) ∨ (i = S.fl.length ∧ x = (l, [], 0)) := by
    intro i x hx
    by_cases hi : i < S.fl.length
    · rw [List.getElem?_append_left hi] at hx; exact .inl ⟨hi, hx⟩
    · rw [List.getElem?_append_right (Nat.not_lt.mp hi)] at hx
      have : i - S.fl.length = 0 := by
        have := (List.getElem?_eq_some_iff.mp hx).1
        simp at this; exact this
      rw [this] at hx
      simp at hx
      exact .inr ⟨by omega, hx.symm⟩
  refine ⟨?_, hd, fun i x hx => ?_, ?_, ?_, fun i x hx => ?_, ?_, h.low, ?_, fun p q hpq => ?_⟩
  · show StrsAre (S.nv ++ [.str nm u]) (nms ++ [nm])
    exact StrsAre.append' h.names (.cons _ _ .nil)
  · show valueAt kvs _ = _
    rw [hk]
    unfold valueAt
    rw [List.find?_append]
    rcases get i x hx with ⟨hi, hx⟩ | ⟨rfl, rfl⟩
    · have := h.keys i x hx
      unfold valueAt at this
      cases hf : S.kvs.find? (fun kv => decide (kv.1 = (i : Int) + 1)) with
      | none => rw [hf] at this; cases this
      | some y => rw [hf] at this; simpa using this
    · have hnone : S.kvs.find? (fun kv => decide (kv.1 = (S.fl.length : Int) + 1)) = none := by
        rw [List.find?_eq_none]
        intro y hy
        have hm : y.1 ∈ S.kvs.map (·.1) := List.mem_map_of_mem hy
        rw [h.kmap, List.mem_map] at hm
        refine dig fun kG => ?_
        obtain ⟨j, hj, e⟩ := hm
        rw [List.mem_range] at hj
        refine kG ?_
        clear kG
        simp only [decide_eq_true_eq]
        omega
      rw [hnone, hlen]
      simp
  · show kvs.map (·.1) = (List.range (S.fl ++ [(l, ([] : List Value), 0)]).length).map fun (i : Nat) => (i : Int) + 1
    rw [hk, List.map_append, h.kmap, List.length_append, List.length_singleton, List.range_succ, List.map_append, hlen]
    rfl
  · show (S.fl ++ [(l, ([] : List Value), 0)]).length = _
    rw [List.length_append, List.length_append, hlen]; rfl
  · rcases get i x hx with ⟨hi, hx⟩ | ⟨rfl, rfl⟩
    · exact h.lists i x hx
    · have e : sel n (fol ((S.fl.length : Int) + 1)) = [] := by
        rw [← sel_false n]
        refine sel_congr fun z _ _ => ?_
        cases hf : fol ((S.fl.length : Int) + 1) z with
        | false => rfl
        | true => have := h.off _ _ hf; omega
      rw [e]; exact .nil
  · rw [AS.grown_adrs, List.nodup_append]
    refine ⟨h.nodup, by simp, fun a ha b hb e => ?_⟩
    rw [List.mem_singleton.mp hb] at e
    exact hl (e ▸ ha)
  · rw [List.length_append]; exact hb
  · have := h.off p q hpq
    rw [List.length_append]
    have e : (([nm] : List Str).length : Nat) = 1 := rfl
    omega

def ReadPost (w : World) (S : AS) (nms : List Str) (n : Nat) (fol : Int → Int → Bool) (P : Part) (news : List (Addr × Obj)) (b : Nat) (r : Value) (news' : List (Addr × Obj)) : Prop :=
  ∃ (D1 D2 D3 c1 c2 : Nat) (fs ls : List Value) (S' : AS), r = .ref D3 ∧ b ≤ D1 ∧ D1 < D2 ∧ D2 < D3 ∧ Grow b S S' ∧ (∀ a ∈ S'.adrs, a < D1) ∧ IntsAre fs (sel n (P.first nms.length)) ∧ IntsAre ls (sel n (P.last nms.length)) ∧ S'.Ok w (nms ++ P.names) n (fun p q => fol p q || P.fol nms.length p q) ∧
    news' = (D3, tupOf #[.bool P.null, .ref D1, .ref D2] 0) :: (D2, listOf ls.toArray c2) :: (D1, listOf fs.toArray c1) :: (S'.core ++ offs S.adrs news)
def ReadSpec (w : World) (pw : List (Addr × Obj)) (self dx : Addr) (n : Nat) (P : Part) : Prop :=
  ∀ (news : List (Addr × Obj)) (v : Value) (S : AS) (nms : List Str) (fol : Int → Int → Bool), PartIn pw P v → KeepOk pw news S.adrs → SelfAt w news self dx S → (∀ p ∈ S.core, p ∈ news) → S.Ok w nms n fol → nms.length + P.size ≤ n → n ≤ 30 →
    CallSpec w 47 (100 * P.height) (600 * P.height) news [.ref self, v] (ReadPost w S nms n fol P news)
end Mine
end

-- text D3
section
open PySem PySem.W PyProof.Rows PySem.Calls PyProof.Rows.LCg
set_option maxRecDepth 100000
set_option maxHeartbeats 8000000
namespace Mine
theorem append_nv {prog : Program} {w : World} {A : Around} {E : Value → Shared → Prop} {s : Shared} {h₀ : Heap} {L : Addr} {m : Str → Option Value} {news news' : List (Addr × Obj)} {D : Addr} {vs : List Value} {n : Nat} {x : Value} {Q : Value → Shared → Prop} (hl : vs.length ≤ 100) (F : Fr h₀ L s.heap m) (N : News h₀ L s.heap news) (U : Upd D (listOf vs.toArray n) (listOf (vs ++ [x]).toArray (n + 1)) news news')
    (h : ∀ h', Fr h₀ L h' m → News h₀ L h' news' → Q .none { s with heap := h' }) : wpAny (model prog w) A (call (.builtin "list.append") [.ref D, x]) Q E s :=
  append_K F N (by rw [List.push_toArray]; exact U) h (by rw [sizeLine_eq, List.size_toArray]; omega)
theorem len_vs {prog : Program} {w : World} {A : Around} {E : Value → Shared → Prop} {s : Shared} {h₀ : Heap} {L : Addr} {news : List (Addr × Obj)} {D : Addr} {vs : List Value} {x : Value} {n : Nat} {Q : Value → Shared → Prop} (hl : vs.length ≤ 100) (N : News h₀ L s.heap news) (hm : (D, listOf (vs ++ [x]).toArray n) ∈ news)
    (h : ∀ t tk, Q (.int ((vs.length : Int) + 1) t) { s with toks := tk }) : wpAny (model prog w) A (call (.builtin "len") [.ref D]) Q E s := by
  have e : ((vs ++ [x]).toArray.size : Int) = (vs.length : Int) + 1 := by rw [List.size_toArray, List.length_append, List.length_singleton]; rfl
  refine call_len_list ⟨_, (N _ hm).1, rfl, _, rfl⟩ (by rw [e]; omega) ?_
  rw [e]
  exact h _ _
local macro_rules | `(tactic| k_mem) => `(tactic| assumption)
local macro_rules | `(tactic| walk_at "call ref") => `(tactic| (k_here; (with_reducible show wpAny _ _ (call (Value.ref _) _ _) _ _ _); refine Hold.mk ?_))
local macro_rules | `(tactic| walk_at "setItem ref int") => `(tactic| (k_here; refine Hold.mk ?_))
local macro_rules | `(tactic| walk_at "call builtin:list.append") => `(tactic| (k_here; k_dflt (refine' append_nv (by assumption) (by k_asm) (by k_asm) (by k_upd) ?_); intro h' F' N'))
local macro_rules | `(tactic| walk_at "call builtin:len") => `(tactic| (k_here; k_dflt (refine' len_vs ?z (by k_asm) (by exact List.Mem.head _) ?_; (case z => assumption)); intro t' tk'))
theorem read_name_walk (w : World) {loose : List Str} {mean : ExcName → Option Value} {mg mb : Str → Option Value}
  {dp un : Nat} {gd : Option (List Code)} {cn : Str} {cs : Scope} {a : Addr} {ccd : Value} {cl : List (Str × Addr)} {outer : List Env} {A₀ : Around} {base h₀ : Heap} {L : Addr} {m : Str → Option Value} {s : Shared} {Q E : Value → Shared → Prop}
  {self dx t : Addr} {S : AS} {nms : List Str} {fol : Int → Int → Bool} {n kd k : Nat} {news : List (Addr × Obj)} {g1 g2 : Int} {t1 t2 u1 u2 u3 : Tok} {nm mk : Str}
  (B : Below A₀ base outer h₀) (F : Fr h₀ L s.heap m) (X : (hd.heap_39 w.params).In h₀) (N₀ : News h₀ L s.heap news) (hS : ∀ p ∈ S.core, p ∈ news) (hOk : S.Ok w nms n fol) (hsz : nms.length + 1 ≤ n) (hn : n ≤ 30)
  (hs : (self, instObj 127 dx) ∈ news) (hs' : self ∉ S.adrs) (hdx : (dx, selfDict w S.na S.fa g1 g2 t1 t2 kd) ∈ news) (hdx' : dx ∉ S.adrs) (ht : (t, tupOf #[.str (Str.ofString "name") u1, .str nm u2, .str mk u3] k) ∈ news) (ht' : t ∉ S.adrs)
  (T : Top hd.view_39 loose mean mg mb h₀) (hk : cs.kind = .function) (hdp : dp + 60 < recursionLimit) (hu : un + 400 < cLine)
  (hret : ∀ b r h' tk' news', (∀ p ∈ news, p.1 < b) → Fr h₀ L h' m → News h₀ L h' news' → ReadPost w S nms n fol (.name nm mk) news b r news' → Q r { s with heap := h', toks := tk' }) :
  wpAny (model PySem.Challenge.rw_xw0200_01.row.prog w) (ktrTop dp un gd cn cs L a ccd cl outer) (call (.ref 47) [.ref self, .ref t]) Q E s := by
  have hnv : S.nv.length ≤ 100 := by
    have h1 := hOk.names.length
    omega
  have hnvl : S.nv.length = nms.length := hOk.names.length
  refine dig fun kG => ?_
  refine gen_eq ((S.fl.map fun x => (x.1, listOf x.2.1.toArray x.2.2)) ++ offs S.adrs news) fun rest hrest => ?_
  have hcore : S.core = (S.na, listOf S.nv.toArray S.nn) :: (S.fa, S.fo) :: S.fl.map fun x => (x.1, listOf x.2.1.toArray x.2.2) := rfl
  have N : News h₀ L s.heap ((S.na, listOf S.nv.toArray S.nn) :: (S.fa, S.fo) :: rest) := by
    refine nw_sub N₀ fun p hp => ?_
    subst hrest
    rcases List.mem_cons.mp hp with rfl | hp
    · exact hS _ (.head _)
    rcases List.mem_cons.mp hp with rfl | hp
    · exact hS _ (.tail _ (.head _))
    rcases List.mem_append.mp hp with hp | hp
    · exact hS _ (.tail _ (.tail _ hp))
    · exact (mem_offs.mp hp).1
  have hsr : (self, instObj 127 dx) ∈ rest := by rw [hrest]; exact List.mem_append_right _ (mem_offs.mpr ⟨hs, hs'⟩)
  have hdr : (dx, selfDict w S.na S.fa g1 g2 t1 t2 kd) ∈ rest := by rw [hrest]; exact List.mem_append_right _ (mem_offs.mpr ⟨hdx, hdx'⟩)
  have htr : (t, tupOf #[.str (Str.ofString "name") u1, .str nm u2, .str mk u3] k) ∈ rest := by rw [hrest]; exact List.mem_append_right _ (mem_offs.mpr ⟨ht, ht'⟩)
  have hnd := hOk.nodup
  refine kG ?_
  clear kG
  unfold AS.adrs at hnd
  rw [List.nodup_cons, List.nodup_cons] at hnd
  have hne : @Ne Nat S.na S.fa := fun e => hnd.1 (e ▸ .head _)
  have hoff : OwnOff rest [S.na, S.fa] := by
    intro p hp b hb e
    subst hrest
    rcases List.mem_append.mp hp with hp | hp
    · have hm : p.1 ∈ S.fl.map (·.1) := by
        refine dig fun kG => ?_
        obtain ⟨x, hx, rfl⟩ := List.mem_map.mp hp
        refine kG ?_
        clear kG
        exact List.mem_map_of_mem hx
      rcases List.mem_cons.mp hb with rfl | hb
      · exact hnd.1 (.tail _ (e ▸ hm))
      · rw [List.mem_singleton.mp hb] at e; exact hnd.2.1 (e ▸ hm)
    · refine (mem_offs.mp hp).2 ?_
      rw [e]
      unfold AS.adrs
      rcases List.mem_cons.mp hb with rfl | hb
      · exact .head _
      · rw [List.mem_singleton.mp hb]; exact .tail _ (.head _)
  clear N₀
  w_top off
  revert X; k_fill; intro X
  refine wpAny_call ?_
  k_dflt cell_enter
  k_steps
  rename_i tkx tA hx tky l₁ h₁ F₁ N₁ lt₁
  refine Hold.out (setNew_K (xs := (List.range S.fl.length).map fun (i : Nat) => (i : Int) + 1) (by k_asm) (by k_asm) (by k_updF) hOk.dict hOk.kmap ?_ ?_ ?_)
  · rw [hnvl, ← hOk.len]
    intro hm
    refine dig fun kG => ?_
    obtain ⟨j, hj, e⟩ := List.mem_map.mp hm
    rw [List.mem_range] at hj
    refine kG ?_
    clear kG
    omega
  · have := hOk.len
    simp only [List.length_map, List.length_range]
    omega
  intro h₂ fo₂ kvs₂ F₂ N₂ hd₂ hk₂ _
  k_steps
  rename_i tka l₂ hA lt₂ l₃ hB lt₃ D hC ltD h₃ F₃ N₃
  refine dig fun kG => ?_
  refine gen_eq (S.grown (.str nm u2) fo₂ kvs₂ l₁) fun S₁ hS₁ => ?_
  have hltn : ∀ p ∈ rest, p.1 < l₁ := ktn_ltOf lt₁.2.2
  have hadr : ∀ z ∈ S.adrs, z < l₁ := by
    intro z hz
    rw [← AS.core_adrs, hcore] at hz
    obtain ⟨p, hp, rfl⟩ := List.mem_map.mp hz
    rcases List.mem_cons.mp hp with rfl | hp
    · exact lt₁.1
    rcases List.mem_cons.mp hp with rfl | hp
    · exact lt₁.2.1
    · exact hltn p (by rw [hrest]; exact List.mem_append_left _ hp)
  have hadr₁ : S₁.adrs = S.adrs ++ [l₁] := by rw [hS₁]; exact AS.grown_adrs ..
  have hltall : ∀ p ∈ news, p.1 < l₁ := by
    intro p hp
    by_cases hm : p.1 ∈ S.adrs
    · exact hadr _ hm
    · exact hltn p (by rw [hrest]; exact List.mem_append_right _ (mem_offs.mpr ⟨hp, hm⟩))
  have hOk₁ : S₁.Ok w (nms ++ [nm]) n fol := by
    rw [hS₁]
    exact AS.grown_ok hOk hd₂ (by rw [hk₂, hnvl]) (fun h => Nat.lt_irrefl _ (hadr _ h)) hsz
  have hin₁ : ∀ z, z ∈ S₁.adrs → z ≤ l₁ := by
    intro z hz
    rw [hadr₁] at hz
    rcases List.mem_append.mp hz with hz | hz
    · exact Nat.le_of_lt (hadr z hz)
    · rw [List.mem_singleton.mp hz]; exact Nat.le_refl _
  have hof : ∀ z : Nat, l₁ < z → z ∉ S₁.adrs := fun z hz hm => absurd (hin₁ z hm) (Nat.not_le.mpr hz)
  have hon : ∀ z, z < l₁ → z ∉ S.adrs → z ∉ S₁.adrs := by
    intro z h1 h2 hm
    rw [hadr₁] at hm
    rcases List.mem_append.mp hm with hm | hm
    · exact h2 hm
    · rw [List.mem_singleton.mp hm] at h1; exact Nat.lt_irrefl _ h1
  have hone : ∀ t : Tok, IntsAre [Value.int ((S.nv.length : Int) + 1) t] (sel n fun z => z == (nms.length : Int) + 1) := by
    intro t
    rw [sel_one (by omega) (by omega), hnvl]
    exact .cons _ _ .nil
  have hcore₁ : ∀ p ∈ S₁.core, p ∈ (l₁, listOf #[] 0) :: (S.na, listOf (S.nv ++ [Value.str nm u2]).toArray (S.nn + 1)) :: (S.fa, fo₂) :: rest := by
    intro p hp
    rw [hS₁] at hp
    rcases List.mem_cons.mp hp with rfl | hp
    · exact .tail _ (.head _)
    rcases List.mem_cons.mp hp with rfl | hp
    · exact .tail _ (.tail _ (.head _))
    obtain ⟨x, hx, rfl⟩ := List.mem_map.mp hp
    rcases List.mem_append.mp hx with hx | hx
    · refine .tail _ (.tail _ (.tail _ ?_))
      rw [hrest]
      exact List.mem_append_left _ (List.mem_map.mpr ⟨x, hx, rfl⟩)
    · rw [List.mem_singleton.mp hx]
      exact .head _
  have offA := hon _ (hltall _ hs) hs'
  have offB := hon _ (hltall _ hdx) hdx'
  have offC := hof _ lt₂.1
  have offD := hof _ lt₃.2.1
  have lastB : ∀ z : Int, (z == (nms.length : Int) + 1) = true → z ≤ ((nms ++ [nm]).length : Nat) := by
    intro z hz
    rw [beq_iff_eq] at hz
    rw [hz, List.length_append]
    exact Int.le_refl _
  refine kG ?_
  clear kG
  refine Hold.out ?_
  refine dig fun kG => ?_
  refine gen_eq ((D, tupOf #[.bool false, .ref l₂, .ref l₃] 0) :: (l₃, listOf [Value.int ((S.nv.length : Int) + 1) tA].toArray 0) :: (l₂, listOf [Value.int ((S.nv.length : Int) + 1) tA].toArray 0) :: (l₁, listOf #[] 0) :: (S.na, listOf (S.nv ++ [Value.str nm u2]).toArray (S.nn + 1)) :: (S.fa, fo₂) :: rest) fun led hled => ?_
  have memA : (self, instObj 127 dx) ∈ led := by rw [hled]; exact .tail _ (.tail _ (.tail _ (.tail _ (.tail _ (.tail _ hsr)))))
  have memB : (dx, selfDict w S₁.na S₁.fa g1 g2 t1 t2 kd) ∈ led := by rw [hS₁, hled]; exact .tail _ (.tail _ (.tail _ (.tail _ (.tail _ (.tail _ hdr)))))
  have coreB : ∀ p ∈ S₁.core, p ∈ led := fun p hp => by rw [hled]; exact .tail _ (.tail _ (.tail _ (hcore₁ p hp)))
  have memD : (D, tupOf #[.bool false, .ref l₂, .ref l₃] 0) ∈ led := by rw [hled]; exact .head _
  have memE : (l₃, listOf [Value.int ((S.nv.length : Int) + 1) tA].toArray 0) ∈ led := by rw [hled]; exact .tail _ (.head _)
  have memF : (l₂, listOf [Value.int ((S.nv.length : Int) + 1) tA].toArray 0) ∈ led := by rw [hled]; exact .tail _ (.tail _ (.head _))
  replace N₃ := nw_sub (l' := led) N₃ (fun p hp => by rw [hled] at hp; exact hp)
  have C := marked_c (w := w) (self := self) (mk := mk) (tk := u3) (nu := false) (S := S₁) (dx := dx) (nms := nms ++ [nm]) (fol := fol) (n := n) (f := fun z => z == (nms.length : Int) + 1) (l := fun z => z == (nms.length : Int) + 1) ⟨⟨g1, g2, t1, t2, kd, memA, memB⟩, offA, offB⟩ memD memF memE offC offD (hone tA) (hone tA) lastB coreB hOk₁ hn
  refine kG ?_
  clear kG
  refine' CallSpec.use C ?kB F₃ ?kX N₃ ?kT ?kk ?kd ?ku ?_
  case kB => k_asm
  case kX => k_asm
  case kT => k_asm
  case kk => exact rfl
  case kd => first | exact room2 hdp (by decide) | exact room2s hdp (by decide) | exact room2h hdp (by assumption) (by decide) | exact room2hs hdp (by assumption) (by decide) | exact room2c hdp (by decide) | exact room1 hdp (by decide) | exact room1c hdp (by decide) | ktr_room
  case ku => first | exact room2 hu (by decide) | exact room2s hu (by decide) | exact room2h hu (by assumption) (by decide) | exact room2hs hu (by assumption) (by decide) | exact room2c hu (by decide) | exact room1 hu (by decide) | exact room1c hu (by decide) | ktr_units
  intro b r h₄ tk₄ news₄ ltb F₄ N₄ hp
  refine dig fun kG => ?_
  obtain ⟨D1, D2, D3, c1, c2, S', rfl, hb1, h12, h23, ha, hOk', rfl⟩ := hp
  refine kG ?_
  clear kG
  k_steps
  have hl₁b : l₁ < b := ltb (l₁, listOf #[] 0) (by rw [hled]; exact .tail _ (.tail _ (.tail _ (.head _))))
  have e1 : Part.first nms.length (.name nm mk) = fun z => z == (nms.length : Int) + 1 := funext fun z => by simp only [Part.first]
  have e2 : Part.last nms.length (.name nm mk) = fun z => z == (nms.length : Int) + 1 := funext fun z => by simp only [Part.last]
  refine hret l₁ _ _ _ ((D3, tupOf #[.bool (Part.name nm mk).null, .ref D1, .ref D2] 0) :: (D2, listOf [Value.int ((S.nv.length : Int) + 1) tA].toArray c2) :: (D1, listOf [Value.int ((S.nv.length : Int) + 1) tA].toArray c1) :: (S'.core ++ offs S.adrs news)) hltall (by k_asm) (nw_sub (by k_asm) ?_)
    ⟨D1, D2, D3, c1, c2, [Value.int ((S.nv.length : Int) + 1) tA], [Value.int ((S.nv.length : Int) + 1) tA], S', rfl, Nat.le_of_lt (Nat.lt_of_lt_of_le hl₁b hb1), h12, h23, ?_, ?_, ?_, ?_, ?_, rfl⟩
  · intro p hp
    rcases List.mem_cons.mp hp with rfl | hp
    · rw [show (Part.name nm mk).null = isOpt mk by simp only [Part.null]]
      exact .head _
    rcases List.mem_cons.mp hp with rfl | hp
    · exact .tail _ (.head _)
    rcases List.mem_cons.mp hp with rfl | hp
    · exact .tail _ (.tail _ (.head _))
    refine .tail _ (.tail _ (.tail _ ?_))
    rcases List.mem_append.mp hp with hp | hp
    · exact List.mem_append_left _ hp
    · refine List.mem_append_right _ (mem_offs.mpr ⟨?_, ?_⟩)
      · rw [hled]
        refine .tail _ (.tail _ (.tail _ (.tail _ (.tail _ (.tail _ ?_)))))
        rw [hrest]
        exact List.mem_append_right _ hp
      · exact hon _ (hltall _ (mem_offs.mp hp).1) (mem_offs.mp hp).2
  · rw [hS₁] at ha
    exact (AS.grown_grow (Nat.le_refl l₁)).trans (Grow.of_adrs (b := l₁) ha) (Nat.le_refl _)
  · intro z hz
    rw [ha] at hz
    exact Nat.lt_of_le_of_lt (hin₁ z hz) (Nat.lt_of_lt_of_le hl₁b hb1)
  · rw [e1]; exact hone tA
  · rw [e2]; exact hone tA
  · refine hOk'.congr fun p q => ?_
    simp only [Part.fol]

theorem read_name {w : World} {pw : List (Addr × Obj)} {self dx : Addr} {n : Nat} (nm mk : Str) : ReadSpec w pw self dx n (.name nm mk) := by
  intro news v S nms fol hP hK hs hS hOk hsz hn loose mean mg mb dp un gd cn cs a ccd cl outer A₀ base h₀ L m s Q E B F X N T hk hd hu ret
  simp only [PartIn] at hP
  refine dig fun kG => ?_
  obtain ⟨t, k, u1, u2, u3, rfl, ht⟩ := hP
  obtain ⟨g1, g2, t1, t2, kd, h1, h2⟩ := hs.has
  have e1 : (Part.name nm mk).size = 1 := by simp only [Part.size]
  have e2 : (Part.name nm mk).height = 1 := by simp only [Part.height]
  rw [e1] at hsz
  rw [e2] at hd hu
  refine kG ?_
  clear kG
  exact read_name_walk w B F X N hS hOk hsz hn h1 hs.me_off h2 hs.dx_off (hK _ ht).1 (hK _ ht).2 T hk (by omega) (by omega) ret
end Mine
end

-- text E0
section
open PySem PySem.W PyProof.Rows PySem.Calls PyProof.Rows.LCg
set_option maxRecDepth 100000
set_option maxHeartbeats 8000000
namespace Mine
/-- the state of a reading automaton: S has grown out of S₀, the world kw stands -/
structure ASt (w : World) (kw : List (Addr × Obj)) (b : Nat) (S₀ : AS) (led : List (Addr × Obj)) (S : AS) (nms : List Str) (n : Nat) (fol : Int → Int → Bool) : Prop where
  core : ∀ p ∈ S.core, p ∈ led
  ok : S.Ok w nms n fol
  keep : KeepOk kw led S.adrs
  grow : Grow b S₀ S
structure KW (w : World) (pw kw : List (Addr × Obj)) (me dx : Addr) (b : Nat) (S₀ : AS) : Prop where
  has : ∃ g1 g2 t1 t2 kd, (me, instObj 127 dx) ∈ kw ∧ (dx, selfDict w S₀.na S₀.fa g1 g2 t1 t2 kd) ∈ kw
  pws : ∀ p ∈ pw, p ∈ kw
  lt : ∀ p ∈ kw, p.1 < b
theorem KW.selfAt {w : World} {pw kw : List (Addr × Obj)} {self dx : Addr} {b : Nat} {S₀ S : AS} {led : List (Addr × Obj)} {nms : List Str} {n : Nat} {fol : Int → Int → Bool} (k : KW w pw kw self dx b S₀) (a : ASt w kw b S₀ led S nms n fol) : SelfAt w led self dx S := by
  refine dig fun kG => ?_
  obtain ⟨g1, g2, t1, t2, kd, h1, h2⟩ := k.has
  refine kG ?_
  clear kG
  refine ⟨⟨g1, g2, t1, t2, kd, (a.keep _ h1).1, ?_⟩, (a.keep _ h1).2, (a.keep _ h2).2⟩
  rw [a.grow.na, a.grow.fa]; exact (a.keep _ h2).1
theorem KW.keepPw {w : World} {pw kw : List (Addr × Obj)} {self dx : Addr} {b : Nat} {S₀ S : AS} {led : List (Addr × Obj)} {nms : List Str} {n : Nat} {fol : Int → Int → Bool} (k : KW w pw kw self dx b S₀) (a : ASt w kw b S₀ led S nms n fol) : KeepOk pw led S.adrs := fun p hp => a.keep p (k.pws p hp)
/-- another list is changed -/
theorem ASt.off {w : World} {kw : List (Addr × Obj)} {b : Nat} {S₀ S : AS} {led led' : List (Addr × Obj)} {nms : List Str} {n : Nat} {fol : Int → Int → Bool} {W : List Addr} (a : ASt w kw b S₀ led S nms n fol) (h : ∀ p ∈ led, p.1 ∉ W → p ∈ led') (h1 : ∀ z ∈ W, z ∉ S.adrs) (h2 : ∀ z ∈ W, ∀ p ∈ kw, p.1 ≠ z) : ASt w kw b S₀ led' S nms n fol := by
  refine ⟨fun p hp => h p (a.core p hp) fun hm => h1 _ hm (AS.mem_adrs hp), a.ok, fun p hp => ⟨h p (a.keep p hp).1 fun hm => h2 _ hm p hp rfl, (a.keep p hp).2⟩, a.grow⟩
theorem ASt.sub {w : World} {kw : List (Addr × Obj)} {b : Nat} {S₀ S : AS} {led led' : List (Addr × Obj)} {nms : List Str} {n : Nat} {fol : Int → Int → Bool} (a : ASt w kw b S₀ led S nms n fol) (h : ∀ p ∈ led, p ∈ led') : ASt w kw b S₀ led' S nms n fol :=
  ⟨fun p hp => h p (a.core p hp), a.ok, fun p hp => ⟨h p (a.keep p hp).1, (a.keep p hp).2⟩, a.grow⟩
theorem ASt.adrs_lt {w : World} {kw : List (Addr × Obj)} {b : Nat} {S₀ S : AS} {led : List (Addr × Obj)} {nms : List Str} {n : Nat} {fol : Int → Int → Bool} {d : Nat} (a : ASt w kw b S₀ led S nms n fol) (h : ∀ p ∈ led, p.1 < d) : ∀ z ∈ S.adrs, z < d := Mine.adrs_lt a.core h
/-- the automaton has read on -/
theorem ASt.read {w : World} {kw : List (Addr × Obj)} {b b' : Nat} {S₀ S S' : AS} {led led' : List (Addr × Obj)} {nms nms' : List Str} {n : Nat} {fol fol' : Int → Int → Bool} (a : ASt w kw b S₀ led S nms n fol) (g : Grow b' S S') (hb : ∀ p ∈ led, p.1 < b') (hbb : b ≤ b') (ok : S'.Ok w nms' n fol')
    (h1 : ∀ p ∈ S'.core, p ∈ led') (h2 : ∀ p ∈ offs S.adrs led, p ∈ led') : ASt w kw b S₀ led' S' nms' n fol' :=
  ⟨h1, ok, fun p hp => ⟨h2 p (mem_offs.mpr (a.keep p hp)), g.notin (a.keep p hp).2 (hb _ (a.keep p hp).1)⟩, a.grow.trans g hbb⟩
end Mine
end

-- text E1
section
open PySem PySem.W PyProof.Rows PySem.Calls PyProof.Rows.LCg
set_option maxRecDepth 100000
set_option maxHeartbeats 8000000
namespace Mine
/-- between two turns of read_row -/
structure RowAt (kk : Bool) (w : World) (pw kw : List (Addr × Obj)) (me dx : Addr) (b : Nat) (S₀ : AS) (n n₀ : Nat) (tA fA : Addr) (tv : List Value) (tk : Nat) (nms₀ : List Str) (fol₀ : Int → Int → Bool) (pre : List Part) (lA : Addr) (S : AS) (led : List (Addr × Obj)) : Prop where
  hkw : KW w pw kw me dx b S₀
  st : ASt w kw b S₀ led S (nms₀ ++ Part.namess pre) n (fun p q => fol₀ p q || Part.folX kk n₀ pre p q)
  tup : (tA, tupOf tv.toArray tk) ∈ kw
  fst : ∃ fs nf, (fA, listOf fs.toArray nf) ∈ led ∧ IntsAre fs (sel n (Part.firstX kk n₀ pre))
  lst : ∃ ls nl, (lA, listOf ls.toArray nl) ∈ led ∧ IntsAre ls (sel n (Part.lastX kk n₀ pre))
  fo : fA ∉ S.adrs
  lo : lA ∉ S.adrs
  fb : b ≤ fA
  lb : b ≤ lA
  ne : fA ≠ lA
def RowTurn (kk : Bool) (w : World) (pw kw : List (Addr × Obj)) (me dx : Addr) (b : Nat) (S₀ : AS) (n n₀ : Nat) (tA fA : Addr) (tv : List Value) (tk : Nat) (nms₀ : List Str) (fol₀ : Int → Int → Bool) (pre : List Part) (h₀ : Heap) (L : Addr) (it : Addr) (io : Obj) (s : Shared) (f : Flow) (s₂ : Shared) : Prop :=
  f = .next ∧ ∃ (h' : Heap) (tk' : Nat) (m' : Str → Option Value) (nx : List (Addr × Obj)) (lA : Addr) (S : AS), s₂ = { s with heap := h', toks := tk' } ∧ Fr h₀ L h' m' ∧ News h₀ L h' ((it, io) :: nx) ∧ (∀ p ∈ nx, p.1 ≠ it) ∧
    RowAt kk w pw kw me dx b S₀ n n₀ tA fA tv tk nms₀ fol₀ pre lA S nx ∧ m' (Str.ofString "is_nullable") = some (.bool (Part.nullX kk pre)) ∧ m' (Str.ofString "last") = some (.ref lA) ∧ m' (Str.ofString "first") = some (.ref fA) ∧ m' (Str.ofString "self") = some (.ref me)
section
variable {w : World} {A : Around} {E : Value → Shared → Prop} {s : Shared} {env : Env} {h₀ : Heap} {x : Str} {body : List Stmt} {Q : Flow → Shared → Prop}
theorem row_iter {kk : Bool} {pw kw news : List (Addr × Obj)} {me dx tA fA lA₀ : Addr} {b n n₀ tk : Nat} {S₀ S : AS} {tv : List Value} {nms₀ : List Str} {fol₀ : Int → Int → Bool} {ps : List Part} {m₀ : Str → Option Value}
    (hh : A.handled = none) (F : Fr h₀ env.locals s.heap m₀) (N : News h₀ env.locals s.heap news) (hx : x = Str.ofString "particle") (hps : PartsIn pw ps tv)
    (hm1 : m₀ (Str.ofString "is_nullable") = some (.bool kk)) (hm2 : m₀ (Str.ofString "last") = some (.ref lA₀)) (hm3 : m₀ (Str.ofString "first") = some (.ref fA)) (hm4 : m₀ (Str.ofString "self") = some (.ref me))
    (h0 : RowAt kk w pw kw me dx b S₀ n n₀ tA fA tv tk nms₀ fol₀ [] lA₀ S news)
    (turn : ∀ (pre : List Part) (c : Part) v (lA : Addr) (S : AS) nx h tk' it io (u : Str → Option Value), c ∈ ps → (∃ post, ps = pre ++ c :: post) → PartIn pw c v → RowAt kk w pw kw me dx b S₀ n n₀ tA fA tv tk nms₀ fol₀ pre lA S nx → (∀ p ∈ nx, p.1 ≠ it) → (∀ p ∈ kw, p.1 < it) →
      Fr h₀ env.locals h (fun y => if y = x then some v else if y = Str.ofString "is_nullable" then some (.bool (Part.nullX kk pre)) else if y = Str.ofString "last" then some (.ref lA) else if y = Str.ofString "first" then some (.ref fA) else if y = Str.ofString "self" then some (.ref me) else u y) → News h₀ env.locals h ((it, io) :: nx) →
      wpAny (model PySem.Challenge.rw_xw0200_01.row.prog w) A (execs body env) (RowTurn kk w pw kw me dx b S₀ n n₀ tA fA tv tk nms₀ fol₀ (pre ++ [c]) h₀ env.locals it io { s with heap := h, toks := tk' }) E { s with heap := h, toks := tk' })
    (done : ∀ (lA : Addr) (S : AS) nx h tk' (u : Str → Option Value), RowAt kk w pw kw me dx b S₀ n n₀ tA fA tv tk nms₀ fol₀ ps lA S nx →
      Fr h₀ env.locals h (fun y => if y = Str.ofString "is_nullable" then some (.bool (Part.nullX kk ps)) else if y = Str.ofString "last" then some (.ref lA) else if y = Str.ofString "first" then some (.ref fA) else if y = Str.ofString "self" then some (.ref me) else u y) → News h₀ env.locals h nx → Q .next { s with heap := h, toks := tk' }) :
    wpAny (model PySem.Challenge.rw_xw0200_01.row.prog w) A (pyIter (.ref tA)) (fun it s₂ => LoopAtV PySem.Challenge.rw_xw0200_01.row.prog w A h₀ env x body Q E it s₂) E s := by
  have fold : ∀ (m : Str → Option Value) (nu : Bool) (lA : Addr), m (Str.ofString "is_nullable") = some (.bool nu) → m (Str.ofString "last") = some (.ref lA) → m (Str.ofString "first") = some (.ref fA) → m (Str.ofString "self") = some (.ref me) →
      (fun y => if y = Str.ofString "is_nullable" then some (.bool nu) else if y = Str.ofString "last" then some (.ref lA) else if y = Str.ofString "first" then some (.ref fA) else if y = Str.ofString "self" then some (.ref me) else m y) = m := by
    intro m nu lA e1 e2 e3 e4
    funext y
    by_cases h1 : y = Str.ofString "is_nullable"
    · rw [if_pos h1, h1, e1]
    rw [if_neg h1]
    by_cases h2 : y = Str.ofString "last"
    · rw [if_pos h2, h2, e2]
    rw [if_neg h2]
    by_cases h3 : y = Str.ofString "first"
    · rw [if_pos h3, h3, e3]
    rw [if_neg h3]
    by_cases h4 : y = Str.ofString "self"
    · rw [if_pos h4, h4, e4]
    rw [if_neg h4]
  refine iter_tup (vs := tv) (k := tk) (fun i m nx => ∃ (lA : Addr) (S : AS), RowAt kk w pw kw me dx b S₀ n n₀ tA fA tv tk nms₀ fol₀ (ps.take i) lA S nx ∧ m (Str.ofString "is_nullable") = some (.bool (Part.nullX kk (ps.take i))) ∧ m (Str.ofString "last") = some (.ref lA) ∧ m (Str.ofString "first") = some (.ref fA) ∧ m (Str.ofString "self") = some (.ref me))
    hh F N ⟨lA₀, S, by simpa using h0, by rw [hm1]; cases kk <;> rfl, hm2, hm3, hm4⟩ (fun i m nx h => ?_) ?_ ?_
  · refine dig fun kG => ?_
    obtain ⟨lA, S, h, _⟩ := h
    refine kG ?_
    clear kG
    exact (h.st.keep _ h.tup).1
  · intro i v m₁ nx h tk' it io hv hP_1 hlt hoff F₁ N₁
    refine dig fun kG => ?_
    obtain ⟨lA, S, hR, e1, e2, e3, e4⟩ := hP_1
    obtain ⟨c, hc, hcv⟩ := PartsIn.get i hps hv
    have hst : ps.take (i + 1) = ps.take i ++ [c] := by rw [List.take_add_one, hc]; rfl
    have hpost : ∃ post, ps = ps.take i ++ c :: post := by
      refine ⟨ps.drop (i + 1), ?_⟩
      obtain ⟨hlt, e⟩ := List.getElem?_eq_some_iff.mp hc
      rw [← e, List.getElem_cons_drop, List.take_append_drop]
    rw [← fold m₁ _ _ e1 e2 e3 e4] at F₁
    refine kG ?_
    clear kG
    refine wpAny_mono (turn (ps.take i) c v lA S nx h tk' it io m₁ (List.mem_of_getElem? hc) hpost hcv hR hoff (fun p hp => hlt p ((h0.st.keep p hp).1)) F₁ N₁) ?_ fun _ _ e => e
    intro f s₂ hP_2
    refine dig fun kG => ?_
    obtain ⟨rfl, h', tk₂, m', nx', lA', S', rfl, F', N', hn', hR', e1', e2', e3', e4'⟩ := hP_2
    refine kG ?_
    clear kG
    exact ⟨h', tk₂, m', nx', rfl, F', N', hn', lA', S', hst ▸ hR', hst ▸ e1', e2', e3', e4'⟩
  · intro m₁ nx h tk' hP_3 F₁ N₁
    refine dig fun kG => ?_
    obtain ⟨lA, S, hR, e1, e2, e3, e4⟩ := hP_3
    rw [hps.length, List.take_length] at hR e1
    rw [← fold m₁ _ _ e1 e2 e3 e4] at F₁
    refine kG ?_
    clear kG
    exact done lA S nx h tk' m₁ hR F₁ N₁
end
end Mine
end

-- text E3
section
open PySem PySem.W PyProof.Rows PySem.Calls PyProof.Rows.LCg
set_option maxRecDepth 100000
set_option maxHeartbeats 8000000
namespace Mine
namespace Part
theorem sizes_append : ∀ a b : List Part, sizes (a ++ b) = sizes a + sizes b
  | [], b => by simp [sizes]
  | p :: r, b => by simp [sizes, sizes_append r b, Nat.add_assoc]
end Part
theorem row_end {kk : Bool} {w : World} {pw kw led : List (Addr × Obj)} {me dx tA fA lA lA' it : Addr} {io : Obj} {b n n₀ tk nf nl : Nat} {S₀ S S' : AS} {tv fs ls : List Value} {nms₀ nms' : List Str} {fol₀ fol' : Int → Int → Bool} {pre : List Part} {c : Part} {nx : List (Addr × Obj)} {h₀ h' : Heap} {L : Addr} {m' : Str → Option Value} {s : Shared} {tk' : Nat} {f l : Int → Bool} {nu : Bool}
    (hR : RowAt kk w pw kw me dx b S₀ n n₀ tA fA tv tk nms₀ fol₀ pre lA S nx) (st : ASt w kw b S₀ led S' nms' n fol') (en : nms' = nms₀ ++ Part.namess (pre ++ [c])) (ef : ∀ p q, fol' p q = (fol₀ p q || Part.folX kk n₀ (pre ++ [c]) p q))
    (hf : (fA, listOf fs.toArray nf) ∈ led) (hfs : IntsAre fs (sel n f)) (ef' : ∀ z, f z = Part.firstX kk n₀ (pre ++ [c]) z) (hl : (lA', listOf ls.toArray nl) ∈ led) (hls : IntsAre ls (sel n l)) (el' : ∀ z, l z = Part.lastX kk n₀ (pre ++ [c]) z)
    (fo : fA ∉ S'.adrs) (lo : lA' ∉ S'.adrs) (lb : b ≤ lA') (ne : fA ≠ lA') (hit : (it, io) ∈ led) (ito : it ∉ S'.adrs) (itf : fA ≠ it) (itl : lA' ≠ it) (hlt : ∀ p ∈ kw, p.1 < it) (enu : nu = Part.nullX kk (pre ++ [c]))
    (F' : Fr h₀ L h' m') (N' : News h₀ L h' led) (e1 : m' (Str.ofString "is_nullable") = some (.bool nu)) (e2 : m' (Str.ofString "last") = some (.ref lA')) (e3 : m' (Str.ofString "first") = some (.ref fA)) (e4 : m' (Str.ofString "self") = some (.ref me)) :
    RowTurn kk w pw kw me dx b S₀ n n₀ tA fA tv tk nms₀ fol₀ (pre ++ [c]) h₀ L it io s .next { s with heap := h', toks := tk' } := by
  have hof : ∀ p ∈ led, p.1 ∉ [it] → p ∈ offs [it] led := fun p hp hn => mem_offs.mpr ⟨hp, hn⟩
  refine ⟨rfl, h', tk', m', offs [it] led, lA', S', rfl, F', nw_sub N' fun p hp => ?_, fun p hp e => (mem_offs.mp hp).2 (by rw [e]; exact .head _), ?_, enu ▸ e1, e2, e3, e4⟩
  · rcases List.mem_cons.mp hp with rfl | hp
    · exact hit
    · exact (mem_offs.mp hp).1
  · have st' := st.off hof (fun z hz => by rw [List.mem_singleton.mp hz]; exact ito) (fun z hz p hp => by rw [List.mem_singleton.mp hz]; exact Nat.ne_of_lt (hlt p hp))
    refine ⟨hR.hkw, ⟨st'.core, ?_, st'.keep, st'.grow⟩, hR.tup, ⟨fs, nf, hof _ hf (fun h => itf (List.mem_singleton.mp h)), ?_⟩, ⟨ls, nl, hof _ hl (fun h => itl (List.mem_singleton.mp h)), ?_⟩, fo, lo, hR.fb, lb, ne⟩
    · exact en ▸ st'.ok.congr ef
    · have : f = Part.firstX kk n₀ (pre ++ [c]) := funext ef'
      exact this ▸ hfs
    · have : l = Part.lastX kk n₀ (pre ++ [c]) := funext el'
      exact this ▸ hls
end Mine
end

-- text E2
section
open PySem PySem.W PyProof.Rows PySem.Calls PyProof.Rows.LCg
set_option maxRecDepth 100000
set_option maxHeartbeats 8000000
namespace Mine
local macro_rules | `(tactic| k_mem) => `(tactic| assumption)
local macro_rules | `(tactic| walk_at "call ref") => `(tactic| (k_here; (with_reducible show wpAny _ _ (call (Value.ref _) _ _) _ _ _); refine Hold.mk ?_))
local macro_rules | `(tactic| walk_at "pyIter ref") => `(tactic| (k_here; refine Hold.mk ?_))
local macro_rules | `(tactic| walk_at "exec For") => `(tactic| (k_here; (rename Fr _ _ _ _ => lF'); (with_unfolding_all refine' For_invVF lF' rfl rfl ?_; k_whole)))
theorem row_walk (w : World) {loose : List Str} {mean : ExcName → Option Value} {mg mb : Str → Option Value}
  {dp un : Nat} {gd : Option (List Code)} {cn : Str} {cs : Scope} {a : Addr} {ccd : Value} {cl : List (Str × Addr)} {outer : List Env} {A₀ : Around} {base h₀ : Heap} {L : Addr} {m : Str → Option Value} {s : Shared} {Q E : Value → Shared → Prop}
  {self dx tA : Addr} {S : AS} {nms : List Str} {fol : Int → Int → Bool} {n kt H : Nat} {news pw : List (Addr × Obj)} {ps : List Part} {tv : List Value}
  (B : Below A₀ base outer h₀) (F : Fr h₀ L s.heap m) (X : (hd.heap_39 w.params).In h₀) (N : News h₀ L s.heap news) (hK : KeepOk pw news S.adrs) (hsA₀ : SelfAt w news self dx S) (hS : ∀ p ∈ S.core, p ∈ news) (hOk : S.Ok w nms n fol) (htup : (tA, tupOf tv.toArray kt) ∈ pw) (hps : PartsIn pw ps tv)
  (IH : ∀ c ∈ ps, ReadSpec w pw self dx n c) (hsz : nms.length + Part.sizes ps ≤ n) (hn : n ≤ 30) (hH : ∀ c ∈ ps, c.height ≤ H)
  (T : Top hd.view_39 loose mean mg mb h₀) (hk : cs.kind = .function) (hdp : dp + (100 * H + 50) < recursionLimit) (hu : un + (600 * H + 300) < cLine)
  (hret : ∀ (b fA lA rA : Addr) (fs ls : List Value) (nf nl : Nat) (S' : AS) h' tk' led, (∀ p ∈ news, p.1 < b) → Fr h₀ L h' m → News h₀ L h' ((rA, tupOf #[.bool (Part.allNull ps), .ref fA, .ref lA] 0) :: led) → ASt w (offs S.adrs news) b S led S' (nms ++ Part.namess ps) n (fun p q => fol p q || Part.folS nms.length ps p q) →
    (fA, listOf fs.toArray nf) ∈ led → IntsAre fs (sel n (Part.firstS nms.length ps)) → (lA, listOf ls.toArray nl) ∈ led → IntsAre ls (sel n (Part.lastS nms.length ps)) → fA ∉ S'.adrs → lA ∉ S'.adrs → b ≤ fA → b ≤ lA → (∀ p ∈ led, p.1 < rA) → Q (.ref rA) { s with heap := h', toks := tk' }) :
  wpAny (model PySem.Challenge.rw_xw0200_01.row.prog w) (ktrTop dp un gd cn cs L a ccd cl outer) (call (.ref 54) [.ref self, .ref tA]) Q E s := by
  w_top off
  revert X; k_fill; intro X
  refine wpAny_call ?_
  k_dflt cell_enter
  k_steps
  rename_i fA hA ltF lA hB ltL D hC ltD y1 y2 y3 y4 F₁ N₁
  refine dig fun kG => ?_
  refine gen_eq (offs S.adrs news) fun kw hkwd => ?_
  rw [← hkwd] at hret
  have hkws : ∀ p ∈ kw, p ∈ news ∧ p.1 ∉ S.adrs := fun p hp => by rw [hkwd] at hp; exact mem_offs.mp hp
  have hkw : KW w pw kw self dx fA S := by
    obtain ⟨g1, g2, t1, t2, kd, h1, h2⟩ := hsA₀.has
    exact ⟨⟨g1, g2, t1, t2, kd, by rw [hkwd]; exact mem_offs.mpr ⟨h1, hsA₀.me_off⟩, by rw [hkwd]; exact mem_offs.mpr ⟨h2, hsA₀.dx_off⟩⟩, fun p hp => by rw [hkwd]; exact mem_offs.mpr (hK p hp), fun p hp => ltF p (hkws p hp).1⟩
  have hst : ASt w kw fA S news S nms n fol := ⟨hS, hOk, hkws, Grow.refl _ _⟩
  have h0 : RowAt true w pw kw self dx fA S n nms.length tA fA tv kt nms fol [] lA S ((D, tupOf #[.bool true, .ref fA, .ref lA] 0) :: (lA, listOf #[] 0) :: (fA, listOf #[] 0) :: news) := by
    have st := hst.sub (led' := (D, tupOf #[.bool true, .ref fA, .ref lA] 0) :: (lA, listOf #[] 0) :: (fA, listOf #[] 0) :: news) fun p hp => .tail _ (.tail _ (.tail _ hp))
    have e1 : Part.firstX true nms.length [] = fun _ => false := funext fun z => by simp only [Part.firstX, Part.firstS]
    have e2 : Part.lastX true nms.length [] = fun _ => false := funext fun z => by simp only [Part.lastX, Part.lastS]
    refine ⟨hkw, ⟨st.core, ?_, st.keep, st.grow⟩, hkw.pws _ htup, ⟨[], 0, .tail _ (.tail _ (.head _)), ?_⟩, ⟨[], 0, .tail _ (.head _), ?_⟩, fun h => ?_, fun h => ?_, Nat.le_refl _, Nat.le_of_lt ltL.1, Nat.ne_of_lt ltL.1⟩
    · have e3 : nms ++ Part.namess [] = nms := by simp [Part.namess]
      rw [e3]
      exact st.ok.congr fun p q => by simp [Part.folX, Part.folS]
    · rw [e1, sel_false]; exact .nil
    · rw [e2, sel_false]; exact .nil
    · exact Nat.lt_irrefl _ (hst.adrs_lt ltF _ h)
    · exact Nat.lt_irrefl _ (hst.adrs_lt (ktn_ltOf ltL.2) _ h)
  refine kG ?_
  clear kG
  refine Hold.out ?_
  refine row_iter (kk := true) (by rfl) F₁ N₁ rfl hps (by rfl) (by rfl) (by rfl) (by rfl) h0 ?_ ?_
  · intro pre c v lA' S' nx h tk' it io u hc hpost hcv hR hoff hlt F' N'
    clear N F₁ N₁ h0 ltD ltL hret
    refine dig fun kG => ?_
    obtain ⟨post, hpost⟩ := hpost
    have hszc : (nms ++ Part.namess pre).length + c.size ≤ n := by
      rw [List.length_append, Part.namess_length]
      rw [hpost, Part.sizes_append] at hsz
      simp only [Part.sizes] at hsz
      omega
    have hcH := hH c hc
    have hsA := hR.hkw.selfAt hR.st
    obtain ⟨g1, g2, t1, t2, kd, ms, md⟩ := hsA.has
    obtain ⟨fs₀, nf₀, mf, hfs₀⟩ := hR.fst
    obtain ⟨ls₀, nl₀, ml, hls₀⟩ := hR.lst
    have st₀ := hR.st.sub (led' := (it, io) :: nx) fun p hp => .tail _ hp
    have itoff : it ∉ S'.adrs := fun h => by
      rw [← AS.core_adrs] at h
      obtain ⟨p, hp, e⟩ := List.mem_map.mp h
      exact hoff p (hR.st.core p hp) e
    have itf : fA ≠ it := hoff _ mf
    have itl : lA' ≠ it := hoff _ ml
    refine kG ?_
    clear kG
    k_steps
    refine Hold.out ?_
    have C := IH c hc ((it, io) :: nx) v S' _ _ hcv (hR.hkw.keepPw st₀) (hR.hkw.selfAt st₀) st₀.core st₀.ok hszc hn
    refine' CallSpec.use C ?kB F' ?kX N' ?kT ?kk ?kd ?ku ?_
    case kB => k_asm
    case kX => k_asm
    case kT => k_asm
    case kk => exact rfl
    case kd => first | exact room2 hdp (by decide) | exact room2s hdp (by decide) | exact room2h hdp (by assumption) (by decide) | exact room2hs hdp (by assumption) (by decide) | exact room2c hdp (by decide) | exact room1 hdp (by decide) | exact room1c hdp (by decide) | ktr_room
    case ku => first | exact room2 hu (by decide) | exact room2s hu (by decide) | exact room2h hu (by assumption) (by decide) | exact room2hs hu (by assumption) (by decide) | exact room2c hu (by decide) | exact room1 hu (by decide) | exact room1c hu (by decide) | ktr_units
    intro b₁ r h₄ tk₄ news₄ lt₁ F₄ N₄ hp
    refine dig fun kG => ?_
    obtain ⟨D1, D2, D3, c1, c2, fs, ls, S₁, rfl, hb1, h12, h23, hg, had, hfs, hls, hok, rfl⟩ := hp
    refine gen_eq (S₁.core ++ offs S'.adrs ((it, io) :: nx)) fun nw₁ hnw₁ => ?_
    rw [← hnw₁] at N₄
    have hbb : fA ≤ b₁ := Nat.le_trans hR.fb (Nat.le_of_lt (lt₁ _ (.tail _ mf)))
    have st₁ : ASt w kw fA S nw₁ S₁ _ n _ := st₀.read hg lt₁ hbb hok (fun p hp => by rw [hnw₁]; exact List.mem_append_left _ hp) (fun p hp => by rw [hnw₁]; exact List.mem_append_right _ hp)
    have tr₁ : ∀ p ∈ (it, io) :: nx, p.1 ∉ S'.adrs → p ∈ nw₁ := fun p hp hn => by rw [hnw₁]; exact List.mem_append_right _ (mem_offs.mpr ⟨hp, hn⟩)
    have mf₁ := tr₁ _ (.tail _ mf) hR.fo
    have ml₁ := tr₁ _ (.tail _ ml) hR.lo
    have mi₁ := tr₁ _ (.head _) itoff
    have of₁ : fA ∉ S₁.adrs := hg.notin hR.fo (lt₁ _ (.tail _ mf))
    have ol₁ : lA' ∉ S₁.adrs := hg.notin hR.lo (lt₁ _ (.tail _ ml))
    have oi₁ : it ∉ S₁.adrs := hg.notin itoff (lt₁ _ (.head _))
    have hfD : fA < D1 := Nat.lt_of_lt_of_le (lt₁ _ (.tail _ mf)) hb1
    have hlD : lA' < D1 := Nat.lt_of_lt_of_le (lt₁ _ (.tail _ ml)) hb1
    have hiD : it < D1 := Nat.lt_of_lt_of_le (lt₁ _ (.head _)) hb1
    have oD1 : D1 ∉ S₁.adrs := fun h => Nat.lt_irrefl _ (had _ h)
    have oD2 : D2 ∉ S₁.adrs := fun h => Nat.lt_asymm h12 (had _ h)
    have hsA₁ := hR.hkw.selfAt st₁
    obtain ⟨g1', g2', t1', t2', kd', ms₁, md₁⟩ := hsA₁.has
    clear hsA ms md
    refine kG ?_
    clear kG
    k_steps
    rename_i F₅ N₅
    refine Hold.out ?_
    refine dig fun kG => ?_
    refine gen_eq ((D3, tupOf #[.bool c.null, .ref D1, .ref D2] 0) :: (D2, listOf ls.toArray c2) :: (D1, listOf fs.toArray c1) :: nw₁) fun led₂ hled₂ => ?_
    rw [← hled₂] at N₅
    have up₂ : ∀ p ∈ nw₁, p ∈ led₂ := fun p hp => by rw [hled₂]; exact .tail _ (.tail _ (.tail _ hp))
    have st₁' := st₁.sub up₂
    have mD1 : (D1, listOf fs.toArray c1) ∈ led₂ := by rw [hled₂]; exact .tail _ (.tail _ (.head _))
    have mD2 : (D2, listOf ls.toArray c2) ∈ led₂ := by rw [hled₂]; exact .tail _ (.head _)
    have hel : ∀ z, Part.lastS nms.length pre z = true → z ≤ ((nms ++ Part.namess pre ++ c.names).length : Nat) := by
      intro z hz
      have h1 := (Part.lastS_bd _ _ _ hz).2
      rw [List.length_append, List.length_append, Part.namess_length]
      omega
    have C2 := join_c (hR.hkw.selfAt st₁') (up₂ _ ml₁) ol₁ hls₀ hel mD1 oD1 hfs st₁'.core st₁'.ok hn
    refine kG ?_
    clear kG
    refine' CallSpec.use C2 ?kB ?kF ?kX ?kN ?kT ?kk ?kd ?ku ?_
    case kB => k_asm
    case kF => k_asm
    case kX => k_asm
    case kN => k_asm
    case kT => k_asm
    case kk => exact rfl
    case kd => first | exact room2 hdp (by decide) | exact room2s hdp (by decide) | exact room2h hdp (by assumption) (by decide) | exact room2hs hdp (by assumption) (by decide) | exact room2c hdp (by decide) | exact room1 hdp (by decide) | exact room1c hdp (by decide) | ktr_room
    case ku => first | exact room2 hu (by decide) | exact room2s hu (by decide) | exact room2h hu (by assumption) (by decide) | exact room2hs hu (by assumption) (by decide) | exact room2c hu (by decide) | exact room1 hu (by decide) | exact room1c hu (by decide) | ktr_units
    intro b₂ r h₆ tk₆ news₆ lt₂ F₆ N₆ hp
    refine dig fun kG => ?_
    obtain ⟨rfl, S₂, ha₂, ok₂, rfl⟩ := hp
    refine gen_eq (S₂.core ++ offs S₁.adrs led₂) fun nw₂ hnw₂ => ?_
    rw [← hnw₂] at N₆
    have tr₂ : ∀ p ∈ led₂, p.1 ∉ S₁.adrs → p ∈ nw₂ := fun p hp hn => by rw [hnw₂]; exact List.mem_append_right _ (mem_offs.mpr ⟨hp, hn⟩)
    have st₂ : ASt w kw fA S nw₂ S₂ _ n _ := st₁'.read (Grow.of_adrs (b := b₂) ha₂) lt₂ (Nat.le_of_lt (lt₂ _ (up₂ _ mf₁))) ok₂ (fun p hp => by rw [hnw₂]; exact List.mem_append_left _ hp) (fun p hp => by rw [hnw₂]; exact List.mem_append_right _ hp)
    have mf₂ := tr₂ _ (up₂ _ mf₁) of₁
    have ml₂ := tr₂ _ (up₂ _ ml₁) ol₁
    have mi₂ := tr₂ _ (up₂ _ mi₁) oi₁
    have mD1₂ := tr₂ _ mD1 oD1
    have mD2₂ := tr₂ _ mD2 oD2
    rw [← ha₂] at of₁ ol₁ oi₁ oD1 oD2
    clear F₅ N₅ C C2 st₁' hnw₂ tr₂ tr₁ st₁ mD1 mD2 mf₁ ml₁ mi₁ ms₁ md₁ hsA₁
    have hn' : (nms ++ Part.namess pre).length = nms.length + Part.sizes pre := by rw [List.length_append, Part.namess_length]
    have hkf : ∀ p ∈ kw, p.1 < fA := hkw.lt
    have hkl : ∀ p ∈ kw, p.1 < lA' := fun p hp => Nat.lt_of_lt_of_le (hkf p hp) hR.lb
    refine kG ?_
    clear kG
    rcases hnu : Part.nullX true pre <;> rcases hcb : c.null <;> rw [hnu, hcb] at F₆
    · k_steps
      rename_i lN hN1 ltN hN2 F₇ N₇
      have oN : lN ∉ S₂.adrs := fun h => Nat.lt_irrefl _ (st₂.adrs_lt ltN _ h)
      have hnil : IntsAre [] (sel n fun _ => false) := by rw [sel_false]; exact .nil
      have st₇ := st₂.sub (led' := (lN, listOf #[] 0) :: nw₂) fun p hp => .tail _ hp
      refine Hold.out ?_
      have C4 := addAll_c (w := w) (n := n) (vs := []) (n1 := 0) (.head _) (.tail _ mD2₂) (Nat.ne_of_gt (ltN _ mD2₂)) hnil hls hn
      refine' CallSpec.use C4 ?kB ?kF ?kX ?kN ?kT ?kk ?kd ?ku ?_
      case kB => k_asm
      case kF => k_asm
      case kX => k_asm
      case kN => k_asm
      case kT => k_asm
      case kk => exact rfl
      case kd => first | exact room2 hdp (by decide) | exact room2s hdp (by decide) | exact room2h hdp (by assumption) (by decide) | exact room2hs hdp (by assumption) (by decide) | exact room2c hdp (by decide) | exact room1 hdp (by decide) | exact room1c hdp (by decide) | ktr_room
      case ku => first | exact room2 hu (by decide) | exact room2s hu (by decide) | exact room2h hu (by assumption) (by decide) | exact room2hs hu (by assumption) (by decide) | exact room2c hu (by decide) | exact room1 hu (by decide) | exact room1c hu (by decide) | ktr_units
      intro _ r h4 tk4 news4 lt4 F4 N4 hp
      refine dig fun kG => ?_
      obtain ⟨rfl, vs4, k4, hvs4, rfl⟩ := hp
      have tr4 : ∀ p ∈ (lN, listOf #[] 0) :: nw₂, p.1 ∉ [lN] → p ∈ (lN, listOf vs4.toArray k4) :: offs [lN] ((lN, listOf #[] 0) :: nw₂) := fun p hp hn => .tail _ (mem_offs.mpr ⟨hp, hn⟩)
      have st4 := st₇.off (W := [lN]) tr4 (fun z hz => by rw [List.mem_singleton.mp hz]; exact oN) (fun z hz p hp => by rw [List.mem_singleton.mp hz]; exact Nat.ne_of_lt (ltN p (st₂.keep p hp).1))
      refine kG ?_
      clear kG
      k_steps
      exact row_end (nu := false) hR st4 (by rw [Part.namess_snoc, List.append_assoc]) (fun p q => by simp only [hn', Part.folX, Part.lastX, Part.folS_snoc]; generalize fol p q = a1; generalize Part.folS nms.length pre p q = a2; generalize Part.fol (nms.length + Part.sizes pre) c p q = a3; generalize Part.lastS nms.length pre p = a4; generalize Part.first (nms.length + Part.sizes pre) c q = a5; cases a1 <;> cases a2 <;> cases a3 <;> cases a4 <;> cases a5 <;> rfl) (tr4 _ (.tail _ mf₂) (fun h => (Nat.ne_of_lt (ltN _ mf₂)) (List.mem_singleton.mp h))) hfs₀ (fun z => by simp only [Part.nullX] at hnu; simp only [hn', Part.firstX, Part.firstS_snoc, hnu, Bool.true_and, Bool.false_and, Bool.or_false]) (.head _) hvs4 (fun z => by simp only [hn', Part.lastX, Part.lastS_snoc, hcb, Bool.and_true, Bool.and_false, Bool.false_or]) of₁ oN (Nat.le_of_lt (ltN _ mf₂)) (Nat.ne_of_lt (ltN _ mf₂)) (tr4 _ (.tail _ mi₂) (fun h => (Nat.ne_of_lt (ltN _ mi₂)) (List.mem_singleton.mp h))) oi₁ itf (Nat.ne_of_gt (ltN _ mi₂)) hlt (by simp only [Part.nullX] at hnu; simp only [Part.nullX, Part.allNull_snoc, hnu, hcb]; rfl) (by k_asm) (by k_asm) (by rfl) (by rfl) (by rfl) (by rfl)
    · k_steps
      refine Hold.out ?_
      have C4 := addAll_c (w := w) (n := n) ml₂ mD2₂ (Nat.ne_of_lt (Nat.lt_trans hlD h12)) hls₀ hls hn
      refine' CallSpec.use C4 ?kB ?kF ?kX ?kN ?kT ?kk ?kd ?ku ?_
      case kB => k_asm
      case kF => k_asm
      case kX => k_asm
      case kN => k_asm
      case kT => k_asm
      case kk => exact rfl
      case kd => first | exact room2 hdp (by decide) | exact room2s hdp (by decide) | exact room2h hdp (by assumption) (by decide) | exact room2hs hdp (by assumption) (by decide) | exact room2c hdp (by decide) | exact room1 hdp (by decide) | exact room1c hdp (by decide) | ktr_room
      case ku => first | exact room2 hu (by decide) | exact room2s hu (by decide) | exact room2h hu (by assumption) (by decide) | exact room2hs hu (by assumption) (by decide) | exact room2c hu (by decide) | exact room1 hu (by decide) | exact room1c hu (by decide) | ktr_units
      intro _ r h4 tk4 news4 lt4 F4 N4 hp
      refine dig fun kG => ?_
      obtain ⟨rfl, vs4, k4, hvs4, rfl⟩ := hp
      have tr4 : ∀ p ∈ nw₂, p.1 ∉ [lA'] → p ∈ (lA', listOf vs4.toArray k4) :: offs [lA'] (nw₂) := fun p hp hn => .tail _ (mem_offs.mpr ⟨hp, hn⟩)
      have st4 := st₂.off (W := [lA']) tr4 (fun z hz => by rw [List.mem_singleton.mp hz]; exact ol₁) (fun z hz p hp => by rw [List.mem_singleton.mp hz]; exact Nat.ne_of_lt (hkl p hp))
      refine kG ?_
      clear kG
      k_steps
      exact row_end (nu := false) hR st4 (by rw [Part.namess_snoc, List.append_assoc]) (fun p q => by simp only [hn', Part.folX, Part.lastX, Part.folS_snoc]; generalize fol p q = a1; generalize Part.folS nms.length pre p q = a2; generalize Part.fol (nms.length + Part.sizes pre) c p q = a3; generalize Part.lastS nms.length pre p = a4; generalize Part.first (nms.length + Part.sizes pre) c q = a5; cases a1 <;> cases a2 <;> cases a3 <;> cases a4 <;> cases a5 <;> rfl) (tr4 _ mf₂ (fun h => hR.ne (List.mem_singleton.mp h))) hfs₀ (fun z => by simp only [Part.nullX] at hnu; simp only [hn', Part.firstX, Part.firstS_snoc, hnu, Bool.true_and, Bool.false_and, Bool.or_false]) (.head _) hvs4 (fun z => by simp only [hn', Part.lastX, Part.lastS_snoc, hcb, Bool.and_true, Bool.and_false, Bool.false_or]) of₁ ol₁ hR.lb hR.ne (tr4 _ mi₂ (fun h => itl.symm (List.mem_singleton.mp h))) oi₁ itf itl hlt (by simp only [Part.nullX] at hnu; simp only [Part.nullX, Part.allNull_snoc, hnu, hcb]; rfl) (by k_asm) (by k_asm) (by rfl) (by rfl) (by rfl) (by rfl)
    · k_steps
      refine Hold.out ?_
      have C3 := addAll_c (w := w) (n := n) mf₂ mD1₂ (Nat.ne_of_lt hfD) hfs₀ hfs hn
      refine' CallSpec.use C3 ?kB ?kF ?kX ?kN ?kT ?kk ?kd ?ku ?_
      case kB => k_asm
      case kF => k_asm
      case kX => k_asm
      case kN => k_asm
      case kT => k_asm
      case kk => exact rfl
      case kd => first | exact room2 hdp (by decide) | exact room2s hdp (by decide) | exact room2h hdp (by assumption) (by decide) | exact room2hs hdp (by assumption) (by decide) | exact room2c hdp (by decide) | exact room1 hdp (by decide) | exact room1c hdp (by decide) | ktr_room
      case ku => first | exact room2 hu (by decide) | exact room2s hu (by decide) | exact room2h hu (by assumption) (by decide) | exact room2hs hu (by assumption) (by decide) | exact room2c hu (by decide) | exact room1 hu (by decide) | exact room1c hu (by decide) | ktr_units
      intro _ r h3 tk3 news3 lt3 F3 N3 hp
      refine dig fun kG => ?_
      obtain ⟨rfl, vs3, k3, hvs3, rfl⟩ := hp
      have tr3 : ∀ p ∈ nw₂, p.1 ∉ [fA] → p ∈ (fA, listOf vs3.toArray k3) :: offs [fA] (nw₂) := fun p hp hn => .tail _ (mem_offs.mpr ⟨hp, hn⟩)
      have st3 := st₂.off (W := [fA]) tr3 (fun z hz => by rw [List.mem_singleton.mp hz]; exact of₁) (fun z hz p hp => by rw [List.mem_singleton.mp hz]; exact Nat.ne_of_lt (hkf p hp))
      refine gen_eq ((fA, listOf vs3.toArray k3) :: offs [fA] nw₂) fun nw₃ hnw₃ => ?_
      rw [← hnw₃] at N3 tr3 st3
      have mf₃ : (fA, listOf vs3.toArray k3) ∈ nw₃ := by rw [hnw₃]; exact .head _
      have ml₃ := tr3 _ ml₂ (fun h => hR.ne.symm (List.mem_singleton.mp h))
      have mi₃ := tr3 _ mi₂ (fun h => itf.symm (List.mem_singleton.mp h))
      have mD2₃ := tr3 _ mD2₂ (fun h => (Nat.ne_of_gt (Nat.lt_trans hfD h12)) (List.mem_singleton.mp h))
      clear N₆ F₆
      refine kG ?_
      clear kG
      k_steps
      rename_i lN hN1 ltN hN2 F₇ N₇
      have oN : lN ∉ S₂.adrs := fun h => Nat.lt_irrefl _ (st3.adrs_lt ltN _ h)
      have hnil : IntsAre [] (sel n fun _ => false) := by rw [sel_false]; exact .nil
      have st₇ := st3.sub (led' := (lN, listOf #[] 0) :: nw₃) fun p hp => .tail _ hp
      refine Hold.out ?_
      have C4 := addAll_c (w := w) (n := n) (vs := []) (n1 := 0) (.head _) (.tail _ mD2₃) (Nat.ne_of_gt (ltN _ mD2₃)) hnil hls hn
      refine' CallSpec.use C4 ?kB ?kF ?kX ?kN ?kT ?kk ?kd ?ku ?_
      case kB => k_asm
      case kF => k_asm
      case kX => k_asm
      case kN => k_asm
      case kT => k_asm
      case kk => exact rfl
      case kd => first | exact room2 hdp (by decide) | exact room2s hdp (by decide) | exact room2h hdp (by assumption) (by decide) | exact room2hs hdp (by assumption) (by decide) | exact room2c hdp (by decide) | exact room1 hdp (by decide) | exact room1c hdp (by decide) | ktr_room
      case ku => first | exact room2 hu (by decide) | exact room2s hu (by decide) | exact room2h hu (by assumption) (by decide) | exact room2hs hu (by assumption) (by decide) | exact room2c hu (by decide) | exact room1 hu (by decide) | exact room1c hu (by decide) | ktr_units
      intro _ r h4 tk4 news4 lt4 F4 N4 hp
      refine dig fun kG => ?_
      obtain ⟨rfl, vs4, k4, hvs4, rfl⟩ := hp
      have tr4 : ∀ p ∈ (lN, listOf #[] 0) :: nw₃, p.1 ∉ [lN] → p ∈ (lN, listOf vs4.toArray k4) :: offs [lN] ((lN, listOf #[] 0) :: nw₃) := fun p hp hn => .tail _ (mem_offs.mpr ⟨hp, hn⟩)
      have st4 := st₇.off (W := [lN]) tr4 (fun z hz => by rw [List.mem_singleton.mp hz]; exact oN) (fun z hz p hp => by rw [List.mem_singleton.mp hz]; exact Nat.ne_of_lt (ltN p (st3.keep p hp).1))
      refine kG ?_
      clear kG
      k_steps
      exact row_end (nu := false) hR st4 (by rw [Part.namess_snoc, List.append_assoc]) (fun p q => by simp only [hn', Part.folX, Part.lastX, Part.folS_snoc]; generalize fol p q = a1; generalize Part.folS nms.length pre p q = a2; generalize Part.fol (nms.length + Part.sizes pre) c p q = a3; generalize Part.lastS nms.length pre p = a4; generalize Part.first (nms.length + Part.sizes pre) c q = a5; cases a1 <;> cases a2 <;> cases a3 <;> cases a4 <;> cases a5 <;> rfl) (tr4 _ (.tail _ mf₃) (fun h => (Nat.ne_of_lt (ltN _ mf₃)) (List.mem_singleton.mp h))) hvs3 (fun z => by simp only [Part.nullX] at hnu; simp only [hn', Part.firstX, Part.firstS_snoc, hnu, Bool.true_and, Bool.false_and, Bool.or_false]) (.head _) hvs4 (fun z => by simp only [hn', Part.lastX, Part.lastS_snoc, hcb, Bool.and_true, Bool.and_false, Bool.false_or]) of₁ oN (Nat.le_of_lt (ltN _ mf₃)) (Nat.ne_of_lt (ltN _ mf₃)) (tr4 _ (.tail _ mi₃) (fun h => (Nat.ne_of_lt (ltN _ mi₃)) (List.mem_singleton.mp h))) oi₁ itf (Nat.ne_of_gt (ltN _ mi₃)) hlt (by simp only [Part.nullX] at hnu; simp only [Part.nullX, Part.allNull_snoc, hnu, hcb]; rfl) (by k_asm) (by k_asm) (by rfl) (by rfl) (by rfl) (by rfl)
    · k_steps
      refine Hold.out ?_
      have C3 := addAll_c (w := w) (n := n) mf₂ mD1₂ (Nat.ne_of_lt hfD) hfs₀ hfs hn
      refine' CallSpec.use C3 ?kB ?kF ?kX ?kN ?kT ?kk ?kd ?ku ?_
      case kB => k_asm
      case kF => k_asm
      case kX => k_asm
      case kN => k_asm
      case kT => k_asm
      case kk => exact rfl
      case kd => first | exact room2 hdp (by decide) | exact room2s hdp (by decide) | exact room2h hdp (by assumption) (by decide) | exact room2hs hdp (by assumption) (by decide) | exact room2c hdp (by decide) | exact room1 hdp (by decide) | exact room1c hdp (by decide) | ktr_room
      case ku => first | exact room2 hu (by decide) | exact room2s hu (by decide) | exact room2h hu (by assumption) (by decide) | exact room2hs hu (by assumption) (by decide) | exact room2c hu (by decide) | exact room1 hu (by decide) | exact room1c hu (by decide) | ktr_units
      intro _ r h3 tk3 news3 lt3 F3 N3 hp
      refine dig fun kG => ?_
      obtain ⟨rfl, vs3, k3, hvs3, rfl⟩ := hp
      have tr3 : ∀ p ∈ nw₂, p.1 ∉ [fA] → p ∈ (fA, listOf vs3.toArray k3) :: offs [fA] (nw₂) := fun p hp hn => .tail _ (mem_offs.mpr ⟨hp, hn⟩)
      have st3 := st₂.off (W := [fA]) tr3 (fun z hz => by rw [List.mem_singleton.mp hz]; exact of₁) (fun z hz p hp => by rw [List.mem_singleton.mp hz]; exact Nat.ne_of_lt (hkf p hp))
      refine gen_eq ((fA, listOf vs3.toArray k3) :: offs [fA] nw₂) fun nw₃ hnw₃ => ?_
      rw [← hnw₃] at N3 tr3 st3
      have mf₃ : (fA, listOf vs3.toArray k3) ∈ nw₃ := by rw [hnw₃]; exact .head _
      have ml₃ := tr3 _ ml₂ (fun h => hR.ne.symm (List.mem_singleton.mp h))
      have mi₃ := tr3 _ mi₂ (fun h => itf.symm (List.mem_singleton.mp h))
      have mD2₃ := tr3 _ mD2₂ (fun h => (Nat.ne_of_gt (Nat.lt_trans hfD h12)) (List.mem_singleton.mp h))
      clear N₆ F₆
      refine kG ?_
      clear kG
      k_steps
      refine Hold.out ?_
      have C4 := addAll_c (w := w) (n := n) ml₃ mD2₃ (Nat.ne_of_lt (Nat.lt_trans hlD h12)) hls₀ hls hn
      refine' CallSpec.use C4 ?kB ?kF ?kX ?kN ?kT ?kk ?kd ?ku ?_
      case kB => k_asm
      case kF => k_asm
      case kX => k_asm
      case kN => k_asm
      case kT => k_asm
      case kk => exact rfl
      case kd => first | exact room2 hdp (by decide) | exact room2s hdp (by decide) | exact room2h hdp (by assumption) (by decide) | exact room2hs hdp (by assumption) (by decide) | exact room2c hdp (by decide) | exact room1 hdp (by decide) | exact room1c hdp (by decide) | ktr_room
      case ku => first | exact room2 hu (by decide) | exact room2s hu (by decide) | exact room2h hu (by assumption) (by decide) | exact room2hs hu (by assumption) (by decide) | exact room2c hu (by decide) | exact room1 hu (by decide) | exact room1c hu (by decide) | ktr_units
      intro _ r h4 tk4 news4 lt4 F4 N4 hp
      refine dig fun kG => ?_
      obtain ⟨rfl, vs4, k4, hvs4, rfl⟩ := hp
      have tr4 : ∀ p ∈ nw₃, p.1 ∉ [lA'] → p ∈ (lA', listOf vs4.toArray k4) :: offs [lA'] (nw₃) := fun p hp hn => .tail _ (mem_offs.mpr ⟨hp, hn⟩)
      have st4 := st3.off (W := [lA']) tr4 (fun z hz => by rw [List.mem_singleton.mp hz]; exact ol₁) (fun z hz p hp => by rw [List.mem_singleton.mp hz]; exact Nat.ne_of_lt (hkl p hp))
      refine kG ?_
      clear kG
      k_steps
      exact row_end (nu := true) hR st4 (by rw [Part.namess_snoc, List.append_assoc]) (fun p q => by simp only [hn', Part.folX, Part.lastX, Part.folS_snoc]; generalize fol p q = a1; generalize Part.folS nms.length pre p q = a2; generalize Part.fol (nms.length + Part.sizes pre) c p q = a3; generalize Part.lastS nms.length pre p = a4; generalize Part.first (nms.length + Part.sizes pre) c q = a5; cases a1 <;> cases a2 <;> cases a3 <;> cases a4 <;> cases a5 <;> rfl) (tr4 _ mf₃ (fun h => hR.ne (List.mem_singleton.mp h))) hvs3 (fun z => by simp only [Part.nullX] at hnu; simp only [hn', Part.firstX, Part.firstS_snoc, hnu, Bool.true_and, Bool.false_and, Bool.or_false]) (.head _) hvs4 (fun z => by simp only [hn', Part.lastX, Part.lastS_snoc, hcb, Bool.and_true, Bool.and_false, Bool.false_or]) of₁ ol₁ hR.lb hR.ne (tr4 _ mi₃ (fun h => itl.symm (List.mem_singleton.mp h))) oi₁ itf itl hlt (by simp only [Part.nullX] at hnu; simp only [Part.nullX, Part.allNull_snoc, hnu, hcb]; rfl) (by k_asm) (by k_asm) (by rfl) (by rfl) (by rfl) (by rfl)
  · intro lA' S' nx h tk' u hR F' N'
    clear N F₁ N₁ h0
    refine dig fun kG => ?_
    obtain ⟨fs₀, nf₀, mf, hfs₀⟩ := hR.fst
    obtain ⟨ls₀, nl₀, ml, hls₀⟩ := hR.lst
    refine kG ?_
    clear kG
    k_steps
    rename_i rA hr1 F₇ N₇ lr kF kN kT kX
    exact hret fA fA lA' rA fs₀ ls₀ nf₀ nl₀ S' _ _ nx ltF kF kN hR.st mf hfs₀ ml hls₀ hR.fo hR.lo (Nat.le_refl _) hR.lb lr
end Mine
end

-- text E4
section
open PySem PySem.W PyProof.Rows PySem.Calls PyProof.Rows.LCg
set_option maxRecDepth 100000
set_option maxHeartbeats 8000000
namespace Mine
local macro_rules | `(tactic| k_mem) => `(tactic| assumption)
local macro_rules | `(tactic| walk_at "call ref") => `(tactic| (k_here; (with_reducible show wpAny _ _ (call (Value.ref _) _ _) _ _ _); refine Hold.mk ?_))
local macro_rules | `(tactic| walk_at "pyIter ref") => `(tactic| (k_here; refine Hold.mk ?_))
local macro_rules | `(tactic| walk_at "exec For") => `(tactic| (k_here; (rename Fr _ _ _ _ => lF'); (with_unfolding_all refine' For_invVF lF' rfl rfl ?_; k_whole)))
theorem choice_walk (w : World) {loose : List Str} {mean : ExcName → Option Value} {mg mb : Str → Option Value}
  {dp un : Nat} {gd : Option (List Code)} {cn : Str} {cs : Scope} {a : Addr} {ccd : Value} {cl : List (Str × Addr)} {outer : List Env} {A₀ : Around} {base h₀ : Heap} {L : Addr} {m : Str → Option Value} {s : Shared} {Q E : Value → Shared → Prop}
  {self dx tA : Addr} {S : AS} {nms : List Str} {fol : Int → Int → Bool} {n kt H : Nat} {news pw : List (Addr × Obj)} {ps : List Part} {tv : List Value}
  (B : Below A₀ base outer h₀) (F : Fr h₀ L s.heap m) (X : (hd.heap_39 w.params).In h₀) (N : News h₀ L s.heap news) (hK : KeepOk pw news S.adrs) (hsA₀ : SelfAt w news self dx S) (hS : ∀ p ∈ S.core, p ∈ news) (hOk : S.Ok w nms n fol) (htup : (tA, tupOf tv.toArray kt) ∈ pw) (hps : PartsIn pw ps tv)
  (IH : ∀ c ∈ ps, ReadSpec w pw self dx n c) (hsz : nms.length + Part.sizes ps ≤ n) (hn : n ≤ 30) (hH : ∀ c ∈ ps, c.height ≤ H)
  (T : Top hd.view_39 loose mean mg mb h₀) (hk : cs.kind = .function) (hdp : dp + (100 * H + 50) < recursionLimit) (hu : un + (600 * H + 300) < cLine)
  (hret : ∀ (b fA lA rA : Addr) (fs ls : List Value) (nf nl : Nat) (S' : AS) h' tk' led, (∀ p ∈ news, p.1 < b) → Fr h₀ L h' m → News h₀ L h' ((rA, tupOf #[.bool (Part.anyNull ps), .ref fA, .ref lA] 0) :: led) → ASt w (offs S.adrs news) b S led S' (nms ++ Part.namess ps) n (fun p q => fol p q || Part.folC nms.length ps p q) →
    (fA, listOf fs.toArray nf) ∈ led → IntsAre fs (sel n (Part.firstC nms.length ps)) → (lA, listOf ls.toArray nl) ∈ led → IntsAre ls (sel n (Part.lastC nms.length ps)) → fA ∉ S'.adrs → lA ∉ S'.adrs → b ≤ fA → b ≤ lA → (∀ p ∈ led, p.1 < rA) → Q (.ref rA) { s with heap := h', toks := tk' }) :
  wpAny (model PySem.Challenge.rw_xw0200_01.row.prog w) (ktrTop dp un gd cn cs L a ccd cl outer) (call (.ref 61) [.ref self, .ref tA]) Q E s := by
  w_top off
  revert X; k_fill; intro X
  refine wpAny_call ?_
  k_dflt cell_enter
  k_steps
  rename_i fA hA ltF lA hB ltL D hC ltD y1 y2 y3 y4 F₁ N₁
  refine dig fun kG => ?_
  refine gen_eq (offs S.adrs news) fun kw hkwd => ?_
  rw [← hkwd] at hret
  have hkws : ∀ p ∈ kw, p ∈ news ∧ p.1 ∉ S.adrs := fun p hp => by rw [hkwd] at hp; exact mem_offs.mp hp
  have hkw : KW w pw kw self dx fA S := by
    obtain ⟨g1, g2, t1, t2, kd, h1, h2⟩ := hsA₀.has
    exact ⟨⟨g1, g2, t1, t2, kd, by rw [hkwd]; exact mem_offs.mpr ⟨h1, hsA₀.me_off⟩, by rw [hkwd]; exact mem_offs.mpr ⟨h2, hsA₀.dx_off⟩⟩, fun p hp => by rw [hkwd]; exact mem_offs.mpr (hK p hp), fun p hp => ltF p (hkws p hp).1⟩
  have hst : ASt w kw fA S news S nms n fol := ⟨hS, hOk, hkws, Grow.refl _ _⟩
  have h0 : RowAt false w pw kw self dx fA S n nms.length tA fA tv kt nms fol [] lA S ((D, tupOf #[.bool false, .ref fA, .ref lA] 0) :: (lA, listOf #[] 0) :: (fA, listOf #[] 0) :: news) := by
    have st := hst.sub (led' := (D, tupOf #[.bool false, .ref fA, .ref lA] 0) :: (lA, listOf #[] 0) :: (fA, listOf #[] 0) :: news) fun p hp => .tail _ (.tail _ (.tail _ hp))
    have e1 : Part.firstX false nms.length [] = fun _ => false := funext fun z => by simp only [Part.firstX, Part.firstC]
    have e2 : Part.lastX false nms.length [] = fun _ => false := funext fun z => by simp only [Part.lastX, Part.lastC]
    refine ⟨hkw, ⟨st.core, ?_, st.keep, st.grow⟩, hkw.pws _ htup, ⟨[], 0, .tail _ (.tail _ (.head _)), ?_⟩, ⟨[], 0, .tail _ (.head _), ?_⟩, fun h => ?_, fun h => ?_, Nat.le_refl _, Nat.le_of_lt ltL.1, Nat.ne_of_lt ltL.1⟩
    · have e3 : nms ++ Part.namess [] = nms := by simp [Part.namess]
      rw [e3]
      exact st.ok.congr fun p q => by simp [Part.folX, Part.folC]
    · rw [e1, sel_false]; exact .nil
    · rw [e2, sel_false]; exact .nil
    · exact Nat.lt_irrefl _ (hst.adrs_lt ltF _ h)
    · exact Nat.lt_irrefl _ (hst.adrs_lt (ktn_ltOf ltL.2) _ h)
  refine kG ?_
  clear kG
  refine Hold.out ?_
  refine row_iter (kk := false) (by rfl) F₁ N₁ rfl hps (by rfl) (by rfl) (by rfl) (by rfl) h0 ?_ ?_
  · intro pre c v lA' S' nx h tk' it io u hc hpost hcv hR hoff hlt F' N'
    clear N F₁ N₁ h0 ltD ltL hret
    refine dig fun kG => ?_
    obtain ⟨post, hpost⟩ := hpost
    have hszc : (nms ++ Part.namess pre).length + c.size ≤ n := by
      rw [List.length_append, Part.namess_length]
      rw [hpost, Part.sizes_append] at hsz
      simp only [Part.sizes] at hsz
      omega
    have hcH := hH c hc
    have hsA := hR.hkw.selfAt hR.st
    obtain ⟨g1, g2, t1, t2, kd, ms, md⟩ := hsA.has
    obtain ⟨fs₀, nf₀, mf, hfs₀⟩ := hR.fst
    obtain ⟨ls₀, nl₀, ml, hls₀⟩ := hR.lst
    have st₀ := hR.st.sub (led' := (it, io) :: nx) fun p hp => .tail _ hp
    have itoff : it ∉ S'.adrs := fun h => by
      rw [← AS.core_adrs] at h
      obtain ⟨p, hp, e⟩ := List.mem_map.mp h
      exact hoff p (hR.st.core p hp) e
    have itf : fA ≠ it := hoff _ mf
    have itl : lA' ≠ it := hoff _ ml
    refine kG ?_
    clear kG
    k_steps
    refine Hold.out ?_
    have C := IH c hc ((it, io) :: nx) v S' _ _ hcv (hR.hkw.keepPw st₀) (hR.hkw.selfAt st₀) st₀.core st₀.ok hszc hn
    refine' CallSpec.use C ?kB F' ?kX N' ?kT ?kk ?kd ?ku ?_
    case kB => k_asm
    case kX => k_asm
    case kT => k_asm
    case kk => exact rfl
    case kd => first | exact room2 hdp (by decide) | exact room2s hdp (by decide) | exact room2h hdp (by assumption) (by decide) | exact room2hs hdp (by assumption) (by decide) | exact room2c hdp (by decide) | exact room1 hdp (by decide) | exact room1c hdp (by decide) | ktr_room
    case ku => first | exact room2 hu (by decide) | exact room2s hu (by decide) | exact room2h hu (by assumption) (by decide) | exact room2hs hu (by assumption) (by decide) | exact room2c hu (by decide) | exact room1 hu (by decide) | exact room1c hu (by decide) | ktr_units
    intro b₁ r h₄ tk₄ news₄ lt₁ F₄ N₄ hp
    refine dig fun kG => ?_
    obtain ⟨D1, D2, D3, c1, c2, fs, ls, S₁, rfl, hb1, h12, h23, hg, had, hfs, hls, hok, rfl⟩ := hp
    refine gen_eq (S₁.core ++ offs S'.adrs ((it, io) :: nx)) fun nw₁ hnw₁ => ?_
    rw [← hnw₁] at N₄
    have hbb : fA ≤ b₁ := Nat.le_trans hR.fb (Nat.le_of_lt (lt₁ _ (.tail _ mf)))
    have st₁ : ASt w kw fA S nw₁ S₁ _ n _ := st₀.read hg lt₁ hbb hok (fun p hp => by rw [hnw₁]; exact List.mem_append_left _ hp) (fun p hp => by rw [hnw₁]; exact List.mem_append_right _ hp)
    have tr₁ : ∀ p ∈ (it, io) :: nx, p.1 ∉ S'.adrs → p ∈ nw₁ := fun p hp hn => by rw [hnw₁]; exact List.mem_append_right _ (mem_offs.mpr ⟨hp, hn⟩)
    have mf₁ := tr₁ _ (.tail _ mf) hR.fo
    have ml₁ := tr₁ _ (.tail _ ml) hR.lo
    have mi₁ := tr₁ _ (.head _) itoff
    have of₁ : fA ∉ S₁.adrs := hg.notin hR.fo (lt₁ _ (.tail _ mf))
    have ol₁ : lA' ∉ S₁.adrs := hg.notin hR.lo (lt₁ _ (.tail _ ml))
    have oi₁ : it ∉ S₁.adrs := hg.notin itoff (lt₁ _ (.head _))
    have hfD : fA < D1 := Nat.lt_of_lt_of_le (lt₁ _ (.tail _ mf)) hb1
    have hlD : lA' < D1 := Nat.lt_of_lt_of_le (lt₁ _ (.tail _ ml)) hb1
    have hiD : it < D1 := Nat.lt_of_lt_of_le (lt₁ _ (.head _)) hb1
    have oD1 : D1 ∉ S₁.adrs := fun h => Nat.lt_irrefl _ (had _ h)
    have oD2 : D2 ∉ S₁.adrs := fun h => Nat.lt_asymm h12 (had _ h)
    have hsA₁ := hR.hkw.selfAt st₁
    obtain ⟨g1', g2', t1', t2', kd', ms₁, md₁⟩ := hsA₁.has
    clear hsA ms md
    refine kG ?_
    clear kG
    k_steps
    rename_i F₅ N₅
    have hn' : (nms ++ Part.namess pre).length = nms.length + Part.sizes pre := by rw [List.length_append, Part.namess_length]
    have hkf : ∀ p ∈ kw, p.1 < fA := hkw.lt
    have hkl : ∀ p ∈ kw, p.1 < lA' := fun p hp => Nat.lt_of_lt_of_le (hkf p hp) hR.lb
    refine dig fun kG => ?_
    refine gen_eq ((D3, tupOf #[.bool c.null, .ref D1, .ref D2] 0) :: (D2, listOf ls.toArray c2) :: (D1, listOf fs.toArray c1) :: nw₁) fun nw₂ hnw₂ => ?_
    rw [← hnw₂] at N₅
    have up₂ : ∀ p ∈ nw₁, p ∈ nw₂ := fun p hp => by rw [hnw₂]; exact .tail _ (.tail _ (.tail _ hp))
    have st₂ := st₁.sub up₂
    have mD1₂ : (D1, listOf fs.toArray c1) ∈ nw₂ := by rw [hnw₂]; exact .tail _ (.tail _ (.head _))
    have mD2₂ : (D2, listOf ls.toArray c2) ∈ nw₂ := by rw [hnw₂]; exact .tail _ (.head _)
    have mf₂ := up₂ _ mf₁
    have ml₂ := up₂ _ ml₁
    have mi₂ := up₂ _ mi₁
    refine kG ?_
    clear kG
    refine Hold.out ?_
    have C3 := addAll_c (w := w) (n := n) mf₂ mD1₂ (Nat.ne_of_lt hfD) hfs₀ hfs hn
    refine' CallSpec.use C3 ?kB ?kF ?kX ?kN ?kT ?kk ?kd ?ku ?_
    case kB => k_asm
    case kF => k_asm
    case kX => k_asm
    case kN => k_asm
    case kT => k_asm
    case kk => exact rfl
    case kd => first | exact room2 hdp (by decide) | exact room2s hdp (by decide) | exact room2h hdp (by assumption) (by decide) | exact room2hs hdp (by assumption) (by decide) | exact room2c hdp (by decide) | exact room1 hdp (by decide) | exact room1c hdp (by decide) | ktr_room
    case ku => first | exact room2 hu (by decide) | exact room2s hu (by decide) | exact room2h hu (by assumption) (by decide) | exact room2hs hu (by assumption) (by decide) | exact room2c hu (by decide) | exact room1 hu (by decide) | exact room1c hu (by decide) | ktr_units
    intro _ r h3 tk3 news3 lt3 F3 N3 hp
    refine dig fun kG => ?_
    obtain ⟨rfl, vs3, k3, hvs3, rfl⟩ := hp
    have tr3 : ∀ p ∈ nw₂, p.1 ∉ [fA] → p ∈ (fA, listOf vs3.toArray k3) :: offs [fA] (nw₂) := fun p hp hn => .tail _ (mem_offs.mpr ⟨hp, hn⟩)
    have st3 := st₂.off (W := [fA]) tr3 (fun z hz => by rw [List.mem_singleton.mp hz]; exact of₁) (fun z hz p hp => by rw [List.mem_singleton.mp hz]; exact Nat.ne_of_lt (hkf p hp))
    refine gen_eq ((fA, listOf vs3.toArray k3) :: offs [fA] nw₂) fun nw₃ hnw₃ => ?_
    rw [← hnw₃] at N3 tr3 st3
    have mf₃ : (fA, listOf vs3.toArray k3) ∈ nw₃ := by rw [hnw₃]; exact .head _
    have ml₃ := tr3 _ ml₂ (fun h => hR.ne.symm (List.mem_singleton.mp h))
    have mi₃ := tr3 _ mi₂ (fun h => itf.symm (List.mem_singleton.mp h))
    have mD2₃ := tr3 _ mD2₂ (fun h => (Nat.ne_of_gt (Nat.lt_trans hfD h12)) (List.mem_singleton.mp h))
    clear N₅ F₅
    refine kG ?_
    clear kG
    k_steps
    refine Hold.out ?_
    have C4 := addAll_c (w := w) (n := n) ml₃ mD2₃ (Nat.ne_of_lt (Nat.lt_trans hlD h12)) hls₀ hls hn
    refine' CallSpec.use C4 ?kB ?kF ?kX ?kN ?kT ?kk ?kd ?ku ?_
    case kB => k_asm
    case kF => k_asm
    case kX => k_asm
    case kN => k_asm
    case kT => k_asm
    case kk => exact rfl
    case kd => first | exact room2 hdp (by decide) | exact room2s hdp (by decide) | exact room2h hdp (by assumption) (by decide) | exact room2hs hdp (by assumption) (by decide) | exact room2c hdp (by decide) | exact room1 hdp (by decide) | exact room1c hdp (by decide) | ktr_room
    case ku => first | exact room2 hu (by decide) | exact room2s hu (by decide) | exact room2h hu (by assumption) (by decide) | exact room2hs hu (by assumption) (by decide) | exact room2c hu (by decide) | exact room1 hu (by decide) | exact room1c hu (by decide) | ktr_units
    intro _ r h4 tk4 news4 lt4 F4 N4 hp
    refine dig fun kG => ?_
    obtain ⟨rfl, vs4, k4, hvs4, rfl⟩ := hp
    have tr4 : ∀ p ∈ nw₃, p.1 ∉ [lA'] → p ∈ (lA', listOf vs4.toArray k4) :: offs [lA'] (nw₃) := fun p hp hn => .tail _ (mem_offs.mpr ⟨hp, hn⟩)
    have st4 := st3.off (W := [lA']) tr4 (fun z hz => by rw [List.mem_singleton.mp hz]; exact ol₁) (fun z hz p hp => by rw [List.mem_singleton.mp hz]; exact Nat.ne_of_lt (hkl p hp))
    refine kG ?_
    clear kG
    rcases hnu : Part.nullX false pre <;> rcases hcb : c.null <;> rw [hnu, hcb] at F4
    · k_steps
      exact row_end (nu := false) hR st4 (by rw [Part.namess_snoc, List.append_assoc]) (fun p q => by simp only [hn', Part.folX, Part.folC_snoc, Bool.or_assoc]) (tr4 _ mf₃ (fun h => hR.ne (List.mem_singleton.mp h))) hvs3 (fun z => by simp only [hn', Part.firstX, Part.firstC_snoc]) (.head _) hvs4 (fun z => by simp only [hn', Part.lastX, Part.lastC_snoc]) of₁ ol₁ hR.lb hR.ne (tr4 _ mi₃ (fun h => itl.symm (List.mem_singleton.mp h))) oi₁ itf itl hlt (by simp only [Part.nullX] at hnu; simp only [Part.nullX, Part.anyNull_snoc, hnu, hcb]; rfl) (by k_asm) (by k_asm) (by rfl) (by rfl) (by rfl) (by rfl)
    · k_steps
      exact row_end (nu := true) hR st4 (by rw [Part.namess_snoc, List.append_assoc]) (fun p q => by simp only [hn', Part.folX, Part.folC_snoc, Bool.or_assoc]) (tr4 _ mf₃ (fun h => hR.ne (List.mem_singleton.mp h))) hvs3 (fun z => by simp only [hn', Part.firstX, Part.firstC_snoc]) (.head _) hvs4 (fun z => by simp only [hn', Part.lastX, Part.lastC_snoc]) of₁ ol₁ hR.lb hR.ne (tr4 _ mi₃ (fun h => itl.symm (List.mem_singleton.mp h))) oi₁ itf itl hlt (by simp only [Part.nullX] at hnu; simp only [Part.nullX, Part.anyNull_snoc, hnu, hcb]; rfl) (by k_asm) (by k_asm) (by rfl) (by rfl) (by rfl) (by rfl)
    · k_steps
      exact row_end (nu := true) hR st4 (by rw [Part.namess_snoc, List.append_assoc]) (fun p q => by simp only [hn', Part.folX, Part.folC_snoc, Bool.or_assoc]) (tr4 _ mf₃ (fun h => hR.ne (List.mem_singleton.mp h))) hvs3 (fun z => by simp only [hn', Part.firstX, Part.firstC_snoc]) (.head _) hvs4 (fun z => by simp only [hn', Part.lastX, Part.lastC_snoc]) of₁ ol₁ hR.lb hR.ne (tr4 _ mi₃ (fun h => itl.symm (List.mem_singleton.mp h))) oi₁ itf itl hlt (by simp only [Part.nullX] at hnu; simp only [Part.nullX, Part.anyNull_snoc, hnu, hcb]; rfl) (by k_asm) (by k_asm) (by rfl) (by rfl) (by rfl) (by rfl)
    · k_steps
      exact row_end (nu := true) hR st4 (by rw [Part.namess_snoc, List.append_assoc]) (fun p q => by simp only [hn', Part.folX, Part.folC_snoc, Bool.or_assoc]) (tr4 _ mf₃ (fun h => hR.ne (List.mem_singleton.mp h))) hvs3 (fun z => by simp only [hn', Part.firstX, Part.firstC_snoc]) (.head _) hvs4 (fun z => by simp only [hn', Part.lastX, Part.lastC_snoc]) of₁ ol₁ hR.lb hR.ne (tr4 _ mi₃ (fun h => itl.symm (List.mem_singleton.mp h))) oi₁ itf itl hlt (by simp only [Part.nullX] at hnu; simp only [Part.nullX, Part.anyNull_snoc, hnu, hcb]; rfl) (by k_asm) (by k_asm) (by rfl) (by rfl) (by rfl) (by rfl)
  · intro lA' S' nx h tk' u hR F' N'
    clear N F₁ N₁ h0
    refine dig fun kG => ?_
    obtain ⟨fs₀, nf₀, mf, hfs₀⟩ := hR.fst
    obtain ⟨ls₀, nl₀, ml, hls₀⟩ := hR.lst
    refine kG ?_
    clear kG
    k_steps
    rename_i rA hr1 F₇ N₇ lr kF kN kT kX
    exact hret fA fA lA' rA fs₀ ls₀ nf₀ nl₀ S' _ _ nx ltF kF kN hR.st mf hfs₀ ml hls₀ hR.fo hR.lo (Nat.le_refl _) hR.lb lr
end Mine
end

-- text F0
section
open PySem PySem.W PyProof.Rows PySem.Calls PyProof.Rows.LCg
set_option maxRecDepth 100000
set_option maxHeartbeats 8000000
namespace Mine
def RowPost (kk : Bool) (w : World) (S : AS) (nms : List Str) (n : Nat) (fol : Int → Int → Bool) (ps : List Part) (news : List (Addr × Obj)) (b : Nat) (r : Value) (news' : List (Addr × Obj)) : Prop :=
  ∃ (fA lA rA : Addr) (fs ls : List Value) (nf nl : Nat) (S' : AS) (led : List (Addr × Obj)), r = .ref rA ∧ ASt w (offs S.adrs news) b S led S' (nms ++ Part.namess ps) n (fun p q => fol p q || Part.folX kk nms.length ps p q) ∧
    (fA, listOf fs.toArray nf) ∈ led ∧ IntsAre fs (sel n (Part.firstX kk nms.length ps)) ∧ (lA, listOf ls.toArray nl) ∈ led ∧ IntsAre ls (sel n (Part.lastX kk nms.length ps)) ∧ fA ∉ S'.adrs ∧ lA ∉ S'.adrs ∧ b ≤ fA ∧ (∀ p ∈ led, p.1 < rA) ∧
    news' = (rA, tupOf #[.bool (Part.nullX kk ps), .ref fA, .ref lA] 0) :: led
def rowAddr : Bool → Addr
  | true => 54
  | false => 61
theorem row_c {w : World} {kk : Bool} {self dx tA : Addr} {S : AS} {nms : List Str} {fol : Int → Int → Bool} {n kt H : Nat} {news pw : List (Addr × Obj)} {ps : List Part} {tv : List Value}
    (hK : KeepOk pw news S.adrs) (hsA₀ : SelfAt w news self dx S) (hS : ∀ p ∈ S.core, p ∈ news) (hOk : S.Ok w nms n fol) (htup : (tA, tupOf tv.toArray kt) ∈ pw) (hps : PartsIn pw ps tv)
    (IH : ∀ c ∈ ps, ReadSpec w pw self dx n c) (hsz : nms.length + Part.sizes ps ≤ n) (hn : n ≤ 30) (hH : ∀ c ∈ ps, c.height ≤ H) :
    CallSpec w (rowAddr kk) (100 * H + 50) (600 * H + 300) news [.ref self, .ref tA] (RowPost kk w S nms n fol ps news) := by
  intro loose mean mg mb dp un gd cn cs a ccd cl outer A₀ base h₀ L m s Q E B F X N T hk hd hu ret
  cases kk with
  | true =>
    exact row_walk w B F X N hK hsA₀ hS hOk htup hps IH hsz hn hH T hk hd hu fun b fA lA rA fs ls nf nl S' h' tk' led hb F' N' st mf hfs ml hls fo lo fb _ lt =>
      ret b _ h' tk' _ hb F' N' ⟨fA, lA, rA, fs, ls, nf, nl, S', led, rfl, st, mf, hfs, ml, hls, fo, lo, fb, lt, rfl⟩
  | false =>
    exact choice_walk w B F X N hK hsA₀ hS hOk htup hps IH hsz hn hH T hk hd hu fun b fA lA rA fs ls nf nl S' h' tk' led hb F' N' st mf hfs ml hls fo lo fb _ lt =>
      ret b _ h' tk' _ hb F' N' ⟨fA, lA, rA, fs, ls, nf, nl, S', led, rfl, st, mf, hfs, ml, hls, fo, lo, fb, lt, rfl⟩

local macro_rules | `(tactic| k_mem) => `(tactic| assumption)
local macro_rules | `(tactic| walk_at "call ref") => `(tactic| (k_here; (with_reducible show wpAny _ _ (call (Value.ref _) _ _) _ _ _); refine Hold.mk ?_))
theorem node_walk (kk : Bool) (w : World) {loose : List Str} {mean : ExcName → Option Value} {mg mb : Str → Option Value}
  {dp un : Nat} {gd : Option (List Code)} {cn : Str} {cs : Scope} {a : Addr} {ccd : Value} {cl : List (Str × Addr)} {outer : List Env} {A₀ : Around} {base h₀ : Heap} {L : Addr} {m : Str → Option Value} {s : Shared} {Q E : Value → Shared → Prop}
  {self dx tA t : Addr} {S : AS} {nms : List Str} {fol : Int → Int → Bool} {n kt k H : Nat} {news pw : List (Addr × Obj)} {ps : List Part} {tv : List Value} {u1 u3 : Tok} {mk : Str}
  (B : Below A₀ base outer h₀) (F : Fr h₀ L s.heap m) (X : (hd.heap_39 w.params).In h₀) (N : News h₀ L s.heap news) (hK : KeepOk pw news S.adrs) (hsA₀ : SelfAt w news self dx S) (hS : ∀ p ∈ S.core, p ∈ news) (hOk : S.Ok w nms n fol)
  (ht : (t, tupOf #[.str (if kk then Str.ofString "seq" else Str.ofString "choice") u1, .ref tA, .str mk u3] k) ∈ pw) (htup : (tA, tupOf tv.toArray kt) ∈ pw) (hps : PartsIn pw ps tv)
  (IH : ∀ c ∈ ps, ReadSpec w pw self dx n c) (hsz : nms.length + Part.sizes ps ≤ n) (hn : n ≤ 30) (hH : ∀ c ∈ ps, c.height ≤ H)
  (T : Top hd.view_39 loose mean mg mb h₀) (hk : cs.kind = .function) (hdp : dp + (100 * H + 100) < recursionLimit) (hu : un + (600 * H + 600) < cLine)
  (hret : ∀ b r h' tk' news', (∀ p ∈ news, p.1 < b) → Fr h₀ L h' m → News h₀ L h' news' → ReadPost w S nms n fol (.node kk ps mk) news b r news' → Q r { s with heap := h', toks := tk' }) :
  wpAny (model PySem.Challenge.rw_xw0200_01.row.prog w) (ktrTop dp un gd cn cs L a ccd cl outer) (call (.ref 47) [.ref self, .ref t]) Q E s := by
  refine dig fun kG => ?_
  obtain ⟨g1, g2, t1, t2, kd, ms, md⟩ := hsA₀.has
  have mt := (hK _ ht).1
  have hC := row_c (kk := kk) hK hsA₀ hS hOk htup hps IH hsz hn hH
  refine kG ?_
  clear kG
  w_top off
  revert X; k_fill; intro X
  cases kk
  all_goals (
    simp only [if_true, if_false, Bool.false_eq_true, rowAddr] at mt hC
    refine wpAny_call ?_
    k_dflt cell_enter
    k_steps)
  · refine Hold.out ?_
    refine' CallSpec.use hC ?kB ?kF ?kX ?kN ?kT ?kk ?kd ?ku ?_
    case kB => k_asm
    case kF => k_asm
    case kX => k_asm
    case kN => k_asm
    case kT => k_asm
    case kk => exact rfl
    case kd => first | exact room2 hdp (by decide) | exact room2s hdp (by decide) | exact room2h hdp (by assumption) (by decide) | exact room2hs hdp (by assumption) (by decide) | exact room2c hdp (by decide) | exact room1 hdp (by decide) | exact room1c hdp (by decide) | ktr_room
    case ku => first | exact room2 hu (by decide) | exact room2s hu (by decide) | exact room2h hu (by assumption) (by decide) | exact room2hs hu (by assumption) (by decide) | exact room2c hu (by decide) | exact room1 hu (by decide) | exact room1c hu (by decide) | ktr_units
    intro b r h₁ tk₁ news₁ hb F₁ N₁ hp
    refine dig fun kG => ?_
    obtain ⟨fA, lA, rA, fs, ls, nf, nl, S', led, rfl, st, mf, hfs, ml, hls, fo, lo, fb, lt, rfl⟩ := hp
    have mt₁ : (t, tupOf #[.str (Str.ofString "choice") u1, .ref tA, .str mk u3] k) ∈ led := (st.keep _ (mem_offs.mpr ⟨mt, (hK _ ht).2⟩)).1
    have hkw : KW w pw (offs S.adrs news) self dx b S := ⟨⟨g1, g2, t1, t2, kd, mem_offs.mpr ⟨ms, hsA₀.me_off⟩, mem_offs.mpr ⟨md, hsA₀.dx_off⟩⟩, fun p hp => mem_offs.mpr (hK p hp), fun p hp => hb p (mem_offs.mp hp).1⟩
    have st₁ := st.sub (led' := (rA, tupOf #[.bool (Part.nullX false ps), .ref fA, .ref lA] 0) :: led) fun p hp => .tail _ hp
    have hsA₁ := hkw.selfAt st₁
    obtain ⟨g1', g2', t1', t2', kd', ms₁, md₁⟩ := (hkw.selfAt st).has
    clear N hC
    refine kG ?_
    clear kG
    k_steps
    refine Hold.out ?_
    have hel : ∀ z, Part.lastX false nms.length ps z = true → z ≤ ((nms ++ Part.namess ps).length : Nat) := by
      intro z hz
      have h1 := (Part.lastC_bd _ _ _ hz).2
      rw [List.length_append, Part.namess_length]
      omega
    have C2 := marked_c (mk := mk) (tk := u3) hsA₁ (.head _) (.tail _ mf) (.tail _ ml) fo lo hfs hls hel st₁.core st₁.ok hn
    refine' CallSpec.use C2 ?kB ?kF ?kX ?kN ?kT ?kk ?kd ?ku ?_
    case kB => k_asm
    case kF => k_asm
    case kX => k_asm
    case kN => k_asm
    case kT => k_asm
    case kk => exact rfl
    case kd => first | exact room2 hdp (by decide) | exact room2s hdp (by decide) | exact room2h hdp (by assumption) (by decide) | exact room2hs hdp (by assumption) (by decide) | exact room2c hdp (by decide) | exact room1 hdp (by decide) | exact room1c hdp (by decide) | ktr_room
    case ku => first | exact room2 hu (by decide) | exact room2s hu (by decide) | exact room2h hu (by assumption) (by decide) | exact room2hs hu (by assumption) (by decide) | exact room2c hu (by decide) | exact room1 hu (by decide) | exact room1c hu (by decide) | ktr_units
    intro b₂ r h₂ tk₂ news₂ lt₂ F₂ N₂ hp
    refine dig fun kG => ?_
    obtain ⟨D1, D2, D3, c1, c2, S₂, rfl, hb2, h12, h23, ha₂, ok₂, rfl⟩ := hp
    refine kG ?_
    clear kG
    k_steps
    have hg : Grow b S S₂ := st.grow.trans (Grow.of_adrs (b := b) ha₂) (Nat.le_refl _)
    have hbb : b ≤ D1 := Nat.le_trans fb (Nat.le_of_lt (Nat.lt_of_lt_of_le (lt₂ _ (.tail _ mf)) hb2))
    refine hret b _ _ _ ((D3, tupOf #[.bool (Part.node false ps mk).null, .ref D1, .ref D2] 0) :: (D2, listOf ls.toArray c2) :: (D1, listOf fs.toArray c1) :: (S₂.core ++ offs S.adrs news)) hb (by k_asm) (nw_sub (by k_asm) ?_)
      ⟨D1, D2, D3, c1, c2, fs, ls, S₂, rfl, hbb, h12, h23, hg, ?_, ?_, ?_, ?_, rfl⟩
    · intro p hp
      rcases List.mem_cons.mp hp with rfl | hp
      · rw [show (Part.node false ps mk).null = (Part.nullX false ps || isOpt mk) by simp only [Part.null, Part.nullX, if_true, if_false, Bool.false_eq_true]]
        exact .head _
      rcases List.mem_cons.mp hp with rfl | hp
      · exact .tail _ (.head _)
      rcases List.mem_cons.mp hp with rfl | hp
      · exact .tail _ (.tail _ (.head _))
      refine .tail _ (.tail _ (.tail _ ?_))
      rcases List.mem_append.mp hp with hp | hp
      · exact List.mem_append_left _ hp
      · exact List.mem_append_right _ (mem_offs.mpr ⟨.tail _ (st.keep p hp).1, (st.keep p hp).2⟩)
    · intro z hz
      rw [ha₂] at hz
      exact Nat.lt_of_lt_of_le (st₁.adrs_lt lt₂ z hz) hb2
    · rw [show Part.first nms.length (Part.node false ps mk) = Part.firstX false nms.length ps from funext fun z => by simp only [Part.first, Part.firstX, if_true, if_false, Bool.false_eq_true]]
      exact hfs
    · rw [show Part.last nms.length (Part.node false ps mk) = Part.lastX false nms.length ps from funext fun z => by simp only [Part.last, Part.lastX, if_true, if_false, Bool.false_eq_true]]
      exact hls
    · have e3 : (Part.node false ps mk).names = Part.namess ps := by simp only [Part.names]
      rw [e3]
      exact ok₂.congr fun p q => by simp only [Part.fol, Part.folX, Part.lastX, Part.firstX, if_true, if_false, Bool.false_eq_true, Bool.or_assoc]
  · refine Hold.out ?_
    refine' CallSpec.use hC ?kB ?kF ?kX ?kN ?kT ?kk ?kd ?ku ?_
    case kB => k_asm
    case kF => k_asm
    case kX => k_asm
    case kN => k_asm
    case kT => k_asm
    case kk => exact rfl
    case kd => first | exact room2 hdp (by decide) | exact room2s hdp (by decide) | exact room2h hdp (by assumption) (by decide) | exact room2hs hdp (by assumption) (by decide) | exact room2c hdp (by decide) | exact room1 hdp (by decide) | exact room1c hdp (by decide) | ktr_room
    case ku => first | exact room2 hu (by decide) | exact room2s hu (by decide) | exact room2h hu (by assumption) (by decide) | exact room2hs hu (by assumption) (by decide) | exact room2c hu (by decide) | exact room1 hu (by decide) | exact room1c hu (by decide) | ktr_units
    intro b r h₁ tk₁ news₁ hb F₁ N₁ hp
    refine dig fun kG => ?_
    obtain ⟨fA, lA, rA, fs, ls, nf, nl, S', led, rfl, st, mf, hfs, ml, hls, fo, lo, fb, lt, rfl⟩ := hp
    have mt₁ : (t, tupOf #[.str (Str.ofString "seq") u1, .ref tA, .str mk u3] k) ∈ led := (st.keep _ (mem_offs.mpr ⟨mt, (hK _ ht).2⟩)).1
    have hkw : KW w pw (offs S.adrs news) self dx b S := ⟨⟨g1, g2, t1, t2, kd, mem_offs.mpr ⟨ms, hsA₀.me_off⟩, mem_offs.mpr ⟨md, hsA₀.dx_off⟩⟩, fun p hp => mem_offs.mpr (hK p hp), fun p hp => hb p (mem_offs.mp hp).1⟩
    have st₁ := st.sub (led' := (rA, tupOf #[.bool (Part.nullX true ps), .ref fA, .ref lA] 0) :: led) fun p hp => .tail _ hp
    have hsA₁ := hkw.selfAt st₁
    obtain ⟨g1', g2', t1', t2', kd', ms₁, md₁⟩ := (hkw.selfAt st).has
    clear N hC
    refine kG ?_
    clear kG
    k_steps
    refine Hold.out ?_
    have hel : ∀ z, Part.lastX true nms.length ps z = true → z ≤ ((nms ++ Part.namess ps).length : Nat) := by
      intro z hz
      have h1 := (Part.lastS_bd _ _ _ hz).2
      rw [List.length_append, Part.namess_length]
      omega
    have C2 := marked_c (mk := mk) (tk := u3) hsA₁ (.head _) (.tail _ mf) (.tail _ ml) fo lo hfs hls hel st₁.core st₁.ok hn
    refine' CallSpec.use C2 ?kB ?kF ?kX ?kN ?kT ?kk ?kd ?ku ?_
    case kB => k_asm
    case kF => k_asm
    case kX => k_asm
    case kN => k_asm
    case kT => k_asm
    case kk => exact rfl
    case kd => first | exact room2 hdp (by decide) | exact room2s hdp (by decide) | exact room2h hdp (by assumption) (by decide) | exact room2hs hdp (by assumption) (by decide) | exact room2c hdp (by decide) | exact room1 hdp (by decide) | exact room1c hdp (by decide) | ktr_room
    case ku => first | exact room2 hu (by decide) | exact room2s hu (by decide) | exact room2h hu (by assumption) (by decide) | exact room2hs hu (by assumption) (by decide) | exact room2c hu (by decide) | exact room1 hu (by decide) | exact room1c hu (by decide) | ktr_units
    intro b₂ r h₂ tk₂ news₂ lt₂ F₂ N₂ hp
    refine dig fun kG => ?_
    obtain ⟨D1, D2, D3, c1, c2, S₂, rfl, hb2, h12, h23, ha₂, ok₂, rfl⟩ := hp
    refine kG ?_
    clear kG
    k_steps
    have hg : Grow b S S₂ := st.grow.trans (Grow.of_adrs (b := b) ha₂) (Nat.le_refl _)
    have hbb : b ≤ D1 := Nat.le_trans fb (Nat.le_of_lt (Nat.lt_of_lt_of_le (lt₂ _ (.tail _ mf)) hb2))
    refine hret b _ _ _ ((D3, tupOf #[.bool (Part.node true ps mk).null, .ref D1, .ref D2] 0) :: (D2, listOf ls.toArray c2) :: (D1, listOf fs.toArray c1) :: (S₂.core ++ offs S.adrs news)) hb (by k_asm) (nw_sub (by k_asm) ?_)
      ⟨D1, D2, D3, c1, c2, fs, ls, S₂, rfl, hbb, h12, h23, hg, ?_, ?_, ?_, ?_, rfl⟩
    · intro p hp
      rcases List.mem_cons.mp hp with rfl | hp
      · rw [show (Part.node true ps mk).null = (Part.nullX true ps || isOpt mk) by simp only [Part.null, Part.nullX, if_true, if_false, Bool.false_eq_true]]
        exact .head _
      rcases List.mem_cons.mp hp with rfl | hp
      · exact .tail _ (.head _)
      rcases List.mem_cons.mp hp with rfl | hp
      · exact .tail _ (.tail _ (.head _))
      refine .tail _ (.tail _ (.tail _ ?_))
      rcases List.mem_append.mp hp with hp | hp
      · exact List.mem_append_left _ hp
      · exact List.mem_append_right _ (mem_offs.mpr ⟨.tail _ (st.keep p hp).1, (st.keep p hp).2⟩)
    · intro z hz
      rw [ha₂] at hz
      exact Nat.lt_of_lt_of_le (st₁.adrs_lt lt₂ z hz) hb2
    · rw [show Part.first nms.length (Part.node true ps mk) = Part.firstX true nms.length ps from funext fun z => by simp only [Part.first, Part.firstX, if_true, if_false, Bool.false_eq_true]]
      exact hfs
    · rw [show Part.last nms.length (Part.node true ps mk) = Part.lastX true nms.length ps from funext fun z => by simp only [Part.last, Part.lastX, if_true, if_false, Bool.false_eq_true]]
      exact hls
    · have e3 : (Part.node true ps mk).names = Part.namess ps := by simp only [Part.names]
      rw [e3]
      exact ok₂.congr fun p q => by simp only [Part.fol, Part.folX, Part.lastX, Part.firstX, if_true, if_false, Bool.false_eq_true, Bool.or_assoc]

theorem read_all {w : World} {pw : List (Addr × Obj)} {self dx : Addr} {n : Nat} : ∀ (k : Nat) (P : Part), P.height ≤ k → ReadSpec w pw self dx n P := by
  intro k
  induction k with
  | zero => intro P h; have := Part.height_pos P; omega
  | succ k ih =>
    intro P hP
    cases P with
    | name nm mk => exact read_name nm mk
    | node kk ps mk =>
      simp only [Part.height] at hP
      have IH : ∀ c ∈ ps, ReadSpec w pw self dx n c := fun c hc => ih c (by have := Part.height_le hc; omega)
      intro news v S nms fol hPin hK hs hS hOk hsz hn loose mean mg mb dp un gd cn cs a ccd cl outer A₀ base h₀ L m s Q E B F X N T hk hd hu ret
      simp only [PartIn] at hPin
      refine dig fun kG => ?_
      obtain ⟨t, kt, u1, u3, tA, tv, k2, rfl, ht, htup, hps⟩ := hPin
      simp only [Part.size] at hsz
      simp only [Part.height] at hd hu
      refine kG ?_
      clear kG
      exact node_walk kk w B F X N hK hs hS hOk ht htup hps IH hsz hn (fun c hc => Part.height_le hc) T hk (by omega) (by omega) ret
end Mine
end

-- text F1
section
open PySem PySem.W PyProof.Rows PySem.Calls PyProof.Rows.LCg
set_option maxRecDepth 100000
set_option maxHeartbeats 8000000
namespace Mine
/-- an automaton that has read its particle -/
structure AutoIn (w : World) (led : List (Addr × Obj)) (x : Addr) (P : Part) : Prop where
  all : ∃ (dx na fa F L : Addr) (S : AS) (g1 g2 g3 g4 g5 : Int) (t1 t2 t3 t4 t5 : Tok) (k c1 c2 : Nat) (fs ls : List Value), na = S.na ∧ fa = S.fa ∧ (x, instObj 127 dx) ∈ led ∧ (dx, fullDict w na fa F L P.null g1 g2 g3 g4 g5 t1 t2 t3 t4 t5 k) ∈ led ∧ (∀ p ∈ S.core, p ∈ led) ∧
    S.Ok w P.names P.size (P.fol 0) ∧ (F, listOf fs.toArray c1) ∈ led ∧ IntsAre fs (sel P.size (P.first 0)) ∧ (L, listOf ls.toArray c2) ∈ led ∧ IntsAre ls (sel P.size (P.last 0)) ∧ x ∉ S.adrs ∧ dx ∉ S.adrs
/-- the same, its own places apart from what stood before -/
structure AutoOff (w : World) (led kp : List (Addr × Obj)) (x : Addr) (P : Part) : Prop where
  all : ∃ (dx na fa F L : Addr) (S : AS) (g1 g2 g3 g4 g5 : Int) (t1 t2 t3 t4 t5 : Tok) (k c1 c2 : Nat) (fs ls : List Value), na = S.na ∧ fa = S.fa ∧ (x, instObj 127 dx) ∈ led ∧ (dx, fullDict w na fa F L P.null g1 g2 g3 g4 g5 t1 t2 t3 t4 t5 k) ∈ led ∧ (∀ p ∈ S.core, p ∈ led) ∧
    S.Ok w P.names P.size (P.fol 0) ∧ (F, listOf fs.toArray c1) ∈ led ∧ IntsAre fs (sel P.size (P.first 0)) ∧ (L, listOf ls.toArray c2) ∈ led ∧ IntsAre ls (sel P.size (P.last 0)) ∧ x ∉ S.adrs ∧ dx ∉ S.adrs ∧ ∀ p ∈ kp, p.1 ∉ S.adrs
theorem AutoOff.auto {w : World} {led kp : List (Addr × Obj)} {x : Addr} {P : Part} (h : AutoOff w led kp x P) : AutoIn w led x P := by
  refine dig fun kG => ?_
  obtain ⟨dx, na, fa, F, L, S, g1, g2, g3, g4, g5, t1, t2, t3, t4, t5, k, c1, c2, fs, ls, h1, h2, h3, h4, h5, h6, h7, h8, h9, h10, h11, h12, _⟩ := h.all
  refine kG ?_
  clear kG
  exact ⟨dx, na, fa, F, L, S, g1, g2, g3, g4, g5, t1, t2, t3, t4, t5, k, c1, c2, fs, ls, h1, h2, h3, h4, h5, h6, h7, h8, h9, h10, h11, h12⟩
local macro_rules | `(tactic| k_mem) => `(tactic| assumption)
local macro_rules | `(tactic| walk_at "call ref") => `(tactic| (k_here; (with_reducible show wpAny _ _ (call (Value.ref 47) _ _) _ _ _); refine Hold.mk ?_))
theorem init_walk (w : World) {loose : List Str} {mean : ExcName → Option Value} {mg mb : Str → Option Value}
  {dp un : Nat} {gd : Option (List Code)} {cn : Str} {cs : Scope} {a : Addr} {ccd : Value} {cl : List (Str × Addr)} {outer : List Env} {A₀ : Around} {base h₀ : Heap} {L : Addr} {m : Str → Option Value} {s : Shared} {Q E : Value → Shared → Prop}
  {news pw : List (Addr × Obj)} {P : Part} {v : Value} {H : Nat}
  (B : Below A₀ base outer h₀) (F : Fr h₀ L s.heap m) (X : (hd.heap_39 w.params).In h₀) (N : News h₀ L s.heap news) (hP : PartIn pw P v) (hK : ∀ p ∈ pw, p ∈ news) (hn : P.size ≤ 30) (hH : P.height ≤ H)
  (T : Top hd.view_39 loose mean mg mb h₀) (hk : cs.kind = .function) (hdp : dp + (100 * H + 100) < recursionLimit) (hu : un + (600 * H + 600) < cLine)
  (hret : ∀ x h' tk' news', Fr h₀ L h' m → News h₀ L h' news' → (∀ p ∈ news, p ∈ news') → AutoOff w news' news x P → Q (.ref x) { s with heap := h', toks := tk' }) :
  wpAny (model PySem.Challenge.rw_xw0200_01.row.prog w) (ktrTop dp un gd cn cs L a ccd cl outer) (call (.ref 127) [v]) Q E s := by
  w_top off
  revert X; k_fill; intro X
  refine' call_cls ?k1 ?k2 ?k3 ?k4 ?k5 ?k6 ?_
  case k1 => k_asm
  case k2 => k_asm
  case k3 => k_asm
  case k4 => k_is
  case k5 => k_is
  case k6 => k_is
  intro x dx hx F₁ N₁ l1 l2
  clear F N
  have hoff : OwnOff news [dx, x] := by
    intro p hp b hb e
    have h1 := l1 p hp
    rcases List.mem_cons.mp hb with rfl | hb
    · rw [e] at h1; exact Nat.lt_irrefl _ h1
    · rw [List.mem_singleton.mp hb] at e; rw [e] at h1; exact Nat.lt_asymm h1 l2
  replace l2 := ltN l2
  k_dflt cell_enter
  k_steps
  rename_i l hA ltA hB d hC o lo hs fs hi fi ltD hD F₂ N₂
  have hN₂ : ∃ g1 g2 t1 t2, News _ _ hD ((d, o) :: (l, listOf #[] 0) :: (x, instObj 127 dx) :: (dx, selfDict w l d g1 g2 t1 t2 2) :: news) := ⟨_, _, _, _, N₂⟩
  clear N₂
  refine dig fun kG => ?_
  obtain ⟨g1, g2, t1, t2, N₂⟩ := hN₂
  refine gen_eq ({ na := l, nv := [], nn := 0, fa := d, fo := o, kvs := [], fl := [] }) fun (S₁ : AS) hS₁ => ?_
  have hOk₁ : S₁.Ok w [] P.size (fun _ _ => false) := by
    rw [hS₁]
    refine ⟨.nil, hi, fun i x hx => by simp at hx, rfl, rfl, fun i x hx => by simp at hx, ?_, lo, Nat.zero_le _, fun p q h => by cases h⟩
    show ([l, d] : List Addr).Nodup
    simp only [List.nodup_cons, List.mem_singleton, List.not_mem_nil, not_false_eq_true, List.nodup_nil, and_true]
    exact Nat.ne_of_lt ltD.1
  have had₁ : ∀ z ∈ S₁.adrs, z = l ∨ z = d := by
    intro z hz
    rw [hS₁] at hz
    rcases List.mem_cons.mp hz with rfl | hz
    · exact .inl rfl
    rcases List.mem_cons.mp hz with rfl | hz
    · exact .inr rfl
    · cases hz
  refine gen_eq ((d, o) :: (l, listOf #[] 0) :: (x, instObj 127 dx) :: (dx, selfDict w l d g1 g2 t1 t2 2) :: news) fun led hled => ?_
  rw [← hled] at N₂
  have mo : (d, o) ∈ led := by rw [hled]; exact .head _
  have ml : (l, listOf #[] 0) ∈ led := by rw [hled]; exact .tail _ (.head _)
  have mx : (x, instObj 127 dx) ∈ led := by rw [hled]; exact .tail _ (.tail _ (.head _))
  have md : (dx, selfDict w S₁.na S₁.fa g1 g2 t1 t2 2) ∈ led := by rw [hled, hS₁]; exact .tail _ (.tail _ (.tail _ (.head _)))
  have mn : ∀ p ∈ news, p ∈ led := fun p hp => by rw [hled]; exact .tail _ (.tail _ (.tail _ (.tail _ hp)))
  have nofx : ∀ z : Nat, z ≤ x → z ∉ S₁.adrs := by
    intro z hz hm
    rcases had₁ z hm with rfl | rfl
    · exact absurd ltA.1 (Nat.not_lt.mpr hz)
    · exact absurd ltD.2.1 (Nat.not_lt.mpr hz)
  have nofn : ∀ p ∈ news, p.1 ∉ S₁.adrs := fun p hp => nofx _ (Nat.le_of_lt (Nat.lt_trans (l1 p hp) l2))
  have hcore : ∀ p ∈ S₁.core, p ∈ led := by
    intro p hp
    rw [hS₁] at hp
    rcases List.mem_cons.mp hp with rfl | hp
    · exact ml
    rcases List.mem_cons.mp hp with rfl | hp
    · exact mo
    · cases hp
  have C := read_all (w := w) (pw := pw) (self := x) (dx := dx) (n := P.size) P.height P (Nat.le_refl _) led v S₁ [] (fun _ _ => false) hP (fun p hp => ⟨mn p (hK p hp), nofn p (hK p hp)⟩) ⟨⟨g1, g2, t1, t2, 2, mx, md⟩, nofx x (Nat.le_refl _), nofx dx (Nat.le_of_lt l2)⟩ hcore hOk₁ (by simp) hn
  refine kG ?_
  clear kG
  refine Hold.out ?_
  refine' CallSpec.use C ?kB ?kF ?kX ?kN ?kT ?kk ?kd ?ku ?_
  case kB => k_asm
  case kF => k_asm
  case kX => k_asm
  case kN => k_asm
  case kT => k_asm
  case kk => exact rfl
  case kd => first | exact room2 hdp (by decide) | exact room2s hdp (by decide) | exact room2h hdp (by assumption) (by decide) | exact room2hs hdp (by assumption) (by decide) | exact room2c hdp (by decide) | exact room1 hdp (by decide) | exact room1c hdp (by decide) | ktr_room
  case ku => (have hun : ((ktrTop dp un gd cn cs L a ccd cl outer).under (Code.builtin "type.__call__" { pos := [Value.ref 127, v] })).units = un + 1 := rfl); rw [hun]; omega
  intro b r h₃ tk₃ news₃ hb F₃ N₃ hp
  refine dig fun kG => ?_
  obtain ⟨D1, D2, D3, c1, c2, fs, ls, S', rfl, hb1, h12, h23, hg, had, hfs, hls, hok, rfl⟩ := hp
  have hxD : x < D1 := Nat.lt_of_lt_of_le (hb _ mx) hb1
  have hdD : dx < D1 := Nat.lt_of_lt_of_le (hb _ md) hb1
  replace h12 := ltN h12
  replace h23 := ltN h23
  replace hxD := ltN hxD
  replace hdD := ltN hdD
  have oxS : x ∉ S'.adrs := hg.notin (nofx x (Nat.le_refl _)) (hb _ mx)
  have odS : dx ∉ S'.adrs := hg.notin (nofx dx (Nat.le_of_lt l2)) (hb _ md)
  refine gen_eq (S'.core ++ news) fun rest hrest => ?_
  have hsub₄ : ∀ p ∈ (x, instObj 127 dx) :: (dx, selfDict w l d g1 g2 t1 t2 2) :: (D3, tupOf #[.bool P.null, .ref D1, .ref D2] 0) :: (D2, listOf ls.toArray c2) :: (D1, listOf fs.toArray c1) :: rest, p ∈ (D3, tupOf #[.bool P.null, .ref D1, .ref D2] 0) :: (D2, listOf ls.toArray c2) :: (D1, listOf fs.toArray c1) :: (S'.core ++ offs S₁.adrs led) := by
    intro p hp
    have tr : ∀ q ∈ led, q.1 ∉ S₁.adrs → q ∈ (D3, tupOf #[.bool P.null, .ref D1, .ref D2] 0) :: (D2, listOf ls.toArray c2) :: (D1, listOf fs.toArray c1) :: (S'.core ++ offs S₁.adrs led) := fun q hq hn => .tail _ (.tail _ (.tail _ (List.mem_append_right _ (mem_offs.mpr ⟨hq, hn⟩))))
    rcases List.mem_cons.mp hp with rfl | hp
    · exact tr _ mx (nofx x (Nat.le_refl _))
    rcases List.mem_cons.mp hp with rfl | hp
    · exact tr _ (by rw [hS₁] at md; exact md) (nofx dx (Nat.le_of_lt l2))
    rcases List.mem_cons.mp hp with rfl | hp
    · exact .head _
    rcases List.mem_cons.mp hp with rfl | hp
    · exact .tail _ (.head _)
    rcases List.mem_cons.mp hp with rfl | hp
    · exact .tail _ (.tail _ (.head _))
    rw [hrest] at hp
    rcases List.mem_append.mp hp with hp | hp
    · exact .tail _ (.tail _ (.tail _ (List.mem_append_left _ hp)))
    · exact tr _ (mn p hp) (nofn p hp)
  have N₄ := nw_sub N₃ hsub₄
  have hoff₄ : OwnOff rest [dx, x] := by
    intro p hp b hb e
    rw [hrest] at hp
    rcases List.mem_append.mp hp with hp | hp
    · have hm := AS.mem_adrs hp
      rw [e] at hm
      rcases List.mem_cons.mp hb with rfl | hb
      · exact odS hm
      · rw [List.mem_singleton.mp hb] at hm; exact oxS hm
    · exact hoff p hp b hb e
  clear N₃ N₂ F₂ hled C hoff
  refine kG ?_
  clear kG
  k_steps
  rename_i z1 z2 z3 z4 F₅ N₅ kF kN kT kX
  have mrest : ∀ p ∈ rest, ∀ o₁ o₂ o₃ o₄ o₅ : Addr × Obj, p ∈ o₁ :: o₂ :: o₃ :: o₄ :: o₅ :: rest := fun p hp _ _ _ _ _ => .tail _ (.tail _ (.tail _ (.tail _ (.tail _ hp))))
  have e1 : S'.na = l := hg.na.trans (by rw [hS₁])
  have e2 : S'.fa = d := hg.fa.trans (by rw [hS₁])
  refine hret x _ _ _ kF kN (fun p hp => mrest p (by rw [hrest]; exact List.mem_append_right _ hp) _ _ _ _ _) ⟨dx, l, d, D1, D2, S', g1, g2, _, _, _, t1, t2, _, _, _, _, c1, c2, fs, ls, e1.symm, e2.symm, .head _, .tail _ (.head _), fun p hp => mrest p (by rw [hrest]; exact List.mem_append_left _ hp) _ _ _ _ _, hok.congr fun p q => rfl, .tail _ (.tail _ (.tail _ (.tail _ (.head _)))), hfs, .tail _ (.tail _ (.tail _ (.head _))), hls, oxS, odS, fun p hp => hg.notin (nofn p hp) (hb _ (mn p hp))⟩

theorem init_c {w : World} {news pw : List (Addr × Obj)} {P : Part} {v : Value} {H : Nat} (hP : PartIn pw P v) (hK : ∀ p ∈ pw, p ∈ news) (hn : P.size ≤ 30) (hH : P.height ≤ H) :
    CallSpec w 127 (100 * H + 100) (600 * H + 600) news [v] (fun _ r news' => ∃ x, r = .ref x ∧ (∀ p ∈ news, p ∈ news') ∧ AutoIn w news' x P) := by
  intro loose mean mg mb dp un gd cn cs a ccd cl outer A₀ base h₀ L m s Q E B F X N T hk hd hu ret
  have lt := nw_lt N
  exact init_walk w B F X N hP hK hn hH T hk hd hu fun x h' tk' news' F' N' h1 h2 => ret s.heap.objs.size _ h' tk' news' lt F' N' ⟨x, rfl, h1, h2.auto⟩
theorem init_o {w : World} {news pw : List (Addr × Obj)} {P : Part} {v : Value} {H : Nat} (hP : PartIn pw P v) (hK : ∀ p ∈ pw, p ∈ news) (hn : P.size ≤ 30) (hH : P.height ≤ H) :
    CallSpec w 127 (100 * H + 100) (600 * H + 600) news [v] (fun _ r news' => ∃ x, r = .ref x ∧ (∀ p ∈ news, p ∈ news') ∧ AutoOff w news' news x P) := by
  intro loose mean mg mb dp un gd cn cs a ccd cl outer A₀ base h₀ L m s Q E B F X N T hk hd hu ret
  have lt := nw_lt N
  exact init_walk w B F X N hP hK hn hH T hk hd hu fun x h' tk' news' F' N' h1 h2 => ret s.heap.objs.size _ h' tk' news' lt F' N' ⟨x, rfl, h1, h2⟩
end Mine
end

-- text G0
section
open PySem PySem.W PyProof.Rows PySem.Calls PyProof.Rows.LCg
set_option maxRecDepth 100000
set_option maxHeartbeats 8000000
namespace Mine
def Part.isRow : Part → Bool
  | .name _ _ => false
  | .node s _ _ => s
def Part.mark : Part → Str
  | .name _ mk => mk
  | .node _ _ mk => mk
mutual
def Part.subs (n : Nat) : Part → List (Nat × Part)
  | .name nm mk => [(n, .name nm mk)]
  | .node s ps mk => Part.subss n ps ++ [(n, .node s ps mk)]
def Part.subss (n : Nat) : List Part → List (Nat × Part)
  | [] => []
  | p :: r => p.subs n ++ Part.subss (n + p.size) r
end
theorem Part.subss_snoc (c : Part) : ∀ (ps : List Part) (n : Nat), subss n (ps ++ [c]) = subss n ps ++ c.subs (n + sizes ps)
  | [], n => by simp [subss, sizes]
  | p :: r, n => by simp [subss, sizes, subss_snoc c r, Nat.add_assoc, List.append_assoc]
theorem Part.subss_append (qs : List Part) : ∀ (ps : List Part) (n : Nat), subss n (ps ++ qs) = subss n ps ++ subss (n + sizes ps) qs
  | [], n => by simp [subss, sizes]
  | p :: r, n => by simp [subss, sizes, subss_append qs r, Nat.add_assoc, List.append_assoc]
def begOk (kk : Bool) (bs : List Bool) (i : Nat) : Bool := !kk || !(bs.take i).contains false
def endOk (kk : Bool) (bs : List Bool) (i : Nat) : Bool := !kk || !(bs.drop (i + 1)).contains false
def pickAt (f : Nat → Bool) (i : Nat) : List Int := ((List.range i).filter f).map fun (k : Nat) => (k : Int)
theorem pickAt_yes {f : Nat → Bool} {i : Nat} (h : f i = true) : pickAt f (i + 1) = pickAt f i ++ [(i : Int)] := by
  unfold pickAt
  rw [List.range_succ, List.filter_append, List.map_append]
  simp [h]
theorem pickAt_no {f : Nat → Bool} {i : Nat} (h : f i = false) : pickAt f (i + 1) = pickAt f i := by
  unfold pickAt
  rw [List.range_succ, List.filter_append, List.map_append]
  simp [h]
/-- a node's list, its begins, its ends, its parts' list -/
def NodeHead (N : Nat) (led : List (Addr × Obj)) (n : Nat) (P : Part) (v : Value) (vs : List Value) : Prop :=
  ∃ (a b e p : Addr) (k kb ke kp : Nat) (t : Tok) (bs es : List Value), v = .ref a ∧ (a, listOf #[.bool P.isRow, .str P.mark t, .bool P.null, .ref b, .ref e, .ref p] k) ∈ led ∧ (b, listOf bs.toArray kb) ∈ led ∧ IntsAre bs (sel N (P.first n)) ∧
    (e, listOf es.toArray ke) ∈ led ∧ IntsAre es (sel N (P.last n)) ∧ (p, listOf vs.toArray kp) ∈ led
mutual
def NodeIn (N : Nat) (led : List (Addr × Obj)) (n : Nat) : Part → Value → Prop
  | .name nm mk, v => NodeHead N led n (.name nm mk) v []
  | .node s ps mk, v => ∃ vs, NodeHead N led n (.node s ps mk) v vs ∧ NodesIn N led n ps vs
def NodesIn (N : Nat) (led : List (Addr × Obj)) (n : Nat) : List Part → List Value → Prop
  | [], vs => vs = []
  | p :: r, vs => ∃ v vs', vs = v :: vs' ∧ NodeIn N led n p v ∧ NodesIn N led (n + p.size) r vs'
end
theorem NodeHead.mono {N : Nat} {led led' : List (Addr × Obj)} {n : Nat} {P : Part} {v : Value} {vs : List Value} (hs : ∀ p ∈ led, p ∈ led') (h : NodeHead N led n P v vs) : NodeHead N led' n P v vs := by
  refine dig fun kG => ?_
  obtain ⟨a, b, e, p, k, kb, ke, kp, t, bs, es, h1, h2, h3, h4, h5, h6, h7⟩ := h
  refine kG ?_
  clear kG
  exact ⟨a, b, e, p, k, kb, ke, kp, t, bs, es, h1, hs _ h2, hs _ h3, h4, hs _ h5, h6, hs _ h7⟩
mutual
theorem NodeIn.mono {N : Nat} {led led' : List (Addr × Obj)} (hs : ∀ p ∈ led, p ∈ led') : ∀ {n : Nat} (P : Part) {v : Value}, NodeIn N led n P v → NodeIn N led' n P v
  | n, .name nm mk, v, h => by simp only [NodeIn] at h ⊢; exact h.mono hs
  | n, .node s ps mk, v, h => by
    simp only [NodeIn] at h ⊢
    refine dig fun kG => ?_
    obtain ⟨vs, h1, h2⟩ := h
    refine kG ?_
    clear kG
    exact ⟨vs, h1.mono hs, NodesIn.mono hs ps h2⟩
theorem NodesIn.mono {N : Nat} {led led' : List (Addr × Obj)} (hs : ∀ p ∈ led, p ∈ led') : ∀ {n : Nat} (ps : List Part) {vs : List Value}, NodesIn N led n ps vs → NodesIn N led' n ps vs
  | n, [], vs, h => by simp only [NodesIn] at h ⊢; exact h
  | n, p :: r, vs, h => by
    simp only [NodesIn] at h ⊢
    refine dig fun kG => ?_
    obtain ⟨v, vs', h1, h2, h3⟩ := h
    refine kG ?_
    clear kG
    exact ⟨v, vs', h1, NodeIn.mono hs p h2, NodesIn.mono hs r h3⟩
end
theorem NodesIn.snoc {N : Nat} {led : List (Addr × Obj)} {c : Part} {v : Value} : ∀ {n : Nat} {ps : List Part} {vs : List Value}, NodesIn N led n ps vs → NodeIn N led (n + Part.sizes ps) c v → NodesIn N led n (ps ++ [c]) (vs ++ [v])
  | n, [], vs, h, hc => by
    simp only [NodesIn] at h
    subst h
    simp only [List.nil_append, NodesIn]
    exact ⟨v, [], rfl, by simpa [Part.sizes] using hc, rfl⟩
  | n, p :: r, vs, h, hc => by
    simp only [NodesIn] at h
    refine dig fun kG => ?_
    obtain ⟨v', vs', rfl, h2, h3⟩ := h
    refine kG ?_
    clear kG
    simp only [List.cons_append, NodesIn]
    exact ⟨v', vs' ++ [v], rfl, h2, h3.snoc (by simpa [Part.sizes, Nat.add_assoc] using hc)⟩
theorem NodesIn.length {N : Nat} {led : List (Addr × Obj)} : ∀ {n : Nat} {ps : List Part} {vs : List Value}, NodesIn N led n ps vs → vs.length = ps.length
  | n, [], vs, h => by simp only [NodesIn] at h; rw [h]; rfl
  | n, p :: r, vs, h => by
    simp only [NodesIn] at h
    refine dig fun kG => ?_
    obtain ⟨v', vs', rfl, h2, h3⟩ := h
    refine kG ?_
    clear kG
    simp [h3.length]
/-- where the i-th part begins -/
def Part.from (n : Nat) (ps : List Part) (i : Nat) : Nat := n + Part.sizes (ps.take i)
theorem NodesIn.get {N : Nat} {led : List (Addr × Obj)} : ∀ {n : Nat} {ps : List Part} {vs : List Value} (i : Nat) {v : Value}, NodesIn N led n ps vs → vs[i]? = some v → ∃ p, ps[i]? = some p ∧ NodeIn N led (Part.from n ps i) p v
  | n, [], vs, i, v, h, hv => by simp only [NodesIn] at h; rw [h] at hv; simp at hv
  | n, p :: r, vs, i, v, h, hv => by
    simp only [NodesIn] at h
    refine dig fun kG => ?_
    obtain ⟨v', vs', rfl, hp, h⟩ := h
    refine kG ?_
    clear kG
    cases i with
    | zero =>
      simp only [List.getElem?_cons_zero, Option.some.injEq] at hv
      subst hv
      exact ⟨p, rfl, by simpa [Part.from, Part.sizes] using hp⟩
    | succ i =>
      simp only [List.getElem?_cons_succ] at hv
      refine dig fun kG => ?_
      obtain ⟨q, h1, h2⟩ := NodesIn.get i h hv
      refine kG ?_
      clear kG
      exact ⟨q, by simpa using h1, by simpa [Part.from, Part.sizes, Nat.add_assoc] using h2⟩
theorem NodeIn.head {N : Nat} {led : List (Addr × Obj)} {n : Nat} {P : Part} {v : Value} (h : NodeIn N led n P v) : ∃ vs, NodeHead N led n P v vs := by
  cases P with
  | name nm mk => simp only [NodeIn] at h; exact ⟨_, h⟩
  | node s ps mk => simp only [NodeIn] at h; obtain ⟨vs, h, _⟩ := h; exact ⟨_, h⟩
inductive SubsIn (N : Nat) (led : List (Addr × Obj)) : List (Nat × Part) → List Value → Prop
  | nil : SubsIn N led [] []
  | cons {x : Nat × Part} {v : Value} {xs : List (Nat × Part)} {vs : List Value} : NodeIn N led x.1 x.2 v → SubsIn N led xs vs → SubsIn N led (x :: xs) (v :: vs)
theorem SubsIn.mono {N : Nat} {led led' : List (Addr × Obj)} {xs : List (Nat × Part)} {vs : List Value} (hs : ∀ p ∈ led, p ∈ led') (h : SubsIn N led xs vs) : SubsIn N led' xs vs := by
  induction h with
  | nil => exact .nil
  | cons h _ ih => exact .cons (h.mono hs) ih
theorem SubsIn.append {N : Nat} {led : List (Addr × Obj)} {xs ys : List (Nat × Part)} {vs us : List Value} (h : SubsIn N led xs vs) (h' : SubsIn N led ys us) : SubsIn N led (xs ++ ys) (vs ++ us) := by
  induction h with
  | nil => exact h'
  | cons h _ ih => exact .cons h ih
theorem SubsIn.length {N : Nat} {led : List (Addr × Obj)} {xs : List (Nat × Part)} {vs : List Value} (h : SubsIn N led xs vs) : vs.length = xs.length := by
  induction h with
  | nil => rfl
  | cons _ _ ih => simp [ih]
theorem SubsIn.get {N : Nat} {led : List (Addr × Obj)} {xs : List (Nat × Part)} {vs : List Value} (h : SubsIn N led xs vs) (i : Nat) {v : Value} (hv : vs[i]? = some v) : ∃ x, xs[i]? = some x ∧ NodeIn N led x.1 x.2 v := by
  induction h generalizing i with
  | nil => simp at hv
  | cons h _ ih =>
    cases i with
    | zero => simp at hv; subst hv; exact ⟨_, rfl, h⟩
    | succ i => simp only [List.getElem?_cons_succ] at hv ⊢; exact ih i hv
def NodePost (N : Nat) (n : Nat) (P : Part) (nA : Addr) (nv : List Value) (news : List (Addr × Obj)) (b : Nat) (r : Value) (news' : List (Addr × Obj)) : Prop :=
  ∃ (D k c : Nat) (tk : Tok) (v : Value) (sv : List Value) (seg : List (Addr × Obj)), r = .ref D ∧ b ≤ D ∧ (∀ p ∈ seg, b ≤ p.1) ∧ NodeIn N seg n P v ∧ SubsIn N seg (P.subs n) sv ∧
    news' = (D, tupOf #[v, .int ((n + P.size : Nat) : Int) tk] k) :: (nA, listOf (nv ++ sv).toArray c) :: (seg ++ offs [nA] news)
def NodeSpec (w : World) (pw : List (Addr × Obj)) (N : Nat) (P : Part) : Prop :=
  ∀ (news : List (Addr × Obj)) (v : Value) (n : Nat) (u : Tok) (nA kn : Nat) (nv : List Value), PartIn pw P v → (∀ p ∈ pw, p ∈ news ∧ p.1 ≠ nA) → (nA, listOf nv.toArray kn) ∈ news → n + P.size ≤ N → N ≤ 30 → nv.length + (P.subs n).length ≤ 100 →
    CallSpec w 157 (100 * P.height) (600 * P.height) news [v, .int (n : Int) u, .ref nA] (NodePost N n P nA nv news)
theorem cells_off {nA : Addr} {L : Nat} {rest : List (Addr × Obj)} (h1 : ∀ p ∈ rest, p.1 ≠ nA) (h2 : ∀ p ∈ rest, p.1 < L) : OwnOff rest [nA, L + 1 + 1 + 1, L + 1 + 1, L + 1] := by
  intro p hp b hb e
  have h3 : @LT.lt Nat _ p.1 L := h2 p hp
  rcases List.mem_cons.mp hb with rfl | hb
  · exact h1 p hp e
  rcases List.mem_cons.mp hb with hb | hb
  · have : @Eq Nat p.1 (L + 1 + 1 + 1) := e.trans hb
    omega
  rcases List.mem_cons.mp hb with hb | hb
  · have : @Eq Nat p.1 (L + 1 + 1) := e.trans hb
    omega
  · have : @Eq Nat p.1 (L + 1) := e.trans (List.mem_singleton.mp hb)
    omega
theorem off_split {nA : Addr} {o : Obj} {news : List (Addr × Obj)} (h : (nA, o) ∈ news) {h₀ hh : Heap} {L : Addr} (N : News h₀ L hh news) : News h₀ L hh ((nA, o) :: offs [nA] news) :=
  nw_sub N fun p hp => by
    rcases List.mem_cons.mp hp with rfl | hp
    · exact h
    · exact (mem_offs.mp hp).1
local macro_rules | `(tactic| k_mem) => `(tactic| assumption)
local macro_rules | `(tactic| walk_at "call ref") => `(tactic| (k_here; (with_reducible show wpAny _ _ (call (Value.ref _) _ _) _ _ _); refine Hold.mk ?_))
local macro_rules | `(tactic| walk_at "call builtin:list.append") => `(tactic| (k_here; k_dflt (refine' append_nv (by assumption) (by k_asm) (by k_asm) (by k_upd) ?_); intro h' F' N'))
theorem nn_walk (w : World) {loose : List Str} {mean : ExcName → Option Value} {mg mb : Str → Option Value}
  {dp un : Nat} {gd : Option (List Code)} {cn : Str} {cs : Scope} {a : Addr} {ccd : Value} {cl : List (Str × Addr)} {outer : List Env} {A₀ : Around} {base h₀ : Heap} {L : Addr} {m : Str → Option Value} {s : Shared} {Q E : Value → Shared → Prop}
  {news : List (Addr × Obj)} {t : Addr} {k : Nat} {nm mk : Str} {t1 t2 t3 : Tok} {n N₀ : Nat} {u : Tok} {nA kn : Nat} {nv : List Value}
  (B : Below A₀ base outer h₀) (F : Fr h₀ L s.heap m) (X : (hd.heap_39 w.params).In h₀) (Nw : News h₀ L s.heap news)
  (ht : (t, tupOf #[.str (Str.ofString "name") t1, .str nm t2, .str mk t3] k) ∈ news) (htn : t ≠ nA) (hnA : (nA, listOf nv.toArray kn) ∈ news) (hn : n + 1 ≤ N₀) (hN : N₀ ≤ 30) (hnv : nv.length ≤ 100)
  (T : Top hd.view_39 loose mean mg mb h₀) (hk : cs.kind = .function) (hdp : dp + 100 < recursionLimit) (hu : un + 600 < cLine)
  (hret : ∀ b r h' tk' news', (∀ p ∈ news, p.1 < b) → Fr h₀ L h' m → News h₀ L h' news' → NodePost N₀ n (.name nm mk) nA nv news b r news' → Q r { s with heap := h', toks := tk' }) :
  wpAny (model PySem.Challenge.rw_xw0200_01.row.prog w) (ktrTop dp un gd cn cs L a ccd cl outer) (call (.ref 157) [.ref t, .int n u, .ref nA]) Q E s := by
  refine dig fun kG => ?_
  refine gen_eq (offs [nA] news) fun rest hrest => ?_
  have N := off_split hnA Nw
  rw [← hrest] at N
  have htr : (t, tupOf #[.str (Str.ofString "name") t1, .str nm t2, .str mk t3] k) ∈ rest := by rw [hrest]; exact mem_offs.mpr ⟨ht, by simpa using htn⟩
  have hro : ∀ p ∈ rest, p.1 ≠ nA := fun p hp => by rw [hrest] at hp; simpa using (mem_offs.mp hp).2
  have hnl : ∀ p ∈ news, p.1 = nA ∨ p ∈ rest := fun p hp => by
    by_cases e : p.1 = nA
    · exact .inl e
    · rw [hrest]; exact .inr (mem_offs.mpr ⟨hp, by simpa using e⟩)
  refine kG ?_
  clear kG
  w_top off
  revert X; k_fill; intro X
  refine wpAny_call ?_
  k_dflt (walk_at "mine_enterC")
  rename_i g L₁ h₁ tk₁ FG F₁ B₁ X₁ T₁ l1 o1 o2 o3 d1 d2 d3 N₁
  have l2 := ktn_ltOf l1.2
  have l3 := ltN l1.1
  have hoff := cells_off hro l2
  clear N F
  k_steps
  rename_i xt lB hB ltB lE hE ltE lP hP ltP lNd hNd ltNd x1 x2 x3 lM hM ltM x4 x5 x6 D hD F9 N9 ltD kF kN Tc kX
  have ltnews : ∀ p ∈ news, p.1 < L₁ := fun p hp => by
    rcases hnl p hp with e | hm
    · rw [e]; exact l3
    · exact l2 p hm
  have e0 : (Part.name nm mk).size = 1 := by simp only [Part.size]
  have e1 : ∀ tq, IntsAre [Value.int ((n : Int) + 1) tq] (sel N₀ ((Part.name nm mk).first n)) := fun tq => by
    have : (Part.name nm mk).first n = fun z => z == (n : Int) + 1 := funext fun z => by simp only [Part.first]
    rw [this, sel_one (by omega) (by omega)]
    exact .cons _ _ .nil
  have e2 : ∀ tq, IntsAre [Value.int ((n : Int) + 1) tq] (sel N₀ ((Part.name nm mk).last n)) := fun tq => by
    have : (Part.name nm mk).last n = fun z => z == (n : Int) + 1 := funext fun z => by simp only [Part.last]
    rw [this, sel_one (by omega) (by omega)]
    exact .cons _ _ .nil
  have e3 : (Part.name nm mk).null = isOpt mk := by simp only [Part.null]
  have e4 : (Part.name nm mk).subs n = [(n, .name nm mk)] := by simp only [Part.subs]
  refine dig fun kG => ?_
  refine gen_eq ([(lNd, listOf #[.bool false, .str mk t3, .bool (isOpt mk), .ref lB, .ref lE, .ref lP] 0), (lP, listOf #[] 0), (lE, listOf #[.int ((n : Int) + 1) (xt + 1 + 1 + 1)] 0), (lB, listOf #[.int ((n : Int) + 1) (xt + 1)] 0)]) fun seg hseg => ?_
  have hNode : NodeIn N₀ seg n (.name nm mk) (.ref lNd) := by
    simp only [NodeIn]
    refine ⟨lNd, lB, lE, lP, 0, 0, 0, 0, t3, _, _, rfl, ?_, ?_, e1 (xt + 1), ?_, e2 (xt + 1 + 1 + 1), ?_⟩
    · rw [e3, hseg]; exact .head _
    · rw [hseg]; exact .tail _ (.tail _ (.tail _ (.head _)))
    · rw [hseg]; exact .tail _ (.tail _ (.head _))
    · rw [hseg]; exact .tail _ (.head _)
  have b1 : @LE.le Nat _ L₁ lB := by have := ltN ltB.1; omega
  have b2 : @LE.le Nat _ L₁ lE := by have := ltN ltE.1; omega
  have b3 : @LE.le Nat _ L₁ lP := by have := ltN ltP.1; omega
  have b4 : @LE.le Nat _ L₁ lNd := by have := ltN ltNd.1; omega
  have b5 : @LE.le Nat _ L₁ D := by have := ltN ltD.2.1; omega
  have hsb : ∀ p ∈ seg, L₁ ≤ p.1 := by
    intro p hp
    rw [hseg] at hp
    rcases List.mem_cons.mp hp with rfl | hp
    · exact b4
    rcases List.mem_cons.mp hp with rfl | hp
    · exact b3
    rcases List.mem_cons.mp hp with rfl | hp
    · exact b2
    · rw [List.mem_singleton.mp hp]; exact b1
  refine kG ?_
  clear kG
  refine hret L₁ _ _ _ ((D, tupOf #[Value.ref lNd, .int ((n + (Part.name nm mk).size : Nat) : Int) (x2 + 1)] 0) :: (nA, listOf (nv ++ [Value.ref lNd]).toArray (kn + 1)) :: (seg ++ offs [nA] news)) ltnews (by k_asm) (nw_sub (by k_asm) ?_) ⟨D, 0, kn + 1, _, .ref lNd, [.ref lNd], seg, rfl, b5, hsb, hNode, ?_, rfl⟩
  · intro p hp
    rcases List.mem_cons.mp hp with rfl | hp
    · rw [e0]; exact .head _
    rcases List.mem_cons.mp hp with rfl | hp
    · exact .tail _ (.tail _ (.tail _ (.tail _ (.tail _ (.tail _ (.tail _ (.tail _ (.tail _ (.head _)))))))))
    rcases List.mem_append.mp hp with hp | hp
    · rw [hseg] at hp
      rcases List.mem_cons.mp hp with rfl | hp
      · exact .tail _ (.tail _ (.head _))
      rcases List.mem_cons.mp hp with rfl | hp
      · exact .tail _ (.tail _ (.tail _ (.head _)))
      rcases List.mem_cons.mp hp with rfl | hp
      · exact .tail _ (.tail _ (.tail _ (.tail _ (.head _))))
      · rw [List.mem_singleton.mp hp]; exact .tail _ (.tail _ (.tail _ (.tail _ (.tail _ (.head _)))))
    · rw [← hrest] at hp
      exact .tail _ (.tail _ (.tail _ (.tail _ (.tail _ (.tail _ (.tail _ (.tail _ (.tail _ (.tail _ hp)))))))))
  · rw [e4]; exact .cons hNode .nil
end Mine
end

-- text G1
section
open PySem PySem.W PyProof.Rows PySem.Calls PyProof.Rows.LCg
set_option maxRecDepth 100000
set_option maxHeartbeats 8000000
namespace Mine
/-- midway in _law_node's loop over the parts -/
structure NodAt (N n nA pA : Nat) (nv : List Value) (kw : List (Addr × Obj)) (pre : List Part) (vs sv : List Value) (seg nx : List (Addr × Obj)) : Prop where
  parts : ∃ k, (pA, listOf vs.toArray k) ∈ nx
  nodes : ∃ c, (nA, listOf (nv ++ sv).toArray c) ∈ nx
  segs : ∀ p ∈ seg, p ∈ nx
  big : ∀ p ∈ seg, @LT.lt Nat _ pA p.1
  keep : ∀ p ∈ kw, p ∈ nx
  tree : NodesIn N seg n pre vs
  subs : SubsIn N seg (Part.subss n pre) sv
def NodTurn (N n nA pA : Nat) (nv : List Value) (kw : List (Addr × Obj)) (mk : Str) (t3 : Tok) (pre : List Part) (h₀ : Heap) (L : Addr) (it : Addr) (io : Obj) (s : Shared) (f : Flow) (s₂ : Shared) : Prop :=
  f = .next ∧ ∃ (h' : Heap) (tk' : Nat) (m' : Str → Option Value) (nx : List (Addr × Obj)) (vs sv : List Value) (seg : List (Addr × Obj)), s₂ = { s with heap := h', toks := tk' } ∧ Fr h₀ L h' m' ∧ News h₀ L h' ((it, io) :: nx) ∧ (∀ p ∈ nx, p.1 ≠ it) ∧
    NodAt N n nA pA nv kw pre vs sv seg nx ∧ (∃ t, m' (Str.ofString "many") = some (.int ((n + Part.sizes pre : Nat) : Int) t)) ∧ m' (Str.ofString "nodes") = some (.ref nA) ∧ m' (Str.ofString "mark") = some (.str mk t3)
section
variable {w : World} {A : Around} {E : Value → Shared → Prop} {s : Shared} {env : Env} {h₀ : Heap} {x : Str} {body : List Stmt} {Q : Flow → Shared → Prop}
theorem nod_iter {N n nA pA ta k2 : Nat} {nv tv : List Value} {kw news pw : List (Addr × Obj)} {mk : Str} {t3 u : Tok} {ps : List Part} {m₀ : Str → Option Value}
    (hh : A.handled = none) (F : Fr h₀ env.locals s.heap m₀) (Nw : News h₀ env.locals s.heap news) (hx : x = Str.ofString "one") (hps : PartsIn pw ps tv) (hta : (ta, tupOf tv.toArray k2) ∈ kw)
    (hm1 : m₀ (Str.ofString "many") = some (.int (n : Int) u)) (hm2 : m₀ (Str.ofString "nodes") = some (.ref nA)) (hm3 : m₀ (Str.ofString "mark") = some (.str mk t3))
    (h0 : NodAt N n nA pA nv kw [] [] [] [] news)
    (turn : ∀ (pre : List Part) (c : Part) v (vs sv : List Value) (seg : List (Addr × Obj)) nx h tk' it io (tq : Tok) (u : Str → Option Value), c ∈ ps → (∃ post, ps = pre ++ c :: post) → PartIn pw c v → NodAt N n nA pA nv kw pre vs sv seg nx → (∀ p ∈ nx, p.1 ≠ it) → (∀ p ∈ news, p.1 < it) →
      Fr h₀ env.locals h (fun y => if y = x then some v else if y = Str.ofString "many" then some (.int ((n + Part.sizes pre : Nat) : Int) tq) else if y = Str.ofString "nodes" then some (.ref nA) else if y = Str.ofString "mark" then some (.str mk t3) else u y) → News h₀ env.locals h ((it, io) :: nx) →
      wpAny (model PySem.Challenge.rw_xw0200_01.row.prog w) A (execs body env) (NodTurn N n nA pA nv kw mk t3 (pre ++ [c]) h₀ env.locals it io { s with heap := h, toks := tk' }) E { s with heap := h, toks := tk' })
    (done : ∀ (vs sv : List Value) (seg : List (Addr × Obj)) nx h tk' (tq : Tok) (u : Str → Option Value), NodAt N n nA pA nv kw ps vs sv seg nx →
      Fr h₀ env.locals h (fun y => if y = Str.ofString "many" then some (.int ((n + Part.sizes ps : Nat) : Int) tq) else if y = Str.ofString "nodes" then some (.ref nA) else if y = Str.ofString "mark" then some (.str mk t3) else u y) → News h₀ env.locals h nx → Q .next { s with heap := h, toks := tk' }) :
    wpAny (model PySem.Challenge.rw_xw0200_01.row.prog w) A (pyIter (.ref ta)) (fun it s₂ => LoopAtV PySem.Challenge.rw_xw0200_01.row.prog w A h₀ env x body Q E it s₂) E s := by
  have fold : ∀ (m : Str → Option Value) (v : Value), m (Str.ofString "many") = some v → m (Str.ofString "nodes") = some (.ref nA) → m (Str.ofString "mark") = some (.str mk t3) →
      (fun y => if y = Str.ofString "many" then some v else if y = Str.ofString "nodes" then some (.ref nA) else if y = Str.ofString "mark" then some (.str mk t3) else m y) = m := by
    intro m v e1 e2 e3
    funext y
    by_cases h1 : y = Str.ofString "many"
    · rw [if_pos h1, h1, e1]
    rw [if_neg h1]
    by_cases h2 : y = Str.ofString "nodes"
    · rw [if_pos h2, h2, e2]
    rw [if_neg h2]
    by_cases h3 : y = Str.ofString "mark"
    · rw [if_pos h3, h3, e3]
    rw [if_neg h3]
  refine iter_tup (vs := tv) (k := k2) (fun i m nx => ∃ (vs sv : List Value) (seg : List (Addr × Obj)), NodAt N n nA pA nv kw (ps.take i) vs sv seg nx ∧ (∃ t, m (Str.ofString "many") = some (.int ((n + Part.sizes (ps.take i) : Nat) : Int) t)) ∧ m (Str.ofString "nodes") = some (.ref nA) ∧ m (Str.ofString "mark") = some (.str mk t3))
    hh F Nw ⟨[], [], [], by simpa using h0, ⟨u, by simpa [Part.sizes] using hm1⟩, hm2, hm3⟩ (fun i m nx h => ?_) ?_ ?_
  · refine dig fun kG => ?_
    obtain ⟨_, _, _, h, _⟩ := h
    refine kG ?_
    clear kG
    exact h.keep _ hta
  · intro i v m₁ nx h tk' it io hv hP_1 hlt hoff F₁ N₁
    refine dig fun kG => ?_
    obtain ⟨vs, sv, seg, hR, ⟨tq, e1⟩, e2, e3⟩ := hP_1
    obtain ⟨c, hc, hcv⟩ := PartsIn.get i hps hv
    have hst : ps.take (i + 1) = ps.take i ++ [c] := by rw [List.take_add_one, hc]; rfl
    have hpost : ∃ post, ps = ps.take i ++ c :: post := by
      refine ⟨ps.drop (i + 1), ?_⟩
      obtain ⟨hlt, e⟩ := List.getElem?_eq_some_iff.mp hc
      rw [← e, List.getElem_cons_drop, List.take_append_drop]
    rw [← fold m₁ _ e1 e2 e3] at F₁
    refine kG ?_
    clear kG
    refine wpAny_mono (turn (ps.take i) c v vs sv seg nx h tk' it io tq m₁ (List.mem_of_getElem? hc) hpost hcv hR hoff hlt F₁ N₁) ?_ fun _ _ e => e
    intro f s₂ hP_2
    refine dig fun kG => ?_
    obtain ⟨rfl, h', tk₂, m', nx', vs', sv', seg', rfl, F', N', hn', hR', e1', e2', e3'⟩ := hP_2
    refine kG ?_
    clear kG
    exact ⟨h', tk₂, m', nx', rfl, F', N', hn', vs', sv', seg', hst ▸ hR', hst ▸ e1', e2', e3'⟩
  · intro m₁ nx h tk' hP_3 F₁ N₁
    refine dig fun kG => ?_
    obtain ⟨vs, sv, seg, hR, ⟨tq, e1⟩, e2, e3⟩ := hP_3
    rw [hps.length, List.take_length] at hR e1
    rw [← fold m₁ _ e1 e2 e3] at F₁
    refine kG ?_
    clear kG
    exact done vs sv seg nx h tk' tq m₁ hR F₁ N₁
end
end Mine
end

-- text H0
section
open PySem PySem.W PyProof.Rows PySem.Calls PyProof.Rows.LCg PyProof.Rows.LCt
set_option maxRecDepth 100000
set_option maxHeartbeats 8000000
namespace Mine
theorem size_up (n : Nat) : Builtin.Range.rangeSize 0 (n : Int) 1 = (n : Int) := by rw [rangeSize_nat]; simp
theorem fit_up {i : Int} (h : 0 ≤ i) (h' : i ≤ 1000) : Builtin.Range.rangeFitsLong i = true := by
  unfold Builtin.Range.rangeFitsLong
  rw [Bool.and_eq_true, decide_eq_true_eq, decide_eq_true_eq]
  omega
theorem small_up {n : Nat} (h : n ≤ 1000) : Builtin.Range.small 0 (n : Int) 1 = true := by
  unfold Builtin.Range.small
  rw [size_up, fit_up (i := 0) (by omega) (by omega), fit_up (i := (n : Int)) (by omega) (by omega), fit_up (i := 1) (by omega) (by omega)]
  simp only [Bool.and_true, Bool.true_and]
  simp only [gt_iff_lt, Int.zero_lt_one, if_true, Bool.or_eq_true]
  exact .inr (fit_up (by omega) (by omega))
section
variable {prog : Program} {w : World} {A : Around} {E : Value → Shared → Prop} {s : Shared} {h₀ : Heap} {L : Addr} {m : Str → Option Value} {env : Env} {elt ct : Expr} {x : Str} {scope : Scope} {cl : List (Str × Addr)}
theorem isL_of {news : List (Addr × Obj)} {l : Addr} {vs : List Value} {n : Nat} {hp : Heap} (N : News h₀ L hp news) (hm : (l, listOf vs.toArray n) ∈ news) : hp.IsList l vs.toArray := ⟨_, (N _ hm).1, rfl, _, rfl⟩
/-- the turn of a comprehension without a test -/
def TurnU (prog : Program) (w : World) (A : Around) (h₀ : Heap) (L : Addr) (m : Str → Option Value) (env : Env) (elt : Expr) (x : Str) (scope : Scope) (cl : List (Str × Addr)) (s : Shared) (P : Nat → Value → Prop) (J : Nat → List Value → List (Addr × Obj) → Prop) : Prop :=
  ∀ i v ys nx I oI C oC D m₂ h tk (E' : Value → Shared → Prop), P i v → J i ys nx → NsObj oC m₂ → m₂ x = some v → Fr h₀ L h m → News h₀ L h ((I, oI) :: (C, oC) :: (D, lst ys) :: nx) → Off3 I C D nx → ((@Ne Nat I C) ∧ (@Ne Nat I D) ∧ (@Ne Nat C D)) →
    wpAny (model prog w) A (eval elt (compEnvC scope cl C env)) (CompEnd h₀ L m { s with heap := h, toks := tk } I oI C oC D (lst ys) (fun _ => True) (fun y nx' => J (i + 1) (ys ++ [y]) nx')) E' { s with heap := h, toks := tk }
def TurnT (prog : Program) (w : World) (A : Around) (h₀ : Heap) (L : Addr) (m : Str → Option Value) (env : Env) (ct elt : Expr) (x : Str) (scope : Scope) (cl : List (Str × Addr)) (s : Shared) (P : Nat → Value → Prop) (J : Nat → List Value → List (Addr × Obj) → Prop) : Prop :=
  ∀ i v ys nx I oI C oC D m₂ h tk (E' : Value → Shared → Prop), P i v → J i ys nx → NsObj oC m₂ → m₂ x = some v → Fr h₀ L h m → News h₀ L h ((I, oI) :: (C, oC) :: (D, lst ys) :: nx) → Off3 I C D nx → ((@Ne Nat I C) ∧ (@Ne Nat I D) ∧ (@Ne Nat C D)) →
    wpAny (model prog w) A (isTrue ct (compEnvC scope cl C env) (eval ct (compEnvC scope cl C env))) (fun ok s' => if ok = true then
      wpAny (model prog w) A (eval elt (compEnvC scope cl C env)) (CompEnd h₀ L m { s with heap := h, toks := tk } I oI C oC D (lst ys) (fun _ => True) (fun y nx' => J (i + 1) (ys ++ [y]) nx')) E' s'
      else CompEnd h₀ L m { s with heap := h, toks := tk } I oI C oC D (lst ys) (fun _ => True) (fun _ nx' => J (i + 1) ys nx') Value.none s') E' { s with heap := h, toks := tk }
theorem compEnd_mono {s₁ : Shared} {I C D : Addr} {oI oC oD : Obj} {S S' : List (Addr × Obj) → Prop} {r r' : Value → List (Addr × Obj) → Prop} {y : Value} {s₂ : Shared} (h : CompEnd h₀ L m s₁ I oI C oC D oD S r y s₂) (hs : ∀ nx, S nx → r y nx → S' nx ∧ r' y nx) : CompEnd h₀ L m s₁ I oI C oC D oD S' r' y s₂ := by
  refine dig fun kG => ?_
  obtain ⟨h', tk, nx, e, F, N, off, hS, hr⟩ := h
  refine kG ?_
  clear kG
  exact ⟨h', tk, nx, e, F, N, off, (hs nx hS hr).1, (hs nx hS hr).2⟩
theorem restU_J {P : Nat → Value → Prop} {S : List (Addr × Obj) → Prop} {J : Nat → List Value → List (Addr × Obj) → Prop} {Fin : List Value → List (Addr × Obj) → Prop} {n : Nat} (hS : ∀ i ys nx, J i ys nx → S nx) (turn : TurnU prog w A h₀ L m env elt x scope cl s (fun i v => i < n ∧ P i v) J) (fin : ∀ ys nx, J n ys nx → Fin ys nx) :
    ∀ (k i : Nat) (ys : List Value) (nx : List (Addr × Obj)), i + k = n → J i ys nx → CompRest prog w A h₀ L m env elt x scope cl s S P Fin k i ys nx := by
  intro k
  induction k with
  | zero => intro i ys nx e hj; exact CompRest.zero (fin ys nx (by rw [← e]; exact hj))
  | succ k ih =>
    intro i ys nx e hj
    refine CompRest.succ fun v I oI C oC D m₂ h tk E' hv hC hm F N off hne => ?_
    refine wpAny_mono (turn i v ys nx I oI C oC D m₂ h tk E' ⟨by omega, hv⟩ hj hC hm F N off hne) (fun y s' q => compEnd_mono q fun nx' _ hr => ⟨hS _ _ _ hr, ?_⟩) fun _ _ e => e
    exact ih (i + 1) _ _ (by omega) hr
theorem restT_J {P : Nat → Value → Prop} {S : List (Addr × Obj) → Prop} {J : Nat → List Value → List (Addr × Obj) → Prop} {Fin : List Value → List (Addr × Obj) → Prop} {n : Nat} (hS : ∀ i ys nx, J i ys nx → S nx) (turn : TurnT prog w A h₀ L m env ct elt x scope cl s (fun i v => i < n ∧ P i v) J) (fin : ∀ ys nx, J n ys nx → Fin ys nx) :
    ∀ (k i : Nat) (ys : List Value) (nx : List (Addr × Obj)), i + k = n → J i ys nx → CompRestT prog w A h₀ L m env ct elt x scope cl s S P Fin k i ys nx := by
  intro k
  induction k with
  | zero => intro i ys nx e hj; exact CompRestT.zero (fin ys nx (by rw [← e]; exact hj))
  | succ k ih =>
    intro i ys nx e hj
    refine CompRestT.succ fun v I oI C oC D m₂ h tk E' hv hC hm F N off hne => ?_
    refine wpAny_mono (turn i v ys nx I oI C oC D m₂ h tk E' ⟨by omega, hv⟩ hj hC hm F N off hne) (fun ok s' q => ?_) fun _ _ e => e
    cases ok with
    | true =>
      simp only [if_true] at q ⊢
      refine wpAny_mono q (fun y s' q => compEnd_mono q fun nx' _ hr => ⟨hS _ _ _ hr, ?_⟩) fun _ _ e => e
      exact ih (i + 1) _ _ (by omega) hr
    | false =>
      simp only [Bool.false_eq_true, if_false] at q ⊢
      exact compEnd_mono q fun nx' _ hr => ⟨hS _ _ _ hr, ih (i + 1) _ _ (by omega) hr⟩
variable {Fin : Shared → List Value → List (Addr × Obj) → Prop} {news : List (Addr × Obj)} {s₁ : Shared}
theorem srcU_led {ax : Addr} {vs : List Value} {k : Nat} (J : Nat → List Value → List (Addr × Obj) → Prop) (hh : A.handled = none) (F : Fr h₀ L s₁.heap m) (N : News h₀ L s₁.heap news) (hsz : vs.length ≤ 1000) (hm : ∀ i ys nx, J i ys nx → (ax, listOf vs.toArray k) ∈ nx) (h0 : J 0 [] news)
    (turn : TurnU prog w A h₀ L m env elt x scope cl s₁ (fun i v => i < vs.length ∧ vs[i]? = some v) J) (fin : ∀ g ys nx, J vs.length ys nx → Fin { s₁ with heap := g } ys nx) : CompSrc prog w A h₀ L m env elt x scope cl Fin (.ref ax) s₁ := by
  refine CompSrc.ledger hh F N (hm _ _ _ h0) (by rw [sizeLine_eq, List.size_toArray]; omega) fun g => ?_
  have e : (fun (i : Nat) (v : Value) => vs.toArray[i]? = some v) = fun i v => vs[i]? = some v := by funext i v; rw [List.getElem?_toArray]
  rw [e, List.size_toArray]
  exact restU_J (s := { s₁ with heap := g }) (S := SrcAt h₀ ax vs.toArray) (fun i ys nx hj => .inr ⟨_, hm i ys nx hj, rfl, _, rfl⟩) turn (fin g) _ 0 [] news (Nat.zero_add _) h0
theorem srcT_led {ax : Addr} {vs : List Value} {k : Nat} (J : Nat → List Value → List (Addr × Obj) → Prop) (hh : A.handled = none) (F : Fr h₀ L s₁.heap m) (N : News h₀ L s₁.heap news) (hsz : vs.length ≤ 1000) (hm : ∀ i ys nx, J i ys nx → (ax, listOf vs.toArray k) ∈ nx) (h0 : J 0 [] news)
    (turn : TurnT prog w A h₀ L m env ct elt x scope cl s₁ (fun i v => i < vs.length ∧ vs[i]? = some v) J) (fin : ∀ g ys nx, J vs.length ys nx → Fin { s₁ with heap := g } ys nx) : CompSrcT prog w A h₀ L m env ct elt x scope cl Fin (.ref ax) s₁ := by
  refine CompSrcT.ledger hh F N (hm _ _ _ h0) (by rw [sizeLine_eq, List.size_toArray]; omega) fun g => ?_
  have e : (fun (i : Nat) (v : Value) => vs.toArray[i]? = some v) = fun i v => vs[i]? = some v := by funext i v; rw [List.getElem?_toArray]
  rw [e, List.size_toArray]
  exact restT_J (s := { s₁ with heap := g }) (S := SrcAt h₀ ax vs.toArray) (fun i ys nx hj => .inr ⟨_, hm i ys nx hj, rfl, _, rfl⟩) turn (fin g) _ 0 [] news (Nat.zero_add _) h0
theorem srcT_rng {r : Addr} {t u v : Tok} {n : Nat} (J : Nat → List Value → List (Addr × Obj) → Prop) (hh : A.handled = none) (F : Fr h₀ L s₁.heap m) (N : News h₀ L s₁.heap news) (hr : IsRange s₁.heap r 0 (n : Int) 1 t u v) (hsm : n ≤ 1000) (h0 : J 0 [] news)
    (turn : TurnT prog w A h₀ L m env ct elt x scope cl s₁ (fun i v => i < n ∧ ∃ t, v = .int (i : Int) t) J) (fin : ∀ g ys nx, J n ys nx → Fin { s₁ with heap := g } ys nx) : CompSrcT prog w A h₀ L m env ct elt x scope cl Fin (.ref r) s₁ := by
  refine CompSrcT.range (n := n) hh F N hr ?_ ?_ (by rw [sizeLine_eq]; omega) fun g => ?_
  · exact small_up (by omega)
  · exact size_up n
  have e : (fun (i : Nat) (v : Value) => ∃ t, v = .int ((0 : Int) + (i : Int)) t) = fun i v => ∃ t, v = .int (i : Int) t := by funext i v; rw [Int.zero_add]
  rw [e]
  exact restT_J (s := { s₁ with heap := g }) (S := fun _ => True) (fun i ys nx hj => trivial) turn (fin g) _ 0 [] news (Nat.zero_add _) h0
end
end Mine
end

-- text H1
section
open PySem PySem.W PyProof.Rows PySem.Calls PyProof.Rows.LCg PyProof.Rows.LCt
set_option maxRecDepth 100000
set_option maxHeartbeats 8000000
namespace Mine
theorem pick_upto (vs : List Value) (i : Nat) : slicePick vs.toArray none (some (i : Int)) none = (vs.take i).toArray := by
  have e : sliceBounds none (some (i : Int)) none vs.toArray.size = (((0 : Nat) : Int), ((min i vs.toArray.size : Nat) : Int), 1) := by
    simp only [sliceBounds, Option.getD_none, show (1 : Int) > 0 by decide, if_true, if_neg (show ¬ ((i : Int) < 0) by omega)]
    congr 1
    congr 1
    omega
  rw [kmk_pick_nat _ e]
  show ((vs.drop 0).take (min i vs.toArray.size - 0)).toArray = _
  rw [List.drop_zero, Nat.sub_zero, List.size_toArray, kmk_take_min]
theorem pick_from (vs : List Value) (i : Nat) : slicePick vs.toArray (some ((i : Int) + 1)) none none = (vs.drop (i + 1)).toArray := by
  have e : sliceBounds (some ((i : Int) + 1)) none none vs.toArray.size = (((min (i + 1) vs.toArray.size : Nat) : Int), ((vs.toArray.size : Nat) : Int), 1) := by
    simp only [sliceBounds, Option.getD_none, show (1 : Int) > 0 by decide, if_true, if_neg (show ¬ ((i : Int) + 1 < 0) by omega)]
    congr 1
    omega
  rw [kmk_pick_nat _ e]
  show ((vs.drop (min (i + 1) vs.toArray.size)).take (vs.toArray.size - min (i + 1) vs.toArray.size)).toArray = _
  rw [List.size_toArray, kmk_drop_min, List.take_of_length_le (by rw [List.length_drop]; omega)]
theorem pick_run (vs : List Value) (i j : Nat) : slicePick vs.toArray (some ((i : Int) + 1)) (some (j : Int)) none = ((vs.take j).drop (i + 1)).toArray := by
  have e : sliceBounds (some ((i : Int) + 1)) (some (j : Int)) none vs.toArray.size = (((min (i + 1) vs.toArray.size : Nat) : Int), ((min j vs.toArray.size : Nat) : Int), 1) := by
    simp only [sliceBounds, Option.getD_none, show (1 : Int) > 0 by decide, if_true, if_neg (show ¬ ((i : Int) + 1 < 0) by omega), if_neg (show ¬ ((j : Int) < 0) by omega)]
    congr 1
    · omega
    · congr 1
      omega
  rw [kmk_pick_nat _ e]
  show ((vs.drop (min (i + 1) vs.toArray.size)).take (min j vs.toArray.size - min (i + 1) vs.toArray.size)).toArray = _
  rw [List.size_toArray, kmk_drop_min, List.drop_take]
  congr 1
  by_cases h : j ≤ vs.length
  · rw [Nat.min_eq_left h]
    by_cases h' : i + 1 ≤ vs.length
    · rw [Nat.min_eq_left h']
    · rw [List.drop_of_length_le (by omega)]; simp
  · rw [Nat.min_eq_right (by omega)]
    by_cases h' : i + 1 ≤ vs.length
    · rw [Nat.min_eq_left h', List.take_of_length_le (by rw [List.length_drop]; omega), List.take_of_length_le (by rw [List.length_drop]; omega)]
    · rw [List.drop_of_length_le (by omega)]; simp
theorem pick_upto_b (bs : List Bool) (i : Nat) : slicePick (bs.map Value.bool).toArray none (some (i : Int)) none = ((bs.take i).map Value.bool).toArray := by rw [pick_upto, List.map_take]
theorem pick_from_b (bs : List Bool) (i : Nat) : slicePick (bs.map Value.bool).toArray (some ((i : Int) + 1)) none none = ((bs.drop (i + 1)).map Value.bool).toArray := by rw [pick_from, List.map_drop]
section
variable {prog : Program} {w : World} {A : Around} {E : Value → Shared → Prop} {s : Shared} {h₀ : Heap} {L : Addr} {m : Str → Option Value} {news : List (Addr × Obj)}
def isBool (x : Bool) : Value → Bool
  | .bool b => b == x
  | _ => false
theorem any_isBool (x : Bool) (bs : List Bool) : (bs.map Value.bool).toArray.any (isBool x) = bs.contains x := by
  rw [← Array.any_toList]
  induction bs with
  | nil => rfl
  | cons b r ih =>
    simp only [List.map_cons, List.any_cons, isBool, List.contains_cons]
    rw [← ih]
    congr 1
    cases b <;> cases x <;> rfl
theorem eq_isBool {x : Bool} {bs : List Bool} : ∀ y, y ∈ (bs.map Value.bool).toArray → SeqAt.EqAt A.in1 s y (.bool x) (isBool x y) := by
  intro y hy
  have : y ∈ bs.map Value.bool := by simpa using hy
  obtain ⟨b, _, rfl⟩ := List.mem_map.mp this
  exact SeqAt.EqAt.bool_bool b x
theorem notIn_bools {l : Addr} {n : Nat} {bs : List Bool} {x : Bool} {Q : Value → Shared → Prop} (N : News h₀ L s.heap news) (hm : (l, listOf (bs.map Value.bool).toArray n) ∈ news) (h : Q (.bool (!bs.contains x)) s) :
    wpAny (model prog w) A (compareOp .NotIn (.bool x) (.ref l)) Q E s :=
  SeqAt.notIn_listAt (isBool x) (isL_of N hm) eq_isBool (by rw [any_isBool]; exact h)
theorem in_bools {l : Addr} {n : Nat} {bs : List Bool} {x : Bool} {Q : Value → Shared → Prop} (N : News h₀ L s.heap news) (hm : (l, listOf (bs.map Value.bool).toArray n) ∈ news) (h : Q (.bool (bs.contains x)) s) :
    wpAny (model prog w) A (compareOp .In (.bool x) (.ref l)) Q E s :=
  SeqAt.in_listAt (isBool x) (isL_of N hm) eq_isBool (by rw [any_isBool]; exact h)
theorem len_led {D : Addr} {vs : List Value} {n : Nat} {Q : Value → Shared → Prop} (hl : vs.length ≤ 1000) (N : News h₀ L s.heap news) (hm : (D, listOf vs.toArray n) ∈ news)
    (h : ∀ t tk, Q (.int ((vs.length : Nat) : Int) t) { s with toks := tk }) : wpAny (model prog w) A (call (.builtin "len") [.ref D]) Q E s := by
  have e : (vs.toArray.size : Int) = (vs.length : Int) := by rw [List.size_toArray]
  refine call_len_list ⟨_, (N _ hm).1, rfl, _, rfl⟩ (by rw [e]; omega) ?_
  rw [e]
  exact h _ _
theorem item_nat {value slice : PySem.Expr} {l : Addr} {vs : List Value} {i n : Nat} {u : Tok} {v : Value} {Q : Value → Shared → Prop} (N : News h₀ L s.heap news) (hm : (l, listOf vs.toArray n) ∈ news) (hx : vs[i]? = some v) (hl : vs.length ≤ 1000) (h : Q v s)
    (hs : subscripted slice false (.ref l) (.int (i : Int) u) = operate [.ref l, .int (i : Int) u] (getItem (.ref l) (.int (i : Int) u)) := by with_unfolding_all rfl) :
    wpAny (model prog w) A (subscriptTail value slice (.ref l) (.int (i : Int) u)) Q E s := by
  have := (List.getElem?_eq_some_iff.mp hx).1
  exact item_litK (isL_of N hm) (by omega) (by omega) (by simpa using hx) h hs
theorem slice_zs {l : Addr} {vs zs : List Value} {vl vu : Value} {lo hi : Option Int} {n : Nat} {value slice : PySem.Expr} {Q : Value → Shared → Prop} (F : Fr h₀ L s.heap m) (N : News h₀ L s.heap news) (hm : (l, listOf vs.toArray n) ∈ news) (pl : IsPart vl lo) (pu : IsPart vu hi) (e : slicePick vs.toArray lo hi none = zs.toArray) (hz : vs.length ≤ 1000)
    (h : ∀ D h', Fr h₀ L h' m → News h₀ L h' ((D, listOf zs.toArray 0) :: news) → (∀ p ∈ news, p.1 < D) → Q (.ref D) { s with heap := h' })
    (hs : subscripted slice false (.ref l) (.ref s.heap.objs.size) = operate [.ref s.heap.objs.size, .ref l] (getItem (.ref l) (.ref s.heap.objs.size))) (ht : ∀ r, letTemporaryGo value (.ref l) r = pure ()) :
    wpAny (model prog w) A (subscriptTail value slice (.ref l) (.ref s.heap.objs.size)) Q E { s with heap := s.heap.push { cls := .type "slice", data := .fields #[vl, vu, .none] } } :=
  kmk_slice_lit F N (isL_of N hm) pl pu (by rw [e]) h hs ht (by rw [sizeLine_eq, List.size_toArray]; omega)
end
end Mine
end

-- text H2
section
open PySem PySem.Spec PySem.W PyProof.Rows PySem.Calls PyProof.Rows.LCg PyProof.Rows.LCt
set_option maxRecDepth 100000
set_option maxHeartbeats 2000000
namespace Mine
section
variable {prog : Program} {w : World} {A : Around} {E : Value → Shared → Prop} {R : Result → Shared → Prop} {s : Shared}
theorem compTurn_two0 (elt t1 i1 t2 i2 : Expr) (scope : Scope) (pos : Pos) (it acc : Value) (env : Env) :
    compTurn (.ListComp elt [⟨t1, i1, [], 0⟩, ⟨t2, i2, [], 0⟩] scope pos) 0 it acc env = (standAt i1.pos >>= fun _ => pyNext it >>= fun r => match r with
      | none => pure (.done .next)
      | some v => letOwnedTupleGo t1 it v >>= fun _ => assign t1 env v >>= fun _ =>
        (eval i2 env >>= fun x => standAt i2.pos >>= fun _ => foldedSetIterable i2 env x >>= fun x => holding [x] (pyIter x) >>= fun it2 =>
          runOwn (.compStart (.ListComp elt [⟨t1, i1, [], 0⟩, ⟨t2, i2, [], 0⟩] scope pos) 1 it2 acc env) env >>= fun _ =>
          again (.compLoop (.ListComp elt [⟨t1, i1, [], 0⟩, ⟨t2, i2, [], 0⟩] scope pos) 0 it acc env))) := by rfl
theorem compTurn_two1 (elt t1 i1 t2 i2 : Expr) (scope : Scope) (pos : Pos) (it acc : Value) (env : Env) :
    compTurn (.ListComp elt [⟨t1, i1, [], 0⟩, ⟨t2, i2, [], 0⟩] scope pos) 1 it acc env = (standAt i2.pos >>= fun _ => pyNext it >>= fun r => match r with
      | none => pure (.done .next)
      | some v => letOwnedTupleGo t2 it v >>= fun _ => assign t2 env v >>= fun _ =>
        (eval elt env >>= fun x => call (.builtin "list.append") [acc, x] >>= fun _ => pure ()) >>= fun _ =>
          again (.compLoop (.ListComp elt [⟨t1, i1, [], 0⟩, ⟨t2, i2, [], 0⟩] scope pos) 1 it acc env)) := by rfl
theorem loop_two1 {elt t1 i1 t2 i2 : Expr} {scope : Scope} {pos : Pos} {it acc : Value} {env : Env} (I : Nat → Shared → Prop)
    (turn : ∀ n s, I n s → wpAny (model prog w) A (pyNext it) (fun r s₁ => match r with
      | none => R (.ok .next) s₁
      | some v => wpAny (model prog w) A (assign t2 env v) (fun _ s₂ => wpAny (model prog w) A (eval elt env) (fun x s₃ =>
          wpAny (model prog w) A (call (.builtin "list.append") [acc, x]) (fun _ s₄ => ∃ m, m < n ∧ I m s₄) (notedBy (model prog w) A env fun e s' => R (.error e) s') s₃)
          (notedBy (model prog w) A env fun e s' => R (.error e) s') s₂) (notedBy (model prog w) A env fun e s' => R (.error e) s') s₁) (notedBy (model prog w) A env fun e s' => R (.error e) s') s)
    (n : Nat) (h : I n s) (ht : ∀ v, letOwnedTupleGo t2 it v = pure () := by intro _; rfl) :
    codeAny (model prog w) A (.compLoop (.ListComp elt [⟨t1, i1, [], 0⟩, ⟨t2, i2, [], 0⟩] scope pos) 1 it acc env) R s := by
  refine codeAny_loop rfl I (fun n s hI => ?_) n h
  show wpAny _ _ ((compTurn (.ListComp elt [⟨t1, i1, [], 0⟩, ⟨t2, i2, [], 0⟩] scope pos) 1 it acc env).onRaise (fun x => do noteFrame x env; theTreesLotGoes x)) _ _ s
  refine wpAny_noted ?_
  rw [compTurn_two1]
  refine wpAny_bind (wpAny_standAt (wpAny_bind (wpAny_mono (turn n s hI) (fun r s₁ h₁ => ?_) fun _ _ h' => h')))
  cases r with
  | none => exact wpAny_pure h₁
  | some v =>
    refine wpAny_bind (wpAny_of_eq (ht v) ?_)
    refine wpAny_bind (wpAny_mono h₁ (fun _ s₂ h₂ => ?_) fun _ _ h' => h')
    exact wpAny_bind (wpAny_bind (wpAny_mono h₂ (fun x s₃ h₃ => wpAny_bind (wpAny_mono h₃ (fun _ s₄ h₄ => wpAny_pure (wpAny_pure ⟨rfl, h₄⟩)) fun _ _ h' => h')) fun _ _ h' => h'))
theorem start_two1 {elt t1 i1 t2 i2 : Expr} {scope : Scope} {pos : Pos} {it acc : Value} {env : Env}
    (h0 : codeAny (model prog w) A (.compLoop (.ListComp elt [⟨t1, i1, [], 0⟩, ⟨t2, i2, [], 0⟩] scope pos) 1 it acc env) R s)
    (h : wpAny (model prog w) A (pyIter it) (fun it' s' => codeAny (model prog w) A (.compLoop (.ListComp elt [⟨t1, i1, [], 0⟩, ⟨t2, i2, [], 0⟩] scope pos) 1 it' acc env) R s')
      (notedBy (model prog w) A env fun x s' => R (.error x) s') s) :
    codeAny (model prog w) A (.compStart (.ListComp elt [⟨t1, i1, [], 0⟩, ⟨t2, i2, [], 0⟩] scope pos) 1 it acc env) R s := by
  refine codeAny_of_tree ?_
  show wpAny _ _ ((compStart (.ListComp elt [⟨t1, i1, [], 0⟩, ⟨t2, i2, [], 0⟩] scope pos) 1 it acc env).onRaise (fun x => do noteFrame x env; standAt theWindowsPlace)) _ _ s
  refine wpAny_notedAt ?_
  unfold compStart
  show wpAny _ _ (ask >>= _) _ _ s
  refine wpAny_bind (wpAny_askSetting (wpAny_ite ?_))
  split
  · first
      | exact wpAny_bind (wpAny_pure (wpAny_pure (And.intro rfl h0)))
      | exact wpAny_pure (And.intro rfl h0)
  · first
      | exact wpAny_bind (wpAny_rule (wpAny_bind (wpAny_standAt (wpAny_bind (wpAny_mono h (fun it' s' h' => wpAny_pure (And.intro rfl h')) fun _ _ x => x)))))
      | (refine wpAny_bind (wpAny_rule ?_); show wpAny _ _ (standAt i2.pos >>= _) _ _ s; exact wpAny_bind (wpAny_standAt (wpAny_bind (wpAny_mono h (fun it' s' h' => wpAny_pure (And.intro rfl h')) fun _ _ x => x))))
theorem loop_two0 {elt t1 i1 t2 i2 : Expr} {scope : Scope} {pos : Pos} {it acc : Value} {env : Env} (I : Nat → Shared → Prop)
    (turn : ∀ n s, I n s → wpAny (model prog w) A (pyNext it) (fun r s₁ => match r with
      | none => R (.ok .next) s₁
      | some v => wpAny (model prog w) A (assign t1 env v) (fun _ s₂ => wpAny (model prog w) A (eval i2 env) (fun x s₃ => wpAny (model prog w) A (pyIter x) (fun it2 s₄ =>
          codeAny (model prog w) A (.compStart (.ListComp elt [⟨t1, i1, [], 0⟩, ⟨t2, i2, [], 0⟩] scope pos) 1 it2 acc env) (fun r s₅ => match r with | .ok _ => ∃ m, m < n ∧ I m s₅ | .error _ => False) s₄)
          (notedBy (model prog w) A env fun e s' => R (.error e) s') s₃)
          (notedBy (model prog w) A env fun e s' => R (.error e) s') s₂) (notedBy (model prog w) A env fun e s' => R (.error e) s') s₁) (notedBy (model prog w) A env fun e s' => R (.error e) s') s)
    (n : Nat) (h : I n s) (ht : ∀ v, letOwnedTupleGo t1 it v = pure () := by intro _; rfl) (hs : ∀ x, foldedSetIterable i2 env x = pure x := by intro _; rfl) :
    codeAny (model prog w) A (.compLoop (.ListComp elt [⟨t1, i1, [], 0⟩, ⟨t2, i2, [], 0⟩] scope pos) 0 it acc env) R s := by
  refine codeAny_loop rfl I (fun n s hI => ?_) n h
  show wpAny _ _ ((compTurn (.ListComp elt [⟨t1, i1, [], 0⟩, ⟨t2, i2, [], 0⟩] scope pos) 0 it acc env).onRaise (fun x => do noteFrame x env; theTreesLotGoes x)) _ _ s
  refine wpAny_noted ?_
  rw [compTurn_two0]
  refine wpAny_bind (wpAny_standAt (wpAny_bind (wpAny_mono (turn n s hI) (fun r s₁ h₁ => ?_) fun _ _ h' => h')))
  cases r with
  | none => exact wpAny_pure h₁
  | some v =>
    refine wpAny_bind (wpAny_of_eq (ht v) ?_)
    refine wpAny_bind (wpAny_mono h₁ (fun _ s₂ h₂ => ?_) fun _ _ h' => h')
    refine wpAny_bind (wpAny_mono h₂ (fun x s₃ h₃ => ?_) fun _ _ h' => h')
    refine wpAny_bind (wpAny_standAt (wpAny_bind (wpAny_of_eq (hs x) ?_)))
    refine wpAny_bind (wpAny_holding (wpAny_mono h₃ (fun it2 s₄ h₄ => ?_) fun _ _ h' => h'))
    refine wpAny_bind (wpAny_runOwn (codeAny_mono h₄ fun r s₅ h₅ => ?_))
    cases r with
    | ok f => exact wpAny_pure ⟨rfl, h₅⟩
    | error e => exact h₅.elim
end
end Mine
end

-- text H3
section
open PySem PySem.Spec PySem.W PyProof.Rows PySem.Calls PyProof.Rows.LCg PyProof.Rows.LCt
set_option maxRecDepth 100000
set_option maxHeartbeats 2000000
namespace Mine
section
variable {prog : Program} {w : World} {A : Around} {E : Value → Shared → Prop} {s : Shared} {h₀ : Heap} {L : Addr} {m : Str → Option Value} {env : Env} {news : List (Addr × Obj)}
/-- a comprehension with two clauses that lays lists end to end -/
theorem flat_comp {iter i2 : Expr} {x y : Str} {px py pe pos : Pos} {scope : Scope} {cl : List (Str × Addr)} {xs : List Value} {zs : Nat → List Value} {ax : Addr} {k : Nat} {Q : Value → Shared → Prop}
    (F : Fr h₀ L s.heap m) (N : News h₀ L s.heap news) (hm : (ax, listOf xs.toArray k) ∈ news) (hx : xs.length ≤ 100) (hh : A.handled = none)
    (hclos : closureFor scope env = pure cl) (hcell : ∀ y ∈ scope.names, y.2 ≠ .cell) (hkind : scope.kind = .function) (hnames : ∀ y ∈ scope.names, y.2 = .local → scope.names.lookup y.1 = some .local)
    (hlx : scope.names.lookup x = some .local) (hly : scope.names.lookup y = some .local) (hd : (y == ("__debug__" : Str)) = false)
    (hiter : ∀ Q : Value → Shared → Prop, Q (.ref ax) s → wpAny (model prog w) A (eval iter env) Q E s)
    (inner : ∀ i v, xs[i]? = some v → ∃ bx kz, (bx, listOf (zs i).toArray kz) ∈ news ∧ (zs i).length ≤ 100 ∧
      ∀ C oC m₂ h tk led (E' Q : Value → Shared → Prop), NsObj oC m₂ → m₂ x = some v → Fr h₀ L h m → News h₀ L h ((C, oC) :: led) → (∀ p ∈ news, p ∈ led) → (∀ tk', Q (.ref bx) { s with heap := h, toks := tk' }) →
        wpAny (model prog w) A (eval i2 (compEnvC scope cl C env)) Q E' { s with heap := h, toks := tk })
    (hQ : ∀ D h tk, Fr h₀ L h m → News h₀ L h ((D, lst ((List.range xs.length).flatMap zs)) :: news) → (∀ p ∈ news, @LT.lt Nat _ p.1 D) → Q (.ref D) { s with heap := h, toks := tk })
    (hs : ∀ x, foldedSetIterable iter env x = pure x := by intro _; rfl) (hs2 : ∀ C x, foldedSetIterable i2 (compEnvC scope cl C env) x = pure x := by intro _ _; rfl) :
    wpAny (model prog w) A (eval (.ListComp (.Name y pe) [⟨.Name x px, iter, [], 0⟩, ⟨.Name y py, i2, [], 0⟩] scope pos) env) Q E s := by
  have hlen : ∀ i, i ≤ xs.length → ((List.range i).flatMap zs).length ≤ i * 100 := by
    intro i
    induction i with
    | zero => intro _; simp
    | succ i ih =>
      intro hi
      refine dig fun kG => ?_
      obtain ⟨_, _, _, h2, _⟩ := inner i _ (List.getElem?_eq_getElem (by omega : i < xs.length))
      refine kG ?_
      clear kG
      rw [List.range_succ, List.flatMap_append, List.length_append]
      have := ih (by omega)
      simp only [List.flatMap_cons, List.flatMap_nil, List.append_nil]
      omega
  rw [eval_ListComp]
  refine wpAny_comprehension_free (use := none) rfl hs hclos hkind hnames (hiter _ ?_)
  have hl : s.heap.IsList ax xs.toArray := isL_of N hm
  have hlt : ax < s.heap.objs.size := Heap.lt_size (N _ hm).1
  refine wpAny_pyIter_list hl ?_
  refine dig fun kG => ?_
  refine gen_eq (s.heap.objs.size) fun I hI => ?_
  refine gen_eq ({ s with heap := s.heap.push { cls := .type "list_iterator", data := .fields #[.ref ax, .int 0 0] } }) fun (s₂ : Shared) hs₂ => ?_
  have up : ∀ b o, s.heap.get? b = some o → s₂.heap.get? b = some o := fun b o e => by rw [hs₂]; exact Heap.get?_push_of_some _ e
  have F₂ : Fr h₀ L s₂.heap m := F.keeps up
  have N₂ : News h₀ L s₂.heap news := N.grown up
  have hit₂ : s₂.heap.IsListIter I ax 0 := by rw [hs₂, hI]; exact ⟨_, Heap.get?_push_size _ rfl, rfl, rfl⟩
  have hIL : L ≠ I := by rw [hI]; exact Nat.ne_of_lt F.ns.lt
  have hI₀ : h₀.get? I = none := by rw [hI]; exact next_is_new F
  have offI : ∀ p ∈ news, p.1 ≠ I := fun p hp => by rw [hI]; exact Nat.ne_of_lt (Heap.lt_size (N p hp).1)
  have hsz₂ : s₂.heap.objs.size = I + 1 := by rw [hs₂, hI]; exact Heap.size_push ..
  refine kG ?_
  clear kG
  rw [← hs₂, ← hI]
  refine wpAny_newObj_type (wpAny_newFunctionEnv hcell (by intro y hy; simp at hy) (fun h₁ hns₁ hsb₁ => ?_) hkind)
  dsimp only at hns₁ hsb₁ ⊢
  generalize hH2 : s₂.heap.push { cls := .type "list", dict := none, data := .seq ([] : List Value).toArray } = H2 at hns₁ hsb₁ ⊢
  have hC : H2.objs.size = s₂.heap.objs.size + 1 := by rw [← hH2, Heap.size_push]
  refine gen_eq (H2.objs.size) fun C hCe => ?_
  refine gen_eq (s₂.heap.objs.size) fun D hDe => ?_
  rw [← hCe] at hC hns₁ hsb₁ ⊢
  rw [← hDe] at hC ⊢
  have hDC : D ≠ C := by rw [hC]; exact Nat.ne_of_lt (Nat.lt_succ_self _)
  have below : ∀ b, b < D → b ≠ C ∧ b ≠ D := fun b hb => ⟨by rw [hC]; exact Nat.ne_of_lt (Nat.lt_succ_of_lt hb), Nat.ne_of_lt hb⟩
  have hIlt : I < D := by rw [hDe, hsz₂]; exact Nat.lt_succ_self _
  have ltD : ∀ b o, s₂.heap.get? b = some o → b < D := fun b o e => by rw [hDe]; exact Heap.lt_size e
  have old : ∀ b o, s₂.heap.get? b = some o → h₁.get? b = some o := fun b o e => hsb₁.extBut b o (below b (ltD _ _ e)).1 (Heap.get?_push_of_some _ (hH2 ▸ Heap.get?_push_of_some _ e))
  have hacc : h₁.get? D = some (lst []) := hsb₁.extBut _ _ hDC (Heap.get?_push_of_some _ (by rw [hDe]; exact hH2 ▸ Heap.get?_push_size _ rfl))
  have fresh₀ : ∀ a, s₂.heap.objs.size ≤ a → h₀.get? a = none := fun a ha => by
    cases e : h₀.get? a with
    | none => rfl
    | some o' => exact absurd (Heap.lt_size (F₂.keep a o' e)) (Nat.not_lt.mpr ha)
  have hD₀ : h₀.get? D = none := fresh₀ _ (by rw [hDe]; exact Nat.le_refl _)
  have hC₀ : h₀.get? C = none := fresh₀ _ (by rw [hC, hDe]; exact Nat.le_succ _)
  have hLlt : L < D := by rw [hDe]; exact F₂.ns.lt
  have hDL : D ≠ L := Ne.symm (below L hLlt).2
  have hCL : C ≠ L := Ne.symm (below L hLlt).1
  have hCI : I ≠ C := (below I hIlt).1
  have hDI : I ≠ D := (below I hIlt).2
  have offC : ∀ p ∈ news, p.1 ≠ C := fun p hp => (below _ (ltD _ _ (N₂ p hp).1)).1
  have offD : ∀ p ∈ news, p.1 ≠ D := fun p hp => (below _ (ltD _ _ (N₂ p hp).1)).2
  have haI : ax ≠ I := offI _ hm
  have W := Walks.list (prog := prog) (w := w) hh I ax haI xs.toArray
  have hsize : xs.toArray.size = xs.length := List.size_toArray ..
  rw [hsize] at W
  have hlist : ∀ h : Heap, News h₀ L h news → h.IsList ax xs.toArray := fun h N => isL_of N hm
  have loop : ∀ s₃ : Shared, s₃ = { s₂ with heap := h₁, toks := s₂.toks + ([] : List (Str × Value)).length } →
      codeAny (model prog w) A (.compLoop (.ListComp (.Name y pe) [⟨.Name x px, iter, [], 0⟩, ⟨.Name y py, i2, [], 0⟩] scope pos) 0 (.ref I) (.ref D) (compEnvC scope cl C env))
        (compPost (model prog w) A E none Q (.ref D) C) s₃ := by
    rintro s₃ rfl
    refine loop_two0
      (fun k s' => ∃ h' tk i m', s' = { s with heap := h', toks := tk } ∧ i ≤ xs.length ∧ k = xs.length + 1 - i ∧ h'.IsListIter I ax i ∧ Fr h₀ L h' m ∧ h'.Ns C m' ∧ News h₀ L h' ((D, lst ((List.range i).flatMap zs)) :: news)) ?_ (xs.length + 1)
      ⟨h₁, _, 0, _, by rw [hs₂], Nat.zero_le _, rfl, hit₂.at fun o e => old _ o e, F₂.keeps old, hns₁, fun p hp => ?_⟩ (hs := fun x => hs2 C x)
    · intro k s' hP_1
      refine dig fun kG => ?_
      obtain ⟨h', tk, i, m', rfl, hi, rfl, hit', F', hn', N'⟩ := hP_1
      have N'' : News h₀ L h' news := fun p hp => N' p (.tail _ hp)
      refine kG ?_
      clear kG
      by_cases hlt : i < xs.length
      · refine W.item i _ _ _ hlt ⟨hit', hlist _ N''⟩ fun v h₂ tk₂ hPv hst₂ hk₂ => ?_
        have hPv' : xs[i]? = some v := by rw [List.getElem?_toArray] at hPv; exact hPv
        refine dig fun kG => ?_
        obtain ⟨bx, kz, mb, hzl, hin⟩ := inner i v hPv'
        refine kG ?_
        clear kG
        refine wpAny_assign_Name (wpAny_storeName_local (lookup_relabel_local hlx) (hn'.at' fun o e => hk₂ _ o (by simpa using Ne.symm hCI) e) (fun h₃ hn₃ hs₃ => ?_) (by simp [compEnvC, relabel, hkind]))
        have F₃ : Fr h₀ L h₃ m := (fr_but F' hk₂ hIL hI₀).change hs₃ hCL hC₀
        have N₃ : News h₀ L h₃ ((D, lst ((List.range i).flatMap zs)) :: news) := fun p hp => by
          have q1 : p.1 ≠ C := by
            rcases List.mem_cons.mp hp with rfl | hp
            · exact hDC
            · exact offC p hp
          have q2 : p.1 ≠ I := by
            rcases List.mem_cons.mp hp with rfl | hp
            · exact Ne.symm hDI
            · exact offI p hp
          exact ⟨hs₃.extBut _ _ q1 (hk₂ _ _ (by simpa using q2) (N' p hp).1), (N' p hp).2⟩
        have hit₃ : h₃.IsListIter I ax (i + 1) := hst₂.1.at fun o e => hs₃.extBut _ _ hCI e
        refine dig fun kG => ?_
        obtain ⟨oC, heC, hoC⟩ := ns_obj hn₃
        have N₄ : News h₀ L h₃ ((C, oC) :: (D, lst ((List.range i).flatMap zs)) :: news) := fun p hp => by
          rcases List.mem_cons.mp hp with rfl | hp
          · exact ⟨heC, hCL, hC₀⟩
          · exact N₃ p hp
        refine kG ?_
        clear kG
        refine hin C oC _ h₃ _ ((D, lst ((List.range i).flatMap zs)) :: news) _ _ hoC (by simp) F₃ N₄ (fun p hp => .tail _ hp) fun tk₄ => ?_
        have hbl : h₃.IsList bx (zs i).toArray := isL_of N₃ (.tail _ mb)
        refine wpAny_pyIter_list hbl ?_
        refine dig fun kG => ?_
        refine gen_eq (h₃.objs.size) fun I2 hI2 => ?_
        refine gen_eq (h₃.push { cls := .type "list_iterator", data := .fields #[.ref bx, .int 0 0] }) fun (h₅ : Heap) hh₅ => ?_
        have up₅ : ∀ b o, h₃.get? b = some o → h₅.get? b = some o := fun b o e => by rw [hh₅]; exact Heap.get?_push_of_some _ e
        have lt₅ : ∀ b o, h₃.get? b = some o → b ≠ I2 := fun b o e => by rw [hI2]; exact Nat.ne_of_lt (Heap.lt_size e)
        have hit₅ : h₅.IsListIter I2 bx 0 := by rw [hh₅, hI2]; exact ⟨_, Heap.get?_push_size _ rfl, rfl, rfl⟩
        have hII : I ≠ I2 := by obtain ⟨o, e, _⟩ := hit₃; exact lt₅ _ _ e
        have hCI2 : C ≠ I2 := lt₅ _ _ heC
        have hDI2 : D ≠ I2 := lt₅ _ _ (N₃ _ (.head _)).1
        have hLI2 : L ≠ I2 := by rw [hI2]; exact Nat.ne_of_lt F₃.ns.lt
        have hI2₀ : h₀.get? I2 = none := by rw [hI2]; exact next_is_new F₃
        have offI2 : ∀ p ∈ news, p.1 ≠ I2 := fun p hp => lt₅ _ _ (N₃ p (.tail _ hp)).1
        have W2 := Walks.list (prog := prog) (w := w) hh I2 bx (offI2 _ mb) (zs i).toArray
        rw [show (zs i).toArray.size = (zs i).length from List.size_toArray ..] at W2
        refine kG ?_
        clear kG
        show codeAny _ _ _ _ { s with heap := h₃.push _, toks := tk₄ }
        rw [← hh₅, ← hI2]
        have inl : ∀ s₆ : Shared, s₆ = { s with heap := h₅, toks := tk₄ } →
            codeAny (model prog w) A (.compLoop (.ListComp (.Name y pe) [⟨.Name x px, iter, [], 0⟩, ⟨.Name y py, i2, [], 0⟩] scope pos) 1 (.ref I2) (.ref D) (compEnvC scope cl C env))
              (fun r s₅ => match r with
                | .ok _ => ∃ mm, mm < xs.length + 1 - i ∧ ∃ h' tk i m', s₅ = { s with heap := h', toks := tk } ∧ i ≤ xs.length ∧ mm = xs.length + 1 - i ∧ h'.IsListIter I ax i ∧ Fr h₀ L h' m ∧ h'.Ns C m' ∧ News h₀ L h' ((D, lst ((List.range i).flatMap zs)) :: news)
                | .error _ => False) s₆ := by
          rintro s₆ rfl
          refine loop_two1
            (fun k s' => ∃ h' tk j m', s' = { s with heap := h', toks := tk } ∧ j ≤ (zs i).length ∧ k = (zs i).length + 1 - j ∧ h'.IsListIter I2 bx j ∧ h'.IsListIter I ax (i + 1) ∧ Fr h₀ L h' m ∧ h'.Ns C m' ∧ News h₀ L h' ((D, lst ((List.range i).flatMap zs ++ (zs i).take j)) :: news)) ?_ ((zs i).length + 1)
            ⟨h₅, _, 0, _, rfl, Nat.zero_le _, rfl, hit₅, hit₃.at fun o e => up₅ _ o e, F₃.keeps up₅, hn₃.at' fun o e => up₅ _ o e, ?_⟩
          · intro k s' hP_2
            refine dig fun kG => ?_
            obtain ⟨h₆, tk₆, j, m₆, rfl, hj, rfl, hitj, hiti, F₆, hn₆, N₆⟩ := hP_2
            have N₆' : News h₀ L h₆ news := fun p hp => N₆ p (.tail _ hp)
            refine kG ?_
            clear kG
            by_cases hltj : j < (zs i).length
            · refine W2.item j _ _ _ hltj ⟨hitj, isL_of N₆' mb⟩ fun v₂ h₇ tk₇ hPv₂ hst₇ hk₇ => ?_
              have hv₂ : (zs i)[j]? = some v₂ := by rw [List.getElem?_toArray] at hPv₂; exact hPv₂
              refine wpAny_assign_Name (wpAny_storeName_local (lookup_relabel_local hly) (hn₆.at' fun o e => hk₇ _ o (by simpa using hCI2) e) (fun h₈ hn₈ hs₈ => ?_) (by simp [compEnvC, relabel, hkind]))
              have hkd : (compEnvC scope cl C env).scope.kind = .function := by simpa [compEnvC, relabel] using hkind
              refine wpAny_Name (wpAny_loadName_local hkd (lookup_relabel_local hly) hn₈ (v := v₂) (by simp) ?_) hd
              have F₈ : Fr h₀ L h₈ m := (fr_but F₆ hk₇ hLI2 hI2₀).change hs₈ hCL hC₀
              have keep₈ : ∀ b o, b ≠ I2 → b ≠ C → h₆.get? b = some o → h₈.get? b = some o := fun b o h1 h2 e => hs₈.extBut _ _ h2 (hk₇ _ _ (by simpa using h1) e)
              have zD := keep₈ _ _ hDI2 hDC (N₆ _ (.head _)).1
              have hyl : ((List.range i).flatMap zs ++ (zs i).take j).length ≤ 20000 := by
                rw [List.length_append, List.length_take]
                have := hlen i (by omega)
                have : i * 100 ≤ 100 * 100 := Nat.mul_le_mul_right _ (by omega)
                omega
              refine append_at (hsz := by rw [sizeLine_eq, List.size_toArray]; omega) zD fun h₉ hs₉ hD₉ => ?_
              refine ⟨(zs i).length + 1 - (j + 1), by omega, h₉, _, j + 1, _, rfl, hltj, rfl, ?_, ?_, F₈.change hs₉ hDL hD₀, hn₈.sameBut hs₉ (Ne.symm hDC), fun p hp => ?_⟩
              · exact hst₇.1.at fun o e => hs₉.extBut _ _ (Ne.symm hDI2) (hs₈.extBut _ _ (Ne.symm hCI2) e)
              · exact hiti.at fun o e => hs₉.extBut _ _ hDI (keep₈ _ _ hII hCI e)
              · rcases List.mem_cons.mp hp with rfl | hp
                · refine ⟨hD₉.trans (congrArg some ((lst_snoc _ _).trans ?_)), hDL, hD₀⟩
                  rw [List.take_add_one, hv₂, List.append_assoc]
                  rfl
                · exact ⟨hs₉.extBut _ _ (offD p hp) (keep₈ _ _ (offI2 p hp) (offC p hp) (N₆' p hp).1), (N₆' p hp).2⟩
            · obtain rfl : j = (zs i).length := Nat.le_antisymm hj (Nat.not_lt.mp hltj)
              refine W2.done _ _ _ ⟨hitj, isL_of N₆' mb⟩ fun h₇ tk₇ hk₇ => ?_
              have hk : ∀ b o, b ≠ I2 → h₆.get? b = some o → h₇.get? b = some o := fun b o h1 e => hk₇ _ _ (by simpa using h1) e
              refine ⟨xs.length + 1 - (i + 1), by omega, h₇, tk₇, i + 1, m₆, rfl, hlt, rfl, hiti.at fun o e => hk _ _ hII e, fr_but F₆ hk₇ hLI2 hI2₀, hn₆.at' fun o e => hk _ _ hCI2 e, fun p hp => ?_⟩
              rcases List.mem_cons.mp hp with rfl | hp
              · refine ⟨?_, hDL, hD₀⟩
                have z := hk _ _ hDI2 (N₆ _ (.head _)).1
                rw [List.take_length] at z
                rw [z]
                simp only [List.range_succ, List.flatMap_append, List.flatMap_cons, List.flatMap_nil, List.append_nil]
              · exact ⟨hk _ _ (offI2 p hp) (N₆' p hp).1, (N₆' p hp).2⟩
          · intro p hp
            rw [List.take_zero, List.append_nil] at hp
            exact ⟨up₅ _ _ (N₃ p hp).1, (N₃ p hp).2⟩
        exact start_two1 (inl _ rfl) (W2.self 0 _ _ _ ⟨hit₅, hbl.at fun o e => up₅ _ o e⟩ (inl _ rfl))
      · obtain rfl : i = xs.length := Nat.le_antisymm hi (Nat.not_lt.mp hlt)
        refine W.done _ _ _ ⟨hit', hlist _ N''⟩ fun h₂ tk₂ hk₂ => ?_
        have hk : ∀ b o, b ≠ I → h'.get? b = some o → h₂.get? b = some o := fun b o h1 e => hk₂ _ _ (by simpa using h1) e
        refine ⟨m', hn'.at' fun o e => hk _ _ (Ne.symm hCI) e, fun h₃ hs₃ => hQ D h₃ tk₂ ((fr_but F' hk₂ hIL hI₀).change hs₃ hCL hC₀) (fun p hp => ?_) (fun p hp => ltD _ _ (N₂ p hp).1)⟩
        rcases List.mem_cons.mp hp with rfl | hp
        · exact ⟨hs₃.extBut _ _ hDC (hk _ _ (Ne.symm hDI) (N' _ (.head _)).1), hDL, hD₀⟩
        · exact ⟨hs₃.extBut _ _ (offC p hp) (hk _ _ (offI p hp) (N'' p hp).1), (N'' p hp).2⟩
    · rcases List.mem_cons.mp hp with rfl | hp
      · exact ⟨hacc, hDL, hD₀⟩
      · exact ⟨old _ _ (N₂ p hp).1, (N₂ p hp).2⟩
  exact codeAny_compStart_list (loop _ rfl) (W.self 0 _ _ _ ⟨hit₂.at fun o e => old _ o e, hlist _ (N₂.grown old)⟩ (loop _ rfl))
end
end Mine
end

-- text O1
section
open PySem PySem.W PyProof.Rows PySem.Calls PyProof.Rows.LCg PyProof.Rows.LCt
namespace Mine
theorem off1_mem {D : Addr} : ∀ {l : List (Addr × Obj)}, Off1 D l → ∀ p ∈ l, @Ne Nat p.1 D
  | [], _, _, h => nomatch h
  | _ :: _, x, p, h => by
    rcases List.mem_cons.mp h with rfl | h
    · exact x.1
    · exact off1_mem x.2 p h
end Mine
end

-- text Q1
section
open PySem PySem.W PyProof.Rows PySem.Calls
set_option maxRecDepth 100000
namespace Mine
theorem sel_append {N : Nat} {f g : Int → Bool} {b : Int} (hf : ∀ z, f z = true → z ≤ b) (hg : ∀ z, g z = true → b < z) : sel N f ++ sel N g = sel N (fun z => f z || g z) := by
  refine lks_uniq (perm_of_mem ?_ (sel_nodup N _) fun z => ?_) ?_ (sel_le N _)
  · rw [List.nodup_append]
    refine ⟨sel_nodup N f, sel_nodup N g, fun a ha c hc e => ?_⟩
    have h1 := hf a (mem_sel.mp ha).2
    have h2 := hg c (mem_sel.mp hc).2
    omega
  · rw [List.mem_append, mem_sel, mem_sel, mem_sel, Bool.or_eq_true]
    constructor
    · rintro (⟨h1, h2⟩ | ⟨h1, h2⟩)
      · exact ⟨h1, .inl h2⟩
      · exact ⟨h1, .inr h2⟩
    · rintro ⟨h1, h2 | h2⟩
      · exact .inl ⟨h1, h2⟩
      · exact .inr ⟨h1, h2⟩
  · rw [List.pairwise_append]
    refine ⟨sel_le N f, sel_le N g, fun a ha c hc => ?_⟩
    have h1 := hf a (mem_sel.mp ha).2
    have h2 := hg c (mem_sel.mp hc).2
    omega
def bgl (N : Nat) (kk : Bool) : Nat → List Part → List Int
  | _, [] => []
  | n, p :: r => sel N (p.first n) ++ (if !kk || p.null then bgl N kk (n + p.size) r else [])
def egl (N : Nat) (kk : Bool) : Nat → List Part → List Int
  | _, [] => []
  | n, p :: r => (if !kk || Part.allNull r then sel N (p.last n) else []) ++ egl N kk (n + p.size) r
theorem firstX_cons (kk : Bool) (n : Nat) (p : Part) (r : List Part) : Part.firstX kk n (p :: r) = fun z => p.first n z || ((!kk || p.null) && Part.firstX kk (n + p.size) r z) := by
  funext z
  cases kk <;> simp [Part.firstX, Part.firstS, Part.firstC]
theorem lastX_cons (kk : Bool) (n : Nat) (p : Part) (r : List Part) : Part.lastX kk n (p :: r) = fun z => ((!kk || Part.allNull r) && p.last n z) || Part.lastX kk (n + p.size) r z := by
  funext z
  cases kk
  · simp [Part.lastX, Part.lastC]
  · simp [Part.lastX, Part.lastS, Bool.and_comm]
theorem firstX_bd (kk : Bool) (n : Nat) (ps : List Part) (z : Int) (h : Part.firstX kk n ps z = true) : (n : Int) < z := by
  cases kk
  · exact (Part.firstC_bd n z ps h).1
  · exact (Part.firstS_bd n z ps h).1
theorem lastX_bd (kk : Bool) (n : Nat) (ps : List Part) (z : Int) (h : Part.lastX kk n ps z = true) : (n : Int) < z := by
  cases kk
  · exact (Part.lastC_bd n z ps h).1
  · exact (Part.lastS_bd n z ps h).1
theorem bgl_eq (N : Nat) (kk : Bool) : ∀ (ps : List Part) (n : Nat), bgl N kk n ps = sel N (Part.firstX kk n ps)
  | [], n => by
    have : Part.firstX kk n [] = fun _ => false := by funext z; cases kk <;> simp [Part.firstX, Part.firstS, Part.firstC]
    rw [this, sel_false]; rfl
  | p :: r, n => by
    rw [firstX_cons, bgl, bgl_eq N kk r]
    cases hc : (!kk || p.null) with
    | true =>
      simp only [if_true, Bool.true_and]
      exact sel_append (b := ((n + p.size : Nat) : Int)) (fun z h => by have := (Part.first_bd n z p h).2; omega) fun z h => by have := firstX_bd kk _ _ z h; omega
    | false => simp only [Bool.false_eq_true, if_false, Bool.false_and, Bool.or_false, List.append_nil]
theorem egl_eq (N : Nat) (kk : Bool) : ∀ (ps : List Part) (n : Nat), egl N kk n ps = sel N (Part.lastX kk n ps)
  | [], n => by
    have : Part.lastX kk n [] = fun _ => false := by funext z; cases kk <;> simp [Part.lastX, Part.lastS, Part.lastC]
    rw [this, sel_false]; rfl
  | p :: r, n => by
    rw [lastX_cons, egl, egl_eq N kk r]
    cases hc : (!kk || Part.allNull r) with
    | true =>
      simp only [if_true, Bool.true_and]
      exact sel_append (b := ((n + p.size : Nat) : Int)) (fun z h => by have := (Part.last_bd n z p h).2; omega) fun z h => by have := lastX_bd kk _ _ z h; omega
    | false => simp only [Bool.false_eq_true, if_false, Bool.false_and, Bool.false_or, List.nil_append]
def idxs (f : Nat → Bool) (k : Nat) : List Nat := (List.range k).filter f
theorem pickAt_eq (f : Nat → Bool) (k : Nat) : pickAt f k = (idxs f k).map fun (i : Nat) => (i : Int) := rfl
theorem idxs_succ (f : Nat → Bool) (k : Nat) : idxs f (k + 1) = (if f 0 then [0] else []) ++ (idxs (fun i => f (i + 1)) k).map (· + 1) := by
  unfold idxs
  rw [List.range_succ_eq_map, List.filter_cons, List.filter_map]
  split <;> rfl
theorem idxs_lt {f : Nat → Bool} {k i : Nat} (h : i ∈ idxs f k) : i < k := List.mem_range.mp (List.mem_filter.mp h).1
theorem allNull_no (ps : List Part) : (!(ps.map Part.null).contains false) = Part.allNull ps := by
  induction ps with
  | nil => simp [Part.allNull]
  | cons p r ih =>
    simp only [List.map_cons, List.contains_cons, Part.allNull, ← ih]
    cases p.null <;> simp
theorem anyNull_yes (ps : List Part) : (ps.map Part.null).contains true = Part.anyNull ps := by
  induction ps with
  | nil => simp [Part.anyNull]
  | cons p r ih =>
    simp only [List.map_cons, List.contains_cons, Part.anyNull, ← ih]
    cases p.null <;> simp
def flatAt (g : Nat → Part → List Int) (n : Nat) (ps : List Part) (i : Nat) : List Int :=
  match ps[i]? with
  | some p => g (Part.from n ps i) p
  | none => []
theorem flatAt_zero (g : Nat → Part → List Int) (n : Nat) (p : Part) (r : List Part) : flatAt g n (p :: r) 0 = g n p := by simp [flatAt, Part.from, Part.sizes]
theorem flatAt_succ (g : Nat → Part → List Int) (n : Nat) (p : Part) (r : List Part) (i : Nat) : flatAt g n (p :: r) (i + 1) = flatAt g (n + p.size) r i := by
  simp [flatAt, Part.from, Part.sizes, Nat.add_assoc]
theorem begs_flat (N : Nat) (kk : Bool) : ∀ (ps : List Part) (n : Nat), (idxs (begOk kk (ps.map Part.null)) ps.length).flatMap (flatAt (fun n p => sel N (p.first n)) n ps) = bgl N kk n ps
  | [], n => rfl
  | p :: r, n => by
    have e0 : begOk kk ((p :: r).map Part.null) 0 = true := by simp [begOk]
    have e1 : (fun i => begOk kk ((p :: r).map Part.null) (i + 1)) = fun i => (!kk || p.null) && begOk kk (r.map Part.null) i := by
      funext i
      simp only [begOk, List.map_cons, List.take_succ_cons, List.contains_cons]
      cases kk <;> cases p.null <;> simp
    rw [List.length_cons, idxs_succ, e0, e1, List.flatMap_append, bgl]
    simp only [if_true, List.flatMap_cons, List.flatMap_nil, List.append_nil, flatAt_zero]
    congr 1
    rw [List.flatMap_map]
    simp only [flatAt_succ]
    cases hc : (!kk || p.null) with
    | true =>
      simp only [Bool.true_and, if_true]
      exact begs_flat N kk r (n + p.size)
    | false => simp [idxs]
theorem ends_flat (N : Nat) (kk : Bool) : ∀ (ps : List Part) (n : Nat), (idxs (endOk kk (ps.map Part.null)) ps.length).flatMap (flatAt (fun n p => sel N (p.last n)) n ps) = egl N kk n ps
  | [], n => rfl
  | p :: r, n => by
    have e0 : endOk kk ((p :: r).map Part.null) 0 = (!kk || Part.allNull r) := by
      simp only [endOk, List.map_cons, List.drop_succ_cons, List.drop_zero, allNull_no]
    have e1 : (fun i => endOk kk ((p :: r).map Part.null) (i + 1)) = endOk kk (r.map Part.null) := by
      funext i
      simp only [endOk, List.map_cons, List.drop_succ_cons]
    rw [List.length_cons, idxs_succ, e0, e1, List.flatMap_append, egl]
    congr 1
    · cases (!kk || Part.allNull r) <;> simp [flatAt_zero]
    · rw [List.flatMap_map]
      simp only [flatAt_succ]
      exact ends_flat N kk r (n + p.size)
theorem ints_flat {f : Nat → List Value} {g : Nat → List Int} : ∀ {l : List Nat}, (∀ i ∈ l, IntsAre (f i) (g i)) → IntsAre (l.flatMap f) (l.flatMap g)
  | [], _ => .nil
  | a :: r, h => by
    rw [List.flatMap_cons, List.flatMap_cons]
    exact (h a (.head _)).append (ints_flat fun i hi => h i (.tail _ hi))
/-- the parts' begins and ends, by number -/
def NodeFun (N : Nat) (led : List (Addr × Obj)) (n : Nat) (ps : List Part) (vs : List Value) (i : Nat) (z : List Value × List Value) : Prop :=
  ∀ v, vs[i]? = some v → ∃ c, ps[i]? = some c ∧
    ∃ (a b e p : Addr) (k kb ke kp : Nat) (t : Tok) (cvs : List Value), v = .ref a ∧ (a, listOf #[.bool c.isRow, .str c.mark t, .bool c.null, .ref b, .ref e, .ref p] k) ∈ led ∧ (b, listOf z.1.toArray kb) ∈ led ∧ IntsAre z.1 (sel N (c.first (Part.from n ps i))) ∧
      (e, listOf z.2.toArray ke) ∈ led ∧ IntsAre z.2 (sel N (c.last (Part.from n ps i))) ∧ (p, listOf cvs.toArray kp) ∈ led
theorem nodes_fun {N : Nat} {led : List (Addr × Obj)} {n : Nat} {ps : List Part} {vs : List Value} (h : NodesIn N led n ps vs) : ∃ bz : Nat → List Value × List Value, ∀ i, NodeFun N led n ps vs i (bz i) := by
  have H : ∀ i, ∃ z, NodeFun N led n ps vs i z := by
    intro i
    cases hv : vs[i]? with
    | none => exact ⟨([], []), fun v e => by rw [hv] at e; cases e⟩
    | some v =>
      obtain ⟨c, hc, hcn⟩ := h.get i hv
      obtain ⟨cvs, a, b, e, p, k, kb, ke, kp, t, bs, es, h1, h2, h3, h4, h5, h6, h7⟩ := hcn.head
      refine ⟨(bs, es), fun v' e' => ?_⟩
      rw [hv] at e'
      cases e'
      exact ⟨c, hc, a, b, e, p, k, kb, ke, kp, t, cvs, h1, h2, h3, h4, h5, h6, h7⟩
  exact ⟨fun i => (H i).choose, fun i => (H i).choose_spec⟩
/-- what the two-clause comprehension leaves -/
theorem flat_ints {N : Nat} {led : List (Addr × Obj)} {n : Nat} {ps : List Part} {vs : List Value} {f : Nat → Bool} (bz : Nat → List Value × List Value) (hb : ∀ i, NodeFun N led n ps vs i (bz i)) (hl : vs.length = ps.length) :
    IntsAre ((idxs f ps.length).flatMap fun i => (bz i).1) ((idxs f ps.length).flatMap (flatAt (fun n p => sel N (p.first n)) n ps)) ∧
    IntsAre ((idxs f ps.length).flatMap fun i => (bz i).2) ((idxs f ps.length).flatMap (flatAt (fun n p => sel N (p.last n)) n ps)) := by
  refine ⟨ints_flat fun i hi => ?_, ints_flat fun i hi => ?_⟩
  all_goals
    have hlt := idxs_lt hi
    obtain ⟨c, hc, a, b, e, p, k, kb, ke, kp, t, cvs, _, _, _, h4, _, h6, _⟩ := hb i _ (List.getElem?_eq_getElem (by omega : i < vs.length))
    simp only [flatAt, hc]
    assumption
/-- the i-th of the picked numbers -/
theorem pick_get {f : Nat → Bool} {k i : Nat} {zs : List Value} {v : Value} (h : IntsAre zs (pickAt f k)) (hv : zs[i]? = some v) : ∃ j t, (idxs f k)[i]? = some j ∧ j < k ∧ v = .int (j : Int) t := by
  have hlen := h.length
  have hlt := (List.getElem?_eq_some_iff.mp hv).1
  rw [hlen, pickAt_eq, List.length_map] at hlt
  have e1 : (idxs f k)[i]? = some (idxs f k)[i] := List.getElem?_eq_getElem hlt
  obtain ⟨t, ht⟩ := h.get i (((idxs f k)[i] : Nat) : Int) (by rw [pickAt_eq, List.getElem?_map, e1]; rfl)
  rw [ht] at hv
  exact ⟨_, t, e1, idxs_lt (List.getElem_mem hlt), (Option.some.inj hv).symm⟩
theorem range_flat {α : Type} (l : List Nat) (g : Nat → List α) (d : List α) : (List.range l.length).flatMap (fun i => match l[i]? with | some j => g j | none => d) = l.flatMap g := by
  induction l with
  | nil => rfl
  | cons a r ih =>
    rw [List.length_cons, List.range_succ_eq_map, List.flatMap_cons, List.flatMap_map, List.flatMap_cons]
    congr 1
/-- what _law_node leaves of a group -/
theorem node_post {N₀ n kN k1 k2 kp c : Nat} {kk nu : Bool} {ps : List Part} {mk : Str} {nA : Addr} {nv vs sv fl fm : List Value} {news r3 seg : List (Addr × Obj)} {L₁ D lN D1 D2 pA : Nat} {t3 tq : Tok} {bz : Nat → List Value × List Value} {bs : List Bool} {zs zs' : List Value}
    (hvl : vs.length = ps.length) (hbs : bs = ps.map Part.null) (hbz : ∀ i, NodeFun N₀ r3 n ps vs i (bz i)) (hzs : IntsAre zs (pickAt (begOk kk bs) vs.length)) (hzs' : IntsAre zs' (pickAt (endOk kk bs) vs.length))
    (hfl : fl = (List.range zs.length).flatMap (fun i => match (idxs (begOk kk bs) vs.length)[i]? with | some j => (bz j).1 | none => [])) (hfm : fm = (List.range zs'.length).flatMap (fun i => match (idxs (endOk kk bs) vs.length)[i]? with | some j => (bz j).2 | none => []))
    (hseg : ∀ p ∈ seg, @LE.le Nat _ L₁ p.1) (tree : NodesIn N₀ seg n ps vs) (subs : SubsIn N₀ seg (Part.subss n ps) sv) (b1 : L₁ ≤ lN) (b2 : L₁ ≤ D1) (b3 : L₁ ≤ D2) (b4 : L₁ ≤ pA) (bD : L₁ ≤ D) (hnu : nu = (Part.nullX kk ps || isOpt mk)) :
    NodePost N₀ n (.node kk ps mk) nA nv news L₁ (.ref D) ((D, tupOf #[.ref lN, .int ((n + Part.sizes ps : Nat) : Int) tq] 0) :: (nA, listOf (nv ++ (sv ++ [Value.ref lN])).toArray c) ::
      (((lN, listOf #[.bool kk, .str mk t3, .bool nu, .ref D1, .ref D2, .ref pA] kN) :: (D1, listOf fl.toArray k1) :: (D2, listOf fm.toArray k2) :: (pA, listOf vs.toArray kp) :: seg) ++ offs [nA] news)) := by
  obtain ⟨sg, hsg⟩ : ∃ sg, sg = (lN, listOf #[.bool kk, .str mk t3, .bool nu, .ref D1, .ref D2, .ref pA] kN) :: (D1, listOf fl.toArray k1) :: (D2, listOf fm.toArray k2) :: (pA, listOf vs.toArray kp) :: seg := ⟨_, rfl⟩
  have up : ∀ p ∈ seg, p ∈ sg := fun p hp => by rw [hsg]; exact .tail _ (.tail _ (.tail _ (.tail _ hp)))
  have hI1 : IntsAre fl (sel N₀ ((Part.node kk ps mk).first n)) := by
    have e1 : (Part.node kk ps mk).first n = Part.firstX kk n ps := funext fun z => by cases kk <;> simp [Part.first, Part.firstX]
    have e2 : zs.length = (idxs (begOk kk bs) vs.length).length := by rw [hzs.length, pickAt_eq, List.length_map]
    rw [e1, ← bgl_eq, ← begs_flat, hfl, e2, range_flat, hvl, ← hbs]
    exact (flat_ints bz hbz hvl).1
  have hI2 : IntsAre fm (sel N₀ ((Part.node kk ps mk).last n)) := by
    have e1 : (Part.node kk ps mk).last n = Part.lastX kk n ps := funext fun z => by cases kk <;> simp [Part.last, Part.lastX]
    have e2 : zs'.length = (idxs (endOk kk bs) vs.length).length := by rw [hzs'.length, pickAt_eq, List.length_map]
    rw [e1, ← egl_eq, ← ends_flat, hfm, e2, range_flat, hvl, ← hbs]
    exact (flat_ints bz hbz hvl).2
  have hN : NodeIn N₀ sg n (.node kk ps mk) (.ref lN) := by
    simp only [NodeIn]
    refine ⟨vs, ⟨lN, D1, D2, pA, kN, k1, k2, kp, t3, fl, fm, rfl, ?_, ?_, hI1, ?_, hI2, ?_⟩, NodesIn.mono up ps tree⟩
    · have e3 : (Part.node kk ps mk).null = nu := by rw [hnu]; cases kk <;> simp [Part.null, Part.nullX]
      rw [e3, hsg]; exact .head _
    · rw [hsg]; exact .tail _ (.head _)
    · rw [hsg]; exact .tail _ (.tail _ (.head _))
    · rw [hsg]; exact .tail _ (.tail _ (.tail _ (.head _)))
  have e4 : (Part.node kk ps mk).size = Part.sizes ps := by simp only [Part.size]
  rw [← hsg]
  refine ⟨D, 0, c, tq, .ref lN, sv ++ [.ref lN], sg, rfl, bD, ?_, hN, ?_, by rw [e4]⟩
  · intro p hp
    rw [hsg] at hp
    rcases List.mem_cons.mp hp with rfl | hp
    · exact b1
    rcases List.mem_cons.mp hp with rfl | hp
    · exact b2
    rcases List.mem_cons.mp hp with rfl | hp
    · exact b3
    rcases List.mem_cons.mp hp with rfl | hp
    · exact b4
    · exact hseg p hp
  · have e5 : (Part.node kk ps mk).subs n = Part.subss n ps ++ [(n, .node kk ps mk)] := by simp only [Part.subs]
    rw [e5]
    exact (subs.mono up).append (.cons hN .nil)
end Mine
end

-- text G2
section
open PySem PySem.W PyProof.Rows PySem.Calls PyProof.Rows.LCg PyProof.Rows.LCt
set_option maxRecDepth 100000
set_option maxHeartbeats 2000000
namespace Mine
local macro_rules | `(tactic| k_mem) => `(tactic| assumption)
local macro_rules | `(tactic| walk_at "call ref") => `(tactic| (k_here; (with_reducible show wpAny _ _ (call (Value.ref _) _ _) _ _ _); refine Hold.mk ?_))
local macro_rules | `(tactic| walk_at "pyIter ref") => `(tactic| (k_here; refine Hold.mk ?_))
local macro_rules | `(tactic| walk_at "exec For") => `(tactic| (k_here; (rename Fr _ _ _ _ => lF'); (with_unfolding_all refine' For_invVF lF' rfl rfl ?_; k_whole)))
local macro_rules | `(tactic| walk_at "eval ListComp") => `(tactic| (k_here; refine Hold.mk ?_))
local macro_rules | `(tactic| walk_at "exec Assign cons ListComp") => `(tactic| (k_here; first | ((with_reducible show wpAny _ _ (exec (Stmt.Assign [Expr.Name (Str.ofString "begins") _] _ _) _) _ _ _); refine Hold.mk ?_) | ((with_reducible show wpAny _ _ (exec (Stmt.Assign [Expr.Name (Str.ofString "ends") _] _ _) _) _ _ _); refine Hold.mk ?_)))
local macro_rules | `(tactic| walk_at "call builtin:list.append") => `(tactic| (k_here; k_dflt (refine' append_nv (by assumption) (by k_asm) (by k_asm) (by k_upd) ?_); intro h' F' N'))
local macro_rules | `(tactic| walk_at "call builtin:len") => `(tactic| (k_here; k_dflt (refine' len_led ?z (by k_asm) (by k_mem) ?_; (case z => assumption)); intro t' tk'))
local macro_rules | `(tactic| walk_at "subscriptTail Name Slice ref ref") => `(tactic| (k_here; (with_reducible show wpAny _ _ (subscriptTail _ (PySem.Expr.Slice _ _ none _) (Value.ref _) (Value.ref _)) _ _ _); k_dflt (refine' slice_zs (by k_asm) (by k_asm) (by k_mem) (by kmk_part) (by kmk_part) (by first | exact pick_upto_b _ _ | exact pick_from_b _ _ | exact pick_upto _ _ | exact pick_from _ _ | exact pick_run _ _) ?z ?_ (by with_unfolding_all rfl) (by kmk_pure); (case z => assumption)); intro D' h' F' N' l1; (try k_lt l1)))
local macro_rules | `(tactic| walk_at "compareOp NotIn bool ref") => `(tactic| (k_here; k_dflt (refine' notIn_bools (by k_asm) (by k_mem) ?_)))
local macro_rules | `(tactic| walk_at "compareOp In bool ref") => `(tactic| (k_here; k_dflt (refine' in_bools (by k_asm) (by k_mem) ?_)))
local macro_rules | `(tactic| walk_at "CompSrcT") => `(tactic| (k_here; refine Hold.mk ?_))
local macro_rules | `(tactic| walk_at "subscriptTail") => `(tactic| (k_here; (with_reducible show wpAny _ _ (subscriptTail _ _ (Value.ref _) (Value.int (Int.ofNat _) _)) _ _ _); k_dflt (refine' item_nat (by k_asm) (by k_mem) (by assumption) (by assumption) ?_ (by with_unfolding_all rfl))))
local macro_rules | `(tactic| walk_at "subscriptTail") => `(tactic| (k_here; (with_reducible show wpAny _ _ (subscriptTail _ _ (Value.ref _) (Value.int (Nat.cast _) _)) _ _ _); k_dflt (refine' item_nat (by k_asm) (by k_mem) (by assumption) (by assumption) ?_ (by with_unfolding_all rfl))))
local macro_rules | `(tactic| is_list) => `(tactic| (refine' isL_of (by k_asm) (by k_mem)))
theorem nd_walk (kk : Bool) (w : World) {loose : List Str} {mean : ExcName → Option Value} {mg mb : Str → Option Value}
  {dp un : Nat} {gd : Option (List Code)} {cn : Str} {cs : Scope} {a : Addr} {ccd : Value} {cl : List (Str × Addr)} {outer : List Env} {A₀ : Around} {base h₀ : Heap} {L : Addr} {m : Str → Option Value} {s : Shared} {Q E : Value → Shared → Prop}
  {news : List (Addr × Obj)} {t : Addr} {k : Nat} {mk : Str} {ta k2 H : Nat} {tv : List Value} {ps : List Part} {pw : List (Addr × Obj)} {t1 t3 : Tok} {n N₀ : Nat} {u : Tok} {nA kn : Nat} {nv : List Value}
  (B : Below A₀ base outer h₀) (F : Fr h₀ L s.heap m) (X : (hd.heap_39 w.params).In h₀) (Nw : News h₀ L s.heap news)
  (ht : (t, tupOf #[.str (if kk then Str.ofString "seq" else Str.ofString "choice") t1, .ref ta, .str mk t3] k) ∈ news) (htn : t ≠ nA) (hnA : (nA, listOf nv.toArray kn) ∈ news) (hpw : ∀ p ∈ pw, p ∈ news ∧ p.1 ≠ nA) (hta : (ta, tupOf tv.toArray k2) ∈ pw) (hps : PartsIn pw ps tv) (IH : ∀ c ∈ ps, NodeSpec w pw N₀ c) (hn : n + Part.sizes ps ≤ N₀) (hH : ∀ c ∈ ps, c.height ≤ H) (hN : N₀ ≤ 30) (hnv : nv.length + (Part.subss n ps).length + 1 ≤ 100) (hpl : ps.length ≤ 100)
  (T : Top hd.view_39 loose mean mg mb h₀) (hk : cs.kind = .function) (hdp : dp + (100 * H + 100) < recursionLimit) (hu : un + (600 * H + 600) < cLine)
  (hret : ∀ b r h' tk' news', (∀ p ∈ news, p.1 < b) → Fr h₀ L h' m → News h₀ L h' news' → NodePost N₀ n (.node kk ps mk) nA nv news b r news' → Q r { s with heap := h', toks := tk' }) :
  wpAny (model PySem.Challenge.rw_xw0200_01.row.prog w) (ktrTop dp un gd cn cs L a ccd cl outer) (call (.ref 157) [.ref t, .int n u, .ref nA]) Q E s := by
  refine dig fun kG => ?_
  refine gen_eq (offs [nA] news) fun rest hrest => ?_
  have N := off_split hnA Nw
  rw [← hrest] at N
  have htr : (t, tupOf #[.str (if kk then Str.ofString "seq" else Str.ofString "choice") t1, .ref ta, .str mk t3] k) ∈ rest := by rw [hrest]; exact mem_offs.mpr ⟨ht, by simpa using htn⟩
  have hro : ∀ p ∈ rest, p.1 ≠ nA := fun p hp => by rw [hrest] at hp; simpa using (mem_offs.mp hp).2
  have hnl : ∀ p ∈ news, p.1 = nA ∨ p ∈ rest := fun p hp => by
    by_cases e : p.1 = nA
    · exact .inl e
    · rw [hrest]; exact .inr (mem_offs.mpr ⟨hp, by simpa using e⟩)
  refine kG ?_
  clear kG
  cases kk
  all_goals simp only [if_true, if_false, Bool.false_eq_true] at ht htr
  · revert X; k_fill; intro X
    refine wpAny_call ?_
    k_dflt (walk_at "mine_enterC")
    rename_i g L₁ h₁ tk₁ FG F₁ B₁ X₁ T₁ l1 o1 o2 o3 d1 d2 d3 N₁
    have l2 := ktn_ltOf l1.2
    have l3 := ltN l1.1
    have hoff := cells_off hro l2
    clear N F
    k_steps
    rename_i x5 x6 o4 d4 x7 x8 pA hA ltA x9 o5 F₂ N₂ d5
    have hpA : @LT.lt Nat _ nA pA := ltN ltA.2.2.2.1
    refine dig fun kG => ?_
    refine gen_eq ((L₁ + 1 + 1 + 1, o1) :: (L₁ + 1 + 1, o5) :: (L₁ + 1, o4) :: rest) fun kw hkw => ?_
    have hkwp : ∀ p ∈ kw, @LT.lt Nat _ p.1 pA ∧ p.1 ≠ nA := by
      intro p hp
      rw [hkw] at hp
      rcases List.mem_cons.mp hp with rfl | hp
      · exact ⟨ltA.1, fun (e : @Eq Nat _ _) => by have := ltN l3; omega⟩
      rcases List.mem_cons.mp hp with rfl | hp
      · exact ⟨ltA.2.1, fun (e : @Eq Nat _ _) => by have := ltN l3; omega⟩
      rcases List.mem_cons.mp hp with rfl | hp
      · exact ⟨ltA.2.2.1, fun (e : @Eq Nat _ _) => by have := ltN l3; omega⟩
      · exact ⟨ktn_ltOf ltA.2.2.2.2 p hp, hro p hp⟩
    have hkwr : ∀ p ∈ rest, p ∈ kw := fun p hp => by rw [hkw]; exact .tail _ (.tail _ (.tail _ hp))
    have hkw1 : (L₁ + 1 + 1 + 1, o1) ∈ kw := by rw [hkw]; exact .head _
    have hkw2 : (L₁ + 1 + 1, o5) ∈ kw := by rw [hkw]; exact .tail _ (.head _)
    have hkw3 : (L₁ + 1, o4) ∈ kw := by rw [hkw]; exact .tail _ (.tail _ (.head _))
    have hpwr : ∀ p ∈ pw, p ∈ rest := fun p hp => (hnl p (hpw p hp).1).elim (fun e => absurd e (hpw p hp).2) id
    refine kG ?_
    clear kG
    refine Hold.out ?_
    refine nod_iter (N := N₀) (n := n) (nA := nA) (pA := pA) (nv := nv) (kw := kw) (mk := mk) (t3 := t3) (ps := ps) (pw := pw) (by rfl) F₂ N₂ rfl hps (hkwr _ (hpwr _ hta)) (by rfl) (by rfl) (by rfl) ⟨⟨0, .head _⟩, ⟨kn, ?_⟩, (fun p hp => (by cases hp)), (fun p hp => (by cases hp)), fun p hp => ?_, (by simp only [NodesIn]), (by simp only [Part.subss]; exact .nil)⟩ ?_ ?_
    · rw [List.append_nil]; exact .tail _ (.tail _ (.tail _ (.tail _ (.head _))))
    · rw [hkw] at hp
      rcases List.mem_cons.mp hp with rfl | hp
      · exact .tail _ (.head _)
      rcases List.mem_cons.mp hp with rfl | hp
      · exact .tail _ (.tail _ (.head _))
      rcases List.mem_cons.mp hp with rfl | hp
      · exact .tail _ (.tail _ (.tail _ (.head _)))
      · exact .tail _ (.tail _ (.tail _ (.tail _ (.tail _ hp))))
    · intro pre c v vs sv seg nx h tk' it io tq u' hc hpost hcv hR hoff' hlt F' N'
      refine dig fun kG => ?_
      obtain ⟨post, hpost⟩ := hpost
      obtain ⟨kp, mp⟩ := hR.parts
      obtain ⟨cn', mn⟩ := hR.nodes
      have mk1 := hR.keep _ hkw1
      have mk2 := hR.keep _ hkw2
      have mk3 := hR.keep _ hkw3
      clear N₂ F₂
      have hpreps : Part.sizes pre + c.size ≤ Part.sizes ps := by
        rw [hpost, Part.sizes_append]
        simp only [Part.sizes]
        omega
      have hsub₁ : (Part.subss n pre).length + (c.subs (n + Part.sizes pre)).length ≤ (Part.subss n ps).length := by
        have e : Part.subss n ps = Part.subss n pre ++ Part.subss (n + Part.sizes pre) (c :: post) := by rw [hpost]; exact Part.subss_append _ _ _
        rw [e]
        simp only [Part.subss, List.length_append]
        omega
      have hprel : pre.length + 1 ≤ ps.length := by
        rw [hpost, List.length_append]; simp
      have hvl : vs.length ≤ 100 := by rw [hR.tree.length]; omega
      have hsl := hR.subs.length
      have hitn : ∀ p ∈ kw, p.1 ≠ it := fun p hp => hoff' p (hR.keep p hp)
      have C := IH c hc ((it, io) :: nx) v (n + Part.sizes pre) tq nA cn' (nv ++ sv) hcv (fun p hp => ⟨.tail _ (hR.keep _ (hkwr _ (hpwr _ hp))), (hpw p hp).2⟩) (.tail _ mn) (by omega) hN (by rw [List.length_append]; omega)
      have hcH := hH c hc
      refine kG ?_
      clear kG
      k_steps
      refine Hold.out ?_
      refine' CallSpec.use C ?kB ?kF ?kX ?kN ?kT ?kk ?kd ?ku ?_
      case kB => k_asm
      case kF => k_asm
      case kX => k_asm
      case kN => k_asm
      case kT => k_asm
      case kk => exact rfl
      case kd => first | exact room2 hdp (by decide) | exact room2s hdp (by decide) | exact room2h hdp (by assumption) (by decide) | exact room2hs hdp (by assumption) (by decide) | exact room2c hdp (by decide) | exact room1 hdp (by decide) | exact room1c hdp (by decide) | ktr_room
      case ku => first | exact room2 hu (by decide) | exact room2s hu (by decide) | exact room2h hu (by assumption) (by decide) | exact room2hs hu (by assumption) (by decide) | exact room2c hu (by decide) | exact room1 hu (by decide) | exact room1c hu (by decide) | ktr_units
      intro b₁ r h₄ tk₄ news₄ lt₁ F₄ N₄ hp
      refine dig fun kG => ?_
      obtain ⟨D, kD, cc, tkD, nd, sv', seg', rfl, hbD, hbs, hnode, hsubs, rfl⟩ := hp
      have hpb : @LT.lt Nat _ pA b₁ := lt₁ _ (.tail _ mp)
      have hib : @LT.lt Nat _ it b₁ := lt₁ _ (.head _)
      have hnb : @LT.lt Nat _ nA b₁ := lt₁ _ (.tail _ mn)
      have hDn : D ≠ nA := fun (e : @Eq Nat _ _) => by have : @LE.le Nat _ b₁ D := hbD; omega
      have hDp : @LT.lt Nat _ pA D := Nat.lt_of_lt_of_le hpb hbD
      have hDi : @LT.lt Nat _ it D := Nat.lt_of_lt_of_le hib hbD
      refine gen_eq ((nA, listOf ((nv ++ sv) ++ sv').toArray cc) :: (seg' ++ offs [nA] ((it, io) :: nx))) fun nx₂ hnx₂ => ?_
      rw [← hnx₂] at N₄
      have tr : ∀ p ∈ nx, p.1 ≠ nA → p ∈ nx₂ := fun p hp hq => by rw [hnx₂]; exact .tail _ (List.mem_append_right _ (mem_offs.mpr ⟨.tail _ hp, by simpa using hq⟩))
      have mp₂ : (pA, listOf vs.toArray kp) ∈ nx₂ := tr _ mp (fun (e : @Eq Nat _ _) => by omega)
      have mi₂ : (it, io) ∈ nx₂ := by rw [hnx₂]; exact .tail _ (List.mem_append_right _ (mem_offs.mpr ⟨.head _, by simp only [List.mem_singleton]; exact fun (e : @Eq Nat it nA) => hoff' _ mn e.symm⟩))
      have mn₂ : (nA, listOf ((nv ++ sv) ++ sv').toArray cc) ∈ nx₂ := by rw [hnx₂]; exact .head _
      have ms₂ : ∀ p ∈ seg', p ∈ nx₂ := fun p hp => by rw [hnx₂]; exact .tail _ (List.mem_append_left _ hp)
      have mk₂ : ∀ p ∈ kw, p ∈ nx₂ := fun p hp => tr p (hR.keep p hp) (hkwp p hp).2
      have mg₂ : ∀ p ∈ seg, p ∈ nx₂ := fun p hp => tr p (hR.segs p hp) (fun (e : @Eq Nat _ _) => by have := hR.big p hp; omega)
      refine gen_eq (offs [pA] nx₂) fun led hled => ?_
      have N₅ : News g L₁ h₄ ((D, tupOf #[nd, .int ((n + Part.sizes pre + c.size : Nat) : Int) tkD] kD) :: (pA, listOf vs.toArray kp) :: led) := nw_sub N₄ fun p hp => by
        rcases List.mem_cons.mp hp with rfl | hp
        · exact .head _
        rcases List.mem_cons.mp hp with rfl | hp
        · exact .tail _ mp₂
        · rw [hled] at hp; exact .tail _ (mem_offs.mp hp).1
      have up : ∀ p ∈ nx₂, p.1 ≠ pA → p ∈ led := fun p hp hq => by rw [hled]; exact mem_offs.mpr ⟨hp, by simpa using hq⟩
      have hoff₅ : OwnOff led [pA] := by rw [hled]; exact offs_off _ _
      have ml2 := up _ (mk₂ _ hkw2) (Nat.ne_of_lt (hkwp _ hkw2).1)
      clear N₄ C
      refine kG ?_
      clear kG
      k_steps
      have hip : it ≠ pA := fun e => hoff' _ mp e.symm
      refine dig fun kG => ?_
      refine gen_eq (offs [it] ((pA, listOf (vs ++ [nd]).toArray (kp + 1)) :: led)) fun nx₃ hnx₃ => ?_
      have up₃ : ∀ p ∈ nx₂, p.1 ≠ pA → p.1 ≠ it → p ∈ nx₃ := fun p hp hq hr => by rw [hnx₃]; exact mem_offs.mpr ⟨.tail _ (up p hp hq), by simpa using hr⟩
      have kp₃ : ∀ p ∈ kw, p ∈ nx₃ := fun p hp => up₃ p (mk₂ p hp) (Nat.ne_of_lt (hkwp p hp).1) (hitn p hp)
      have hseg₃ : ∀ p ∈ seg, p ∈ nx₃ := fun p hp => up₃ p (mg₂ p hp) (Nat.ne_of_gt (hR.big p hp)) (hoff' p (hR.segs p hp))
      have hbig' : ∀ p ∈ seg', @LT.lt Nat _ pA p.1 := fun p hp => Nat.lt_of_lt_of_le hpb (hbs p hp)
      have hseg₄ : ∀ p ∈ seg', p ∈ nx₃ := fun p hp => up₃ p (ms₂ p hp) (Nat.ne_of_gt (hbig' p hp)) (Nat.ne_of_gt (Nat.lt_of_lt_of_le hib (hbs p hp)))
      refine kG ?_
      clear kG
      refine ⟨rfl, _, _, _, nx₃, vs ++ [nd], sv ++ sv', seg ++ seg', rfl, by k_asm, nw_sub (by k_asm) ?_, fun p hp => ?_, ⟨⟨kp + 1, ?_⟩, ⟨cc, ?_⟩, fun p hp => ?_, fun p hp => ?_, kp₃, ?_, ?_⟩, ⟨tkD, ?_⟩, by rfl, by rfl⟩
      · intro p hp
        rcases List.mem_cons.mp hp with rfl | hp
        · exact .tail _ (.tail _ (up _ mi₂ hip))
        · rw [hnx₃] at hp
          exact .tail _ (mem_offs.mp hp).1
      · rw [hnx₃] at hp
        simpa using (mem_offs.mp hp).2
      · rw [hnx₃]; exact mem_offs.mpr ⟨.head _, by simp only [List.mem_singleton]; exact Ne.symm hip⟩
      · have := up₃ _ mn₂ (fun (e : @Eq Nat _ _) => by omega) (show nA ≠ it from hoff' _ mn)
        rw [List.append_assoc] at this
        exact this
      · rcases List.mem_append.mp hp with hp | hp
        · exact hseg₃ p hp
        · exact hseg₄ p hp
      · rcases List.mem_append.mp hp with hp | hp
        · exact hR.big p hp
        · exact hbig' p hp
      · exact NodesIn.snoc (NodesIn.mono (fun p hp => List.mem_append_left _ hp) pre hR.tree) (NodeIn.mono (fun p hp => List.mem_append_right _ hp) c hnode)
      · rw [Part.subss_snoc]
        exact SubsIn.append (hR.subs.mono fun p hp => List.mem_append_left _ hp) (hsubs.mono fun p hp => List.mem_append_right _ hp)
      · rw [Part.sizes_snoc, ← Nat.add_assoc]; rfl
    · intro vs sv seg nx h tk' tq u' hR F' N'
      refine dig fun kG => ?_
      obtain ⟨kp, mp⟩ := hR.parts
      obtain ⟨cn', mn⟩ := hR.nodes
      refine gen_eq (seg ++ rest) fun r3 hr3 => ?_
      have N₃ : News g L₁ h ((L₁ + 1 + 1 + 1, o1) :: (nA, listOf (nv ++ sv).toArray cn') :: (pA, listOf vs.toArray kp) :: (L₁ + 1 + 1, o5) :: (L₁ + 1, o4) :: r3) := nw_sub N' fun p hp => by
        rcases List.mem_cons.mp hp with rfl | hp
        · exact hR.keep _ hkw1
        rcases List.mem_cons.mp hp with rfl | hp
        · exact mn
        rcases List.mem_cons.mp hp with rfl | hp
        · exact mp
        rcases List.mem_cons.mp hp with rfl | hp
        · exact hR.keep _ hkw2
        rcases List.mem_cons.mp hp with rfl | hp
        · exact hR.keep _ hkw3
        rw [hr3] at hp
        rcases List.mem_append.mp hp with hp | hp
        · exact hR.segs _ hp
        · exact hR.keep _ (hkwr _ hp)
      have hoff₃ : OwnOff r3 [nA, L₁ + 1 + 1 + 1] := by
        intro p hp b hb e
        rw [hr3] at hp
        have hb' : @Eq Nat b nA ∨ @Eq Nat b (L₁ + 1 + 1 + 1) := by
          rcases List.mem_cons.mp hb with hb | hb
          · exact .inl hb
          · exact .inr (List.mem_singleton.mp hb)
        have e' : @Eq Nat p.1 b := e
        have q1 := ltN ltA.1
        rcases List.mem_append.mp hp with hp | hp
        · have := hR.big p hp
          rcases hb' with hb' | hb' <;> omega
        · have q2 := ltN (l2 p hp)
          rcases hb' with hb' | hb'
          · exact hro p hp (e'.trans hb')
          · omega
      have hnds : NodesIn N₀ r3 n ps vs := hR.tree.mono fun p hp => by rw [hr3]; exact List.mem_append_left _ hp
      have hvl : vs.length = ps.length := hR.tree.length
      have q1 := ltN ltA.1
      have q3 := ltN l3
      clear N' N₂ F₂
      refine kG ?_
      clear kG
      k_steps
      refine Hold.out ?_
      k_dflt refine ListComp_U (F₀ := by k_asm) (by with_unfolding_all rfl) (by decide) (by rfl) (by decide) (by rfl) ?_
      k_steps
      refine dig fun kG => ?_
      refine gen_eq ((L₁ + 1 + 1 + 1, o1) :: (nA, listOf (nv ++ sv).toArray cn') :: (pA, listOf vs.toArray kp) :: (L₁ + 1 + 1, o5) :: (L₁ + 1, o4) :: r3) fun led hled => ?_
      have ur3 : ∀ p ∈ r3, p ∈ led := fun p hp => by rw [hled]; exact .tail _ (.tail _ (.tail _ (.tail _ (.tail _ hp))))
      rw [← hled] at N₃
      refine kG ?_
      clear kG
      refine srcU_led (vs := vs) (k := kp) (news := led) (fun i ys nx => nx = led ∧ ys = (ps.take i).map fun p => Value.bool p.null) (by rfl) F' N₃ (by omega) (fun i ys nx hj => by rw [hj.1, hled]; exact .tail _ (.tail _ (.head _))) ⟨rfl, by simp⟩ ?_ ?_
      · intro i v ys nx I oI C oC D m₂ h₂ tk₂ E' hP_1 hP_2 hC hm F₃ N₄ hoff₄ hne
        refine dig fun kG => ?_
        obtain ⟨_, hv⟩ := hP_1
        obtain ⟨rfl, rfl⟩ := hP_2
        revert F₃ N₄
        intro F₃ N₄
        obtain ⟨c, hc, hcn⟩ := hnds.get i hv
        obtain ⟨cvs, ca, cb, ce, cp, ck, ckb, cke, ckp, ct, cbs, ces, rfl, hm1, hm2, hm3, hm4, hm5, hm6⟩ := hcn.head
        have hm1' := ur3 _ hm1
        have est : ps.take (i + 1) = ps.take i ++ [c] := by rw [List.take_add_one, hc]; rfl
        refine kG ?_
        clear kG
        k_steps
        exact CompEnd.intro F₃ N₄ _ (fun p hp => hp) hoff₄ trivial ⟨rfl, by rw [est]; simp⟩
      · intro gg ys nx' hP_3 eA hE tkE F₄ N₄ ho1
        refine dig fun kG => ?_
        obtain ⟨e1, e2⟩ := hP_3
        rw [hvl, List.take_length] at e2
        subst e1
        have ne1 : @Ne Nat (L₁ + 1 + 1 + 1) eA := off1_mem ho1 (L₁ + 1 + 1 + 1, o1) (by rw [hled]; exact .head _)
        have ne2 : @Ne Nat nA eA := off1_mem ho1 (nA, _) (by rw [hled]; exact .tail _ (.head _))
        refine gen_eq (ps.map Part.null) fun (bs : List Bool) hbs => ?_
        have N₅ : News g L₁ hE ((eA, listOf (bs.map Value.bool).toArray ys.length) :: (L₁ + 1 + 1 + 1, o1) :: (nA, listOf (nv ++ sv).toArray cn') :: (pA, listOf vs.toArray kp) :: (L₁ + 1 + 1, o5) :: (L₁ + 1, o4) :: r3) := by
          rw [hbs, List.map_map, show (Value.bool ∘ Part.null) = fun p : Part => Value.bool p.null from rfl, ← e2, ← hled]
          exact N₄
        clear N₄ N₃ F' e2
        have hvl' : vs.length ≤ 1000 := by omega
        have hbl : (bs.map Value.bool).length ≤ 1000 := by rw [hbs, List.length_map, List.length_map]; omega
        refine kG ?_
        clear kG
        k_steps
        refine Hold.out ?_
        k_dflt refine LCt.Assign_ListComp_T (F₀ := by k_asm) (by rfl) (by with_unfolding_all rfl) (by with_unfolding_all rfl) (by decide) (by rfl) (by decide) (by rfl) (by rfl) (by rfl) ?_
        k_steps
        rename_i hB₁ o6 F₆ N₆ d6 t6 tk6 hB₂ tk7 t7 t8 t9 hrg F₇ N₇ up₇
        refine Hold.out ?_
        refine dig fun kG => ?_
        refine gen_eq ((eA, listOf (bs.map Value.bool).toArray ys.length) :: (L₁ + 1 + 1 + 1, o6) :: (nA, listOf (nv ++ sv).toArray cn') :: (pA, listOf vs.toArray kp) :: (L₁ + 1 + 1, o5) :: (L₁ + 1, o4) :: r3) fun led₂ hled₂ => ?_
        have mE : (eA, listOf (bs.map Value.bool).toArray ys.length) ∈ led₂ := by rw [hled₂]; exact .head _
        have mC3 : (L₁ + 1 + 1 + 1, o6) ∈ led₂ := by rw [hled₂]; exact .tail _ (.head _)
        have mC2 : (L₁ + 1 + 1, o5) ∈ led₂ := by rw [hled₂]; exact .tail _ (.tail _ (.tail _ (.tail _ (.head _))))
        have mC1 : (L₁ + 1, o4) ∈ led₂ := by rw [hled₂]; exact .tail _ (.tail _ (.tail _ (.tail _ (.tail _ (.head _)))))
        rw [← hled₂] at N₇
        refine kG ?_
        clear kG
        refine srcT_rng (n := vs.length) (news := led₂) (fun i ys nx => nx = led₂ ∧ IntsAre ys (pickAt (begOk false bs) i)) (by rfl) F₇ N₇ hrg hvl' ⟨rfl, .nil⟩ ?_ ?_
        · intro i v zs nx I oI C oC D m₂ h₂ tk₂ E' hP_4 hP_5 hC hm F₃ N₄ hoff₄ hne
          refine dig fun kG => ?_
          obtain ⟨_, tv, rfl⟩ := hP_4
          obtain ⟨rfl, hzs⟩ := hP_5
          revert F₃ N₄
          intro F₃ N₄
          refine kG ?_
          clear kG
          k_steps
          exact CompEnd.intro F₃ N₄ _ (fun p hp => hp) hoff₄ trivial ⟨rfl, by rw [pickAt_yes rfl]; exact hzs.append (.cons _ _ .nil)⟩
        · intro gg zs nx hP_6 bA hE2 tkE2 F₈ N₈ ho2
          refine dig fun kG => ?_
          obtain ⟨e1, hzs⟩ := hP_6
          subst e1
          have ne3 : @Ne Nat nA bA := off1_mem ho2 (nA, _) (by rw [hled₂]; exact .tail _ (.tail _ (.head _)))
          have ne4 : @Ne Nat eA bA := off1_mem ho2 _ mE
          refine gen_eq (zs.length) fun zn hzn => ?_
          have N₉ : News g L₁ hE2 ((bA, listOf zs.toArray zn) :: nx) := by rw [hzn]; exact N₈
          clear N₈ N₇ F₇ N₆ F₆ hrg
          refine kG ?_
          clear kG
          k_steps
          refine Hold.out ?_
          k_dflt refine LCt.Assign_ListComp_T (F₀ := by k_asm) (by rfl) (by with_unfolding_all rfl) (by with_unfolding_all rfl) (by decide) (by rfl) (by decide) (by rfl) (by rfl) (by rfl) ?_
          have mP : (pA, listOf vs.toArray kp) ∈ nx := by rw [hled₂]; exact .tail _ (.tail _ (.tail _ (.head _)))
          k_steps
          rename_i N₁₀ t10 tk10 hB₃ tk11 t11 t12 t13 hrg₂ F₁₁ N₁₁ up₁₁
          refine Hold.out ?_
          refine dig fun kG => ?_
          refine gen_eq ((bA, listOf zs.toArray zn) :: nx) fun led₃ hled₃ => ?_
          have u3 : ∀ p ∈ nx, p ∈ led₃ := fun p hp => by rw [hled₃]; exact .tail _ hp
          have mE' := u3 _ mE
          have mC3' := u3 _ mC3
          have mC2' := u3 _ mC2
          have mC1' := u3 _ mC1
          have mP' := u3 _ mP
          rw [← hled₃] at N₁₁
          clear mE mC3 mC2 mC1 mP
          refine kG ?_
          clear kG
          refine srcT_rng (n := vs.length) (news := led₃) (fun i ys nx => nx = led₃ ∧ IntsAre ys (pickAt (endOk false bs) i)) (by rfl) F₁₁ N₁₁ hrg₂ hvl' ⟨rfl, .nil⟩ ?_ ?_
          · intro i v zs' nx' I oI C oC D m₂ h₂ tk₂ E' hP_7 hP_8 hC hm F₃ N₄ hoff₄ hne
            refine dig fun kG => ?_
            obtain ⟨_, tv, rfl⟩ := hP_7
            obtain ⟨e3, hzs'⟩ := hP_8
            revert F₃ N₄
            intro F₃ N₄
            subst e3
            refine kG ?_
            clear kG
            k_steps
            exact CompEnd.intro F₃ N₄ _ (fun p hp => hp) hoff₄ trivial ⟨rfl, by rw [pickAt_yes rfl]; exact hzs'.append (.cons _ _ .nil)⟩
          · intro gg zs' nx' hP_9 cA hE3 tkE3 F₁₂ N₁₂ ho3
            refine dig fun kG => ?_
            obtain ⟨e3, hzs'⟩ := hP_9
            subst e3
            have ne5 : @Ne Nat nA cA := off1_mem ho3 (nA, listOf (nv ++ sv).toArray cn') (u3 _ (by rw [hled₂]; exact .tail _ (.tail _ (.head _))))
            refine gen_eq (zs'.length) fun zn' hzn' => ?_
            have N₁₃ : News g L₁ hE3 ((cA, listOf zs'.toArray zn') :: nx') := by rw [hzn']; exact N₁₂
            clear N₁₂ N₁₁ F₁₁ hrg₂
            obtain ⟨bz, hbz⟩ := nodes_fun hnds
            have ur4 : ∀ p ∈ r3, p ∈ nx' := fun p hp => u3 p (by rw [hled₂]; exact .tail _ (.tail _ (.tail _ (.tail _ (.tail _ (.tail _ hp))))))
            have mB' : (bA, listOf zs.toArray zn) ∈ nx' := by rw [hled₃]; exact .head _
            have hzl : zs.length ≤ 100 := by
              rw [hzs.length, pickAt_eq, List.length_map]
              have := List.length_filter_le (begOk false bs) (List.range vs.length)
              rw [List.length_range] at this
              unfold idxs
              omega
            have hzl' : zs'.length ≤ 100 := by
              rw [hzs'.length, pickAt_eq, List.length_map]
              have := List.length_filter_le (endOk false bs) (List.range vs.length)
              rw [List.length_range] at this
              unfold idxs
              omega
            refine kG ?_
            clear kG
            k_steps
            rename_i lN hN₁ ltNn hN₂ F₁₄ N₁₄
            refine dig fun kG => ?_
            refine gen_eq (bs.contains true) fun bv hbv => ?_
            have hcs : (Str.ofString "choice" == Str.ofString "seq") = false := by decide
            rw [hcs, ← hbv] at N₁₄
            have hnx : bv = Part.nullX false ps := by rw [hbv, hbs]; exact anyNull_yes ps
            refine kG ?_
            clear kG
            refine Hold.out ?_
            refine flat_comp (ax := bA) (xs := zs) (k := zn) (zs := fun i => match (idxs (begOk false bs) vs.length)[i]? with | some j => (bz j).1 | none => []) F₁₄ N₁₄ (.tail _ (.tail _ mB')) hzl (by rfl) (by with_unfolding_all rfl) (by decide) (by rfl) (by decide) (by rfl) (by rfl) (by rfl) ?_ ?_ ?_
            · intro Q' hq'
              k_steps
              exact hq'
            · intro i v hv
              refine dig fun kG => ?_
              obtain ⟨j, tj, hj, hjl, rfl⟩ := pick_get hzs hv
              have hvj : vs[j]? = some vs[j] := List.getElem?_eq_getElem hjl
              obtain ⟨c, hc, ca, cb, ce, cp, ck, ckb, cke, ckp, ct, ccvs, hva, hm1, hm2, hm3, hm4, hm5, hm6⟩ := hbz j _ hvj
              rw [hva] at hvj
              refine kG ?_
              clear kG
              refine ⟨cb, ckb, ?_, ?_, ?_⟩
              · simp only [hj]; exact .tail _ (.tail _ (ur4 _ hm2))
              · simp only [hj]; rw [hm3.length]; exact Nat.le_trans (sel_length _ _) (by omega)
              · intro C oC m₂ h₂ tk₂ led E' Q' hC hm F₃ N₄ hsub hq
                have a1 := hsub _ (.tail _ (.tail _ mP'))
                have a2 := hsub _ (.tail _ (.tail _ (ur4 _ hm1)))
                have a3 := hsub _ (.tail _ (.tail _ mC2'))
                k_steps
                exact hq _
            · intro D1 hD1 tkD1 F₁₅ N₁₅ off₁₅
              refine dig fun kG => ?_
              refine gen_eq ((List.range zs.length).flatMap (fun i => match (idxs (begOk false bs) vs.length)[i]? with | some j => (bz j).1 | none => [])) fun fl hfl => ?_
              rw [← hfl] at N₁₅
              refine gen_eq (fl.length) fun nfl hnfl => ?_
              have N₁₆ : News g L₁ hD1 ((D1, listOf fl.toArray nfl) :: (lN, listOf #[Value.bool false, Value.str mk t3, Value.bool bv] 0) :: (cA, listOf zs'.toArray zn') :: nx') := by rw [hnfl]; exact N₁₅
              have w1 : @LT.lt Nat _ lN D1 := off₁₅ _ (.head _)
              have w2 : @LT.lt Nat _ cA D1 := off₁₅ (cA, _) (.tail _ (.head _))
              have w3 : @LT.lt Nat _ cA lN := ltNn.1
              have w4 : ∀ p ∈ nx', @LT.lt Nat _ p.1 lN := ktn_ltOf ltNn.2
              have w5 : OwnOff nx' [lN] := fun p hp b hb e => Nat.lt_irrefl _ (by have := w4 p hp; rw [e, List.mem_singleton.mp hb] at this; exact this)
              clear N₁₅ N₁₄ F₁₄
              refine kG ?_
              clear kG
              k_steps
              rename_i hM₁ F₁₇ N₁₇
              refine Hold.out ?_
              refine flat_comp (ax := cA) (xs := zs') (k := zn') (zs := fun i => match (idxs (endOk false bs) vs.length)[i]? with | some j => (bz j).2 | none => []) F₁₇ N₁₇ (.tail _ (.tail _ (.head _))) hzl' (by rfl) (by with_unfolding_all rfl) (by decide) (by rfl) (by decide) (by rfl) (by rfl) (by rfl) ?_ ?_ ?_
              · intro Q' hq'
                k_steps
                exact hq'
              · intro i v hv
                refine dig fun kG => ?_
                obtain ⟨j, tj, hj, hjl, rfl⟩ := pick_get hzs' hv
                have hvj : vs[j]? = some vs[j] := List.getElem?_eq_getElem hjl
                obtain ⟨c, hc, ca, cb, ce, cp, ck, ckb, cke, ckp, ct, ccvs, hva, hm1, hm2, hm3, hm4, hm5, hm6⟩ := hbz j _ hvj
                rw [hva] at hvj
                refine kG ?_
                clear kG
                refine ⟨ce, cke, ?_, ?_, ?_⟩
                · simp only [hj]; exact .tail _ (.tail _ (.tail _ (ur4 _ hm4)))
                · simp only [hj]; rw [hm5.length]; exact Nat.le_trans (sel_length _ _) (by omega)
                · intro C oC m₂ h₂ tk₂ led E' Q' hC hm F₃ N₄ hsub hq
                  have a1 := hsub _ (.tail _ (.tail _ (.tail _ mP')))
                  have a2 := hsub _ (.tail _ (.tail _ (.tail _ (ur4 _ hm1))))
                  have a3 := hsub _ (.tail _ (.tail _ (.tail _ mC2')))
                  k_steps
                  exact hq _
              · intro D2 hD2 tkD2 F₁₈ N₁₈ off₁₈
                refine dig fun kG => ?_
                refine gen_eq ((List.range zs'.length).flatMap (fun i => match (idxs (endOk false bs) vs.length)[i]? with | some j => (bz j).2 | none => [])) fun fm hfm => ?_
                rw [← hfm] at N₁₈
                refine gen_eq (fm.length) fun nfm hnfm => ?_
                refine gen_eq (offs [nA] nx') fun r5 hr5 => ?_
                have up5 : ∀ p ∈ nx', p.1 ≠ nA → p ∈ r5 := fun p hp hq => by rw [hr5]; exact mem_offs.mpr ⟨hp, by simpa using hq⟩
                have mNA : (nA, listOf (nv ++ sv).toArray cn') ∈ nx' := u3 _ (by rw [hled₂]; exact .tail _ (.tail _ (.head _)))
                have N₁₉ : News g L₁ hD2 ((D2, listOf fm.toArray nfm) :: (D1, listOf fl.toArray nfl) :: (lN, listOf #[Value.bool false, Value.str mk t3, Value.bool bv, .ref D1] 1) :: (nA, listOf (nv ++ sv).toArray cn') :: r5) := by
                  rw [hnfm]
                  refine nw_sub N₁₈ fun p hp => ?_
                  rcases List.mem_cons.mp hp with rfl | hp
                  · exact .head _
                  rcases List.mem_cons.mp hp with rfl | hp
                  · exact .tail _ (.head _)
                  rcases List.mem_cons.mp hp with rfl | hp
                  · exact .tail _ (.tail _ (.head _))
                  rcases List.mem_cons.mp hp with rfl | hp
                  · exact .tail _ (.tail _ (.tail _ (.tail _ mNA)))
                  · rw [hr5] at hp; exact .tail _ (.tail _ (.tail _ (.tail _ (mem_offs.mp hp).1)))
                have w6 : @LT.lt Nat _ D1 D2 := off₁₈ (D1, _) (.head _)
                have w7 : @LT.lt Nat _ lN D2 := off₁₈ (lN, _) (.tail _ (.head _))
                have w8 : @LT.lt Nat _ nA D2 := off₁₈ (nA, _) (.tail _ (.tail _ (.tail _ mNA)))
                have w9 : @LT.lt Nat _ nA D1 := off₁₅ (nA, _) (.tail _ (.tail _ mNA))
                have w10 : @LT.lt Nat _ nA lN := w4 _ mNA
                have w11 : OwnOff r5 [lN, nA] := fun p hp b hb e => by
                  rw [hr5] at hp
                  rcases List.mem_cons.mp hb with rfl | hb
                  · exact w5 p (mem_offs.mp hp).1 _ (.head _) e
                  · exact (mem_offs.mp hp).2 (e ▸ hb)
                have mC2'' : (L₁ + 1 + 1, o5) ∈ r5 := up5 _ mC2' (fun (e : @Eq Nat _ _) => by have := ltN l3; omega)
                have hnvs : (nv ++ sv).length ≤ 100 := by
                  have := hR.subs.length
                  rw [List.length_append]; omega
                clear N₁₈ N₁₇ F₁₇
                have hLp : @LE.le Nat _ L₁ pA := by have := ltN ltA.2.2.1; omega
                have hLN : @LE.le Nat _ L₁ lN := by have := w4 _ mP'; have : @LT.lt Nat _ pA lN := this; omega
                have ltnews : ∀ p ∈ news, p.1 < L₁ := fun p hp => by
                  rcases hnl p hp with e | hm
                  · rw [e]; exact l3
                  · exact l2 p hm
                have hsb : ∀ p ∈ seg, @LE.le Nat _ L₁ p.1 := fun p hp => by have := hR.big p hp; omega
                have mPr : (pA, listOf vs.toArray kp) ∈ r5 := up5 _ mP' (fun (e : @Eq Nat _ _) => by omega)
                have hsr : ∀ p ∈ seg, p ∈ r5 := fun p hp => up5 p (ur4 p (by rw [hr3]; exact List.mem_append_left _ hp)) (fun (e : @Eq Nat _ _) => by have := hsb p hp; omega)
                have hrr : ∀ p ∈ rest, p ∈ r5 := fun p hp => up5 p (ur4 p (by rw [hr3]; exact List.mem_append_right _ hp)) (hro p hp)
                have fin : ∀ (nu : Bool) (kN kz : Nat) (D : Addr) (h' : Heap) (tk' : Nat) (led : List (Addr × Obj)), nu = (Part.nullX false ps || isOpt mk) → Fr h₀ L h' m → News h₀ L h' led → (D, tupOf #[.ref lN, .int ((n + Part.sizes ps : Nat) : Int) tq] 0) ∈ led →
                    (D2, listOf fm.toArray nfm) ∈ led → (D1, listOf fl.toArray nfl) ∈ led → (lN, listOf #[.bool false, .str mk t3, .bool nu, .ref D1, .ref D2, .ref pA] kN) ∈ led → (nA, listOf (nv ++ sv ++ [Value.ref lN]).toArray kz) ∈ led → (∀ p ∈ r5, p ∈ led) → @LT.lt Nat _ lN D →
                    Q (.ref D) { s with heap := h', toks := tk' } := by
                  intro nu kN kz D h' tk' led hnu kF kN' g1 g2 g3 g4 g5 g6 g7
                  have hp := node_post (N₀ := N₀) (n := n) (kN := kN) (k1 := nfl) (k2 := nfm) (kp := kp) (c := kz) (nA := nA) (nv := nv) (news := news) (t3 := t3) (tq := tq) (L₁ := L₁) (D := D) (lN := lN) (D1 := D1) (D2 := D2) (pA := pA) hvl hbs hbz hzs hzs' hfl hfm hsb hR.tree hR.subs hLN (by omega) (by omega) hLp (by omega) hnu
                  refine hret L₁ _ h' tk' _ ltnews kF (nw_sub kN' fun p hp => ?_) hp
                  rcases List.mem_cons.mp hp with rfl | hp
                  · exact g1
                  rcases List.mem_cons.mp hp with rfl | hp
                  · rw [← List.append_assoc]; exact g5
                  rcases List.mem_append.mp hp with hp | hp
                  · rcases List.mem_cons.mp hp with rfl | hp
                    · exact g4
                    rcases List.mem_cons.mp hp with rfl | hp
                    · exact g3
                    rcases List.mem_cons.mp hp with rfl | hp
                    · exact g2
                    rcases List.mem_cons.mp hp with rfl | hp
                    · exact g6 _ mPr
                    · exact g6 _ (hsr p hp)
                  · rw [← hrest] at hp
                    exact g6 _ (hrr p hp)
                refine kG ?_
                clear kG
                cases bv with
                | true =>
                  k_steps
                  rename_i D hD F9 N9 ltD kF kN Tc kX
                  exact fin true _ _ D _ _ _ (by rw [← hnx]; rfl) kF kN (.head _) (.tail _ (.head _)) (.tail _ (.tail _ (.head _))) (.tail _ (.tail _ (.tail _ (.head _)))) (.tail _ (.tail _ (.tail _ (.tail _ (.head _))))) (fun p hp => .tail _ (.tail _ (.tail _ (.tail _ (.tail _ hp))))) ltD.2.2.1
                | false =>
                  k_steps
                  rename_i D hD F9 N9 ltD kF kN Tc kX
                  exact fin (isOpt mk) _ _ D _ _ _ (by rw [← hnx]; rfl) kF kN (.head _) (.tail _ (.tail _ (.head _))) (.tail _ (.tail _ (.tail _ (.head _)))) (.tail _ (.tail _ (.tail _ (.tail _ (.head _))))) (.tail _ (.tail _ (.tail _ (.tail _ (.tail _ (.head _)))))) (fun p hp => .tail _ (.tail _ (.tail _ (.tail _ (.tail _ (.tail _ hp)))))) ltD.2.2.2.1
  · revert X; k_fill; intro X
    refine wpAny_call ?_
    k_dflt (walk_at "mine_enterC")
    rename_i g L₁ h₁ tk₁ FG F₁ B₁ X₁ T₁ l1 o1 o2 o3 d1 d2 d3 N₁
    have l2 := ktn_ltOf l1.2
    have l3 := ltN l1.1
    have hoff := cells_off hro l2
    clear N F
    k_steps
    rename_i x5 x6 o4 d4 x7 x8 pA hA ltA x9 o5 F₂ N₂ d5
    have hpA : @LT.lt Nat _ nA pA := ltN ltA.2.2.2.1
    refine dig fun kG => ?_
    refine gen_eq ((L₁ + 1 + 1 + 1, o1) :: (L₁ + 1 + 1, o5) :: (L₁ + 1, o4) :: rest) fun kw hkw => ?_
    have hkwp : ∀ p ∈ kw, @LT.lt Nat _ p.1 pA ∧ p.1 ≠ nA := by
      intro p hp
      rw [hkw] at hp
      rcases List.mem_cons.mp hp with rfl | hp
      · exact ⟨ltA.1, fun (e : @Eq Nat _ _) => by have := ltN l3; omega⟩
      rcases List.mem_cons.mp hp with rfl | hp
      · exact ⟨ltA.2.1, fun (e : @Eq Nat _ _) => by have := ltN l3; omega⟩
      rcases List.mem_cons.mp hp with rfl | hp
      · exact ⟨ltA.2.2.1, fun (e : @Eq Nat _ _) => by have := ltN l3; omega⟩
      · exact ⟨ktn_ltOf ltA.2.2.2.2 p hp, hro p hp⟩
    have hkwr : ∀ p ∈ rest, p ∈ kw := fun p hp => by rw [hkw]; exact .tail _ (.tail _ (.tail _ hp))
    have hkw1 : (L₁ + 1 + 1 + 1, o1) ∈ kw := by rw [hkw]; exact .head _
    have hkw2 : (L₁ + 1 + 1, o5) ∈ kw := by rw [hkw]; exact .tail _ (.head _)
    have hkw3 : (L₁ + 1, o4) ∈ kw := by rw [hkw]; exact .tail _ (.tail _ (.head _))
    have hpwr : ∀ p ∈ pw, p ∈ rest := fun p hp => (hnl p (hpw p hp).1).elim (fun e => absurd e (hpw p hp).2) id
    refine kG ?_
    clear kG
    refine Hold.out ?_
    refine nod_iter (N := N₀) (n := n) (nA := nA) (pA := pA) (nv := nv) (kw := kw) (mk := mk) (t3 := t3) (ps := ps) (pw := pw) (by rfl) F₂ N₂ rfl hps (hkwr _ (hpwr _ hta)) (by rfl) (by rfl) (by rfl) ⟨⟨0, .head _⟩, ⟨kn, ?_⟩, (fun p hp => (by cases hp)), (fun p hp => (by cases hp)), fun p hp => ?_, (by simp only [NodesIn]), (by simp only [Part.subss]; exact .nil)⟩ ?_ ?_
    · rw [List.append_nil]; exact .tail _ (.tail _ (.tail _ (.tail _ (.head _))))
    · rw [hkw] at hp
      rcases List.mem_cons.mp hp with rfl | hp
      · exact .tail _ (.head _)
      rcases List.mem_cons.mp hp with rfl | hp
      · exact .tail _ (.tail _ (.head _))
      rcases List.mem_cons.mp hp with rfl | hp
      · exact .tail _ (.tail _ (.tail _ (.head _)))
      · exact .tail _ (.tail _ (.tail _ (.tail _ (.tail _ hp))))
    · intro pre c v vs sv seg nx h tk' it io tq u' hc hpost hcv hR hoff' hlt F' N'
      refine dig fun kG => ?_
      obtain ⟨post, hpost⟩ := hpost
      obtain ⟨kp, mp⟩ := hR.parts
      obtain ⟨cn', mn⟩ := hR.nodes
      have mk1 := hR.keep _ hkw1
      have mk2 := hR.keep _ hkw2
      have mk3 := hR.keep _ hkw3
      clear N₂ F₂
      have hpreps : Part.sizes pre + c.size ≤ Part.sizes ps := by
        rw [hpost, Part.sizes_append]
        simp only [Part.sizes]
        omega
      have hsub₁ : (Part.subss n pre).length + (c.subs (n + Part.sizes pre)).length ≤ (Part.subss n ps).length := by
        have e : Part.subss n ps = Part.subss n pre ++ Part.subss (n + Part.sizes pre) (c :: post) := by rw [hpost]; exact Part.subss_append _ _ _
        rw [e]
        simp only [Part.subss, List.length_append]
        omega
      have hprel : pre.length + 1 ≤ ps.length := by
        rw [hpost, List.length_append]; simp
      have hvl : vs.length ≤ 100 := by rw [hR.tree.length]; omega
      have hsl := hR.subs.length
      have hitn : ∀ p ∈ kw, p.1 ≠ it := fun p hp => hoff' p (hR.keep p hp)
      have C := IH c hc ((it, io) :: nx) v (n + Part.sizes pre) tq nA cn' (nv ++ sv) hcv (fun p hp => ⟨.tail _ (hR.keep _ (hkwr _ (hpwr _ hp))), (hpw p hp).2⟩) (.tail _ mn) (by omega) hN (by rw [List.length_append]; omega)
      have hcH := hH c hc
      refine kG ?_
      clear kG
      k_steps
      refine Hold.out ?_
      refine' CallSpec.use C ?kB ?kF ?kX ?kN ?kT ?kk ?kd ?ku ?_
      case kB => k_asm
      case kF => k_asm
      case kX => k_asm
      case kN => k_asm
      case kT => k_asm
      case kk => exact rfl
      case kd => first | exact room2 hdp (by decide) | exact room2s hdp (by decide) | exact room2h hdp (by assumption) (by decide) | exact room2hs hdp (by assumption) (by decide) | exact room2c hdp (by decide) | exact room1 hdp (by decide) | exact room1c hdp (by decide) | ktr_room
      case ku => first | exact room2 hu (by decide) | exact room2s hu (by decide) | exact room2h hu (by assumption) (by decide) | exact room2hs hu (by assumption) (by decide) | exact room2c hu (by decide) | exact room1 hu (by decide) | exact room1c hu (by decide) | ktr_units
      intro b₁ r h₄ tk₄ news₄ lt₁ F₄ N₄ hp
      refine dig fun kG => ?_
      obtain ⟨D, kD, cc, tkD, nd, sv', seg', rfl, hbD, hbs, hnode, hsubs, rfl⟩ := hp
      have hpb : @LT.lt Nat _ pA b₁ := lt₁ _ (.tail _ mp)
      have hib : @LT.lt Nat _ it b₁ := lt₁ _ (.head _)
      have hnb : @LT.lt Nat _ nA b₁ := lt₁ _ (.tail _ mn)
      have hDn : D ≠ nA := fun (e : @Eq Nat _ _) => by have : @LE.le Nat _ b₁ D := hbD; omega
      have hDp : @LT.lt Nat _ pA D := Nat.lt_of_lt_of_le hpb hbD
      have hDi : @LT.lt Nat _ it D := Nat.lt_of_lt_of_le hib hbD
      refine gen_eq ((nA, listOf ((nv ++ sv) ++ sv').toArray cc) :: (seg' ++ offs [nA] ((it, io) :: nx))) fun nx₂ hnx₂ => ?_
      rw [← hnx₂] at N₄
      have tr : ∀ p ∈ nx, p.1 ≠ nA → p ∈ nx₂ := fun p hp hq => by rw [hnx₂]; exact .tail _ (List.mem_append_right _ (mem_offs.mpr ⟨.tail _ hp, by simpa using hq⟩))
      have mp₂ : (pA, listOf vs.toArray kp) ∈ nx₂ := tr _ mp (fun (e : @Eq Nat _ _) => by omega)
      have mi₂ : (it, io) ∈ nx₂ := by rw [hnx₂]; exact .tail _ (List.mem_append_right _ (mem_offs.mpr ⟨.head _, by simp only [List.mem_singleton]; exact fun (e : @Eq Nat it nA) => hoff' _ mn e.symm⟩))
      have mn₂ : (nA, listOf ((nv ++ sv) ++ sv').toArray cc) ∈ nx₂ := by rw [hnx₂]; exact .head _
      have ms₂ : ∀ p ∈ seg', p ∈ nx₂ := fun p hp => by rw [hnx₂]; exact .tail _ (List.mem_append_left _ hp)
      have mk₂ : ∀ p ∈ kw, p ∈ nx₂ := fun p hp => tr p (hR.keep p hp) (hkwp p hp).2
      have mg₂ : ∀ p ∈ seg, p ∈ nx₂ := fun p hp => tr p (hR.segs p hp) (fun (e : @Eq Nat _ _) => by have := hR.big p hp; omega)
      refine gen_eq (offs [pA] nx₂) fun led hled => ?_
      have N₅ : News g L₁ h₄ ((D, tupOf #[nd, .int ((n + Part.sizes pre + c.size : Nat) : Int) tkD] kD) :: (pA, listOf vs.toArray kp) :: led) := nw_sub N₄ fun p hp => by
        rcases List.mem_cons.mp hp with rfl | hp
        · exact .head _
        rcases List.mem_cons.mp hp with rfl | hp
        · exact .tail _ mp₂
        · rw [hled] at hp; exact .tail _ (mem_offs.mp hp).1
      have up : ∀ p ∈ nx₂, p.1 ≠ pA → p ∈ led := fun p hp hq => by rw [hled]; exact mem_offs.mpr ⟨hp, by simpa using hq⟩
      have hoff₅ : OwnOff led [pA] := by rw [hled]; exact offs_off _ _
      have ml2 := up _ (mk₂ _ hkw2) (Nat.ne_of_lt (hkwp _ hkw2).1)
      clear N₄ C
      refine kG ?_
      clear kG
      k_steps
      have hip : it ≠ pA := fun e => hoff' _ mp e.symm
      refine dig fun kG => ?_
      refine gen_eq (offs [it] ((pA, listOf (vs ++ [nd]).toArray (kp + 1)) :: led)) fun nx₃ hnx₃ => ?_
      have up₃ : ∀ p ∈ nx₂, p.1 ≠ pA → p.1 ≠ it → p ∈ nx₃ := fun p hp hq hr => by rw [hnx₃]; exact mem_offs.mpr ⟨.tail _ (up p hp hq), by simpa using hr⟩
      have kp₃ : ∀ p ∈ kw, p ∈ nx₃ := fun p hp => up₃ p (mk₂ p hp) (Nat.ne_of_lt (hkwp p hp).1) (hitn p hp)
      have hseg₃ : ∀ p ∈ seg, p ∈ nx₃ := fun p hp => up₃ p (mg₂ p hp) (Nat.ne_of_gt (hR.big p hp)) (hoff' p (hR.segs p hp))
      have hbig' : ∀ p ∈ seg', @LT.lt Nat _ pA p.1 := fun p hp => Nat.lt_of_lt_of_le hpb (hbs p hp)
      have hseg₄ : ∀ p ∈ seg', p ∈ nx₃ := fun p hp => up₃ p (ms₂ p hp) (Nat.ne_of_gt (hbig' p hp)) (Nat.ne_of_gt (Nat.lt_of_lt_of_le hib (hbs p hp)))
      refine kG ?_
      clear kG
      refine ⟨rfl, _, _, _, nx₃, vs ++ [nd], sv ++ sv', seg ++ seg', rfl, by k_asm, nw_sub (by k_asm) ?_, fun p hp => ?_, ⟨⟨kp + 1, ?_⟩, ⟨cc, ?_⟩, fun p hp => ?_, fun p hp => ?_, kp₃, ?_, ?_⟩, ⟨tkD, ?_⟩, by rfl, by rfl⟩
      · intro p hp
        rcases List.mem_cons.mp hp with rfl | hp
        · exact .tail _ (.tail _ (up _ mi₂ hip))
        · rw [hnx₃] at hp
          exact .tail _ (mem_offs.mp hp).1
      · rw [hnx₃] at hp
        simpa using (mem_offs.mp hp).2
      · rw [hnx₃]; exact mem_offs.mpr ⟨.head _, by simp only [List.mem_singleton]; exact Ne.symm hip⟩
      · have := up₃ _ mn₂ (fun (e : @Eq Nat _ _) => by omega) (show nA ≠ it from hoff' _ mn)
        rw [List.append_assoc] at this
        exact this
      · rcases List.mem_append.mp hp with hp | hp
        · exact hseg₃ p hp
        · exact hseg₄ p hp
      · rcases List.mem_append.mp hp with hp | hp
        · exact hR.big p hp
        · exact hbig' p hp
      · exact NodesIn.snoc (NodesIn.mono (fun p hp => List.mem_append_left _ hp) pre hR.tree) (NodeIn.mono (fun p hp => List.mem_append_right _ hp) c hnode)
      · rw [Part.subss_snoc]
        exact SubsIn.append (hR.subs.mono fun p hp => List.mem_append_left _ hp) (hsubs.mono fun p hp => List.mem_append_right _ hp)
      · rw [Part.sizes_snoc, ← Nat.add_assoc]; rfl
    · intro vs sv seg nx h tk' tq u' hR F' N'
      refine dig fun kG => ?_
      obtain ⟨kp, mp⟩ := hR.parts
      obtain ⟨cn', mn⟩ := hR.nodes
      refine gen_eq (seg ++ rest) fun r3 hr3 => ?_
      have N₃ : News g L₁ h ((L₁ + 1 + 1 + 1, o1) :: (nA, listOf (nv ++ sv).toArray cn') :: (pA, listOf vs.toArray kp) :: (L₁ + 1 + 1, o5) :: (L₁ + 1, o4) :: r3) := nw_sub N' fun p hp => by
        rcases List.mem_cons.mp hp with rfl | hp
        · exact hR.keep _ hkw1
        rcases List.mem_cons.mp hp with rfl | hp
        · exact mn
        rcases List.mem_cons.mp hp with rfl | hp
        · exact mp
        rcases List.mem_cons.mp hp with rfl | hp
        · exact hR.keep _ hkw2
        rcases List.mem_cons.mp hp with rfl | hp
        · exact hR.keep _ hkw3
        rw [hr3] at hp
        rcases List.mem_append.mp hp with hp | hp
        · exact hR.segs _ hp
        · exact hR.keep _ (hkwr _ hp)
      have hoff₃ : OwnOff r3 [nA, L₁ + 1 + 1 + 1] := by
        intro p hp b hb e
        rw [hr3] at hp
        have hb' : @Eq Nat b nA ∨ @Eq Nat b (L₁ + 1 + 1 + 1) := by
          rcases List.mem_cons.mp hb with hb | hb
          · exact .inl hb
          · exact .inr (List.mem_singleton.mp hb)
        have e' : @Eq Nat p.1 b := e
        have q1 := ltN ltA.1
        rcases List.mem_append.mp hp with hp | hp
        · have := hR.big p hp
          rcases hb' with hb' | hb' <;> omega
        · have q2 := ltN (l2 p hp)
          rcases hb' with hb' | hb'
          · exact hro p hp (e'.trans hb')
          · omega
      have hnds : NodesIn N₀ r3 n ps vs := hR.tree.mono fun p hp => by rw [hr3]; exact List.mem_append_left _ hp
      have hvl : vs.length = ps.length := hR.tree.length
      have q1 := ltN ltA.1
      have q3 := ltN l3
      clear N' N₂ F₂
      refine kG ?_
      clear kG
      k_steps
      refine Hold.out ?_
      k_dflt refine ListComp_U (F₀ := by k_asm) (by with_unfolding_all rfl) (by decide) (by rfl) (by decide) (by rfl) ?_
      k_steps
      refine dig fun kG => ?_
      refine gen_eq ((L₁ + 1 + 1 + 1, o1) :: (nA, listOf (nv ++ sv).toArray cn') :: (pA, listOf vs.toArray kp) :: (L₁ + 1 + 1, o5) :: (L₁ + 1, o4) :: r3) fun led hled => ?_
      have ur3 : ∀ p ∈ r3, p ∈ led := fun p hp => by rw [hled]; exact .tail _ (.tail _ (.tail _ (.tail _ (.tail _ hp))))
      rw [← hled] at N₃
      refine kG ?_
      clear kG
      refine srcU_led (vs := vs) (k := kp) (news := led) (fun i ys nx => nx = led ∧ ys = (ps.take i).map fun p => Value.bool p.null) (by rfl) F' N₃ (by omega) (fun i ys nx hj => by rw [hj.1, hled]; exact .tail _ (.tail _ (.head _))) ⟨rfl, by simp⟩ ?_ ?_
      · intro i v ys nx I oI C oC D m₂ h₂ tk₂ E' hP_10 hP_11 hC hm F₃ N₄ hoff₄ hne
        refine dig fun kG => ?_
        obtain ⟨_, hv⟩ := hP_10
        obtain ⟨rfl, rfl⟩ := hP_11
        revert F₃ N₄
        intro F₃ N₄
        obtain ⟨c, hc, hcn⟩ := hnds.get i hv
        obtain ⟨cvs, ca, cb, ce, cp, ck, ckb, cke, ckp, ct, cbs, ces, rfl, hm1, hm2, hm3, hm4, hm5, hm6⟩ := hcn.head
        have hm1' := ur3 _ hm1
        have est : ps.take (i + 1) = ps.take i ++ [c] := by rw [List.take_add_one, hc]; rfl
        refine kG ?_
        clear kG
        k_steps
        exact CompEnd.intro F₃ N₄ _ (fun p hp => hp) hoff₄ trivial ⟨rfl, by rw [est]; simp⟩
      · intro gg ys nx' hP_12 eA hE tkE F₄ N₄ ho1
        refine dig fun kG => ?_
        obtain ⟨e1, e2⟩ := hP_12
        rw [hvl, List.take_length] at e2
        subst e1
        have ne1 : @Ne Nat (L₁ + 1 + 1 + 1) eA := off1_mem ho1 (L₁ + 1 + 1 + 1, o1) (by rw [hled]; exact .head _)
        have ne2 : @Ne Nat nA eA := off1_mem ho1 (nA, _) (by rw [hled]; exact .tail _ (.head _))
        refine gen_eq (ps.map Part.null) fun (bs : List Bool) hbs => ?_
        have N₅ : News g L₁ hE ((eA, listOf (bs.map Value.bool).toArray ys.length) :: (L₁ + 1 + 1 + 1, o1) :: (nA, listOf (nv ++ sv).toArray cn') :: (pA, listOf vs.toArray kp) :: (L₁ + 1 + 1, o5) :: (L₁ + 1, o4) :: r3) := by
          rw [hbs, List.map_map, show (Value.bool ∘ Part.null) = fun p : Part => Value.bool p.null from rfl, ← e2, ← hled]
          exact N₄
        clear N₄ N₃ F' e2
        have hvl' : vs.length ≤ 1000 := by omega
        have hbl : (bs.map Value.bool).length ≤ 1000 := by rw [hbs, List.length_map, List.length_map]; omega
        refine kG ?_
        clear kG
        k_steps
        refine Hold.out ?_
        k_dflt refine LCt.Assign_ListComp_T (F₀ := by k_asm) (by rfl) (by with_unfolding_all rfl) (by with_unfolding_all rfl) (by decide) (by rfl) (by decide) (by rfl) (by rfl) (by rfl) ?_
        k_steps
        rename_i hB₁ o6 F₆ N₆ d6 t6 tk6 hB₂ tk7 t7 t8 t9 hrg F₇ N₇ up₇
        refine Hold.out ?_
        refine dig fun kG => ?_
        refine gen_eq ((eA, listOf (bs.map Value.bool).toArray ys.length) :: (L₁ + 1 + 1 + 1, o6) :: (nA, listOf (nv ++ sv).toArray cn') :: (pA, listOf vs.toArray kp) :: (L₁ + 1 + 1, o5) :: (L₁ + 1, o4) :: r3) fun led₂ hled₂ => ?_
        have mE : (eA, listOf (bs.map Value.bool).toArray ys.length) ∈ led₂ := by rw [hled₂]; exact .head _
        have mC3 : (L₁ + 1 + 1 + 1, o6) ∈ led₂ := by rw [hled₂]; exact .tail _ (.head _)
        have mC2 : (L₁ + 1 + 1, o5) ∈ led₂ := by rw [hled₂]; exact .tail _ (.tail _ (.tail _ (.tail _ (.head _))))
        have mC1 : (L₁ + 1, o4) ∈ led₂ := by rw [hled₂]; exact .tail _ (.tail _ (.tail _ (.tail _ (.tail _ (.head _)))))
        rw [← hled₂] at N₇
        refine kG ?_
        clear kG
        refine srcT_rng (n := vs.length) (news := led₂) (fun i ys nx => nx = led₂ ∧ IntsAre ys (pickAt (begOk true bs) i)) (by rfl) F₇ N₇ hrg hvl' ⟨rfl, .nil⟩ ?_ ?_
        · intro i v zs nx I oI C oC D m₂ h₂ tk₂ E' hP_13 hP_14 hC hm F₃ N₄ hoff₄ hne
          refine dig fun kG => ?_
          obtain ⟨_, tv, rfl⟩ := hP_13
          obtain ⟨rfl, hzs⟩ := hP_14
          revert F₃ N₄
          intro F₃ N₄
          refine kG ?_
          clear kG
          k_steps
          · rename_i D5 h5 F5 N5 l5 hcn
            exact CompEnd.intro F5 N5 _ (fun p hp => .tail _ hp) hoff₄ trivial ⟨rfl, by rw [pickAt_no (by simp only [begOk, hcn]; rfl)]; exact hzs⟩
          · rename_i D5 h5 F5 N5 l5 hcn
            exact CompEnd.intro F5 N5 _ (fun p hp => .tail _ hp) hoff₄ trivial ⟨rfl, by rw [pickAt_yes (by simp only [begOk, hcn]; rfl)]; exact hzs.append (.cons _ _ .nil)⟩
        · intro gg zs nx hP_15 bA hE2 tkE2 F₈ N₈ ho2
          refine dig fun kG => ?_
          obtain ⟨e1, hzs⟩ := hP_15
          subst e1
          have ne3 : @Ne Nat nA bA := off1_mem ho2 (nA, _) (by rw [hled₂]; exact .tail _ (.tail _ (.head _)))
          have ne4 : @Ne Nat eA bA := off1_mem ho2 _ mE
          refine gen_eq (zs.length) fun zn hzn => ?_
          have N₉ : News g L₁ hE2 ((bA, listOf zs.toArray zn) :: nx) := by rw [hzn]; exact N₈
          clear N₈ N₇ F₇ N₆ F₆ hrg
          refine kG ?_
          clear kG
          k_steps
          refine Hold.out ?_
          k_dflt refine LCt.Assign_ListComp_T (F₀ := by k_asm) (by rfl) (by with_unfolding_all rfl) (by with_unfolding_all rfl) (by decide) (by rfl) (by decide) (by rfl) (by rfl) (by rfl) ?_
          have mP : (pA, listOf vs.toArray kp) ∈ nx := by rw [hled₂]; exact .tail _ (.tail _ (.tail _ (.head _)))
          k_steps
          rename_i N₁₀ t10 tk10 hB₃ tk11 t11 t12 t13 hrg₂ F₁₁ N₁₁ up₁₁
          refine Hold.out ?_
          refine dig fun kG => ?_
          refine gen_eq ((bA, listOf zs.toArray zn) :: nx) fun led₃ hled₃ => ?_
          have u3 : ∀ p ∈ nx, p ∈ led₃ := fun p hp => by rw [hled₃]; exact .tail _ hp
          have mE' := u3 _ mE
          have mC3' := u3 _ mC3
          have mC2' := u3 _ mC2
          have mC1' := u3 _ mC1
          have mP' := u3 _ mP
          rw [← hled₃] at N₁₁
          clear mE mC3 mC2 mC1 mP
          refine kG ?_
          clear kG
          refine srcT_rng (n := vs.length) (news := led₃) (fun i ys nx => nx = led₃ ∧ IntsAre ys (pickAt (endOk true bs) i)) (by rfl) F₁₁ N₁₁ hrg₂ hvl' ⟨rfl, .nil⟩ ?_ ?_
          · intro i v zs' nx' I oI C oC D m₂ h₂ tk₂ E' hP_16 hP_17 hC hm F₃ N₄ hoff₄ hne
            refine dig fun kG => ?_
            obtain ⟨_, tv, rfl⟩ := hP_16
            obtain ⟨e3, hzs'⟩ := hP_17
            revert F₃ N₄
            intro F₃ N₄
            subst e3
            refine kG ?_
            clear kG
            k_steps
            · rename_i D5 h5 F5 N5 l5 hcn
              exact CompEnd.intro F5 N5 _ (fun p hp => .tail _ hp) hoff₄ trivial ⟨rfl, by rw [pickAt_no (by simp only [endOk, hcn]; rfl)]; exact hzs'⟩
            · rename_i D5 h5 F5 N5 l5 hcn
              exact CompEnd.intro F5 N5 _ (fun p hp => .tail _ hp) hoff₄ trivial ⟨rfl, by rw [pickAt_yes (by simp only [endOk, hcn]; rfl)]; exact hzs'.append (.cons _ _ .nil)⟩
          · intro gg zs' nx' hP_18 cA hE3 tkE3 F₁₂ N₁₂ ho3
            refine dig fun kG => ?_
            obtain ⟨e3, hzs'⟩ := hP_18
            subst e3
            have ne5 : @Ne Nat nA cA := off1_mem ho3 (nA, listOf (nv ++ sv).toArray cn') (u3 _ (by rw [hled₂]; exact .tail _ (.tail _ (.head _))))
            refine gen_eq (zs'.length) fun zn' hzn' => ?_
            have N₁₃ : News g L₁ hE3 ((cA, listOf zs'.toArray zn') :: nx') := by rw [hzn']; exact N₁₂
            clear N₁₂ N₁₁ F₁₁ hrg₂
            obtain ⟨bz, hbz⟩ := nodes_fun hnds
            have ur4 : ∀ p ∈ r3, p ∈ nx' := fun p hp => u3 p (by rw [hled₂]; exact .tail _ (.tail _ (.tail _ (.tail _ (.tail _ (.tail _ hp))))))
            have mB' : (bA, listOf zs.toArray zn) ∈ nx' := by rw [hled₃]; exact .head _
            have hzl : zs.length ≤ 100 := by
              rw [hzs.length, pickAt_eq, List.length_map]
              have := List.length_filter_le (begOk true bs) (List.range vs.length)
              rw [List.length_range] at this
              unfold idxs
              omega
            have hzl' : zs'.length ≤ 100 := by
              rw [hzs'.length, pickAt_eq, List.length_map]
              have := List.length_filter_le (endOk true bs) (List.range vs.length)
              rw [List.length_range] at this
              unfold idxs
              omega
            refine kG ?_
            clear kG
            k_steps
            rename_i lN hN₁ ltNn hN₂ F₁₄ N₁₄
            refine dig fun kG => ?_
            refine gen_eq (!bs.contains false) fun bv hbv => ?_
            have hcs : (Str.ofString "seq" == Str.ofString "seq") = true := by decide
            rw [hcs, ← hbv] at N₁₄
            have hnx : bv = Part.nullX true ps := by rw [hbv, hbs]; exact allNull_no ps
            refine kG ?_
            clear kG
            refine Hold.out ?_
            refine flat_comp (ax := bA) (xs := zs) (k := zn) (zs := fun i => match (idxs (begOk true bs) vs.length)[i]? with | some j => (bz j).1 | none => []) F₁₄ N₁₄ (.tail _ (.tail _ mB')) hzl (by rfl) (by with_unfolding_all rfl) (by decide) (by rfl) (by decide) (by rfl) (by rfl) (by rfl) ?_ ?_ ?_
            · intro Q' hq'
              k_steps
              exact hq'
            · intro i v hv
              refine dig fun kG => ?_
              obtain ⟨j, tj, hj, hjl, rfl⟩ := pick_get hzs hv
              have hvj : vs[j]? = some vs[j] := List.getElem?_eq_getElem hjl
              obtain ⟨c, hc, ca, cb, ce, cp, ck, ckb, cke, ckp, ct, ccvs, hva, hm1, hm2, hm3, hm4, hm5, hm6⟩ := hbz j _ hvj
              rw [hva] at hvj
              refine kG ?_
              clear kG
              refine ⟨cb, ckb, ?_, ?_, ?_⟩
              · simp only [hj]; exact .tail _ (.tail _ (ur4 _ hm2))
              · simp only [hj]; rw [hm3.length]; exact Nat.le_trans (sel_length _ _) (by omega)
              · intro C oC m₂ h₂ tk₂ led E' Q' hC hm F₃ N₄ hsub hq
                have a1 := hsub _ (.tail _ (.tail _ mP'))
                have a2 := hsub _ (.tail _ (.tail _ (ur4 _ hm1)))
                have a3 := hsub _ (.tail _ (.tail _ mC2'))
                k_steps
                exact hq _
            · intro D1 hD1 tkD1 F₁₅ N₁₅ off₁₅
              refine dig fun kG => ?_
              refine gen_eq ((List.range zs.length).flatMap (fun i => match (idxs (begOk true bs) vs.length)[i]? with | some j => (bz j).1 | none => [])) fun fl hfl => ?_
              rw [← hfl] at N₁₅
              refine gen_eq (fl.length) fun nfl hnfl => ?_
              have N₁₆ : News g L₁ hD1 ((D1, listOf fl.toArray nfl) :: (lN, listOf #[Value.bool true, Value.str mk t3, Value.bool bv] 0) :: (cA, listOf zs'.toArray zn') :: nx') := by rw [hnfl]; exact N₁₅
              have w1 : @LT.lt Nat _ lN D1 := off₁₅ _ (.head _)
              have w2 : @LT.lt Nat _ cA D1 := off₁₅ (cA, _) (.tail _ (.head _))
              have w3 : @LT.lt Nat _ cA lN := ltNn.1
              have w4 : ∀ p ∈ nx', @LT.lt Nat _ p.1 lN := ktn_ltOf ltNn.2
              have w5 : OwnOff nx' [lN] := fun p hp b hb e => Nat.lt_irrefl _ (by have := w4 p hp; rw [e, List.mem_singleton.mp hb] at this; exact this)
              clear N₁₅ N₁₄ F₁₄
              refine kG ?_
              clear kG
              k_steps
              rename_i hM₁ F₁₇ N₁₇
              refine Hold.out ?_
              refine flat_comp (ax := cA) (xs := zs') (k := zn') (zs := fun i => match (idxs (endOk true bs) vs.length)[i]? with | some j => (bz j).2 | none => []) F₁₇ N₁₇ (.tail _ (.tail _ (.head _))) hzl' (by rfl) (by with_unfolding_all rfl) (by decide) (by rfl) (by decide) (by rfl) (by rfl) (by rfl) ?_ ?_ ?_
              · intro Q' hq'
                k_steps
                exact hq'
              · intro i v hv
                refine dig fun kG => ?_
                obtain ⟨j, tj, hj, hjl, rfl⟩ := pick_get hzs' hv
                have hvj : vs[j]? = some vs[j] := List.getElem?_eq_getElem hjl
                obtain ⟨c, hc, ca, cb, ce, cp, ck, ckb, cke, ckp, ct, ccvs, hva, hm1, hm2, hm3, hm4, hm5, hm6⟩ := hbz j _ hvj
                rw [hva] at hvj
                refine kG ?_
                clear kG
                refine ⟨ce, cke, ?_, ?_, ?_⟩
                · simp only [hj]; exact .tail _ (.tail _ (.tail _ (ur4 _ hm4)))
                · simp only [hj]; rw [hm5.length]; exact Nat.le_trans (sel_length _ _) (by omega)
                · intro C oC m₂ h₂ tk₂ led E' Q' hC hm F₃ N₄ hsub hq
                  have a1 := hsub _ (.tail _ (.tail _ (.tail _ mP')))
                  have a2 := hsub _ (.tail _ (.tail _ (.tail _ (ur4 _ hm1))))
                  have a3 := hsub _ (.tail _ (.tail _ (.tail _ mC2')))
                  k_steps
                  exact hq _
              · intro D2 hD2 tkD2 F₁₈ N₁₈ off₁₈
                refine dig fun kG => ?_
                refine gen_eq ((List.range zs'.length).flatMap (fun i => match (idxs (endOk true bs) vs.length)[i]? with | some j => (bz j).2 | none => [])) fun fm hfm => ?_
                rw [← hfm] at N₁₈
                refine gen_eq (fm.length) fun nfm hnfm => ?_
                refine gen_eq (offs [nA] nx') fun r5 hr5 => ?_
                have up5 : ∀ p ∈ nx', p.1 ≠ nA → p ∈ r5 := fun p hp hq => by rw [hr5]; exact mem_offs.mpr ⟨hp, by simpa using hq⟩
                have mNA : (nA, listOf (nv ++ sv).toArray cn') ∈ nx' := u3 _ (by rw [hled₂]; exact .tail _ (.tail _ (.head _)))
                have N₁₉ : News g L₁ hD2 ((D2, listOf fm.toArray nfm) :: (D1, listOf fl.toArray nfl) :: (lN, listOf #[Value.bool true, Value.str mk t3, Value.bool bv, .ref D1] 1) :: (nA, listOf (nv ++ sv).toArray cn') :: r5) := by
                  rw [hnfm]
                  refine nw_sub N₁₈ fun p hp => ?_
                  rcases List.mem_cons.mp hp with rfl | hp
                  · exact .head _
                  rcases List.mem_cons.mp hp with rfl | hp
                  · exact .tail _ (.head _)
                  rcases List.mem_cons.mp hp with rfl | hp
                  · exact .tail _ (.tail _ (.head _))
                  rcases List.mem_cons.mp hp with rfl | hp
                  · exact .tail _ (.tail _ (.tail _ (.tail _ mNA)))
                  · rw [hr5] at hp; exact .tail _ (.tail _ (.tail _ (.tail _ (mem_offs.mp hp).1)))
                have w6 : @LT.lt Nat _ D1 D2 := off₁₈ (D1, _) (.head _)
                have w7 : @LT.lt Nat _ lN D2 := off₁₈ (lN, _) (.tail _ (.head _))
                have w8 : @LT.lt Nat _ nA D2 := off₁₈ (nA, _) (.tail _ (.tail _ (.tail _ mNA)))
                have w9 : @LT.lt Nat _ nA D1 := off₁₅ (nA, _) (.tail _ (.tail _ mNA))
                have w10 : @LT.lt Nat _ nA lN := w4 _ mNA
                have w11 : OwnOff r5 [lN, nA] := fun p hp b hb e => by
                  rw [hr5] at hp
                  rcases List.mem_cons.mp hb with rfl | hb
                  · exact w5 p (mem_offs.mp hp).1 _ (.head _) e
                  · exact (mem_offs.mp hp).2 (e ▸ hb)
                have mC2'' : (L₁ + 1 + 1, o5) ∈ r5 := up5 _ mC2' (fun (e : @Eq Nat _ _) => by have := ltN l3; omega)
                have hnvs : (nv ++ sv).length ≤ 100 := by
                  have := hR.subs.length
                  rw [List.length_append]; omega
                clear N₁₈ N₁₇ F₁₇
                have hLp : @LE.le Nat _ L₁ pA := by have := ltN ltA.2.2.1; omega
                have hLN : @LE.le Nat _ L₁ lN := by have := w4 _ mP'; have : @LT.lt Nat _ pA lN := this; omega
                have ltnews : ∀ p ∈ news, p.1 < L₁ := fun p hp => by
                  rcases hnl p hp with e | hm
                  · rw [e]; exact l3
                  · exact l2 p hm
                have hsb : ∀ p ∈ seg, @LE.le Nat _ L₁ p.1 := fun p hp => by have := hR.big p hp; omega
                have mPr : (pA, listOf vs.toArray kp) ∈ r5 := up5 _ mP' (fun (e : @Eq Nat _ _) => by omega)
                have hsr : ∀ p ∈ seg, p ∈ r5 := fun p hp => up5 p (ur4 p (by rw [hr3]; exact List.mem_append_left _ hp)) (fun (e : @Eq Nat _ _) => by have := hsb p hp; omega)
                have hrr : ∀ p ∈ rest, p ∈ r5 := fun p hp => up5 p (ur4 p (by rw [hr3]; exact List.mem_append_right _ hp)) (hro p hp)
                have fin : ∀ (nu : Bool) (kN kz : Nat) (D : Addr) (h' : Heap) (tk' : Nat) (led : List (Addr × Obj)), nu = (Part.nullX true ps || isOpt mk) → Fr h₀ L h' m → News h₀ L h' led → (D, tupOf #[.ref lN, .int ((n + Part.sizes ps : Nat) : Int) tq] 0) ∈ led →
                    (D2, listOf fm.toArray nfm) ∈ led → (D1, listOf fl.toArray nfl) ∈ led → (lN, listOf #[.bool true, .str mk t3, .bool nu, .ref D1, .ref D2, .ref pA] kN) ∈ led → (nA, listOf (nv ++ sv ++ [Value.ref lN]).toArray kz) ∈ led → (∀ p ∈ r5, p ∈ led) → @LT.lt Nat _ lN D →
                    Q (.ref D) { s with heap := h', toks := tk' } := by
                  intro nu kN kz D h' tk' led hnu kF kN' g1 g2 g3 g4 g5 g6 g7
                  have hp := node_post (N₀ := N₀) (n := n) (kN := kN) (k1 := nfl) (k2 := nfm) (kp := kp) (c := kz) (nA := nA) (nv := nv) (news := news) (t3 := t3) (tq := tq) (L₁ := L₁) (D := D) (lN := lN) (D1 := D1) (D2 := D2) (pA := pA) hvl hbs hbz hzs hzs' hfl hfm hsb hR.tree hR.subs hLN (by omega) (by omega) hLp (by omega) hnu
                  refine hret L₁ _ h' tk' _ ltnews kF (nw_sub kN' fun p hp => ?_) hp
                  rcases List.mem_cons.mp hp with rfl | hp
                  · exact g1
                  rcases List.mem_cons.mp hp with rfl | hp
                  · rw [← List.append_assoc]; exact g5
                  rcases List.mem_append.mp hp with hp | hp
                  · rcases List.mem_cons.mp hp with rfl | hp
                    · exact g4
                    rcases List.mem_cons.mp hp with rfl | hp
                    · exact g3
                    rcases List.mem_cons.mp hp with rfl | hp
                    · exact g2
                    rcases List.mem_cons.mp hp with rfl | hp
                    · exact g6 _ mPr
                    · exact g6 _ (hsr p hp)
                  · rw [← hrest] at hp
                    exact g6 _ (hrr p hp)
                refine kG ?_
                clear kG
                cases bv with
                | true =>
                  k_steps
                  rename_i D hD F9 N9 ltD kF kN Tc kX
                  exact fin true _ _ D _ _ _ (by rw [← hnx]; rfl) kF kN (.head _) (.tail _ (.head _)) (.tail _ (.tail _ (.head _))) (.tail _ (.tail _ (.tail _ (.head _)))) (.tail _ (.tail _ (.tail _ (.tail _ (.head _))))) (fun p hp => .tail _ (.tail _ (.tail _ (.tail _ (.tail _ hp))))) ltD.2.2.1
                | false =>
                  k_steps
                  rename_i D hD F9 N9 ltD kF kN Tc kX
                  exact fin (isOpt mk) _ _ D _ _ _ (by rw [← hnx]; rfl) kF kN (.head _) (.tail _ (.tail _ (.head _))) (.tail _ (.tail _ (.tail _ (.head _)))) (.tail _ (.tail _ (.tail _ (.tail _ (.head _))))) (.tail _ (.tail _ (.tail _ (.tail _ (.tail _ (.head _)))))) (fun p hp => .tail _ (.tail _ (.tail _ (.tail _ (.tail _ (.tail _ hp)))))) ltD.2.2.2.1
end Mine
end

-- text G3
section
open PySem PySem.W PyProof.Rows PySem.Calls PyProof.Rows.LCg
set_option maxRecDepth 100000
set_option maxHeartbeats 2000000
namespace Mine
theorem Part.subs_pos (n : Nat) (P : Part) : 1 ≤ (P.subs n).length := by
  cases P <;> simp [Part.subs]
theorem Part.subss_len : ∀ (ps : List Part) (n : Nat), ps.length ≤ (Part.subss n ps).length
  | [], n => Nat.zero_le _
  | p :: r, n => by
    have h1 := Part.subs_pos n p
    have h2 := Part.subss_len r (n + p.size)
    simp only [Part.subss, List.length_append, List.length_cons]
    omega
mutual
theorem node_all (w : World) (pw : List (Addr × Obj)) (N : Nat) : ∀ P : Part, NodeSpec w pw N P
  | .name nm mk => by
    intro news v n u nA kn nv hP hpw hm hn hN hl
    have e1 : (Part.name nm mk).height = 1 := by simp only [Part.height]
    have e2 : ((Part.name nm mk).subs n).length = 1 := by simp only [Part.subs, List.length_singleton]
    have e3 : (Part.name nm mk).size = 1 := by simp only [Part.size]
    rw [e1]
    rw [e2] at hl
    rw [e3] at hn
    simp only [PartIn] at hP
    refine dig fun kG => ?_
    obtain ⟨t, k, t1, t2, t3, rfl, ht⟩ := hP
    refine kG ?_
    clear kG
    intro loose mean mg mb dp un gd cn cs a ccd cl outer A₀ base h₀ L m s Q E B F X N T hk hd hu ret
    exact nn_walk w B F X N (hpw _ ht).1 (hpw _ ht).2 hm hn hN (by omega) T hk (by omega) (by omega) ret
  | .node s ps mk => by
    intro news v n u nA kn nv hP hpw hm hn hN hl
    have e1 : (Part.node s ps mk).height = Part.heights ps + 1 := by simp only [Part.height]
    have e2 : ((Part.node s ps mk).subs n).length = (Part.subss n ps).length + 1 := by simp only [Part.subs, List.length_append, List.length_singleton]
    have e3 : (Part.node s ps mk).size = Part.sizes ps := by simp only [Part.size]
    rw [e1]
    rw [e2] at hl
    rw [e3] at hn
    simp only [PartIn] at hP
    refine dig fun kG => ?_
    obtain ⟨t, k, t1, t3, ta, vs, k2, rfl, ht, hta, hps⟩ := hP
    refine kG ?_
    clear kG
    intro loose mean mg mb dp un gd cn cs a ccd cl outer A₀ base h₀ L m s Q E B F X N T hk hd hu ret
    exact nd_walk _ w B F X N (hpw _ ht).1 (hpw _ ht).2 hm hpw hta hps (nodes_all w pw _ ps) hn (fun c hc => Part.height_le hc) hN (by omega) (by have := Part.subss_len ps n; omega) T hk (by omega) (by omega) ret
theorem nodes_all (w : World) (pw : List (Addr × Obj)) (N : Nat) : ∀ ps : List Part, ∀ c ∈ ps, NodeSpec w pw N c
  | [], _, h => by cases h
  | p :: r, c, h => by
    rcases List.mem_cons.mp h with e | h
    · rw [e]; exact node_all w pw N p
    · exact nodes_all w pw N r c h
end
end Mine
end

-- text R1
section
open PySem PySem.W PyProof.Rows PySem.Calls
set_option maxRecDepth 100000
set_option maxHeartbeats 2000000
namespace Mine
section
variable {prog : Program} {w : World} {A : Around} {E : Value → Shared → Prop} {s : Shared} {env : Env} {h₀ : Heap} {x : Str} {body : List Stmt} {Q : Flow → Shared → Prop}
/-- a for over a range from nought -/
theorem iter_rng {r : Addr} {t₀ u₀ v₀ : Tok} {n : Nat} {m₀ : Str → Option Value} {news : List (Addr × Obj)} (J : Nat → (Str → Option Value) → List (Addr × Obj) → Prop)
    (hh : A.handled = none) (hr : IsRange s.heap r 0 (n : Int) 1 t₀ u₀ v₀) (hn : n ≤ 1000) (F : Fr h₀ env.locals s.heap m₀) (N : News h₀ env.locals s.heap news) (hj : J 0 m₀ news)
    (turn : ∀ i t m₁ nx h tk it io, i < n → J i m₁ nx → (∀ p ∈ news, p.1 < it) → (∀ p ∈ nx, p.1 ≠ it) → Fr h₀ env.locals h (fun y => if y = x then some (.int (i : Int) t) else m₁ y) → News h₀ env.locals h ((it, io) :: nx) →
      wpAny (model prog w) A (execs body env) (TurnPost h₀ env.locals (J (i + 1)) it io { s with heap := h, toks := tk } Q) E { s with heap := h, toks := tk })
    (done : ∀ m₁ nx h tk, J n m₁ nx → Fr h₀ env.locals h m₁ → News h₀ env.locals h nx → Q .next { s with heap := h, toks := tk }) :
    wpAny (model prog w) A (pyIter (.ref r)) (fun it s₂ => LoopAtV prog w A h₀ env x body Q E it s₂) E s := by
  refine wpAny_pyIter_range hr (small_up hn) ?_
  have W : Walks prog w A s.heap.objs.size [s.heap.objs.size] [s.heap.objs.size] n (fun i v => i < n ∧ ∃ t, v = .int (0 + i * 1) t)
      (fun i h => IsRangeIter h s.heap.objs.size (0 + (i : Nat) * 1) ((n : Int) - (i : Nat)) 1) := (Walks.range hh _ 0 1 n).bound
  refine loopAt_core (s := { s with heap := s.heap.push _ }) (fx := []) J W (fun i h st => ⟨_, st⟩) (next_is_new F) (Nat.ne_of_gt F.ns.lt) (fun p hp => by cases hp)
    (by show IsRangeIter _ _ _ _ _; rw [size_up]; simpa using Heap.get?_push_size _ rfl) (F.push _) (N.grown fun b o e => Heap.get?_push_of_some _ e) (fun p hp => Nat.ne_of_lt (nw_lt N p hp)) hj (fun i v m₁ nx h tk io hi hP hJ hoff F₁ N₁ => ?_) done
  refine dig fun kG => ?_
  obtain ⟨_, t, rfl⟩ := hP
  have e1 : (0 : Int) + (i : Int) * 1 = (i : Int) := by omega
  rw [e1] at F₁
  refine kG ?_
  clear kG
  exact turn i t m₁ nx h tk _ io hi hJ (nw_lt N) hoff F₁ N₁
/-- a for over a list, with any target -/
theorem turns_lst {target : Expr} {tA : Addr} {vs : List Value} {k : Nat} {m₀ : Str → Option Value} {news : List (Addr × Obj)} (J : Nat → (Str → Option Value) → List (Addr × Obj) → Prop)
    (hh : A.handled = none) (F : Fr h₀ env.locals s.heap m₀) (N : News h₀ env.locals s.heap news) (hj : J 0 m₀ news) (hJt : ∀ i m nx, J i m nx → (tA, listOf vs.toArray k) ∈ nx)
    (turn : ∀ i v m₁ nx h tk it io, vs[i]? = some v → J i m₁ nx → (∀ p ∈ news, p.1 < it) → (∀ p ∈ nx, p.1 ≠ it) → Fr h₀ env.locals h m₁ → News h₀ env.locals h ((it, io) :: nx) →
      wpAny (model prog w) A (assign target env v) (fun _ s₃ => wpAny (model prog w) A (execs body env) (TurnPost h₀ env.locals (J (i + 1)) it io { s with heap := h, toks := tk } Q) E s₃) E { s with heap := h, toks := tk })
    (done : ∀ m₁ nx h tk, J vs.length m₁ nx → Fr h₀ env.locals h m₁ → News h₀ env.locals h nx → Q .next { s with heap := h, toks := tk })
    (hgo : ∀ (s' : Shared) (l : Addr) (i : Nat) v (Q' : Unit → Shared → Prop) (I : Addr) (E' : Value → Shared → Prop), s'.heap.IsListIter I l i → Q' () s' → wpAny (model prog w) A (letOwnedTupleGo target (.ref I) v) Q' E' s') :
    wpAny (model prog w) A (pyIter (.ref tA)) (fun it s₂ => TurnsAt prog w A h₀ env target body Q E it s₂) E s := by
  have hot := (N _ (hJt _ _ _ hj)).1
  have hlt : tA < s.heap.objs.size := Heap.lt_size hot
  refine wpAny_pyIter_list (items := vs.toArray) ⟨_, hot, rfl, _, rfl⟩ ?_
  have up : ∀ b o, s.heap.get? b = some o → (s.heap.push { cls := .type "list_iterator", data := .fields #[.ref tA, .int 0 0] }).get? b = some o := fun b o e => Heap.get?_push_of_some _ e
  have W := Walks.list (prog := prog) (w := w) hh s.heap.objs.size tA (Nat.ne_of_lt hlt) vs.toArray
  have hlen : vs.toArray.size = vs.length := List.size_toArray ..
  rw [hlen] at W
  have K := KTurns.ofWalks (target := target) W (fun i v s' Q' E' st hq => hgo s' tA i v Q' _ E' st.1 hq)
  have hL₀ : tA ≠ env.locals := (N _ (hJt _ _ _ hj)).2.1
  have hI₀ : h₀.get? s.heap.objs.size = none := next_is_new F
  refine ⟨s.heap.objs.size, _, _, vs.length, _, _, _, m₀, news, J, rfl, K, ?_, ?_, ?_, ⟨⟨_, Heap.get?_push_size _ rfl, rfl, rfl⟩, ⟨_, up _ _ hot, rfl, _, rfl⟩⟩, F.push _, N.grown up, hj, ?_, ?_⟩
  · intro hm
    rcases List.mem_cons.mp hm with e | hm
    · exact absurd F.ns.lt (e ▸ Nat.lt_irrefl _)
    · exact hL₀ (List.mem_singleton.mp hm).symm
  · intro b hb
    rw [List.mem_singleton.mp hb]; exact hI₀
  · intro p hp hI
    exact absurd (nw_lt N p hp) ((List.mem_singleton.mp hI) ▸ Nat.lt_irrefl _)
  · rintro i v m₁ nx h tk own hi hP hJ hoff hown hget hfp hst' F₁ N₁
    refine dig fun kG => ?_
    obtain ⟨io, hio⟩ : ∃ o, h.get? s.heap.objs.size = some o := by obtain ⟨o, e, _⟩ := hst'.1; exact ⟨o, e⟩
    have hIin : (s.heap.objs.size, io) ∈ own := hfp _ (.head _) hI₀ io hio
    have hoff' : ∀ p ∈ nx, p.1 ≠ s.heap.objs.size := fun p hp e => hoff p hp (List.mem_singleton.mpr e)
    have hP' : vs[i]? = some v := by rw [List.getElem?_toArray] at hP; exact hP
    refine kG ?_
    clear kG
    refine wpAny_mono (turn i v m₁ nx h tk _ io hP' hJ (nw_lt N) hoff' F₁ (fun p hp => ?_)) (fun _ s₃ q => wpAny_mono q (fun f s₂ p => ?_) fun _ _ e => e) fun _ _ e => e
    · rcases List.mem_cons.mp hp with rfl | hp
      · exact N₁ _ (List.mem_append_left _ hIin)
      · exact N₁ _ (List.mem_append_right _ hp)
    have fin : (∃ (h' : Heap) (tk' : Nat) (m' : Str → Option Value) (nx : List (Addr × Obj)), s₂ = { s with heap := h', toks := tk' } ∧ Fr h₀ env.locals h' m' ∧ News h₀ env.locals h' ((s.heap.objs.size, io) :: nx) ∧ (∀ p ∈ nx, p.1 ≠ s.heap.objs.size) ∧ J (i + 1) m' nx) →
        LoopStepU h₀ env.locals [s.heap.objs.size] own (J (i + 1)) { s with heap := h, toks := tk } .next s₂ := by
      intro hP_1
      refine dig fun kG => ?_
      obtain ⟨h', tk', m', nx', rfl, F', N', hn, hJ'⟩ := hP_1
      refine kG ?_
      clear kG
      refine LoopStepU.intro F' (fun p hp => ?_) (fun p hp hI => hn p hp (List.mem_singleton.mp hI)) hJ'
      rcases List.mem_append.mp hp with hp | hp
      · rcases List.mem_cons.mp (hown p hp) with e | e
        · have h1 := hget p hp
          rw [e] at h1
          have h2 : h.get? s.heap.objs.size = some io := hio
          have h3 : p = (s.heap.objs.size, io) := Prod.ext e (Option.some.inj (h1.symm.trans h2))
          rw [h3]; exact N' _ (.head _)
        · have e := List.mem_singleton.mp e
          have h1 := hget p hp
          have h2 := (N₁ _ (List.mem_append_right _ (hJt _ _ _ hJ))).1
          rw [e] at h1
          have h3 : p = (tA, listOf vs.toArray k) := Prod.ext e (Option.some.inj (h1.symm.trans h2))
          rw [h3]; exact N' _ (.tail _ (hJt _ _ _ hJ'))
      · exact N' _ (.tail _ hp)
    cases f with
    | ret v => exact .ret p
    | brk => exact .brk p
    | next => exact .next (fin p)
    | cont => exact .cont (fin p)
  · rintro h' tk m' nx F' N' _ hJ
    exact done m' nx h' tk hJ F' N'
end
end Mine
end

-- text I0
section
open PySem PySem.W PyProof.Rows PySem.Calls PyProof.Rows.LCg PyProof.Rows.LCt
set_option maxRecDepth 100000
set_option maxHeartbeats 2000000
namespace Mine
def Part.parts : Part → List Part
  | .name _ _ => []
  | .node _ ps _ => ps
theorem NodeIn.tree {N : Nat} {led : List (Addr × Obj)} {n : Nat} {P : Part} {v : Value} (h : NodeIn N led n P v) : ∃ vs, NodeHead N led n P v vs ∧ NodesIn N led n P.parts vs := by
  cases P with
  | name nm mk => simp only [NodeIn] at h; exact ⟨_, h, by simp only [Part.parts, NodesIn]⟩
  | node s ps mk => simp only [NodeIn] at h; exact h
def atB (g : Nat → Part → Int → Bool) (n : Nat) (ps : List Part) (i : Nat) (z : Int) : Bool :=
  match ps[i]? with
  | some c => g (Part.from n ps i) c z
  | none => false
/-- two parts of a row, and all between may be nothing -/
def hitB (n : Nat) (ps : List Part) (at' past : Nat) (p q : Int) : Bool :=
  ((ps.take past).drop (at' + 1)).all Part.null && atB (fun n c z => c.last n z) n ps at' p && atB (fun n c z => c.first n z) n ps past q
def pairB (kk : Bool) (n : Nat) (ps : List Part) (p q : Int) : Bool :=
  (List.range ps.length).any fun past => (List.range (if kk then past else 0)).any fun at' => hitB n ps at' past p q
def stepB (n : Nat) (P : Part) (p q : Int) : Bool := (isStar P.mark && P.last n p && P.first n q) || pairB P.isRow n P.parts p q
theorem fold1 {m : Str → Option Value} {a : Str} {v : Value} (h : m a = some v) : (fun y => if y = a then some v else m y) = m := by
  funext y
  by_cases e : y = a
  · rw [if_pos e, e, h]
  · rw [if_neg e]
theorem fold2 {m : Str → Option Value} {a b : Str} {v w : Value} (h : m a = some v) (h' : m b = some w) : (fun y => if y = a then some v else if y = b then some w else m y) = m := by
  have := fold1 h'
  rw [show (fun y => if y = a then some v else if y = b then some w else m y) = fun y => if y = a then some v else (fun y => if y = b then some w else m y) y from rfl, this]
  exact fold1 h
local macro_rules | `(tactic| k_mem) => `(tactic| assumption)
local macro_rules | `(tactic| walk_at "call ref") => `(tactic| (k_here; (with_reducible show wpAny _ _ (call (Value.ref _) _ _) _ _ _); refine Hold.mk ?_))
local macro_rules | `(tactic| walk_at "pyIter ref") => `(tactic| (k_here; refine Hold.mk ?_))
local macro_rules | `(tactic| walk_at "exec For") => `(tactic| (k_here; (rename Fr _ _ _ _ => lF'); (with_unfolding_all refine' For_invVF lF' rfl rfl ?_; k_whole)))
local macro_rules | `(tactic| walk_at "exec For") => `(tactic| (k_here; (with_reducible show wpAny _ _ (exec (Stmt.For (Expr.Tuple _ _ _) _ _ _ _) _) _ _ _); refine Hold.mk ?_))
local macro_rules | `(tactic| walk_at "call builtin:len") => `(tactic| (k_here; k_dflt (refine' len_led ?z (by k_asm) (by k_mem) ?_; (case z => assumption)); intro t' tk'))
local macro_rules | `(tactic| walk_at "exec Assign cons ListComp") => `(tactic| (k_here; refine Hold.mk ?_))
local macro_rules | `(tactic| walk_at "subscriptTail") => `(tactic| (k_here; (with_reducible show wpAny _ _ (subscriptTail _ _ (Value.ref _) (Value.int (Nat.cast _) _)) _ _ _); k_dflt (refine' item_nat (by k_asm) (by k_mem) (by assumption) (by assumption) ?_ (by with_unfolding_all rfl))))
local macro_rules | `(tactic| is_list) => `(tactic| (refine' isL_of (by k_asm) (by k_mem)))
local macro_rules | `(tactic| walk_at "exec If") => `(tactic| (k_here; refine Hold.mk ?_))
theorem in_led {prog : Program} {w : World} {A : Around} {E : Value → Shared → Prop} {s : Shared} {h₀ : Heap} {L : Addr} {news : List (Addr × Obj)} {l : Addr} {vs : List Value} {ns : List Int} {k : Int} {n : Nat} {t : Tok} {Q : Value → Shared → Prop} (N : News h₀ L s.heap news) (hm : (l, listOf vs.toArray n) ∈ news) (hi : IntsAre vs ns)
    (h : Q (.bool (ns.any (· == k))) s) : wpAny (model prog w) A (compareOp .In (.int k t) (.ref l)) Q E s := in_list_ints (isL_of N hm) hi h
theorem any_sel {N : Nat} {f : Int → Bool} {z : Int} (h1 : 1 ≤ z) (h2 : z ≤ N) : (sel N f).any (· == z) = f z := by
  rw [Bool.eq_iff_iff, List.any_eq_true]
  constructor
  · intro hP_1
    refine dig fun kG => ?_
    obtain ⟨y, hy, e⟩ := hP_1
    rw [beq_iff_eq] at e
    refine kG ?_
    clear kG
    exact e ▸ (mem_sel.mp hy).2
  · intro h
    exact ⟨z, mem_sel.mpr ⟨⟨h1, h2⟩, h⟩, beq_self_eq_true z⟩
theorem mid_get {N : Nat} {led : List (Addr × Obj)} {n : Nat} {ps : List Part} {vs : List Value} (h : NodesIn N led n ps vs) {k past j : Nat} {v : Value} (hv : ((vs.take past).drop k)[j]? = some v) : ∃ c vs', ((ps.take past).drop k)[j]? = some c ∧ NodeHead N led (Part.from n ps (k + j)) c v vs' := by
  rw [List.getElem?_drop, List.getElem?_take] at hv
  split at hv
  · rename_i hlt
    refine dig fun kG => ?_
    obtain ⟨c, hc, hn⟩ := h.get _ hv
    obtain ⟨vs', hh⟩ := hn.head
    refine kG ?_
    clear kG
    exact ⟨c, vs', by rw [List.getElem?_drop, List.getElem?_take, if_pos hlt]; exact hc, hh⟩
  · cases hv
theorem eq_nil {prog : Program} {w : World} {A : Around} {E : Value → Shared → Prop} {s : Shared} {h₀ : Heap} {L : Addr} {news : List (Addr × Obj)} {l b : Addr} {ys : List Value} {k1 k2 : Nat} {Q : Value → Shared → Prop} (hu : A.units < cLine) (N : News h₀ L s.heap news) (hm : (l, listOf ys.toArray k1) ∈ news) (hb : (b, listOf #[] k2) ∈ news)
    (h : Q (.bool ys.isEmpty) s) : wpAny (model prog w) A (compareOp .Eq (.ref l) (.ref b)) Q E s := by
  have hl : s.heap.IsList l ys.toArray := isL_of N hm
  have hb' : s.heap.IsList b #[] := ⟨_, (N _ hb).1, rfl, _, rfl⟩
  cases ys with
  | nil => exact SeqAt.eq_listAt (e := fun _ => true) hl hb' rfl hu (fun j h1 h2 => absurd h1 (Nat.not_lt_zero _)) h
  | cons y r => exact SeqAt.eq_list_lengthsAt hl hb' (by simp) hu h
local macro_rules | `(tactic| walk_at "compareOp Eq ref ref") => `(tactic| (k_here; k_dflt (refine' eq_nil ?u (by k_asm) (by k_mem) (by k_mem) ?_; (case u => ktr_units))))
local macro_rules | `(tactic| walk_at "CompSrcT") => `(tactic| (k_here; refine Hold.mk ?_))
local macro_rules | `(tactic| walk_at "subscriptTail Name Slice ref ref") => `(tactic| (k_here; (with_reducible show wpAny _ _ (subscriptTail _ (PySem.Expr.Slice _ _ none _) (Value.ref _) (Value.ref _)) _ _ _); k_dflt (refine' slice_zs (by k_asm) (by k_asm) (by k_mem) (by kmk_part) (by kmk_part) (by exact pick_run _ _ _) ?z ?_ (by with_unfolding_all rfl) (by kmk_pure); (case z => assumption)); intro D' h' F' N' l1; (try k_lt l1)))
local macro_rules | `(tactic| walk_at "compareOp In int ref") => `(tactic| (k_here; k_dflt (refine' in_led (by k_asm) (by k_mem) (by assumption) ?_)))
theorem follows_walk (w : World) {loose : List Str} {mean : ExcName → Option Value} {mg mb : Str → Option Value}
  {dp un : Nat} {gd : Option (List Code)} {cn : Str} {cs : Scope} {a : Addr} {ccd : Value} {cl : List (Str × Addr)} {outer : List Env} {A₀ : Around} {base h₀ : Heap} {L : Addr} {m : Str → Option Value} {s : Shared} {Q E : Value → Shared → Prop}
  {news : List (Addr × Obj)} {nA kn N₀ : Nat} {nv : List Value} {p q : Int} {u v : Tok} {xs : List (Nat × Part)}
  (B : Below A₀ base outer h₀) (F : Fr h₀ L s.heap m) (X : (hd.heap_39 w.params).In h₀) (N : News h₀ L s.heap news)
  (hnA : (nA, listOf nv.toArray kn) ∈ news) (hsubs : SubsIn N₀ news xs nv) (hl : nv.length ≤ 1000) (hp1 : 1 ≤ p) (hp2 : p ≤ N₀) (hq1 : 1 ≤ q) (hq2 : q ≤ N₀) (hpl : ∀ x ∈ xs, x.2.parts.length ≤ 100)
  (T : Top hd.view_39 loose mean mg mb h₀) (hk : cs.kind = .function) (hdp : dp + 100 < recursionLimit) (hu : un + 600 < cLine)
  (hret : ∀ h' tk', Fr h₀ L h' m → News h₀ L h' news → Q (.bool (xs.any fun x => stepB x.1 x.2 p q)) { s with heap := h', toks := tk' }) :
  wpAny (model PySem.Challenge.rw_xw0200_01.row.prog w) (ktrTop dp un gd cn cs L a ccd cl outer) (call (.ref 162) [.ref nA, .int p u, .int q v]) Q E s := by
  w_top off
  revert X; k_fill; intro X
  refine wpAny_call ?_
  k_dflt cell_enter
  k_steps
  rename_i g L₁ h₁ FG F₁ N₁ B₁ X₁ T₁
  refine Hold.out ?_
  refine For_turns F₁ ?_
  k_steps
  refine Hold.out ?_
  refine turns_lst (vs := nv) (k := kn) (news := news) (fun i m nx => nx = news ∧ m (Str.ofString "one") = some (.int p u) ∧ m (Str.ofString "other") = some (.int q v) ∧ ((xs.take i).any fun x => stepB x.1 x.2 p q) = false) (by rfl) (by k_asm) (by k_asm) ⟨rfl, rfl, rfl, rfl⟩ (fun i m nx h => by rw [h.1]; exact hnA) ?_ ?_ ?_
  · intro i vn m₁ nx h tk' it io hvn hP_2 hlt hoff F₂ N₂
    refine dig fun kG => ?_
    obtain ⟨rfl, e1, e2, hno⟩ := hP_2
    revert F₂ N₂
    intro F₂ N₂
    obtain ⟨x, hx, hxn⟩ := hsubs.get i hvn
    obtain ⟨vs, ⟨na, b, e, pA, k, kb, ke, kp, t, bs, es, rfl, g1, g2, g3, g4, g5, g6⟩, htree⟩ := hxn.tree
    have est : xs.take (i + 1) = xs.take i ++ [x] := by rw [List.take_add_one, hx]; rfl
    have F₃ : Fr g L₁ h (fun y => if y = Str.ofString "one" then some (.int p u) else if y = Str.ofString "other" then some (.int q v) else m₁ y) := by rw [fold2 e1 e2]; exact F₂
    clear N₁ F₁ F₂
    have hvl : vs.length ≤ 1000 := by
      rw [htree.length]
      exact Nat.le_trans (hpl x (List.mem_of_getElem? hx)) (by decide)
    refine kG ?_
    clear kG
    k_steps
    refine Hold.out (wpAny_If ?_)
    obtain ⟨mm, hmm⟩ : ∃ mm : Str → Option Value, mm = fun y =>
      if y = Str.ofString "parts" then some (Value.ref pA)
      else if y = Str.ofString "ends" then some (Value.ref e)
      else if y = Str.ofString "begins" then some (Value.ref b)
      else if y = Str.ofString "is_empty" then some (Value.bool x.2.null)
      else if y = Str.ofString "mark" then some (Value.str x.2.mark t)
      else if y = Str.ofString "is_row" then some (Value.bool x.2.isRow)
      else if y = Str.ofString "one" then some (Value.int p u)
      else if y = Str.ofString "other" then some (Value.int q v) else m₁ y := ⟨_, rfl⟩
    refine wpAny_mono (Q := fun ok s' => ok = (([Str.ofString "*", Str.ofString "+"].any fun y => y == x.2.mark) && (sel N₀ (Part.last x.1 x.2)).any (· == p) && (sel N₀ (Part.first x.1 x.2)).any (· == q)) ∧
      ∃ h' tk', s' = { s with heap := h', toks := tk' } ∧ Fr g L₁ h' mm ∧ News g L₁ h' ((it, io) :: nx)) ?_ ?_ (fun _ _ e => e)
    · k_steps
      all_goals first
        | (rw [hmm]; assumption)
        | exact nw_sub (by assumption) (fun p hp => .tail _ hp)
        | (rename_i h1 h2 h3; rw [h1, h2, h3]; rfl)
        | (rename_i h1 h2; rw [h1, h2]; rfl)
        | (rename_i h1; rw [h1]; rfl)
    · intro ok s' hP_3
      refine dig fun kG => ?_
      obtain ⟨hok, h2, tk2, rfl, F₄, N₄⟩ := hP_3
      rw [any_sel hp1 hp2, any_sel hq1 hq2] at hok
      rw [hmm] at F₄
      refine kG ?_
      clear kG
      cases ok with
      | true =>
        simp only [if_true]
        have hyes : (xs.any fun x => stepB x.1 x.2 p q) = true := by
          rw [List.any_eq_true]
          refine ⟨x, List.mem_of_getElem? hx, ?_⟩
          unfold stepB isStar
          rw [← hok]; rfl
        rw [hyes] at hret
        k_steps
        dsimp only [TurnPost]
        k_steps
        rename_i kF kN Tc kX
        exact hret _ _ kF (nw_sub kN fun p hp => .tail _ hp)
      | false =>
        simp only [Bool.false_eq_true, if_false]
        k_steps
        rename_i tk3 h3 t3 t4 t5 t6 hrg F₅ N₅ up₅
        refine Hold.out ?_
        refine dig fun kG => ?_
        refine gen_eq ((it, io) :: nx) fun led hled => ?_
        have ml : ∀ p ∈ nx, p ∈ led := fun p hp => by rw [hled]; exact .tail _ hp
        rw [← hled] at N₅
        refine kG ?_
        clear kG
        refine iter_rng (n := vs.length) (news := led) (fun past m nx' => nx' = led ∧ m (Str.ofString "one") = some (.int p u) ∧ m (Str.ofString "other") = some (.int q v) ∧ m (Str.ofString "parts") = some (.ref pA) ∧ m (Str.ofString "is_row") = some (.bool x.2.isRow) ∧
          ((List.range past).any fun past => (List.range (if x.2.isRow then past else 0)).any fun at' => hitB x.1 x.2.parts at' past p q) = false) (by rfl) hrg hvl F₅ N₅ ⟨rfl, rfl, rfl, rfl, rfl, rfl⟩ ?_ ?_
        · intro past tp m₂ nx' h4 tk4 it2 io2 hpast hP_4 hlt2 hoff2 F₆ N₆
          refine dig fun kG => ?_
          obtain ⟨rfl, e1', e2', e3', e4', hno2⟩ := hP_4
          revert F₆ N₆
          intro F₆ N₆
          have F₇ : Fr g L₁ h4 (fun y => if y = Str.ofString "past" then some (.int (past : Int) tp) else if y = Str.ofString "one" then some (.int p u) else if y = Str.ofString "other" then some (.int q v) else if y = Str.ofString "parts" then some (.ref pA) else if y = Str.ofString "is_row" then some (.bool x.2.isRow) else m₂ y) := by
            have z1 := fold1 e4'
            have z2 := fold1 e3'
            have z3 := fold2 e1' e2'
            have : (fun y => if y = Str.ofString "past" then some (Value.int (past : Int) tp) else if y = Str.ofString "one" then some (.int p u) else if y = Str.ofString "other" then some (.int q v) else if y = Str.ofString "parts" then some (.ref pA) else if y = Str.ofString "is_row" then some (.bool x.2.isRow) else m₂ y) = fun y => if y = Str.ofString "past" then some (Value.int (past : Int) tp) else m₂ y := by
              funext y
              have a1 := congrFun z1 y
              have a2 := congrFun z2 y
              have a3 := congrFun z3 y
              rw [a1, a2, a3]
            rw [this]; exact F₆
          clear F₆
          refine kG ?_
          clear kG
          cases hkk : x.2.isRow with
          | false =>
            rw [hkk] at F₇
            k_steps
            rename_i h5 tk5 t7 t8 t9 hrg2 F₈ N₈ up₈
            refine Hold.out ?_
            refine iter_rng (n := 0) (news := (it2, io2) :: nx') (fun at' m nx'' => nx'' = (it2, io2) :: nx' ∧ m (Str.ofString "one") = some (.int p u) ∧ m (Str.ofString "other") = some (.int q v) ∧ m (Str.ofString "parts") = some (.ref pA) ∧ m (Str.ofString "is_row") = some (.bool x.2.isRow)) (by rfl) hrg2 (by omega) F₈ N₈ ⟨rfl, rfl, rfl, rfl, by rw [hkk]; rfl⟩ ?_ ?_
            · intro i t m₁ nx h tk it io hi
              exact absurd hi (Nat.not_lt_zero _)
            · intro m₃ nx'' h6 tk6 hP_5 F₉ N₉
              refine dig fun kG => ?_
              obtain ⟨rfl, e1'', e2'', e3'', e4''⟩ := hP_5
              revert F₉ N₉
              intro F₉ N₉
              refine kG ?_
              clear kG
              k_steps
              refine ⟨_, _, _, nx', rfl, F₉, N₉, hoff2, rfl, e1'', e2'', e3'', by rw [e4'', hkk], ?_⟩
              rw [hkk] at hno2
              rw [List.range_succ, List.any_append, hno2]
              simp
          | true =>
            rw [hkk] at F₇
            k_steps
            rename_i h5 tk5 t7 t8 t9 hrg2 F₈ N₈ up₈
            refine Hold.out ?_
            refine dig fun kG => ?_
            refine gen_eq ((it2, io2) :: nx') fun led2 hled2 => ?_
            have ml2 : ∀ p ∈ nx, p ∈ led2 := fun p hp => by rw [hled2]; exact .tail _ (ml p hp)
            rw [← hled2] at N₈
            refine kG ?_
            clear kG
            refine iter_rng (n := past) (news := led2) (fun at' m nx'' => nx'' = led2 ∧ m (Str.ofString "one") = some (.int p u) ∧ m (Str.ofString "other") = some (.int q v) ∧ m (Str.ofString "parts") = some (.ref pA) ∧ m (Str.ofString "is_row") = some (.bool x.2.isRow) ∧ m (Str.ofString "past") = some (.int (past : Int) tp) ∧
              ((List.range at').any fun at' => hitB x.1 x.2.parts at' past p q) = false) (by rfl) hrg2 (by omega) F₈ N₈ ⟨rfl, rfl, rfl, rfl, by rw [hkk]; rfl, rfl, rfl⟩ ?_ ?_
            · intro at' ta m₃ nx'' h6 tk6 it3 io3 hat hP_6 hlt3 hoff3 F₉ N₉
              refine dig fun kG => ?_
              obtain ⟨rfl, e1'', e2'', e3'', e4'', e5'', hno3⟩ := hP_6
              revert F₉ N₉
              intro F₉ N₉
              have F₁₀ : Fr g L₁ h6 (fun y => if y = Str.ofString "at" then some (.int (at' : Int) ta) else if y = Str.ofString "past" then some (.int (past : Int) tp) else if y = Str.ofString "one" then some (.int p u) else if y = Str.ofString "other" then some (.int q v) else if y = Str.ofString "parts" then some (.ref pA) else if y = Str.ofString "is_row" then some (.bool x.2.isRow) else m₃ y) := by
                have z1 := fold1 e4''
                have z2 := fold1 e3''
                have z3 := fold2 e1'' e2''
                have z4 := fold1 e5''
                have : (fun y => if y = Str.ofString "at" then some (Value.int (at' : Int) ta) else if y = Str.ofString "past" then some (Value.int (past : Int) tp) else if y = Str.ofString "one" then some (.int p u) else if y = Str.ofString "other" then some (.int q v) else if y = Str.ofString "parts" then some (.ref pA) else if y = Str.ofString "is_row" then some (.bool x.2.isRow) else m₃ y) = fun y => if y = Str.ofString "at" then some (Value.int (at' : Int) ta) else m₃ y := by
                  funext y
                  have a1 := congrFun z1 y
                  have a2 := congrFun z2 y
                  have a3 := congrFun z3 y
                  have a4 := congrFun z4 y
                  rw [a1, a2, a3, a4]
                rw [this]; exact F₉
              clear F₉
              refine kG ?_
              clear kG
              try clear F₈
              try clear F₇
              try clear F₅
              try clear F₄
              try clear N₈
              try clear N₆
              try clear N₅
              try clear N₄
              refine dig fun kG => ?_
              refine gen_eq ((it3, io3) :: nx'') fun led3 hled3 => ?_
              have ml3 : ∀ p ∈ nx, p ∈ led3 := fun p hp => by rw [hled3]; exact .tail _ (ml2 p hp)
              have m3p := ml3 _ g6
              rw [← hled3] at N₉
              refine kG ?_
              clear kG
              k_steps
              refine Hold.out ?_
              k_dflt refine LCt.Assign_ListComp_T (F₀ := by k_asm) (by rfl) (by with_unfolding_all rfl) (by with_unfolding_all rfl) (by decide) (by rfl) (by decide) (by rfl) (by rfl) (by rfl) ?_
              k_steps
              rename_i S1 hS F₁₁ N₁₁ ltS
              refine Hold.out ?_
              refine dig fun kG => ?_
              refine gen_eq ((x.2.parts.take past).drop (at' + 1)) fun mid hmid => ?_
              refine gen_eq ((vs.take past).drop (at' + 1)) fun zs hzs => ?_
              refine gen_eq ((S1, listOf zs.toArray 0) :: led3) fun led4 hled4 => ?_
              rw [← hzs, ← hled4] at N₁₁
              have hvps : vs.length = x.2.parts.length := htree.length
              have hzl : zs.length ≤ 1000 := by rw [hzs, List.length_drop, List.length_take]; omega
              have hml : mid.length = zs.length := by rw [hmid, hzs, List.length_drop, List.length_drop, List.length_take, List.length_take, hvps]
              have ml4 : ∀ p ∈ nx, p ∈ led4 := fun p hp => by rw [hled4]; exact .tail _ (ml3 p hp)
              refine kG ?_
              clear kG
              refine srcT_led (vs := zs) (k := 0) (news := led4) (fun i ys nz => nz = led4 ∧ ys.length ≤ i ∧ ys.isEmpty = (mid.take i).all Part.null) (by rfl) F₁₁ N₁₁ hzl (fun i ys nx hj => by rw [hj.1, hled4]; exact .head _) ⟨rfl, Nat.le_refl _, rfl⟩ ?_ ?_
              · intro i v ys nx4 I oI C oC D m₄ h7 tk7 E' hP_7 hP_8 hC hm F₁₂ N₁₂ hoff₁₂ hne
                refine dig fun kG => ?_
                obtain ⟨_, hv⟩ := hP_7
                obtain ⟨hnx4, hyl, hye⟩ := hP_8
                rw [hzs] at hv
                obtain ⟨c, cvs, hc, ca, cb, ce, cp, ck, ckb, cke, ckp, ct, cbs, ces, rfl, d1, d2, d3, d4, d5, d6⟩ := mid_get htree hv
                rw [← hmid] at hc
                have est2 : mid.take (i + 1) = mid.take i ++ [c] := by rw [List.take_add_one, hc]; rfl
                have d1' := ml4 _ d1
                rw [← hnx4] at d1'
                refine kG ?_
                clear kG
                cases hcn : c.null with
                | true =>
                  rw [hcn] at d1'
                  k_steps
                  exact CompEnd.intro F₁₂ N₁₂ _ (fun p hp => hp) hoff₁₂ trivial ⟨hnx4, by omega, by rw [est2, List.all_append, hye]; simp [hcn]⟩
                | false =>
                  rw [hcn] at d1'
                  k_steps
                  exact CompEnd.intro F₁₂ N₁₂ _ (fun p hp => hp) hoff₁₂ trivial ⟨hnx4, by rw [List.length_append]; simp; omega, by rw [est2, List.all_append]; simp [hcn]⟩
              · intro gg ys nx4 hP_9 D2 h7 tk7 F₁₂ N₁₂ ho2
                refine dig fun kG => ?_
                obtain ⟨hnx4, hyl, hye⟩ := hP_9
                rw [← hml, List.take_length] at hye
                subst hnx4
                refine gen_eq (ys.length) fun yn hyn => ?_
                have N₁₃ : News g L₁ h7 ((D2, listOf ys.toArray yn) :: nx4) := by rw [hyn]; exact N₁₂
                have hva : vs[at']? = some vs[at'] := List.getElem?_eq_getElem (by omega)
                have hvp : vs[past]? = some vs[past] := List.getElem?_eq_getElem hpast
                obtain ⟨c1, hc1, hn1⟩ := htree.get at' hva
                obtain ⟨c2, hc2, hn2⟩ := htree.get past hvp
                obtain ⟨vs1, a1, b1, ee1, p1, k1, kb1, ke1, kp1, u1, bs1, es1, hr1, q11, q12, q13, q14, q15, q16⟩ := hn1.head
                obtain ⟨vs2, a2, b2, ee2, p2, k2, kb2, ke2, kp2, u2, bs2, es2, hr2, q21, q22, q23, q24, q25, q26⟩ := hn2.head
                rw [hr1] at hva
                rw [hr2] at hvp
                have j11 := ml4 _ q11
                have j14 := ml4 _ q14
                have j21 := ml4 _ q21
                have j22 := ml4 _ q22
                have jpA := ml4 _ g6
                clear N₁₂ N₁₁ F₁₁
                have hhit : hitB x.1 x.2.parts at' past p q = (ys.isEmpty && (sel N₀ (Part.last (Part.from x.1 x.2.parts at') c1)).any (· == p) && (sel N₀ (Part.first (Part.from x.1 x.2.parts past) c2)).any (· == q)) := by
                  rw [any_sel hp1 hp2, any_sel hq1 hq2, hye, hmid]
                  simp only [hitB, atB, hc1, hc2]
                refine kG ?_
                clear kG
                k_steps
                refine Hold.out (wpAny_If ?_)
                obtain ⟨mm3, hmm3⟩ : ∃ mm : Str → Option Value, mm = fun z => if z = Str.ofString "between" then some (Value.ref D2) else (fun y =>
                    if y = Str.ofString "at" then some (Value.int (at' : Int) ta)
                    else if y = Str.ofString "past" then some (Value.int (past : Int) tp)
                    else if y = Str.ofString "one" then some (Value.int p u)
                    else if y = Str.ofString "other" then some (Value.int q v)
                    else if y = Str.ofString "parts" then some (Value.ref pA)
                    else if y = Str.ofString "is_row" then some (Value.bool x.2.isRow) else m₃ y) z := ⟨_, rfl⟩
                refine wpAny_mono (Q := fun ok s' => ok = hitB x.1 x.2.parts at' past p q ∧ ∃ h' tk', s' = { s with heap := h', toks := tk' } ∧ Fr g L₁ h' mm3 ∧ News g L₁ h' ((D2, listOf ys.toArray yn) :: nx4)) ?_ ?_ (fun _ _ e => e)
                · rw [hhit]
                  k_steps
                  all_goals first
                    | (rw [hmm3]; assumption)
                    | exact nw_sub (by assumption) (fun p hp => .tail _ hp)
                    | (rename_i h1 h2 h3; rw [h1, h2, h3]; rfl)
                    | (rename_i h1 h2; rw [h1, h2]; rfl)
                    | (rename_i h1; rw [h1]; rfl)
                · intro ok s' hP_10
                  refine dig fun kG => ?_
                  obtain ⟨hok2, h8, tk8, rfl, F₁₄, N₁₄⟩ := hP_10
                  rw [hmm3] at F₁₄
                  clear N₁₃
                  refine kG ?_
                  clear kG
                  cases ok with
                  | true =>
                    simp only [if_true]
                    have hyes : (xs.any fun x => stepB x.1 x.2 p q) = true := by
                      rw [List.any_eq_true]
                      refine ⟨x, List.mem_of_getElem? hx, ?_⟩
                      unfold stepB pairB
                      rw [Bool.or_eq_true]
                      refine .inr ?_
                      rw [List.any_eq_true]
                      refine ⟨past, List.mem_range.mpr (by omega), ?_⟩
                      rw [List.any_eq_true]
                      exact ⟨at', List.mem_range.mpr (by rw [hkk]; exact hat), hok2.symm⟩
                    rw [hyes] at hret
                    k_steps
                    dsimp only [TurnPost]
                    k_steps
                    rename_i kF kN Tc kX
                    exact hret _ _ kF (nw_sub kN fun p hp => .tail _ (by rw [hled4]; exact .tail _ (by rw [hled3]; exact .tail _ (by rw [hled2]; exact .tail _ (by rw [hled]; exact .tail _ hp)))))
                  | false =>
                    simp only [Bool.false_eq_true, if_false]
                    k_steps
                    refine ⟨_, _, _, nx'', rfl, F₁₄, nw_sub N₁₄ fun p hp => .tail _ (by rw [hled4]; exact .tail _ (by rw [hled3]; exact hp)), hoff3, rfl, by rfl, by rfl, by rfl, by rw [hkk]; rfl, by rfl, ?_⟩
                    rw [List.range_succ, List.any_append, hno3]
                    simp [← hok2]
            · intro m₃ nz h6 tk6 hP_11 F₉ N₉
              refine dig fun kG => ?_
              obtain ⟨rfl, e1'', e2'', e3'', e4'', e5'', hno3⟩ := hP_11
              revert F₉ N₉
              intro F₉ N₉
              refine kG ?_
              clear kG
              k_steps
              refine ⟨_, _, _, nx', rfl, F₉, by rw [← hled2]; exact N₉, hoff2, rfl, e1'', e2'', e3'', by rw [e4'', hkk], ?_⟩
              rw [hkk] at hno2
              simp only [if_true, eq_self] at hno2 ⊢
              rw [List.range_succ, List.any_append, hno2]
              simpa using hno3
        · intro m₂ nz h4 tk4 hP_12 F₆ N₆
          refine dig fun kG => ?_
          obtain ⟨rfl, e1', e2', e3', e4', hno2⟩ := hP_12
          revert F₆ N₆
          intro F₆ N₆
          refine kG ?_
          clear kG
          k_steps
          refine ⟨_, _, _, nx, rfl, F₆, by rw [← hled]; exact N₆, hoff, rfl, e1', e2', ?_⟩
          rw [est, List.any_append, hno]
          have hps : vs.length = x.2.parts.length := htree.length
          rw [hps] at hno2
          simp only [List.any_cons, List.any_nil, Bool.or_false, Bool.false_or]
          unfold stepB pairB isStar
          rw [← hok, hno2]; rfl
  · intro m₂ nz h4 tk4 hP_13 F₆ N₆
    refine dig fun kG => ?_
    obtain ⟨rfl, e1', e2', hno⟩ := hP_13
    revert F₆ N₆
    intro F₆ N₆
    refine kG ?_
    clear kG
    k_steps
    rename_i kF kN Tc kX
    rw [hsubs.length, List.take_length] at hno
    rw [hno] at hret
    exact hret _ _ kF kN
  · intro s' l i v Q' I E' hit hQ
    exact letGo_listiter hit hQ
theorem follows_c {w : World} {news : List (Addr × Obj)} {nA kn N₀ : Nat} {nv : List Value} {p q : Int} {u v : Tok} {xs : List (Nat × Part)} (hnA : (nA, listOf nv.toArray kn) ∈ news) (hsubs : SubsIn N₀ news xs nv) (hl : nv.length ≤ 1000) (hp1 : 1 ≤ p) (hp2 : p ≤ N₀) (hq1 : 1 ≤ q) (hq2 : q ≤ N₀) (hpl : ∀ x ∈ xs, x.2.parts.length ≤ 100) :
    CallSpec w 162 100 600 news [.ref nA, .int p u, .int q v] (fun _ r news' => r = .bool (xs.any fun x => stepB x.1 x.2 p q) ∧ news' = news) := by
  intro loose mean mg mb dp un gd cn cs a ccd cl outer A₀ base h₀ L m s Q E B F X N T hk hd hu ret
  have lt := nw_lt N
  exact follows_walk w B F X N hnA hsubs hl hp1 hp2 hq1 hq2 hpl T hk hd hu fun h' tk' F' N' => ret s.heap.objs.size _ h' tk' news lt F' N' ⟨rfl, rfl⟩
end Mine
end

-- text Q2
section
open PySem PySem.W PyProof.Rows PySem.Calls
set_option maxRecDepth 100000
namespace Mine
theorem any_or {α : Type} (l : List α) (f g : α → Bool) : (l.any f || l.any g) = l.any fun x => f x || g x := by
  induction l with
  | nil => rfl
  | cons a r ih =>
    simp only [List.any_cons, ← ih]
    cases f a <;> cases g a <;> simp
theorem any_and {α : Type} (l : List α) (b : Bool) (f : α → Bool) : (b && l.any f) = l.any fun x => b && f x := by
  cases b <;> simp
theorem atB_zero (g : Nat → Part → Int → Bool) (n : Nat) (c : Part) (r : List Part) (z : Int) : atB g n (c :: r) 0 z = g n c z := by simp [atB, Part.from, Part.sizes]
theorem atB_succ (g : Nat → Part → Int → Bool) (n : Nat) (c : Part) (r : List Part) (i : Nat) (z : Int) : atB g n (c :: r) (i + 1) z = atB g (n + c.size) r i z := by simp [atB, Part.from, Part.sizes, Nat.add_assoc]
theorem firstS_any (q : Int) : ∀ (r : List Part) (n : Nat), Part.firstS n r q = (List.range r.length).any fun k => (r.take k).all Part.null && atB (fun n c z => c.first n z) n r k q
  | [], n => by simp [Part.firstS]
  | c :: r, n => by
    rw [Part.firstS, firstS_any q r, List.length_cons, List.range_succ_eq_map, List.any_cons, List.any_map, any_and]
    simp only [List.take_zero, List.all_nil, Bool.true_and, atB_zero]
    congr 1
    refine congrArg (fun f => (List.range r.length).any f) (funext fun k => ?_)
    simp only [Function.comp, List.take_succ_cons, List.all_cons, atB_succ, Bool.and_assoc]
theorem hit_zero (n : Nat) (c : Part) (r : List Part) (k : Nat) (p q : Int) : hitB n (c :: r) 0 (k + 1) p q = (c.last n p && ((r.take k).all Part.null && atB (fun n c z => c.first n z) (n + c.size) r k q)) := by
  simp only [hitB, List.take_succ_cons, List.drop_succ_cons, List.drop_zero, atB_zero, atB_succ]
  cases c.last n p <;> simp
theorem hit_succ (n : Nat) (c : Part) (r : List Part) (j k : Nat) (p q : Int) : hitB n (c :: r) (j + 1) (k + 1) p q = hitB (n + c.size) r j k p q := by
  simp only [hitB, List.take_succ_cons, List.drop_succ_cons, atB_succ]
theorem pair_cons (n : Nat) (c : Part) (r : List Part) (p q : Int) : pairB true n (c :: r) p q = ((c.last n p && Part.firstS (n + c.size) r q) || pairB true (n + c.size) r p q) := by
  unfold pairB
  simp only [if_true]
  rw [List.length_cons, List.range_succ_eq_map, List.any_cons, List.any_map, firstS_any, any_and, any_or]
  simp only [List.range_zero, List.any_nil, Bool.false_or]
  refine congrArg (fun f => (List.range r.length).any f) (funext fun k => ?_)
  simp only [Function.comp]
  rw [List.range_succ_eq_map, List.any_cons, List.any_map, hit_zero]
  congr 1
  refine congrArg (fun f => (List.range k).any f) (funext fun j => ?_)
  exact hit_succ n c r j k p q
theorem pair_nil (kk : Bool) (n : Nat) (p q : Int) : pairB kk n [] p q = false := rfl
theorem pair_choice (n : Nat) (ps : List Part) (p q : Int) : pairB false n ps p q = false := by
  unfold pairB
  simp
mutual
theorem fol_any (p q : Int) : ∀ (P : Part) (n : Nat), P.fol n p q = (P.subs n).any fun x => stepB x.1 x.2 p q
  | .name nm mk, n => by
    simp only [Part.fol, Part.subs, List.any_cons, List.any_nil, Bool.or_false, stepB, Part.mark, Part.last, Part.first, Part.isRow, Part.parts, pair_nil]
  | .node s ps mk, n => by
    have e1 : Part.fol n (.node s ps mk) p q = (Part.folX s n ps p q || (isStar mk && Part.lastX s n ps p && Part.firstX s n ps q)) := by cases s <;> simp [Part.fol, Part.folX, Part.lastX, Part.firstX]
    have e2 : Part.last n (.node s ps mk) p = Part.lastX s n ps p := by cases s <;> simp [Part.last, Part.lastX]
    have e3 : Part.first n (.node s ps mk) q = Part.firstX s n ps q := by cases s <;> simp [Part.first, Part.firstX]
    rw [e1, folX_any p q s ps n]
    simp only [Part.subs, List.any_append, List.any_cons, List.any_nil, Bool.or_false, stepB, Part.mark, Part.isRow, Part.parts, e2, e3]
    generalize (Part.subss n ps).any _ = a1
    generalize pairB s n ps p q = a2
    cases a1 <;> cases a2 <;> simp
theorem folX_any (p q : Int) (s : Bool) : ∀ (ps : List Part) (n : Nat), Part.folX s n ps p q = ((Part.subss n ps).any (fun x => stepB x.1 x.2 p q) || pairB s n ps p q)
  | [], n => by cases s <;> simp [Part.folX, Part.folS, Part.folC, Part.subss, pair_nil]
  | c :: r, n => by
    have h1 := fol_any p q c n
    have h2 := folX_any p q s r (n + c.size)
    cases s
    · simp only [Part.folX] at h2
      simp only [Part.folX, Part.folC, Part.subss, List.any_append, h1, h2, pair_choice, Bool.or_false]
    · simp only [Part.folX] at h2
      simp only [Part.folX, Part.folS, Part.subss, List.any_append, h1, h2, pair_cons]
      generalize (Part.subs n c).any _ = a1
      generalize (Part.subss (n + c.size) r).any _ = a2
      generalize pairB true (n + c.size) r p q = a3
      cases a1 <;> cases a2 <;> cases a3 <;> simp
end
end Mine
end

-- text M0
section
open PySem PySem.W PyProof.Rows PySem.Calls PyProof.Rows.LCg
set_option maxRecDepth 100000
set_option maxHeartbeats 2000000
namespace Mine
theorem item_eq {prog : Program} {w : World} {A : Around} {E : Value → Shared → Prop} {s : Shared} {h₀ : Heap} {L : Addr} {news : List (Addr × Obj)} {value slice : PySem.Expr} {l : Addr} {vs : List Value} {i n : Nat} {k : Int} {u : Tok} {v : Value} {Q : Value → Shared → Prop} (N : News h₀ L s.heap news) (hm : (l, listOf vs.toArray n) ∈ news) (hx : vs[i]? = some v) (e : k = (i : Int)) (hl : vs.length ≤ 1000) (h : Q v s)
    (hs : ∀ u', subscripted slice false (.ref l) (.int (i : Int) u') = operate [.ref l, .int (i : Int) u'] (getItem (.ref l) (.int (i : Int) u')) := by intro _; with_unfolding_all rfl) :
    wpAny (model prog w) A (subscriptTail value slice (.ref l) (.int k u)) Q E s := by
  subst e
  exact item_nat N hm hx hl h (hs u)
theorem dict_at {prog : Program} {w : World} {A : Around} {E : Value → Shared → Prop} {s : Shared} {h₀ : Heap} {L : Addr} {news : List (Addr × Obj)} {value slice : PySem.Expr} {d : Addr} {o : Obj} {kvs : List (Int × Value)} {k : Int} {u : Tok} {v : Value} {Q : Value → Shared → Prop} (N : News h₀ L s.heap news) (hp : (d, o) ∈ news) (hd : Obj.IsDictOf (intKind prog w) o kvs) (hl : valueAt kvs k = some v) (h : Q v { s with toks := s.toks + 1 })
    (hs : subscripted slice false (.ref d) (.int k u) = operate [.ref d, .int k u] (getItem (.ref d) (.int k u)) := by with_unfolding_all rfl) :
    wpAny (model prog w) A (subscriptTail value slice (.ref d) (.int k u)) Q E s :=
  have hD := kda_dict N hp hd
  tail_any hD.typeIs slot_dict_getitem.lookup (wpAny_getItem_of (intKind_is prog w k u) hD.mapOf hl h) hs
local macro_rules | `(tactic| k_mem) => `(tactic| assumption)
local macro_rules | `(tactic| walk_at "subscriptTail") => `(tactic| (k_here; refine Hold.mk ?_))
theorem name_walk (w : World) {loose : List Str} {mean : ExcName → Option Value} {mg mb : Str → Option Value}
  {dp un : Nat} {gd : Option (List Code)} {cn : Str} {cs : Scope} {a : Addr} {ccd : Value} {cl : List (Str × Addr)} {outer : List Env} {A₀ : Around} {base h₀ : Heap} {L : Addr} {m : Str → Option Value} {s : Shared} {Q E : Value → Shared → Prop}
  {news : List (Addr × Obj)} {x : Addr} {P : Part} {i : Nat} {u : Tok} {nm : Str} {k : Int}
  (B : Below A₀ base outer h₀) (F : Fr h₀ L s.heap m) (X : (hd.heap_39 w.params).In h₀) (N : News h₀ L s.heap news) (hA : AutoIn w news x P) (hi : P.names[i]? = some nm) (hk' : k = (i : Int) + 1) (hn : P.size ≤ 30)
  (T : Top hd.view_39 loose mean mg mb h₀) (hk : cs.kind = .function) (hdp : dp + 20 < recursionLimit) (hu : un + 100 < cLine)
  (hret : ∀ h' tk' t', Fr h₀ L h' m → News h₀ L h' news → Q (.str nm t') { s with heap := h', toks := tk' }) :
  wpAny (model PySem.Challenge.rw_xw0200_01.row.prog w) (ktrTop dp un gd cn cs L a ccd cl outer) (call (.ref 82) [.ref x, .int k u]) Q E s := by
  refine dig fun kG => ?_
  obtain ⟨dx, na, fa, F0, L0, S, g1, g2, g3, g4, g5, t1, t2, t3, t4, t5, kd, c1, c2, fs, ls, hna, hfa, m1, m2, m3, hok, m4, hfs, m5, hls, hx5, hd5⟩ := hA.all
  obtain ⟨t', ht'⟩ := hok.names.get i nm hi
  have m6 : (na, listOf S.nv.toArray S.nn) ∈ news := by rw [hna]; exact m3 _ (.head _)
  have hnl : S.nv.length ≤ 1000 := by
    have h1 := hok.names.length
    rw [h1, Part.names_length]; omega
  refine kG ?_
  clear kG
  w_top off
  revert X; k_fill; intro X
  refine wpAny_call ?_
  k_dflt cell_enter
  k_steps
  refine Hold.out ?_
  refine item_eq (i := i) (by k_asm) m6 ht' (by omega) hnl ?_
  k_steps
  exact hret _ _ _ (by k_asm) (by k_asm)
theorem name_c {w : World} {news : List (Addr × Obj)} {x : Addr} {P : Part} {i : Nat} {u : Tok} {nm : Str} {k : Int} (hA : AutoIn w news x P) (hi : P.names[i]? = some nm) (hk' : k = (i : Int) + 1) (hn : P.size ≤ 30) :
    CallSpec w 82 20 100 news [.ref x, .int k u] (fun _ r news' => (∃ t, r = .str nm t) ∧ news' = news) := by
  intro loose mean mg mb dp un gd cn cs a ccd cl outer A₀ base h₀ L m s Q E B F X N T hk hd hu ret
  have lt := nw_lt N
  exact name_walk w B F X N hA hi hk' hn T hk hd hu fun h' tk' t' F' N' => ret s.heap.objs.size _ h' tk' news lt F' N' ⟨⟨_, rfl⟩, rfl⟩
theorem behind_walk (w : World) {loose : List Str} {mean : ExcName → Option Value} {mg mb : Str → Option Value}
  {dp un : Nat} {gd : Option (List Code)} {cn : Str} {cs : Scope} {a : Addr} {ccd : Value} {cl : List (Str × Addr)} {outer : List Env} {A₀ : Around} {base h₀ : Heap} {L : Addr} {m : Str → Option Value} {s : Shared} {Q E : Value → Shared → Prop}
  {news : List (Addr × Obj)} {x : Addr} {P : Part} {u : Tok} {k : Int}
  (B : Below A₀ base outer h₀) (F : Fr h₀ L s.heap m) (X : (hd.heap_39 w.params).In h₀) (N : News h₀ L s.heap news) (hA : AutoIn w news x P) (h0 : 0 ≤ k) (h1 : k ≤ P.size) (hn : P.size ≤ 30)
  (T : Top hd.view_39 loose mean mg mb h₀) (hk : cs.kind = .function) (hdp : dp + 20 < recursionLimit) (hu : un + 100 < cLine)
  (hret : ∀ h' tk' A vs c, Fr h₀ L h' m → News h₀ L h' news → (A, listOf vs.toArray c) ∈ news → IntsAre vs (sel P.size fun q => if k = 0 then P.first 0 q else P.fol 0 k q) → Q (.ref A) { s with heap := h', toks := tk' }) :
  wpAny (model PySem.Challenge.rw_xw0200_01.row.prog w) (ktrTop dp un gd cn cs L a ccd cl outer) (call (.ref 89) [.ref x, .int k u]) Q E s := by
  refine dig fun kG => ?_
  obtain ⟨dx, na, fa, F0, L0, S, g1, g2, g3, g4, g5, t1, t2, t3, t4, t5, kd, c1, c2, fs, ls, hna, hfa, m1, m2, m3, hok, m4, hfs, m5, hls, hx5, hd5⟩ := hA.all
  have m6 : (fa, S.fo) ∈ news := by rw [hfa]; exact m3 _ (.tail _ (.head _))
  refine kG ?_
  clear kG
  revert X; k_fill; intro X
  refine wpAny_call ?_
  k_dflt cell_enter
  by_cases hz : k = 0
  · subst hz
    k_steps
    exact hret _ _ F0 fs c1 (by k_asm) (by k_asm) m4 (by simpa using hfs)
  · have hi : (k - 1).toNat < S.fl.length := by rw [hok.len, Part.names_length]; omega
    have hx : S.fl[(k - 1).toNat]? = some S.fl[(k - 1).toNat] := List.getElem?_eq_getElem hi
    have hv := hok.keys _ _ hx
    have he : (((k - 1).toNat : Nat) : Int) + 1 = k := by omega
    rw [he] at hv
    have hls' := hok.lists _ _ hx
    rw [he] at hls'
    k_steps
    · exact absurd (by assumption) hz
    · refine Hold.out ?_
      refine dict_at (by k_asm) m6 hok.dict hv ?_
      k_steps
      exact hret _ _ _ S.fl[(k - 1).toNat].2.1 S.fl[(k - 1).toNat].2.2 (by k_asm) (by k_asm) (m3 _ (AS.list_core hx)) (by
        have e : (fun q => if k = 0 then P.first 0 q else P.fol 0 k q) = P.fol 0 k := funext fun q => if_neg hz
        rw [e]; exact hls')
theorem behind_c {w : World} {news : List (Addr × Obj)} {x : Addr} {P : Part} {u : Tok} {k : Int} (hA : AutoIn w news x P) (h0 : 0 ≤ k) (h1 : k ≤ P.size) (hn : P.size ≤ 30) :
    CallSpec w 89 20 100 news [.ref x, .int k u] (fun _ r news' => (∃ A vs c, r = .ref A ∧ (A, listOf vs.toArray c) ∈ news ∧ IntsAre vs (sel P.size fun q => if k = 0 then P.first 0 q else P.fol 0 k q)) ∧ news' = news) := by
  intro loose mean mg mb dp un gd cn cs a ccd cl outer A₀ base h₀ L m s Q E B F X N T hk hd hu ret
  have lt := nw_lt N
  exact behind_walk w B F X N hA h0 h1 hn T hk hd hu fun h' tk' A vs c F' N' hm hi => ret s.heap.objs.size _ h' tk' news lt F' N' ⟨⟨A, vs, c, rfl, hm, hi⟩, rfl⟩
theorem behind_walk2 (w : World) {loose : List Str} {mean : ExcName → Option Value} {mg mb : Str → Option Value}
  {dp un : Nat} {gd : Option (List Code)} {cn : Str} {cs : Scope} {a : Addr} {ccd : Value} {cl : List (Str × Addr)} {outer : List Env} {A₀ : Around} {base h₀ : Heap} {L : Addr} {m : Str → Option Value} {s : Shared} {Q E : Value → Shared → Prop}
  {news ld : List (Addr × Obj)} {x : Addr} {P : Part} {u : Tok} {k : Int}
  (B : Below A₀ base outer h₀) (F : Fr h₀ L s.heap m) (X : (hd.heap_39 w.params).In h₀) (N : News h₀ L s.heap news) (hA : AutoIn w ld x P) (hld : ∀ p ∈ ld, p ∈ news) (h0 : 0 ≤ k) (h1 : k ≤ P.size) (hn : P.size ≤ 30)
  (T : Top hd.view_39 loose mean mg mb h₀) (hk : cs.kind = .function) (hdp : dp + 20 < recursionLimit) (hu : un + 100 < cLine)
  (hret : ∀ h' tk' A vs c, Fr h₀ L h' m → News h₀ L h' news → (A, listOf vs.toArray c) ∈ ld → IntsAre vs (sel P.size fun q => if k = 0 then P.first 0 q else P.fol 0 k q) → Q (.ref A) { s with heap := h', toks := tk' }) :
  wpAny (model PySem.Challenge.rw_xw0200_01.row.prog w) (ktrTop dp un gd cn cs L a ccd cl outer) (call (.ref 89) [.ref x, .int k u]) Q E s := by
  refine dig fun kG => ?_
  obtain ⟨dx, na, fa, F0, L0, S, g1, g2, g3, g4, g5, t1, t2, t3, t4, t5, kd, c1, c2, fs, ls, hna, hfa, m1, m2, m3, hok, m4, hfs, m5, hls, hx5, hd5⟩ := hA.all
  have m1' := hld _ m1
  have m2' := hld _ m2
  have m6 : (fa, S.fo) ∈ news := by rw [hfa]; exact hld _ (m3 _ (.tail _ (.head _)))
  refine kG ?_
  clear kG
  revert X; k_fill; intro X
  refine wpAny_call ?_
  k_dflt cell_enter
  by_cases hz : k = 0
  · subst hz
    k_steps
    exact hret _ _ F0 fs c1 (by k_asm) (by k_asm) m4 (by simpa using hfs)
  · have hi : (k - 1).toNat < S.fl.length := by rw [hok.len, Part.names_length]; omega
    have hx : S.fl[(k - 1).toNat]? = some S.fl[(k - 1).toNat] := List.getElem?_eq_getElem hi
    have hv := hok.keys _ _ hx
    have he : (((k - 1).toNat : Nat) : Int) + 1 = k := by omega
    rw [he] at hv
    have hls' := hok.lists _ _ hx
    rw [he] at hls'
    k_steps
    · exact absurd (by assumption) hz
    · refine Hold.out ?_
      refine dict_at (by k_asm) m6 hok.dict hv ?_
      k_steps
      exact hret _ _ _ S.fl[(k - 1).toNat].2.1 S.fl[(k - 1).toNat].2.2 (by k_asm) (by k_asm) (m3 _ (AS.list_core hx)) (by
        have e : (fun q => if k = 0 then P.first 0 q else P.fol 0 k q) = P.fol 0 k := funext fun q => if_neg hz
        rw [e]; exact hls')
theorem behind_c2 {w : World} {news ld : List (Addr × Obj)} {x : Addr} {P : Part} {u : Tok} {k : Int} (hA : AutoIn w ld x P) (hld : ∀ p ∈ ld, p ∈ news) (h0 : 0 ≤ k) (h1 : k ≤ P.size) (hn : P.size ≤ 30) :
    CallSpec w 89 20 100 news [.ref x, .int k u] (fun _ r news' => (∃ A vs c, r = .ref A ∧ (A, listOf vs.toArray c) ∈ ld ∧ IntsAre vs (sel P.size fun q => if k = 0 then P.first 0 q else P.fol 0 k q)) ∧ news' = news) := by
  intro loose mean mg mb dp un gd cn cs a ccd cl outer A₀ base h₀ L m s Q E B F X N T hk hd hu ret
  have lt := nw_lt N
  exact behind_walk2 w B F X N hA hld h0 h1 hn T hk hd hu fun h' tk' A vs c F' N' hm hi => ret s.heap.objs.size _ h' tk' news lt F' N' ⟨⟨A, vs, c, rfl, hm, hi⟩, rfl⟩
end Mine
end

-- text M2
section
open PySem PySem.W PyProof.Rows PySem.Calls PyProof.Rows.LCg PyProof.Rows.LCt
set_option maxRecDepth 100000
set_option maxHeartbeats 2000000
namespace Mine
/-- addresses at which the ledger bears cells -/
def CellsAt (led : List (Addr × Obj)) (W : List Addr) : Prop := ∀ z ∈ W, ∃ o v, (z, o) ∈ led ∧ o.data = .cell v
theorem off_mem {h₀ h : Heap} {L a : Addr} {ob : Obj} {led : List (Addr × Obj)} {W : List Addr} (N : News h₀ L h led) (hW : CellsAt led W) (hm : (a, ob) ∈ led) (hne : ∀ v, ob.data ≠ .cell v) : (a, ob) ∈ offs W led := by
  refine mem_offs.mpr ⟨hm, fun hz => ?_⟩
  refine dig fun kG => ?_
  obtain ⟨o, v, h1, h2⟩ := hW _ hz
  have := nw_same N hm h1
  refine kG ?_
  clear kG
  exact hne v (this ▸ h2)
theorem AutoIn.off {w : World} {h₀ h : Heap} {L x : Addr} {P : Part} {led : List (Addr × Obj)} {W : List Addr} (N : News h₀ L h led) (hW : CellsAt led W) (hA : AutoIn w led x P) : AutoIn w (offs W led) x P := by
  refine dig fun kG => ?_
  obtain ⟨dx, na, fa, F0, L0, S, g1, g2, g3, g4, g5, t1, t2, t3, t4, t5, kd, c1, c2, fs, ls, hna, hfa, m1, m2, m3, hok, m4, hfs, m5, hls, hx5, hd5⟩ := hA.all
  refine kG ?_
  clear kG
  refine ⟨dx, na, fa, F0, L0, S, g1, g2, g3, g4, g5, t1, t2, t3, t4, t5, kd, c1, c2, fs, ls, hna, hfa, off_mem N hW m1 (fun v e => by cases e), off_mem N hW m2 (fun v e => by cases e), fun p hp => ?_, hok, off_mem N hW m4 (fun v e => by cases e), hfs, off_mem N hW m5 (fun v e => by cases e), hls, hx5, hd5⟩
  refine off_mem N hW (m3 p hp) ?_
  rcases List.mem_cons.mp hp with rfl | hp
  · exact fun v e => by cases e
  rcases List.mem_cons.mp hp with rfl | hp
  · intro v e
    refine dig fun kG => ?_
    obtain ⟨a1, ep, _, hd, _⟩ := hok.dict
    refine kG ?_
    clear kG
    dsimp only at e
    rw [hd] at e
    cases e
  · refine dig fun kG => ?_
    obtain ⟨y, _, rfl⟩ := List.mem_map.mp hp
    refine kG ?_
    clear kG
    exact fun v e => by cases e
theorem AutoIn.mono {w : World} {x : Addr} {P : Part} {led led' : List (Addr × Obj)} (hs : ∀ p ∈ led, p ∈ led') (hA : AutoIn w led x P) : AutoIn w led' x P := by
  refine dig fun kG => ?_
  obtain ⟨dx, na, fa, F0, L0, S, g1, g2, g3, g4, g5, t1, t2, t3, t4, t5, kd, c1, c2, fs, ls, hna, hfa, m1, m2, m3, hok, m4, hfs, m5, hls, hx5, hd5⟩ := hA.all
  refine kG ?_
  clear kG
  exact ⟨dx, na, fa, F0, L0, S, g1, g2, g3, g4, g5, t1, t2, t3, t4, t5, kd, c1, c2, fs, ls, hna, hfa, hs _ m1, hs _ m2, fun p hp => hs _ (m3 p hp), hok, hs _ m4, hfs, hs _ m5, hls, hx5, hd5⟩
end Mine
end

-- text V0
section
open PySem PySem.W PyProof.Rows PySem.Calls PyProof.Rows.LCg PySem.SeqAt
set_option maxRecDepth 100000
set_option maxHeartbeats 2000000
namespace Mine
section
variable {prog : Program} {w : World} {A : Around} {E : Value → Shared → Prop} {s : Shared} {h₀ : Heap} {L : Addr} {m : Str → Option Value} {news : List (Addr × Obj)}
theorem all_true (n : Nat) : ((List.range n).all fun _ => true) = true := by simp
theorem rc_lists {A : Around} {s : Shared} {l b : Addr} {vs us : List Value} (hl : s.heap.IsList l vs.toArray) (hb : s.heap.IsList b us.toArray) (hn : vs.length = us.length) (hu : A.units < cLine) (he : ∀ (j : Nat) v u, vs[j]? = some v → us[j]? = some u → EqAt A.in1 s v u true) : RcAt A s (.ref l) (.ref b) true := by
  have h := RcAt.lists (e := fun _ => true) hl hb (by simpa using hn) hu (fun j h1 h2 => he j _ _ (by simp) (by simp))
  rw [all_true] at h
  exact h
theorem ne_lists {l b : Addr} {vs us : List Value} {k1 k2 : Nat} {Q : Value → Shared → Prop} (N : News h₀ L s.heap news) (h1 : (l, listOf vs.toArray k1) ∈ news) (h2 : (b, listOf us.toArray k2) ∈ news) (hn : vs.length = us.length) (hu : A.units < cLine) (he : ∀ (j : Nat) v u, vs[j]? = some v → us[j]? = some u → EqAt A.in1 s v u true)
    (h : Q (.bool false) s) : wpAny (model prog w) A (compareOp .NotEq (.ref l) (.ref b)) Q E s := by
  have h' := RcNeAt.lists (e := fun _ => true) (isL_of N h1) (isL_of N h2) (by simpa using hn) hu (fun j h1 h2 => he j _ _ (by simp) (by simp))
  rw [all_true] at h'
  exact cmp_ofNotEq (h' prog w E Q h)
theorem eq_lists {l b : Addr} {vs us : List Value} {k1 k2 : Nat} {Q : Value → Shared → Prop} (N : News h₀ L s.heap news) (h1 : (l, listOf vs.toArray k1) ∈ news) (h2 : (b, listOf us.toArray k2) ∈ news) (hn : vs.length = us.length) (hu : A.units < cLine) (he : ∀ (j : Nat) v u, vs[j]? = some v → us[j]? = some u → EqAt A.in1 s v u true)
    (h : Q (.bool true) s) : wpAny (model prog w) A (compareOp .Eq (.ref l) (.ref b)) Q E s :=
  cmp_ofEq (rc_lists (isL_of N h1) (isL_of N h2) hn hu he prog w E Q h)
theorem ints_eq {A : Around} {s : Shared} {vs us : List Value} {xs : List Int} (h1 : IntsAre vs xs) (h2 : IntsAre us xs) : ∀ (j : Nat) v u, vs[j]? = some v → us[j]? = some u → EqAt A s v u true := by
  intro j v u hv hu
  have hj := (List.getElem?_eq_some_iff.mp hv).1
  rw [h1.length] at hj
  obtain ⟨t, e⟩ := h1.get j _ (List.getElem?_eq_getElem hj)
  obtain ⟨t', e'⟩ := h2.get j _ (List.getElem?_eq_getElem hj)
  rw [hv] at e
  rw [hu] at e'
  cases e
  cases e'
  have := EqAt.int_int (A := A) (s := s) xs[j] t xs[j] t'
  rwa [beq_self_eq_true] at this
theorem strs_eq {A : Around} {s : Shared} {vs us : List Value} {xs : List Str} (h1 : StrsAre vs xs) (h2 : StrsAre us xs) : ∀ (j : Nat) v u, vs[j]? = some v → us[j]? = some u → EqAt A s v u true := by
  intro j v u hv hu
  have hj := (List.getElem?_eq_some_iff.mp hv).1
  rw [h1.length] at hj
  obtain ⟨t, e⟩ := h1.get j _ (List.getElem?_eq_getElem hj)
  obtain ⟨t', e'⟩ := h2.get j _ (List.getElem?_eq_getElem hj)
  rw [hv] at e
  rw [hu] at e'
  cases e
  cases e'
  have := EqAt.str_str (A := A) (s := s) xs[j] t xs[j] t'
  rwa [beq_self_eq_true] at this
/-- two lists of the same ints -/
theorem eq_refs {A : Around} {s : Shared} {l b : Addr} {vs us : List Value} {k1 k2 : Nat} {xs : List Int} (N : News h₀ L s.heap news) (h1 : (l, listOf vs.toArray k1) ∈ news) (h2 : (b, listOf us.toArray k2) ∈ news) (i1 : IntsAre vs xs) (i2 : IntsAre us xs) (hu : A.units < cLine) : EqAt A s (.ref l) (.ref b) true := by
  by_cases e : l = b
  · subst e; exact EqAt.same _
  · exact EqAt.of_refs e (rc_lists (isL_of N h1) (isL_of N h2) (i1.length.trans i2.length.symm) hu (ints_eq i1 i2))
end
end Mine
end

-- text H4
section
open PySem PySem.Spec PySem.W PyProof.Rows PySem.Calls PyProof.Rows.LCg PyProof.Rows.LCt
set_option maxRecDepth 100000
set_option maxHeartbeats 2000000
namespace Mine
/-- the block's env of a comprehension whose name is a cell -/
def cellEnv (scope : Scope) (C : Addr) (cs : List (Str × Addr)) (env : Env) : Env :=
  { scope := relabel scope env, locals := C, globals := env.globals, cells := cs, qual := env.qual, func := none, code := env.code, frame := env.frame, builtins := env.builtins }
section
variable {M : Model} {A : Around} {E : Value → Shared → Prop} {s : Shared} {env : Env}
theorem env_cells {scope : Scope} {cl : List (Str × Addr)} {Q : Env → Shared → Prop}
    (hQ : Q { scope := scope, locals := s.heap.objs.size, globals := env.globals, cells := cellsFrom (s.heap.objs.size + 1) scope.names cl, qual := env.qual, func := none, code := env.code, frame := env.frame, builtins := env.builtins }
      { s with heap := pushCells (s.heap.push { cls := .type "dict", data := .dict #[] }) scope.names }) :
    wpAny M A (newFunctionEnv scope env.globals cl [] env.qual none .none (some env)) Q E s := by
  simp only [newFunctionEnv, Option.isSome_some, if_true]
  refine wpAny_bind (wpAny_alloc ?_)
  refine wpAny_bind (wpAny_layCells _ (fun name kind cells => by cases hkc : kind == NameKind.cell <;> simp [hkc]) _ _ _ _ ?_)
  rw [show ({ s with heap := s.heap.push { cls := .type "dict", data := .dict #[] } } : Shared).heap.objs.size = s.heap.objs.size + 1 from Heap.size_push ..]
  simp only [List.forIn_nil]
  exact wpAny_bind (wpAny_pure (wpAny_pure hQ))
end
section
variable {prog : Program} {w : World} {A : Around} {E : Value → Shared → Prop} {s : Shared} {h₀ : Heap} {L : Addr} {m : Str → Option Value} {env : Env} {news : List (Addr × Obj)}
def OffIK (I C K D : Addr) (nx : List (Addr × Obj)) : Prop := ∀ p ∈ nx, p.1 ≠ I ∧ p.1 ≠ C ∧ p.1 ≠ K ∧ p.1 ≠ D
/-- a comprehension whose name is a cell, over a list of the ledger's -/
theorem cell_comp_to {elt iter : Expr} {x y : Str} {px py pos spos : Pos} {scope : Scope} {cl : List (Str × Addr)} {xs : List Value} {ax : Addr} {k : Nat} {Q : Flow → Shared → Prop} (J : Nat → List Value → List (Addr × Obj) → Prop)
    (F : Fr h₀ L s.heap m) (N : News h₀ L s.heap news) (hm : ∀ i ys nx, J i ys nx → (ax, listOf xs.toArray k) ∈ nx) (hx : xs.length ≤ 1000) (hh : A.handled = none) (h0 : J 0 [] news)
    (hclos : closureFor scope env = pure cl) (hkind : scope.kind = .function) (hnames : ∀ y ∈ scope.names, y.2 = .local → scope.names.lookup y.1 = some .local)
    (hlx : (relabel scope env).names.lookup x = some .cell) (hcs : ∀ n, cellsFrom n scope.names cl = (x, n) :: cl) (hpush : ∀ h : Heap, pushCells h scope.names = h.push { cls := .type "cell", data := .cell none })
    (hLe : env.locals = L) (hsw : swapsWith (.ListComp elt [⟨.Name x px, iter, [], 0⟩] scope pos) (some (.Name y py)) spos.line env = pure true) (hy : env.kindOf y = some .local) (hp0 : (env.scope.kind == .class || (env.scope.kind == .module && env.locals != env.globals)) = false)
    (hiter : ∀ Q : Value → Shared → Prop, Q (.ref ax) s → wpAny (model prog w) A (eval iter env) Q E s)
    (turn : ∀ i v ys nx I oI C oC K oK D h tk (E' : Value → Shared → Prop), xs[i]? = some v → J i ys nx → oK.data = .cell (some v) → Fr h₀ L h m → News h₀ L h ((I, oI) :: (C, oC) :: (K, oK) :: (D, lst ys) :: nx) → OffIK I C K D nx → ((@Ne Nat I C) ∧ (@Ne Nat I K) ∧ (@Ne Nat I D) ∧ (@Ne Nat C K) ∧ (@Ne Nat C D) ∧ (@Ne Nat K D)) →
      wpAny (model prog w) A (eval elt (cellEnv scope C ((x, K) :: cl) env)) (fun y s₂ => ∃ h' tk' nx', s₂ = { s with heap := h', toks := tk' } ∧ Fr h₀ L h' m ∧ News h₀ L h' ((I, oI) :: (C, oC) :: (K, oK) :: (D, lst ys) :: nx') ∧ OffIK I C K D nx' ∧ J (i + 1) (ys ++ [y]) nx') E' { s with heap := h, toks := tk })
    (done : ∀ D h tk ys nx, J xs.length ys nx → Fr h₀ L h (fun z => if z = y then some (.ref D) else m z) → News h₀ L h ((D, lst ys) :: nx) → (∀ p ∈ nx, @Ne Nat p.1 D) → Q .next { s with heap := h, toks := tk })
    (hs : ∀ x, foldedSetIterable iter env x = pure x := by intro _; rfl) :
    wpAny (model prog w) A (exec (.Assign [.Name y py] (.ListComp elt [⟨.Name x px, iter, [], 0⟩] scope pos) spos) env) Q E s := by
  subst hLe
  rw [exec_Assign_Name_used _ _ _ _ hsw]
  refine wpAny_bind (wpAny_standAt (wpAny_bind ?_))
  show wpAny _ A (do let _ ← comprehension (.ListComp elt [⟨.Name x px, iter, [], 0⟩] scope pos) scope env _ (newList []) false (eval iter env) (some (assign (.Name y py) env))) _ _ s
  refine wpAny_bind (wpAny_mono (wpAny_comprehension_free (use := some (assign (.Name y py) env)) (Q := fun _ s' => Q .next s') rfl hs hclos hkind hnames (hiter _ ?_)) (fun _ s' hq => wpAny_pure (wpAny_pure hq)) fun _ _ e => e)
  refine dig fun kG => ?_
  refine gen_eq (env.locals) fun L hLL => ?_
  rw [← hLL] at F N turn done
  have hl : s.heap.IsList ax xs.toArray := isL_of N (hm _ _ _ h0)
  have hlt : ax < s.heap.objs.size := Heap.lt_size (N _ (hm _ _ _ h0)).1
  refine kG ?_
  clear kG
  refine wpAny_pyIter_list hl ?_
  refine dig fun kG => ?_
  refine gen_eq (s.heap.objs.size) fun I hI => ?_
  refine gen_eq ({ s with heap := s.heap.push { cls := .type "list_iterator", data := .fields #[.ref ax, .int 0 0] } }) fun (s₂ : Shared) hs₂ => ?_
  have up : ∀ b o, s.heap.get? b = some o → s₂.heap.get? b = some o := fun b o e => by rw [hs₂]; exact Heap.get?_push_of_some _ e
  have F₂ : Fr h₀ L s₂.heap m := F.keeps up
  have N₂ : News h₀ L s₂.heap news := N.grown up
  have hit₂ : s₂.heap.IsListIter I ax 0 := by rw [hs₂, hI]; exact ⟨_, Heap.get?_push_size _ rfl, rfl, rfl⟩
  have hIL : L ≠ I := by rw [hI]; exact Nat.ne_of_lt F.ns.lt
  have hI₀ : h₀.get? I = none := by rw [hI]; exact next_is_new F
  have offI : ∀ p ∈ news, p.1 ≠ I := fun p hp => by rw [hI]; exact Nat.ne_of_lt (Heap.lt_size (N p hp).1)
  have hsz₂ : s₂.heap.objs.size = I + 1 := by rw [hs₂, hI]; exact Heap.size_push ..
  refine kG ?_
  clear kG
  rw [← hs₂, ← hI]
  refine wpAny_newObj_type (env_cells ?_)
  rw [hcs, hpush]
  generalize hH2 : s₂.heap.push { cls := .type "list", dict := none, data := .seq ([] : List Value).toArray } = H2
  have hC : H2.objs.size = s₂.heap.objs.size + 1 := by rw [← hH2, Heap.size_push]
  refine dig fun kG => ?_
  refine gen_eq (H2.objs.size) fun C hCe => ?_
  refine gen_eq (s₂.heap.objs.size) fun D hDe => ?_
  refine gen_eq (H2.objs.size + 1) fun K hKe => ?_
  refine gen_eq ((H2.push { cls := .type "dict", data := .dict #[] }).push { cls := .type "cell", data := .cell none }) fun (h₁ : Heap) hh₁ => ?_
  have up₁ : ∀ b o, s₂.heap.get? b = some o → h₁.get? b = some o := fun b o e => by rw [hh₁]; exact Heap.get?_push_of_some _ (Heap.get?_push_of_some _ (hH2 ▸ Heap.get?_push_of_some _ e))
  have hDC : D < C := by rw [hCe, hC, hDe]; exact Nat.lt_succ_self _
  have hCK : C < K := by rw [hKe, hCe]; exact Nat.lt_succ_self _
  have hDK : D < K := Nat.lt_trans hDC hCK
  have ltD : ∀ b o, s₂.heap.get? b = some o → b < D := fun b o e => by rw [hDe]; exact Heap.lt_size e
  have hIlt : I < D := by rw [hDe, hsz₂]; exact Nat.lt_succ_self _
  have hLlt : L < D := by rw [hDe]; exact F₂.ns.lt
  have hns₁ : h₁.Ns C (fun _ => none) := by
    rw [hh₁, hCe]
    exact (Heap.Ns.new H2 (.type "dict")).keeps fun b o e => Heap.get?_push_of_some _ e
  have hcell₁ : h₁.get? K = some { cls := .type "cell", data := .cell none } := by
    rw [hh₁, hKe, ← Heap.size_push]; exact Heap.get?_push_size _ rfl
  have hacc : h₁.get? D = some (lst []) := by
    rw [hh₁]
    exact Heap.get?_push_of_some _ (Heap.get?_push_of_some _ (by rw [hDe]; exact hH2 ▸ Heap.get?_push_size _ rfl))
  have fresh₀ : ∀ a, s₂.heap.objs.size ≤ a → h₀.get? a = none := fun a ha => by
    cases e : h₀.get? a with
    | none => rfl
    | some o' => exact absurd (Heap.lt_size (F₂.keep a o' e)) (Nat.not_lt.mpr ha)
  have hD₀ : h₀.get? D = none := fresh₀ _ (by rw [hDe]; exact Nat.le_refl _)
  have hC₀ : h₀.get? C = none := fresh₀ _ (by rw [← hDe]; exact Nat.le_of_lt hDC)
  have hK₀ : h₀.get? K = none := fresh₀ _ (by rw [← hDe]; exact Nat.le_of_lt hDK)
  have hDL : D ≠ L := Nat.ne_of_gt hLlt
  have hCL : C ≠ L := Nat.ne_of_gt (Nat.lt_trans hLlt hDC)
  have hKL : K ≠ L := Nat.ne_of_gt (Nat.lt_trans hLlt hDK)
  have hID : I ≠ D := Nat.ne_of_lt hIlt
  have hIC : I ≠ C := Nat.ne_of_lt (Nat.lt_trans hIlt hDC)
  have hIK : I ≠ K := Nat.ne_of_lt (Nat.lt_trans hIlt hDK)
  have off₀ : OffIK I C K D news := fun p hp => by
    have h1 := ltD _ _ (N₂ p hp).1
    exact ⟨offI p hp, Nat.ne_of_lt (Nat.lt_trans h1 hDC), Nat.ne_of_lt (Nat.lt_trans h1 hDK), Nat.ne_of_lt h1⟩
  have haI : ax ≠ I := offI _ (hm _ _ _ h0)
  have W := Walks.list (prog := prog) (w := w) hh I ax haI xs.toArray
  rw [show xs.toArray.size = xs.length from List.size_toArray ..] at W
  have loop : ∀ s₃ : Shared, s₃ = { s₂ with heap := h₁ } →
      codeAny (model prog w) A (.compLoop (.ListComp elt [⟨.Name x px, iter, [], 0⟩] scope pos) 0 (.ref I) (.ref D) (cellEnv scope C ((x, K) :: cl) env)) (compPost (model prog w) A E (some (assign (.Name y py) env)) (fun _ s' => Q .next s') (.ref D) C) s₃ := by
    rintro s₃ rfl
    refine codeAny_compLoop_list
      (fun k s' => ∃ h' tk i ys m' nx v₀, s' = { s with heap := h', toks := tk } ∧ i ≤ xs.length ∧ k = xs.length + 1 - i ∧ ys.length = i ∧ h'.IsListIter I ax i ∧ Fr h₀ L h' m ∧ h'.Ns C m' ∧ h'.IsCell K v₀ ∧ News h₀ L h' ((D, lst ys) :: nx) ∧ OffIK I C K D nx ∧ J i ys nx) ?_ (xs.length + 1)
      ⟨h₁, _, 0, [], _, news, none, by rw [hs₂], Nat.zero_le _, rfl, rfl, hit₂.at fun o e => up₁ _ o e, F₂.keeps up₁, hns₁, ⟨_, hcell₁, rfl⟩, fun p hp => ?_, off₀, h0⟩
    · intro k s' hP_1
      refine dig fun kG => ?_
      obtain ⟨h', tk, i, ys, m', nx, v₀, rfl, hi, rfl, hyl, hit', F', hn', hK', N', off', hJ⟩ := hP_1
      have N'' : News h₀ L h' nx := fun p hp => N' p (.tail _ hp)
      refine kG ?_
      clear kG
      by_cases hlt : i < xs.length
      · refine W.item i _ _ _ hlt ⟨hit', isL_of N'' (hm _ _ _ hJ)⟩ fun v h₂ tk₂ hPv hst₂ hk₂ => ?_
        have hPv' : xs[i]? = some v := by rw [List.getElem?_toArray] at hPv; exact hPv
        have kp₂ : ∀ b o, b ≠ I → h'.get? b = some o → h₂.get? b = some o := fun b o h1 e => hk₂ _ _ (by simpa using h1) e
        refine dig fun kG => ?_
        obtain ⟨oK', hoK', hdK'⟩ := hK'
        refine kG ?_
        clear kG
        refine wpAny_assign_Name (wpAny_storeName_cell (c := K) (v₀ := v₀) (by simpa [cellEnv, relabel] using hkind) hlx (by simp [cellEnv]) ⟨oK', kp₂ _ _ (Ne.symm hIK) hoK', hdK'⟩ fun h₃ hc₃ hs₃ => ?_)
        have kp₃ : ∀ b o, b ≠ I → b ≠ K → h'.get? b = some o → h₃.get? b = some o := fun b o h1 h2 e => hs₃.extBut _ _ h2 (kp₂ _ _ h1 e)
        refine dig fun kG => ?_
        obtain ⟨oK, heK, hdK⟩ := hc₃
        have hit₃ : h₃.IsListIter I ax (i + 1) := hst₂.1.at fun o e => hs₃.extBut _ _ hIK e
        obtain ⟨oI, heI, hoI⟩ : ∃ oI : Obj, h₃.get? I = some oI ∧ ∀ h : Heap, h.get? I = some oI → h.IsListIter I ax (i + 1) := by
          refine dig fun kG => ?_
          obtain ⟨o, e, r⟩ := hit₃
          refine kG ?_
          clear kG
          exact ⟨o, e, fun h e' => ⟨o, e', r⟩⟩
        obtain ⟨oC, heC, hoC⟩ := ns_obj (hn'.at' fun o e => kp₃ _ o (Ne.symm hIC) (Nat.ne_of_lt hCK) e)
        have F₃ : Fr h₀ L h₃ m := (fr_but F' hk₂ hIL hI₀).change hs₃ hKL hK₀
        have N₃ : News h₀ L h₃ ((I, oI) :: (C, oC) :: (K, oK) :: (D, lst ys) :: nx) := fun p hp => by
          rcases List.mem_cons.mp hp with rfl | hp
          · exact ⟨heI, Ne.symm hIL, hI₀⟩
          rcases List.mem_cons.mp hp with rfl | hp
          · exact ⟨heC, hCL, hC₀⟩
          rcases List.mem_cons.mp hp with rfl | hp
          · exact ⟨heK, hKL, hK₀⟩
          rcases List.mem_cons.mp hp with rfl | hp
          · exact ⟨kp₃ _ _ (Ne.symm hID) (Nat.ne_of_lt hDK) (N' _ (.head _)).1, hDL, hD₀⟩
          · exact ⟨kp₃ _ _ (off' p hp).1 (off' p hp).2.2.1 (N'' p hp).1, (N'' p hp).2⟩
        refine kG ?_
        clear kG
        refine wpAny_mono (turn i v ys nx I oI C oC K oK D h₃ _ _ hPv' hJ hdK F₃ N₃ off' ⟨hIC, hIK, hID, Nat.ne_of_lt hCK, Nat.ne_of_gt hDC, Nat.ne_of_gt hDK⟩) (fun y s₄ h₄ => ?_) fun _ _ e => e
        refine dig fun kG => ?_
        obtain ⟨h₄, tk₄, nx₄, rfl, F₄, N₄, off₄, hJ₄⟩ := h₄
        have zD := (N₄ (D, lst ys) (.tail _ (.tail _ (.tail _ (.head _))))).1
        have N₄' : News h₀ L h₄ nx₄ := fun p hp => N₄ p (.tail _ (.tail _ (.tail _ (.tail _ hp))))
        refine kG ?_
        clear kG
        refine append_at (hsz := by rw [sizeLine_eq, List.size_toArray]; omega) zD fun h₅ hs₅ hD₅ => ?_
        refine ⟨xs.length + 1 - (i + 1), by omega, h₅, tk₄, i + 1, ys ++ [y], m', nx₄, some v, rfl, hlt, rfl, by rw [List.length_append, List.length_singleton, hyl], ?_, F₄.change hs₅ hDL hD₀, ?_, ⟨oK, ?_, hdK⟩, fun p hp => ?_, off₄, hJ₄⟩
        · exact hoI h₅ (hs₅.extBut _ _ hID (N₄ (I, oI) (.head _)).1)
        · exact (hoC.ns (N₄ (C, oC) (.tail _ (.head _))).1).sameBut hs₅ (Nat.ne_of_gt hDC)
        · exact hs₅.extBut _ _ (Nat.ne_of_gt hDK) (N₄ (K, oK) (.tail _ (.tail _ (.head _)))).1
        · rcases List.mem_cons.mp hp with rfl | hp
          · exact ⟨hD₅.trans (congrArg some (lst_snoc ys y)), hDL, hD₀⟩
          · exact ⟨hs₅.extBut _ _ (off₄ p hp).2.2.2 (N₄' p hp).1, (N₄' p hp).2⟩
      · obtain rfl : i = xs.length := Nat.le_antisymm hi (Nat.not_lt.mp hlt)
        refine W.done _ _ _ ⟨hit', isL_of N'' (hm _ _ _ hJ)⟩ fun h₂ tk₂ hk₂ => ?_
        have kp₂ : ∀ b o, b ≠ I → h'.get? b = some o → h₂.get? b = some o := fun b o h1 e => hk₂ _ _ (by simpa using h1) e
        show wpAny _ A (assign (.Name y py) env (.ref D)) _ _ _
        have F₂' : Fr h₀ L h₂ m := fr_but F' hk₂ hIL hI₀
        have hL₀ : h₀.get? L = none := Heap.get?_none_of_le F₂'.above
        refine wpAny_assign_Name (wpAny_storeName_local hy (hLL ▸ F₂'.ns) (fun h₃ hn₃ hs₃ => ?_) hp0)
        rw [← hLL] at hn₃ hs₃
        have F₃ : Fr h₀ L h₃ (fun z => if z = y then some (.ref D) else m z) := ⟨hn₃, fun b o e => hs₃.extBut b o (fun q => by rw [q, hL₀] at e; cases e) (F₂'.keep b o e), F₂'.above⟩
        refine ⟨m', (hn'.at' fun o e => kp₂ _ _ (Ne.symm hIC) e).sameBut hs₃ hCL, fun h₄ hs₄ => done D h₄ _ ys nx hJ (F₃.change hs₄ hCL hC₀) (fun p hp => ?_) (fun p hp => (off' p hp).2.2.2)⟩
        rcases List.mem_cons.mp hp with rfl | hp
        · exact ⟨hs₄.extBut _ _ (Nat.ne_of_lt hDC) (hs₃.extBut _ _ hDL (kp₂ _ _ (Ne.symm hID) (N' _ (.head _)).1)), hDL, hD₀⟩
        · exact ⟨hs₄.extBut _ _ (off' p hp).2.1 (hs₃.extBut _ _ (N'' p hp).2.1 (kp₂ _ _ (off' p hp).1 (N'' p hp).1)), (N'' p hp).2⟩
    · rcases List.mem_cons.mp hp with rfl | hp
      · exact ⟨hacc, hDL, hD₀⟩
      · exact ⟨up₁ _ _ (N₂ p hp).1, (N₂ p hp).2⟩
  have fin := codeAny_compStart_list (loop _ rfl) (W.self 0 _ _ _ ⟨hit₂.at fun o e => up₁ _ o e, isL_of (N₂.grown up₁) (hm _ _ _ h0)⟩ (loop _ rfl))
  rw [hDe, hCe, hKe, hh₁] at fin
  refine kG ?_
  clear kG
  exact fin
end
end Mine
end

-- text M1
section
open PySem PySem.W PyProof.Rows PySem.Calls PyProof.Rows.LCg PyProof.Rows.LCt
set_option maxRecDepth 100000
set_option maxHeartbeats 2000000
namespace Mine
local macro_rules | `(tactic| k_mem) => `(tactic| assumption)
local macro_rules | `(tactic| walk_at "call ref") => `(tactic| (k_here; refine Hold.mk ?_))
local macro_rules | `(tactic| walk_at "eval ListComp") => `(tactic| (k_here; refine Hold.mk ?_))
local macro_rules | `(tactic| walk_at "exec Assign cons ListComp") => `(tactic| (k_here; refine Hold.mk ?_))
local macro_rules | `(tactic| walk_at "call builtin:len") => `(tactic| (k_here; k_dflt (refine' len_led ?z (by k_asm) (by k_mem) ?_; (case z => assumption)); intro t' tk'))
local macro_rules | `(tactic| walk_at "CompSrc") => `(tactic| (k_here; refine Hold.mk ?_))
local macro_rules | `(tactic| walk_at "compareOp NotEq ref ref") => `(tactic| (k_here; refine Hold.mk ?_))
local macro_rules | `(tactic| walk_at "compareOp Eq ref ref") => `(tactic| (k_here; refine Hold.mk ?_))
local macro_rules | `(tactic| is_list) => `(tactic| (refine' isL_of (by k_asm) (by k_mem)))
local macro_rules | `(tactic| walk_at "CompSrcT") => `(tactic| (k_here; refine Hold.mk ?_))
theorem name_in_cells {M : Model} {A : Around} {E : Value → Shared → Prop} {s : Shared} {h₀ : Heap} {L : Addr} {news : List (Addr × Obj)} {env : Env} {x : Str} {pos : Pos} {c : Addr} {o : Obj} {v : Value} {Q : Value → Shared → Prop} (N : News h₀ L s.heap news) (hm : (c, o) ∈ news) (hd : o.data = .cell (some v)) (hk : env.scope.kind = .function) (hx : env.kindOf x = some .cell) (hc : env.cells.lookup x = some c) (hb : (x == ("__debug__" : Str)) = false) (h : Q v s) :
    wpAny M A (eval (.Name x pos) env) Q E s := wpAny_Name (wpAny_loadName_cell hk hx hc ⟨o, (N _ hm).1, hd⟩ h) hb
theorem model_walk (w : World) {loose : List Str} {mean : ExcName → Option Value} {mg mb : Str → Option Value}
  {dp un : Nat} {gd : Option (List Code)} {cn : Str} {cs : Scope} {a : Addr} {ccd : Value} {cl : List (Str × Addr)} {outer : List Env} {A₀ : Around} {base h₀ : Heap} {L : Addr} {m : Str → Option Value} {s : Shared} {Q E : Value → Shared → Prop}
  {news pw : List (Addr × Obj)} {P : Part} {v : Value} {H nmA kn : Nat} {nmv : List Value}
  (B : Below A₀ base outer h₀) (F : Fr h₀ L s.heap m) (X : (hd.heap_39 w.params).In h₀) (N : News h₀ L s.heap news) (hP : PartIn pw P v) (hK : ∀ p ∈ pw, p ∈ news) (hn : P.size ≤ 30) (hH : P.height ≤ H) (hs : (P.subs 0).length ≤ 100)
  (hnm : (nmA, listOf nmv.toArray kn) ∈ news) (hns : StrsAre nmv P.names) (hsm : ∀ x ∈ P.subs 0, x.2.parts.length ≤ 100)
  (T : Top hd.view_39 loose mean mg mb h₀) (hk : cs.kind = .function) (hdp : dp + (100 * H + 300) < recursionLimit) (hu : un + (600 * H + 1500) < cLine)
  (hret : ∀ h' tk', Fr h₀ L h' m → News h₀ L h' news → Q (.bool true) { s with heap := h', toks := tk' }) :
  wpAny (model PySem.Challenge.rw_xw0200_01.row.prog w) (ktrTop dp un gd cn cs L a ccd cl outer) (call (.ref 167) [v, .ref nmA]) Q E s := by
  have hnl : nmv.length ≤ 1000 := by
    have := hns.length
    rw [this, Part.names_length]; omega
  have hvr : ∃ vt, v = .ref vt := by
    cases P with
    | name nm mk => simp only [PartIn] at hP; obtain ⟨t, k, t1, t2, t3, rfl, _⟩ := hP; exact ⟨_, rfl⟩
    | node s ps mk => simp only [PartIn] at hP; obtain ⟨t, k, t1, t3, a, vs, k2, rfl, _⟩ := hP; exact ⟨_, rfl⟩
  refine dig fun kG => ?_
  obtain ⟨vt, rfl⟩ := hvr
  refine kG ?_
  clear kG
  w_top off
  revert X; k_fill; intro X
  refine wpAny_call ?_
  k_dflt (walk_at "mine_enterC")
  rename_i g L₁ h₁ tk₁ FG F₁ B₁ X₁ T₁ l1 o1 o2 o3 d1 d2 d3 N₁
  have C := init_c (w := w) (news := (L₁ + 1 + 1 + 1, o1) :: (L₁ + 1 + 1, o2) :: (L₁ + 1, o3) :: news) hP (fun p hp => .tail _ (.tail _ (.tail _ (hK p hp)))) hn hH
  k_steps
  refine Hold.out ?_
  refine' CallSpec.use C ?kB ?kF ?kX ?kN ?kT ?kk ?kd ?ku ?_
  case kB => k_asm
  case kF => k_asm
  case kX => k_asm
  case kN => k_asm
  case kT => k_asm
  case kk => exact rfl
  case kd => first | exact room2 hdp (by decide) | exact room2s hdp (by decide) | exact room2h hdp (by assumption) (by decide) | exact room2hs hdp (by assumption) (by decide) | exact room2c hdp (by decide) | exact room1 hdp (by decide) | exact room1c hdp (by decide) | ktr_room
  case ku => first | exact room2 hu (by decide) | exact room2s hu (by decide) | exact room2h hu (by assumption) (by decide) | exact room2hs hu (by assumption) (by decide) | exact room2c hu (by decide) | exact room1 hu (by decide) | exact room1c hu (by decide) | ktr_units
  intro b₁ r h₂ tk₂ led lt₁ F₂ N₂ hp
  refine dig fun kG => ?_
  obtain ⟨x, rfl, hkeep, hA⟩ := hp
  have kn1 : ∀ p ∈ news, p ∈ led := fun p hp => hkeep p (.tail _ (.tail _ (.tail _ hp)))
  have mc3 := hkeep _ (.head _)
  have mc2 := hkeep _ (.tail _ (.head _))
  have mc1 := hkeep _ (.tail _ (.tail _ (.head _)))
  refine gen_eq ([L₁ + 1 + 1 + 1, L₁ + 1 + 1, L₁ + 1]) fun (cw : List Addr) hcw => ?_
  have hcells : CellsAt led cw := by
    intro z hz
    rw [hcw] at hz
    rcases List.mem_cons.mp hz with rfl | hz
    · exact ⟨_, _, mc3, d1⟩
    rcases List.mem_cons.mp hz with rfl | hz
    · exact ⟨_, _, mc2, d2⟩
    · rw [List.mem_singleton.mp hz]; exact ⟨_, _, mc1, d3⟩
  refine gen_eq (offs cw led) fun r1 hr1 => ?_
  have hA1 := AutoIn.off N₂ hcells hA
  rw [← hr1] at hA1
  have hoff1 : OwnOff r1 [L₁ + 1 + 1 + 1, L₁ + 1 + 1, L₁ + 1] := by rw [hr1, ← hcw]; exact offs_off _ _
  have kn2 : ∀ p ∈ news, p ∈ r1 := fun p hp => by
    rw [hr1]
    refine mem_offs.mpr ⟨kn1 p hp, fun hz => ?_⟩
    have h1 := ltN (l1 p hp)
    rw [hcw] at hz
    rcases List.mem_cons.mp hz with hz | hz
    · have : @Eq Nat p.1 (L₁ + 1 + 1 + 1) := hz
      omega
    rcases List.mem_cons.mp hz with hz | hz
    · have : @Eq Nat p.1 (L₁ + 1 + 1) := hz
      omega
    · have : @Eq Nat p.1 (L₁ + 1) := List.mem_singleton.mp hz
      omega
  have N₃ : News g L₁ h₂ ((L₁ + 1 + 1 + 1, o1) :: (L₁ + 1 + 1, o2) :: (L₁ + 1, o3) :: r1) := nw_sub N₂ fun p hp => by
    rcases List.mem_cons.mp hp with rfl | hp
    · exact mc3
    rcases List.mem_cons.mp hp with rfl | hp
    · exact mc2
    rcases List.mem_cons.mp hp with rfl | hp
    · exact mc1
    · rw [hr1] at hp; exact (mem_offs.mp hp).1
  have hnm2 := kn2 _ hnm
  clear N₂ N₁ F₁
  refine kG ?_
  clear kG
  k_steps
  rename_i lN hA1' ltN' tA tkA hA2 tkB tB tC tD rgX upX pl vsp cp hA3 tkC hIp ltp DT hA4 ltD hA5 hA6 oa da hA7 ob db hA8 oc F₃ N₄ dc
  refine Hold.out ?_
  refine dig fun kG => ?_
  refine gen_eq ((DT, ({ cls := .type "tuple", data := .seq #[Value.ref x, Value.ref lN, Value.ref pl] } : Obj)) :: (pl, listOf vsp.toArray cp) :: (lN, listOf #[] 0) :: (L₁ + 1 + 1 + 1, oc) :: (L₁ + 1 + 1, ob) :: (L₁ + 1, oa) :: r1) fun ld2 hld2 => ?_
  rw [← hld2] at N₄
  have up2 : ∀ p ∈ r1, p ∈ ld2 := fun p hp => by rw [hld2]; exact .tail _ (.tail _ (.tail _ (.tail _ (.tail _ (.tail _ hp)))))
  have mN : (lN, listOf (([] : List Value).toArray) 0) ∈ ld2 := by rw [hld2]; exact .tail _ (.tail _ (.head _))
  have C2 := fun u => node_all w pw P.size P ld2 (.ref vt) 0 u lN 0 [] hP (fun p hp => ⟨up2 _ (kn2 _ (hK p hp)), (by
    have h1 := (ktn_ltOf ltN'.2.2.2) p (kn2 _ (hK p hp))
    exact Nat.ne_of_lt h1)⟩) mN (by omega) hn (by simpa using hs)
  refine kG ?_
  clear kG
  refine' CallSpec.use (C2 _) ?kB ?kF ?kX ?kN ?kT ?kk ?kd ?ku ?_
  case kB => k_asm
  case kF => k_asm
  case kX => k_asm
  case kN => k_asm
  case kT => k_asm
  case kk => exact rfl
  case kd => first | exact room2 hdp (by decide) | exact room2s hdp (by decide) | exact room2h hdp (by assumption) (by decide) | exact room2hs hdp (by assumption) (by decide) | exact room2c hdp (by decide) | exact room1 hdp (by decide) | exact room1c hdp (by decide) | ktr_room
  case ku => first | exact room2 hu (by decide) | exact room2s hu (by decide) | exact room2h hu (by assumption) (by decide) | exact room2hs hu (by assumption) (by decide) | exact room2c hu (by decide) | exact room1 hu (by decide) | exact room1c hu (by decide) | ktr_units
  intro b₂ r h₃ tk₃ led3 lt₂ F₄ N₅ hp
  refine dig fun kG => ?_
  obtain ⟨DD, kD, cD, tkD, nd, sv, seg, rfl, hbD, hbs, hnode, hsubs, rfl⟩ := hp
  refine gen_eq ((lN, listOf ([] ++ sv).toArray cD) :: (seg ++ offs [lN] ld2)) fun ld3 hld3 => ?_
  rw [← hld3] at N₅
  have tr3 : ∀ p ∈ ld2, p.1 ≠ lN → p ∈ ld3 := fun p hp hq => by rw [hld3]; exact .tail _ (List.mem_append_right _ (mem_offs.mpr ⟨hp, by simpa using hq⟩))
  have hr1n : ∀ p ∈ r1, p ∈ ld3 := fun p hp => tr3 p (up2 p hp) (Nat.ne_of_lt ((ktn_ltOf ltN'.2.2.2) p hp))
  have sg3 : ∀ p ∈ seg, p ∈ ld3 := fun p hp => by rw [hld3]; exact .tail _ (List.mem_append_left _ hp)
  have mN3 : (lN, listOf sv.toArray cD) ∈ ld3 := by rw [hld3]; exact .head _
  have mp3 : (pl, listOf vsp.toArray cp) ∈ ld3 := tr3 _ (by rw [hld2]; exact .tail _ (.head _)) (Nat.ne_of_gt ltp.1)
  have mc33 : (L₁ + 1 + 1 + 1, oc) ∈ ld3 := tr3 _ (by rw [hld2]; exact .tail _ (.tail _ (.tail _ (.head _)))) (Nat.ne_of_lt ltN'.1)
  have mc23 : (L₁ + 1 + 1, ob) ∈ ld3 := tr3 _ (by rw [hld2]; exact .tail _ (.tail _ (.tail _ (.tail _ (.head _))))) (Nat.ne_of_lt ltN'.2.1)
  have mc13 : (L₁ + 1, oa) ∈ ld3 := tr3 _ (by rw [hld2]; exact .tail _ (.tail _ (.tail _ (.tail _ (.tail _ (.head _)))))) (Nat.ne_of_lt ltN'.2.2.1)
  have hA3 := hA1.mono hr1n
  have hnm3 := hr1n _ hnm2
  have hnode3 := NodeIn.mono sg3 P hnode
  have hsubs3 := hsubs.mono sg3
  have hplc : IntsAre vsp ((List.range P.size).map fun (i : Nat) => (i : Int) + 1) := by
    have e : rangeKs 1 (((nmv.length : Nat) : Int) + 1 - 1).toNat = (List.range P.size).map fun (i : Nat) => (i : Int) + 1 := by
      have h1 := hns.length
      rw [Part.names_length] at h1
      unfold rangeKs
      rw [show (((nmv.length : Nat) : Int) + 1 - 1).toNat = P.size by omega]
      refine List.map_congr_left fun i _ => ?_
      omega
    rw [← e]; exact hIp
  clear N₄ F₃ C2 C
  have hnd := hnode3.head
  obtain ⟨ndvs, nda, ndb, nde, ndp, ndk, ndkb, ndke, ndkp, ndt, ndbs, ndes, rfl, nd1, nd2, nd3, nd4, nd5, nd6⟩ := hnd
  refine kG ?_
  clear kG
  k_steps
  rename_i hB1 hB2 F₅ N₆
  refine Hold.out ?_
  refine dig fun kG => ?_
  refine gen_eq ((DD, tupOf #[Value.ref nda, .int ((0 + P.size : Nat) : Int) tkD] kD) :: ld3) fun ld4 hld4 => ?_
  rw [← hld4] at N₆
  have up4 : ∀ p ∈ ld3, p ∈ ld4 := fun p hp => by rw [hld4]; exact .tail _ hp
  have hA4' := hA3.mono up4
  have k1 := up4 _ mc13
  have k2 := up4 _ mc23
  have k3 := up4 _ mc33
  have k4 := up4 _ mp3
  have k5 := up4 _ mN3
  have k6 := up4 _ hnm3
  have hvl : vsp.length = P.size := by rw [hplc.length]; simp
  refine kG ?_
  clear kG
  k_dflt refine ListComp_U (F₀ := by k_asm) (by with_unfolding_all rfl) (by decide) (by rfl) (by decide) (by rfl) ?_
  k_steps
  refine Hold.out ?_
  refine srcU_led (vs := vsp) (k := cp) (news := ld4) (fun i ys nx => nx = ld4 ∧ StrsAre ys (P.names.take i)) (by rfl) F₅ N₆ (by omega) (fun i ys nx hj => by rw [hj.1]; exact k4) ⟨rfl, .nil⟩ ?_ ?_
  · intro i v ys nx I oI C oC D m₂ h5 tk5 E' hP_1 hP_2 hC hm F₆ N₇ hoff₆ hne
    refine dig fun kG => ?_
    obtain ⟨hi, hv⟩ := hP_1
    obtain ⟨rfl, hys⟩ := hP_2
    revert F₆ N₇
    intro F₆ N₇
    obtain ⟨tv, hv'⟩ := hplc.get i ((i : Int) + 1) (by rw [List.getElem?_map, List.getElem?_range (by omega)]; rfl)
    rw [hv'] at hv
    obtain rfl := Option.some.inj hv
    have hin : i < P.names.length := by rw [Part.names_length]; omega
    have hAt := hA4'.mono (led' := (I, oI) :: (C, oC) :: (D, lst ys) :: nx) (fun p hp => .tail _ (.tail _ (.tail _ hp)))
    obtain ⟨dx, na, fa, F0, L0, S, g1, g2, g3, g4, g5, t1, t2, t3, t4, t5, kd, c1, c2, fs, ls, hna, hfa, m1, m2, m3, hok, m4, hfs, m5, hls, hx5, hd5⟩ := hA4'.all
    have Cn := fun u => name_c (u := u) (i := i) (k := (i : Int) + 1) hAt (List.getElem?_eq_getElem hin) rfl hn
    refine kG ?_
    clear kG
    k_steps
    refine Hold.out ?_
    refine' CallSpec.use (Cn _) ?kB ?kF ?kX ?kN ?kT ?kk ?kd ?ku ?_
    case kB => k_asm
    case kF => k_asm
    case kX => k_asm
    case kN => k_asm
    case kT => k_asm
    case kk => exact rfl
    case kd => first | exact room2 hdp (by decide) | exact room2s hdp (by decide) | exact room2h hdp (by assumption) (by decide) | exact room2hs hdp (by assumption) (by decide) | exact room2c hdp (by decide) | exact room1 hdp (by decide) | exact room1c hdp (by decide) | ktr_room
    case ku => first | exact room2 hu (by decide) | exact room2s hu (by decide) | exact room2h hu (by assumption) (by decide) | exact room2hs hu (by assumption) (by decide) | exact room2c hu (by decide) | exact room1 hu (by decide) | exact room1c hu (by decide) | ktr_units
    intro b₃ r h6 tk6 nx' lt₃ F₇ N₈ hp
    refine dig fun kG => ?_
    obtain ⟨⟨tr, rfl⟩, rfl⟩ := hp
    refine kG ?_
    clear kG
    exact CompEnd.intro F₇ N₈ _ (fun p hp => hp) hoff₆ trivial ⟨rfl, by
      rw [List.take_add_one, List.getElem?_eq_getElem hin]
      exact hys.append' (.cons _ _ .nil)⟩
  · intro gg ys nx hP_3 D1 h5 tk5 F₆ N₇ ho1
    refine dig fun kG => ?_
    obtain ⟨e1, hys⟩ := hP_3
    subst e1
    rw [hvl, ← Part.names_length, List.take_length] at hys
    refine gen_eq (ys.length) fun yn hyn => ?_
    have N₈ : News g L₁ h5 ((D1, listOf ys.toArray yn) :: nx) := by rw [hyn]; exact N₇
    clear N₇ N₆ F₅
    refine kG ?_
    clear kG
    k_steps
    refine Hold.out ?_
    refine ne_lists (by k_asm) (.head _) (.tail _ k6) (hys.length.trans hns.length.symm) (by first | exact room1 hu (by decide) | exact room1c hu (by decide) | exact room2 hu (by decide) | exact room2c hu (by decide) | ktr_units) (strs_eq hys hns) ?_
    refine dig fun kG => ?_
    obtain ⟨dx, na, fa, F0, L0, S, g1, g2, g3, g4, g5, t1, t2, t3, t4, t5, kd, c1, c2, fs, ls, hna, hfa, m1, m2, m3, hok, m4, hfs, m5, hls, hx5, hd5⟩ := hA4'.all
    have Cb := fun u => behind_c (u := u) (k := 0) hA4' (by omega) (by omega) hn
    have N₉ : News g L₁ h5 nx := nw_sub N₈ fun p hp => .tail _ hp
    clear N₈
    have nd1' := up4 _ nd1
    have nd2' := up4 _ nd2
    have nd4' := up4 _ nd4
    refine kG ?_
    clear kG
    k_steps
    refine Hold.out ?_
    refine' CallSpec.use (Cb _) ?kB ?kF ?kX ?kN ?kT ?kk ?kd ?ku ?_
    case kB => k_asm
    case kF => k_asm
    case kX => k_asm
    case kN => k_asm
    case kT => k_asm
    case kk => exact rfl
    case kd => first | exact room2 hdp (by decide) | exact room2s hdp (by decide) | exact room2h hdp (by assumption) (by decide) | exact room2hs hdp (by assumption) (by decide) | exact room2c hdp (by decide) | exact room1 hdp (by decide) | exact room1c hdp (by decide) | ktr_room
    case ku => first | exact room2 hu (by decide) | exact room2s hu (by decide) | exact room2h hu (by assumption) (by decide) | exact room2hs hu (by assumption) (by decide) | exact room2c hu (by decide) | exact room1 hu (by decide) | exact room1c hu (by decide) | ktr_units
    intro b₃ r h6 tk6 nx' lt₃ F₇ N₁₀ hp
    refine dig fun kG => ?_
    obtain ⟨⟨bA, bvs, bc, rfl, hbm, hbi⟩, hnx'⟩ := hp
    subst hnx'
    clear N₉
    refine kG ?_
    clear kG
    k_steps
    rename_i lB hC1 ltB lW hC2 F₈ N₁₁ ltW
    refine Hold.out ?_
    have hbi' : IntsAre bvs (sel P.size (P.first 0)) := by simpa using hbi
    refine ne_lists (vs := [.bool P.null, .ref bA, .ref L0]) (us := [.bool P.null, .ref ndb, .ref nde]) (by k_asm) (.tail _ (.head _)) (.head _) rfl (by first | exact room1 hu (by decide) | exact room1c hu (by decide) | exact room2 hu (by decide) | exact room2c hu (by decide) | ktr_units) ?_ ?_
    · intro j v u hv hu
      match j with
      | 0 =>
        cases hv; cases hu
        exact SeqAt.EqAt.same _
      | 1 =>
        cases hv; cases hu
        exact eq_refs N₁₁ (.tail _ (.tail _ hbm)) (.tail _ (.tail _ nd2')) hbi' nd3 (by first | exact room1 hu (by decide) | exact room1c hu (by decide) | exact room2 hu (by decide) | exact room2c hu (by decide) | ktr_units)
      | 2 =>
        cases hv; cases hu
        exact eq_refs N₁₁ (.tail _ (.tail _ m5)) (.tail _ (.tail _ nd4')) hls nd5 (by first | exact room1 hu (by decide) | exact room1c hu (by decide) | exact room2 hu (by decide) | exact room2c hu (by decide) | ktr_units)
      | j + 3 => simp at hv
    have N₁₂ : News g L₁ hC2 nx' := nw_sub N₁₁ fun p hp => .tail _ (.tail _ hp)
    clear N₁₁
    k_steps
    refine Hold.out ?_
    k_dflt refine cell_comp_to (x := Str.ofString "place") (xs := vsp) (ax := pl) (k := cp) (cl := [(Str.ofString "places", L₁ + 1 + 1 + 1), (Str.ofString "nodes", L₁ + 1 + 1)]) (fun i ys nz => (∀ p ∈ nx', p ∈ nz) ∧ ys.length = i ∧ ∀ (j : Nat) v, ys[j]? = some v → ∃ A vs c, v = .ref A ∧ (A, listOf vs.toArray c) ∈ nz ∧ IntsAre vs (sel P.size (P.fol 0 ((j : Int) + 1)))) F₈ N₁₂ (fun i ys nz hj => hj.1 _ k4) (by omega) (by rfl) ⟨fun p hp => hp, rfl, fun j v hv => by simp at hv⟩
      (by with_unfolding_all rfl) (by rfl) (by decide) (by rfl) (fun n => by rfl) (fun h => by rfl) (by rfl) (by with_unfolding_all rfl) (by rfl) (by rfl) ?_ ?_ ?_
    · intro Q' hq'
      k_steps
      exact hq'
    · intro i v ys nz I oI C oC K oK D h7 tk7 E' hv hP_4 hoK F₉ N₁₃ hoff9 hne
      refine dig fun kG => ?_
      obtain ⟨hsub, hyl, hys⟩ := hP_4
      refine gen_eq ((I, oI) :: (C, oC) :: (K, oK) :: (D, lst ys) :: nz) fun led hled => ?_
      rw [← hled] at N₁₃
      have upz : ∀ p ∈ nz, p ∈ led := fun p hp => by rw [hled]; exact .tail _ (.tail _ (.tail _ (.tail _ hp)))
      have z2 := upz _ (hsub _ k2)
      have z3 := upz _ (hsub _ k3)
      have z4 := upz _ (hsub _ k4)
      have z5 := upz _ (hsub _ k5)
      have zK : (K, oK) ∈ led := by rw [hled]; exact .tail _ (.tail _ (.head _))
      have hi : i < P.size := by have := (List.getElem?_eq_some_iff.mp hv).1; omega
      obtain ⟨tv, hv'⟩ := hplc.get i ((i : Int) + 1) (by rw [List.getElem?_map, List.getElem?_range hi]; rfl)
      rw [hv'] at hv
      obtain rfl := Option.some.inj hv
      refine kG ?_
      clear kG
      k_dflt refine LCt.ListComp_T (F₀ := by k_asm) (by with_unfolding_all rfl) (by decide) (by rfl) (by decide) (by rfl) ?_
      k_dflt refine name_in_cells N₁₃ z3 dc (by rfl) (by rfl) (by rfl) (by decide) ?_
      refine srcT_led (vs := vsp) (k := cp) (news := led) (fun j zs nx => nx = led ∧ IntsAre zs (((List.range j).map fun (i : Nat) => (i : Int) + 1).filter (P.fol 0 ((i : Int) + 1)))) (by rfl) F₉ N₁₃ (by omega) (fun j zs nx hj => by rw [hj.1]; exact z4) ⟨rfl, .nil⟩ ?_ ?_
      · intro j v zs nx I2 oI2 C2 oC2 D2 m₂ h8 tk8 E2 hP_5 hP_6 hC hm F₁₀ N₁₄ hoff10 hne2
        refine dig fun kG => ?_
        obtain ⟨hj, hv2⟩ := hP_5
        obtain ⟨hnx, hzs⟩ := hP_6
        subst hnx
        obtain ⟨tv2, hv2'⟩ := hplc.get j ((j : Int) + 1) (by rw [List.getElem?_map, List.getElem?_range (by omega)]; rfl)
        rw [hv2'] at hv2
        obtain rfl := Option.some.inj hv2
        have mK2 : (K, oK) ∈ (I2, oI2) :: (C2, oC2) :: (D2, lst zs) :: nx := .tail _ (.tail _ (.tail _ zK))
        have mN2 : (L₁ + 1 + 1, ob) ∈ (I2, oI2) :: (C2, oC2) :: (D2, lst zs) :: nx := .tail _ (.tail _ (.tail _ z2))
        have upx : ∀ p ∈ ld3, p ∈ (I2, oI2) :: (C2, oC2) :: (D2, lst zs) :: nx := fun p hp => .tail _ (.tail _ (.tail _ (upz _ (hsub _ (up4 p hp)))))
        have Cf := fun u v => follows_c (w := w) (u := u) (v := v) (N₀ := P.size) (p := (i : Int) + 1) (q := (j : Int) + 1) (upx _ mN3) (hsubs3.mono upx) (by rw [hsubs3.length]; omega) (by omega) (by omega) (by omega) (by omega) hsm
        refine kG ?_
        clear kG
        k_steps
        refine Hold.out ?_
        refine' CallSpec.use (Cf _ _) ?kB ?kF ?kX ?kN ?kT ?kk ?kd ?ku ?_
        case kB => k_asm
        case kF => k_asm
        case kX => k_asm
        case kN => k_asm
        case kT => k_asm
        case kk => exact rfl
        case kd => first | exact room2 hdp (by decide) | exact room2s hdp (by decide) | exact room2h hdp (by assumption) (by decide) | exact room2hs hdp (by assumption) (by decide) | exact room2c hdp (by decide) | exact room1 hdp (by decide) | exact room1c hdp (by decide) | ktr_room
        case ku => first | exact room2 hu (by decide) | exact room2s hu (by decide) | exact room2h hu (by assumption) (by decide) | exact room2hs hu (by assumption) (by decide) | exact room2c hu (by decide) | exact room1 hu (by decide) | exact room1c hu (by decide) | ktr_units
        intro b₃ r h9 tk9 nw lt₃ F₁₁ N₁₅ hp
        refine dig fun kG => ?_
        obtain ⟨rfl, rfl⟩ := hp
        refine kG ?_
        clear kG
        rw [← fol_any]
        have erg : ((List.range (j + 1)).map fun (i : Nat) => (i : Int) + 1).filter (P.fol 0 ((i : Int) + 1)) = ((List.range j).map fun (i : Nat) => (i : Int) + 1).filter (P.fol 0 ((i : Int) + 1)) ++ [(j : Int) + 1].filter (P.fol 0 ((i : Int) + 1)) := by
          rw [List.range_succ, List.map_append, List.filter_append]; rfl
        cases hf : P.fol 0 ((i : Int) + 1) ((j : Int) + 1) with
        | true =>
          k_steps
          exact CompEnd.intro F₁₁ N₁₅ _ (fun p hp => hp) hoff10 trivial ⟨rfl, by rw [erg]; simp only [List.filter_cons, hf, if_true, List.filter_nil]; exact hzs.append (.cons _ _ .nil)⟩
        | false =>
          k_steps
          exact CompEnd.intro F₁₁ N₁₅ _ (fun p hp => hp) hoff10 trivial ⟨rfl, by rw [erg]; simp only [List.filter_cons, hf, Bool.false_eq_true, if_false, List.filter_nil, List.append_nil]; exact hzs⟩
      · intro gg zs nx hP_7 D9 h9 tk9 F₁₁ N₁₅ ho9
        refine dig fun kG => ?_
        obtain ⟨hnx, hzs⟩ := hP_7
        subst hnx
        rw [hvl] at hzs
        have o9 := off1_mem ho9
        refine kG ?_
        clear kG
        refine ⟨h9, tk9, (D9, lst zs) :: nz, rfl, F₁₁, nw_sub N₁₅ fun p hp => ?_, fun p hp => ?_, fun p hp => .tail _ (hsub p hp), by rw [List.length_append, hyl]; rfl, fun j' v hv => ?_⟩
        · rw [hled]
          rcases List.mem_cons.mp hp with rfl | hp
          · exact .tail _ (.head _)
          rcases List.mem_cons.mp hp with rfl | hp
          · exact .tail _ (.tail _ (.head _))
          rcases List.mem_cons.mp hp with rfl | hp
          · exact .tail _ (.tail _ (.tail _ (.head _)))
          rcases List.mem_cons.mp hp with rfl | hp
          · exact .tail _ (.tail _ (.tail _ (.tail _ (.head _))))
          rcases List.mem_cons.mp hp with rfl | hp
          · exact .head _
          · exact .tail _ (.tail _ (.tail _ (.tail _ (.tail _ hp))))
        · rcases List.mem_cons.mp hp with rfl | hp
          · exact ⟨Ne.symm (o9 (I, oI) (by rw [hled]; exact .head _)), Ne.symm (o9 (C, oC) (by rw [hled]; exact .tail _ (.head _))), Ne.symm (o9 _ zK), Ne.symm (o9 (D, lst ys) (by rw [hled]; exact .tail _ (.tail _ (.tail _ (.head _)))))⟩
          · exact hoff9 p hp
        · by_cases hj : j' < ys.length
          · rw [List.getElem?_append_left hj] at hv
            refine dig fun kG => ?_
            obtain ⟨A, vs, c, e, hm, hi'⟩ := hys j' v hv
            refine kG ?_
            clear kG
            exact ⟨A, vs, c, e, .tail _ hm, hi'⟩
          · rw [List.getElem?_append_right (by omega)] at hv
            have hj0 : j' - ys.length = 0 := by
              have := (List.getElem?_eq_some_iff.mp hv).1
              simp at this; omega
            rw [hj0] at hv
            obtain rfl := Option.some.inj hv
            have hji : j' = i := by omega
            subst hji
            exact ⟨D9, zs, zs.length, rfl, .head _, hzs⟩
    · intro dA h7 tk7 ys nz hP_8 F₉ N₁₃ ho
      refine dig fun kG => ?_
      obtain ⟨hsub, hyl, hys⟩ := hP_8
      refine gen_eq (ys.length) fun yn hyn => ?_
      refine gen_eq ((dA, listOf ys.toArray yn) :: nz) fun led hled => ?_
      have N₁₄ : News g L₁ h7 led := by rw [hled, hyn]; exact N₁₃
      have upl : ∀ p ∈ nx', p ∈ led := fun p hp => by rw [hled]; exact .tail _ (hsub p hp)
      have z1 := upl _ k1
      have z3 := upl _ k3
      have z4 := upl _ k4
      have hA5 := hA4'.mono upl
      have m1' := upl _ m1
      have m2' := upl _ m2
      have hdm : (dA, listOf ys.toArray yn) ∈ led := by rw [hled]; exact .head _
      clear N₁₃ N₁₂
      refine kG ?_
      clear kG
      k_steps
      refine Hold.out ?_
      k_dflt refine ListComp_U (F₀ := by k_asm) (by with_unfolding_all rfl) (by decide) (by rfl) (by decide) (by rfl) ?_
      k_steps
      refine Hold.out ?_
      refine srcU_led (vs := vsp) (k := cp) (news := led) (fun i us nx => nx = led ∧ us.length = i ∧ ∀ (j : Nat) v, us[j]? = some v → ∃ A vs c, v = .ref A ∧ (A, listOf vs.toArray c) ∈ led ∧ IntsAre vs (sel P.size (P.fol 0 ((j : Int) + 1)))) (by rfl) F₉ N₁₄ (by omega) (fun i us nx hj => by rw [hj.1]; exact z4) ⟨rfl, rfl, fun j v hv => by simp at hv⟩ ?_ ?_
      · intro i v us nx I oI C oC D m₂ h8 tk8 E' hP_9 hP_10 hC hm F₁₀ N₁₅ hoff10 hne
        refine dig fun kG => ?_
        obtain ⟨hi, hv⟩ := hP_9
        obtain ⟨hnx, hul, hus⟩ := hP_10
        subst hnx
        obtain ⟨tv, hv'⟩ := hplc.get i ((i : Int) + 1) (by rw [List.getElem?_map, List.getElem?_range (by omega)]; rfl)
        rw [hv'] at hv
        obtain rfl := Option.some.inj hv
        have Cb2 := fun u => behind_c2 (news := (I, oI) :: (C, oC) :: (D, lst us) :: nx) (u := u) (k := (i : Int) + 1) hA5 (fun p hp => .tail _ (.tail _ (.tail _ hp))) (by omega) (by omega) hn
        refine kG ?_
        clear kG
        k_steps
        refine Hold.out ?_
        refine' CallSpec.use (Cb2 _) ?kB ?kF ?kX ?kN ?kT ?kk ?kd ?ku ?_
        case kB => k_asm
        case kF => k_asm
        case kX => k_asm
        case kN => k_asm
        case kT => k_asm
        case kk => exact rfl
        case kd => first | exact room2 hdp (by decide) | exact room2s hdp (by decide) | exact room2h hdp (by assumption) (by decide) | exact room2hs hdp (by assumption) (by decide) | exact room2c hdp (by decide) | exact room1 hdp (by decide) | exact room1c hdp (by decide) | ktr_room
        case ku => first | exact room2 hu (by decide) | exact room2s hu (by decide) | exact room2h hu (by assumption) (by decide) | exact room2hs hu (by assumption) (by decide) | exact room2c hu (by decide) | exact room1 hu (by decide) | exact room1c hu (by decide) | ktr_units
        intro b₃ r h9 tk9 nw lt₃ F₁₁ N₁₆ hp
        refine dig fun kG => ?_
        obtain ⟨⟨A1, v1, c1', rfl, q1, q2⟩, rfl⟩ := hp
        have q2' : IntsAre v1 (sel P.size (P.fol 0 ((i : Int) + 1))) := by
          have e : (fun q => if (i : Int) + 1 = 0 then P.first 0 q else P.fol 0 ((i : Int) + 1) q) = P.fol 0 ((i : Int) + 1) := funext fun q => if_neg (by omega)
          rw [e] at q2; exact q2
        refine kG ?_
        clear kG
        refine CompEnd.intro F₁₁ N₁₆ _ (fun p hp => hp) hoff10 trivial ⟨rfl, by rw [List.length_append, hul]; rfl, fun j' v hv => ?_⟩
        by_cases hj : j' < us.length
        · rw [List.getElem?_append_left hj] at hv
          exact hus j' v hv
        · rw [List.getElem?_append_right (by omega)] at hv
          have hj0 : j' - us.length = 0 := by
            have := (List.getElem?_eq_some_iff.mp hv).1
            simp at this; omega
          rw [hj0] at hv
          obtain rfl := Option.some.inj hv
          have hji : j' = i := by omega
          subst hji
          exact ⟨A1, v1, c1', rfl, q1, q2'⟩
      · intro gg us nx hP_11 eA h8 tk8 F₁₀ N₁₅ ho8
        refine dig fun kG => ?_
        obtain ⟨hnx, hul, hus⟩ := hP_11
        subst hnx
        refine gen_eq (us.length) fun un' hun' => ?_
        have N₁₆ : News g L₁ h8 ((eA, listOf us.toArray un') :: nx) := by rw [hun']; exact N₁₅
        clear N₁₅
        refine kG ?_
        clear kG
        k_steps
        refine Hold.out ?_
        refine eq_lists (vs := us) (us := ys) (by k_asm) (.head _) (.tail _ hdm) (by omega) (by first | exact room1 hu (by decide) | exact room1c hu (by decide) | exact room2 hu (by decide) | exact room2c hu (by decide) | ktr_units) (fun j v u hv hu => ?_) ?_
        · refine dig fun kG => ?_
          obtain ⟨A1, v1, c1', rfl, q1, q2⟩ := hus j v hv
          obtain ⟨A2, v2, c2', rfl, q3, q4⟩ := hys j u hu
          refine kG ?_
          clear kG
          exact eq_refs N₁₆ (.tail _ q1) (.tail _ (by rw [hled]; exact .tail _ q3)) q2 q4 (by first | exact room1 hu (by decide) | exact room1c hu (by decide) | exact room2 hu (by decide) | exact room2c hu (by decide) | ktr_units)
        · k_steps
          rename_i kF kN Tc kX
          exact hret _ _ kF (nw_sub kN fun p hp => .tail _ (upl _ (up4 _ (hr1n _ (kn2 _ hp)))))
theorem model_c {w : World} {news pw : List (Addr × Obj)} {P : Part} {v : Value} {H nmA kn : Nat} {nmv : List Value} (hP : PartIn pw P v) (hK : ∀ p ∈ pw, p ∈ news) (hn : P.size ≤ 30) (hH : P.height ≤ H) (hs : (P.subs 0).length ≤ 100)
    (hnm : (nmA, listOf nmv.toArray kn) ∈ news) (hns : StrsAre nmv P.names) (hsm : ∀ x ∈ P.subs 0, x.2.parts.length ≤ 100) :
    CallSpec w 167 (100 * H + 300) (600 * H + 1500) news [v, .ref nmA] (fun _ r news' => r = .bool true ∧ news' = news) := by
  intro loose mean mg mb dp un gd cn cs a ccd cl outer A₀ base h₀ L m s Q E B F X N T hk hd hu ret
  have lt := nw_lt N
  exact model_walk w B F X N hP hK hn hH hs hnm hns hsm T hk hd hu fun h' tk' F' N' => ret s.heap.objs.size _ h' tk' news lt F' N' ⟨rfl, rfl⟩
end Mine
end

-- text X2
section
open PySem PySem.W PyProof.Rows PySem.Calls PyProof.Rows.LCg
set_option maxRecDepth 100000
set_option maxHeartbeats 2000000
namespace Mine
section
local macro_rules | `(tactic| k_mem) => `(tactic| assumption)
local macro_rules | `(tactic| walk_at "subscriptTail") => `(tactic| (k_here; refine Hold.mk ?_))
theorem behind_walk5 (w : World) {loose : List Str} {mean : ExcName → Option Value} {mg mb : Str → Option Value}
  {dp un : Nat} {gd : Option (List Code)} {cn : Str} {cs : Scope} {a : Addr} {ccd : Value} {cl : List (Str × Addr)} {outer : List Env} {A₀ : Around} {base h₀ : Heap} {L : Addr} {m : Str → Option Value} {s : Shared} {Q E : Value → Shared → Prop}
  {news : List (Addr × Obj)} {x dx : Addr} {S : AS} {nms : List Str} {n : Nat} {fol : Int → Int → Bool} {u : Tok} {k : Int}
  (B : Below A₀ base outer h₀) (F : Fr h₀ L s.heap m) (X : (hd.heap_39 w.params).In h₀) (N : News h₀ L s.heap news) (hsa : SelfAt5 w news x dx S) (hS : ∀ p ∈ S.core, p ∈ news) (hok : S.Ok w nms n fol) (h0 : 1 ≤ k) (h1 : k ≤ nms.length)
  (T : Top hd.view_39 loose mean mg mb h₀) (hk : cs.kind = .function) (hdp : dp + 20 < recursionLimit) (hu : un + 100 < cLine)
  (hret : ∀ h' tk' A vs c, Fr h₀ L h' m → News h₀ L h' news → (A, listOf vs.toArray c) ∈ S.core → IntsAre vs (sel n (fol k)) → Q (.ref A) { s with heap := h', toks := tk' }) :
  wpAny (model PySem.Challenge.rw_xw0200_01.row.prog w) (ktrTop dp un gd cn cs L a ccd cl outer) (call (.ref 89) [.ref x, .int k u]) Q E s := by
  refine dig fun kG => ?_
  obtain ⟨g1, g2, g3, g4, g5, t1, t2, t3, t4, t5, fF5, fL5, nu5, kd, m1, m2⟩ := hsa.has
  have m6 : (S.fa, S.fo) ∈ news := hS _ (.tail _ (.head _))
  have hz : ¬ k = 0 := by omega
  have hi : (k - 1).toNat < S.fl.length := by rw [hok.len]; omega
  have hx : S.fl[(k - 1).toNat]? = some S.fl[(k - 1).toNat] := List.getElem?_eq_getElem hi
  have hv := hok.keys _ _ hx
  have he : (((k - 1).toNat : Nat) : Int) + 1 = k := by omega
  rw [he] at hv
  have hls' := hok.lists _ _ hx
  rw [he] at hls'
  refine kG ?_
  clear kG
  w_top off
  revert X; k_fill; intro X
  refine wpAny_call ?_
  k_dflt cell_enter
  k_steps
  · exact absurd (by assumption) hz
  · refine Hold.out ?_
    refine dict_at (by k_asm) m6 hok.dict hv ?_
    k_steps
    exact hret _ _ _ S.fl[(k - 1).toNat].2.1 S.fl[(k - 1).toNat].2.2 (by k_asm) (by k_asm) (AS.list_core hx) hls'
theorem behind_c5 {w : World} {news : List (Addr × Obj)} {x dx : Addr} {S : AS} {nms : List Str} {n : Nat} {fol : Int → Int → Bool} {u : Tok} {k : Int} (hsa : SelfAt5 w news x dx S) (hS : ∀ p ∈ S.core, p ∈ news) (hok : S.Ok w nms n fol) (h0 : 1 ≤ k) (h1 : k ≤ nms.length) :
    CallSpec w 89 20 100 news [.ref x, .int k u] (fun _ r news' => (∃ A vs c, r = .ref A ∧ (A, listOf vs.toArray c) ∈ S.core ∧ IntsAre vs (sel n (fol k))) ∧ news' = news) := by
  intro loose mean mg mb dp un gd cn cs a ccd cl outer A₀ base h₀ L m s Q E B F X N T hk hd hu ret
  have lt := nw_lt N
  exact behind_walk5 w B F X N hsa hS hok h0 h1 T hk hd hu fun h' tk' A vs c F' N' hm hi => ret s.heap.objs.size _ h' tk' news lt F' N' ⟨⟨A, vs, c, rfl, hm, hi⟩, rfl⟩
end
section
open PySem.SeqAt
theorem ne_tups {prog : Program} {w : World} {A : Around} {E : Value → Shared → Prop} {s : Shared} {h₀ : Heap} {L : Addr} {news : List (Addr × Obj)} {l b : Addr} {vs us : List Value} {k1 k2 : Nat} {Q : Value → Shared → Prop} (N : News h₀ L s.heap news) (h1 : (l, tupOf vs.toArray k1) ∈ news) (h2 : (b, tupOf us.toArray k2) ∈ news) (hn : vs.length = us.length) (hu : A.units < cLine) (he : ∀ (j : Nat) v u, vs[j]? = some v → us[j]? = some u → EqAt A.in1 s v u true)
    (h : Q (.bool false) s) : wpAny (model prog w) A (compareOp .NotEq (.ref l) (.ref b)) Q E s := by
  have h' := RcNeAt.tuples (e := fun _ => true) ⟨_, (N _ h1).1, rfl, _, rfl⟩ ⟨_, (N _ h2).1, rfl, _, rfl⟩ hu (fun j h1 h2 => he j _ _ (by simp) (by simp))
  rw [all_true] at h'
  have e : (!(true && vs.toArray.size == us.toArray.size)) = false := by simp [hn]
  rw [e] at h'
  exact cmp_ofNotEq (h' prog w E Q h)
abbrev ab2 : Part := Part.node true [.name (Str.ofString "a") (Str.ofString ""), .name (Str.ofString "b") (Str.ofString "")] (Str.ofString "")
theorem two_cases {f g : Int → Bool} (h1 : f 1 = g 1) (h2 : f 2 = g 2) : sel 2 f = sel 2 g := sel_congr fun z a b => by
  have hz : z = 1 ∨ z = 2 := by omega
  rcases hz with rfl | rfl
  · exact h1
  · exact h2
theorem fol1_eq (b : Bool) : sel 2 (fun q => Part.fol 0 ab2 1 q || (b && ((1 : Int) == 2) && (q == 1))) = [2] := by
  rw [two_cases (g := fun z => z == 2) ?_ ?_, sel_one (by decide) (by decide)]
  · simp [Part.fol, Part.folS, Part.first, Part.firstS, Part.last, Part.lastS, Part.size, Part.null, isStar, isOpt, Part.allNull] <;> decide
  · simp [Part.fol, Part.folS, Part.first, Part.firstS, Part.last, Part.lastS, Part.size, Part.null, isStar, isOpt, Part.allNull]
theorem fol2_eq (b : Bool) : sel 2 (fun q => Part.fol 0 ab2 2 q || (b && ((2 : Int) == 2) && (q == 1))) = if b then [1] else [] := by
  cases b with
  | true =>
    rw [two_cases (g := fun z => z == 1) ?_ ?_, sel_one (by decide) (by decide)]
    · rfl
    · simp [Part.fol, Part.folS, Part.first, Part.firstS, Part.last, Part.lastS, Part.size, Part.null, isStar, isOpt, Part.allNull]
    · simp [Part.fol, Part.folS, Part.first, Part.firstS, Part.last, Part.lastS, Part.size, Part.null, isStar, isOpt, Part.allNull] <;> decide
  | false =>
    rw [two_cases (g := fun _ => false) ?_ ?_, sel_false]
    · rfl
    · simp [Part.fol, Part.folS, Part.first, Part.firstS, Part.last, Part.lastS, Part.size, Part.null, isStar, isOpt, Part.allNull] <;> decide
    · simp [Part.fol, Part.folS, Part.first, Part.firstS, Part.last, Part.lastS, Part.size, Part.null, isStar, isOpt, Part.allNull] <;> decide
end
end Mine
end

-- text X1
section
open PySem PySem.W PyProof.Rows PySem.Calls PyProof.Rows.LCg PyProof.Rows.LCt
set_option maxRecDepth 100000
set_option maxHeartbeats 2000000
namespace Mine
local macro_rules | `(tactic| k_mem) => `(tactic| assumption)
local macro_rules | `(tactic| walk_at "call ref") => `(tactic| (k_here; refine Hold.mk ?_))
local macro_rules | `(tactic| walk_at "compareOp NotEq ref ref") => `(tactic| (k_here; refine Hold.mk ?_))
local macro_rules | `(tactic| walk_at "compareOp Eq ref ref") => `(tactic| (k_here; refine Hold.mk ?_))
theorem mright_walk (w : World) {loose : List Str} {mean : ExcName → Option Value} {mg mb : Str → Option Value}
  {dp un : Nat} {gd : Option (List Code)} {cn : Str} {cs : Scope} {a : Addr} {ccd : Value} {cl : List (Str × Addr)} {outer : List Env} {A₀ : Around} {base h₀ : Heap} {L : Addr} {m : Str → Option Value} {s : Shared} {Q E : Value → Shared → Prop}
  {news : List (Addr × Obj)} {mk : Str} {u : Tok}
  (B : Below A₀ base outer h₀) (F : Fr h₀ L s.heap m) (X : (hd.heap_39 w.params).In h₀) (N : News h₀ L s.heap news)
  (T : Top hd.view_39 loose mean mg mb h₀) (hk : cs.kind = .function) (hdp : dp + 500 < recursionLimit) (hu : un + 3000 < cLine)
  (hret : ∀ h' tk', Fr h₀ L h' m → News h₀ L h' news → Q (.bool true) { s with heap := h', toks := tk' }) :
  wpAny (model PySem.Challenge.rw_xw0200_01.row.prog w) (ktrTop dp un gd cn cs L a ccd cl outer) (call (.ref 174) [.str mk u]) Q E s := by
  w_top off
  revert X; k_fill; intro X
  refine wpAny_call ?_
  k_dflt cell_enter
  k_steps
  rename_i g L₁ hh FG B₁ X₁ T₁ D1 h1 l1 D2 h2 l2 D3 h3 l3 D4 h4 F₂ N₂ l4
  refine Hold.out ?_
  refine dig fun kG => ?_
  refine gen_eq ((D4, tupOf #[.str (Str.ofString "seq") tk, .ref D3, .str (Str.ofString "") (tk + 1 + 1 + 1 + 1 + 1 + 1 + 1)] 0) :: (D3, tupOf #[.ref D1, .ref D2] 0) :: (D2, tupOf #[.str (Str.ofString "name") (tk + 1 + 1 + 1 + 1), .str (Str.ofString "b") (tk + 1 + 1 + 1 + 1 + 1), .str (Str.ofString "") (tk + 1 + 1 + 1 + 1 + 1 + 1)] 0) :: (D1, tupOf #[.str (Str.ofString "name") (tk + 1), .str (Str.ofString "a") (tk + 1 + 1), .str (Str.ofString "") (tk + 1 + 1 + 1)] 0) :: news) fun (pw : List (Addr × Obj)) hpw => ?_
  have N₃ : News g L₁ h4 pw := by rw [hpw]; exact N₂
  have hup : ∀ p ∈ news, p ∈ pw := fun p hp => by rw [hpw]; exact .tail _ (.tail _ (.tail _ (.tail _ hp)))
  have hP : PartIn pw ab2 (.ref D4) := by
    simp only [PartIn, PartsIn]
    refine ⟨D4, 0, _, _, D3, [.ref D1, .ref D2], 0, rfl, by rw [hpw]; exact .head _, by rw [hpw]; exact .tail _ (.head _), .ref D1, [.ref D2], rfl, ⟨D1, 0, _, _, _, rfl, by rw [hpw]; exact .tail _ (.tail _ (.tail _ (.head _)))⟩, .ref D2, [], rfl, ⟨D2, 0, _, _, _, rfl, by rw [hpw]; exact .tail _ (.tail _ (.head _))⟩, rfl⟩
  have C := init_o (w := w) (news := pw) (H := 2) hP (fun p hp => hp) (by simp [Part.size, Part.sizes]) (by simp [Part.height, Part.heights])
  clear N₂ hpw
  refine kG ?_
  clear kG
  refine' CallSpec.use C ?kB ?kF ?kX ?kN ?kT ?kk ?kd ?ku ?_
  case kB => k_asm
  case kF => k_asm
  case kX => k_asm
  case kN => k_asm
  case kT => k_asm
  case kk => exact rfl
  case kd => first | exact room2 hdp (by decide) | exact room2s hdp (by decide) | exact room2h hdp (by assumption) (by decide) | exact room2hs hdp (by assumption) (by decide) | exact room2c hdp (by decide) | exact room1 hdp (by decide) | exact room1c hdp (by decide) | ktr_room
  case ku => first | exact room2 hu (by decide) | exact room2s hu (by decide) | exact room2h hu (by assumption) (by decide) | exact room2hs hu (by assumption) (by decide) | exact room2c hu (by decide) | exact room1 hu (by decide) | exact room1c hu (by decide) | ktr_units
  intro b₁ r h₂ tk₂ led lt₁ F₃ N₄ hp
  refine dig fun kG => ?_
  obtain ⟨x, rfl, hkeep, hA⟩ := hp
  have hup2 : ∀ p ∈ news, p ∈ led := fun p hp => hkeep p (hup p hp)
  obtain ⟨dx, na, fa, F0, L0, S, g1, g2, g3, g4, g5, t1, t2, t3, t4, t5, kd, c1, c2, fs, ls, hna, hfa, m1, m2, m3, hok, m4, hfs, m5, hls, hx5, hd5, hoffS⟩ := hA.all
  subst hna hfa
  have hnS : ∀ p ∈ news, p.1 ∉ S.adrs := fun p hp => hoffS p (hup p hp)
  clear N₃ F₂ C hup hkeep hP hA hoffS
  refine kG ?_
  clear kG
  k_steps
  rename_i h3 E1 h5 lE1 E2 h6 lE2 TA h7 F₄ N₅ lTA
  refine Hold.out ?_
  have hb : ∀ z ∈ S.adrs, z < E1 := adrs_lt m3 lE1
  have e1S : E1 ∉ S.adrs := fun hm => Nat.lt_irrefl _ (hb _ hm)
  have e2S : E2 ∉ S.adrs := fun hm => Nat.lt_asymm (hb _ hm) lE2.1
  have hsa : SelfAt5 w led x dx S := ⟨⟨g1, g2, g3, g4, g5, t1, t2, t3, t4, t5, F0, L0, ab2.null, kd, m1, m2⟩, hx5, hd5⟩
  refine dig fun kG => ?_
  refine gen_eq ((TA, tupOf #[.bool false, .ref E1, .ref E2] 0) :: (E2, listOf #[Value.int 2 (tk + 1)] 0) :: (E1, listOf #[Value.int 1 tk] 0) :: led) fun ld2 hld2 => ?_
  have N₆ : News g L₁ h7 ld2 := by rw [hld2]; exact N₅
  have up2 : ∀ p ∈ led, p ∈ ld2 := fun p hp => by rw [hld2]; exact .tail _ (.tail _ (.tail _ hp))
  have mT : (TA, tupOf #[.bool false, .ref E1, .ref E2] 0) ∈ ld2 := by rw [hld2]; exact .head _
  have mE2 : (E2, listOf [Value.int 2 (tk + 1)].toArray 0) ∈ ld2 := by rw [hld2]; exact .tail _ (.head _)
  have mE1 : (E1, listOf [Value.int 1 tk].toArray 0) ∈ ld2 := by rw [hld2]; exact .tail _ (.tail _ (.head _))
  have hsa2 : SelfAt5 w ld2 x dx S := ⟨⟨g1, g2, g3, g4, g5, t1, t2, t3, t4, t5, F0, L0, ab2.null, kd, up2 _ m1, up2 _ m2⟩, hx5, hd5⟩
  have is1 : IntsAre [Value.int 1 tk] (sel 2 fun z => z == 1) := by
    rw [sel_one (n := 2) (k := 1) (by decide) (by decide)]; exact .cons _ _ .nil
  have is2 : IntsAre [Value.int 2 (tk + 1)] (sel 2 fun z => z == 2) := by
    rw [sel_one (n := 2) (k := 2) (by decide) (by decide)]; exact .cons _ _ .nil
  have hok2 : S.Ok w [Str.ofString "a", Str.ofString "b"] 2 (Part.fol 0 ab2) := hok
  have C2 := marked_c5 (w := w) (mk := mk) (tk := u) (nu := false) hsa2 mT mE1 mE2 e1S e2S is1 is2 (by intro z hz; rw [eq_of_beq hz]; decide) (fun p hp => up2 p (m3 p hp)) hok2 (by decide)
  clear N₅ hld2
  refine kG ?_
  clear kG
  refine' CallSpec.use C2 ?kB ?kF ?kX ?kN ?kT ?kk ?kd ?ku ?_
  case kB => k_asm
  case kF => k_asm
  case kX => k_asm
  case kN => k_asm
  case kT => k_asm
  case kk => exact rfl
  case kd => first | exact room2 hdp (by decide) | exact room2s hdp (by decide) | exact room2h hdp (by assumption) (by decide) | exact room2hs hdp (by assumption) (by decide) | exact room2c hdp (by decide) | exact room1 hdp (by decide) | exact room1c hdp (by decide) | ktr_room
  case ku => first | exact room2 hu (by decide) | exact room2s hu (by decide) | exact room2h hu (by assumption) (by decide) | exact room2hs hu (by assumption) (by decide) | exact room2c hu (by decide) | exact room1 hu (by decide) | exact room1c hu (by decide) | ktr_units
  intro b₂ r h₈ tk₈ ld3 lt₂ F₅ N₇ hp
  refine dig fun kG => ?_
  obtain ⟨R1, R2, R3, k1, k2, S', rfl, hb1, l12, l23, had, hok3, rfl⟩ := hp
  refine gen_eq ((R3, tupOf #[.bool (false || isOpt mk), .ref R1, .ref R2] 0) :: (R2, listOf [Value.int 2 (tk + 1)].toArray k2) :: (R1, listOf [Value.int 1 tk].toArray k1) :: (S'.core ++ offs S.adrs ld2)) fun ld4 hld4 => ?_
  have N₈ : News g L₁ h₈ ld4 := by rw [hld4]; exact N₇
  have up4 : ∀ p ∈ ld2, p.1 ∉ S.adrs → p ∈ ld4 := fun p hp hq => by rw [hld4]; exact .tail _ (.tail _ (.tail _ (List.mem_append_right _ (mem_offs.mpr ⟨hp, hq⟩))))
  have up5 : ∀ p ∈ news, p ∈ ld4 := fun p hp => up4 p (up2 p (hup2 p hp)) (hnS p hp)
  have hS4 : ∀ p ∈ S'.core, p ∈ ld4 := fun p hp => by rw [hld4]; exact .tail _ (.tail _ (.tail _ (List.mem_append_left _ hp)))
  have mR3 : (R3, tupOf #[.bool (isOpt mk), .ref R1, .ref R2] 0) ∈ ld4 := by rw [hld4]; exact .head _
  have mR2 : (R2, listOf [Value.int 2 (tk + 1)].toArray k2) ∈ ld4 := by rw [hld4]; exact .tail _ (.head _)
  have mR1 : (R1, listOf [Value.int 1 tk].toArray k1) ∈ ld4 := by rw [hld4]; exact .tail _ (.tail _ (.head _))
  have gS := Grow.of_adrs (b := 0) had
  have m1' := up4 _ (up2 _ m1) hx5
  have m2' := up4 _ (up2 _ m2) hd5
  have m2s : (dx, fullDict w S'.na S'.fa F0 L0 ab2.null g1 g2 g3 g4 g5 t1 t2 t3 t4 t5 kd) ∈ ld4 := by rw [gS.na, gS.fa]; exact m2'
  have hsa4 : SelfAt5 w ld4 x dx S' := ⟨⟨g1, g2, g3, g4, g5, t1, t2, t3, t4, t5, F0, L0, ab2.null, kd, m1', m2s⟩, by rw [had]; exact hx5, by rw [had]; exact hd5⟩
  clear N₇ N₆ C2 F₄ hld4
  refine kG ?_
  clear kG
  k_steps
  rename_i J1 h9 lJ1 J2 h10 lJ2 J3 h11 lJ3 J4 h12 F₆ N₉ lJ4
  refine Hold.out ?_
  refine ne_tups (vs := [.bool (isOpt mk), .ref R1, .ref R2]) (us := [.bool (isOpt mk), .ref J2, .ref J3]) N₉ (.tail _ (.tail _ (.tail _ (.tail _ mR3)))) (.head _) rfl (by first | exact room1 hu (by decide) | exact room1c hu (by decide) | exact room2 hu (by decide) | exact room2c hu (by decide) | ktr_units) ?_ ?_
  · intro j v u hv hu
    match j with
    | 0 =>
      cases hv; cases hu
      exact SeqAt.EqAt.same _
    | 1 =>
      cases hv; cases hu
      exact eq_refs (vs := [Value.int 1 _]) (us := [Value.int 1 _]) (xs := [1]) N₉ (.tail _ (.tail _ (.tail _ (.tail _ mR1)))) (.tail _ (.tail _ (.head _))) (.cons _ _ .nil) (.cons _ _ .nil) (by first | exact room1 hu (by decide) | exact room1c hu (by decide) | exact room2 hu (by decide) | exact room2c hu (by decide) | ktr_units)
    | 2 =>
      cases hv; cases hu
      exact eq_refs (vs := [Value.int 2 _]) (us := [Value.int 2 _]) (xs := [2]) N₉ (.tail _ (.tail _ (.tail _ (.tail _ mR2)))) (.tail _ (.head _)) (.cons _ _ .nil) (.cons _ _ .nil) (by first | exact room1 hu (by decide) | exact room1c hu (by decide) | exact room2 hu (by decide) | exact room2c hu (by decide) | ktr_units)
    | j + 3 => simp at hv
  have N₁₀ : News g L₁ h12 ld4 := nw_sub N₉ fun p hp => .tail _ (.tail _ (.tail _ (.tail _ hp)))
  clear N₉
  k_steps
  refine Hold.out ?_
  refine' CallSpec.use (behind_c5 hsa4 hS4 hok3 (by decide) (by decide)) ?kB ?kF ?kX ?kN ?kT ?kk ?kd ?ku ?_
  case kB => k_asm
  case kF => k_asm
  case kX => k_asm
  case kN => k_asm
  case kT => k_asm
  case kk => exact rfl
  case kd => first | exact room2 hdp (by decide) | exact room2s hdp (by decide) | exact room2h hdp (by assumption) (by decide) | exact room2hs hdp (by assumption) (by decide) | exact room2c hdp (by decide) | exact room1 hdp (by decide) | exact room1c hdp (by decide) | ktr_room
  case ku => first | exact room2 hu (by decide) | exact room2s hu (by decide) | exact room2h hu (by assumption) (by decide) | exact room2hs hu (by assumption) (by decide) | exact room2c hu (by decide) | exact room1 hu (by decide) | exact room1c hu (by decide) | ktr_units
  intro b₃ r h13 tk13 ld5 lt₃ F₇ N₁₁ hp
  refine dig fun kG => ?_
  obtain ⟨⟨A1, v1, n1, rfl, hA1, hi1⟩, hn5⟩ := hp
  subst hn5
  clear N₁₀
  refine kG ?_
  clear kG
  k_steps
  refine Hold.out ?_
  refine' CallSpec.use (behind_c5 hsa4 hS4 hok3 (by decide) (by decide)) ?kB ?kF ?kX ?kN ?kT ?kk ?kd ?ku ?_
  case kB => k_asm
  case kF => k_asm
  case kX => k_asm
  case kN => k_asm
  case kT => k_asm
  case kk => exact rfl
  case kd => first | exact room2 hdp (by decide) | exact room2s hdp (by decide) | exact room2h hdp (by assumption) (by decide) | exact room2hs hdp (by assumption) (by decide) | exact room2c hdp (by decide) | exact room1 hdp (by decide) | exact room1c hdp (by decide) | ktr_room
  case ku => first | exact room2 hu (by decide) | exact room2s hu (by decide) | exact room2h hu (by assumption) (by decide) | exact room2hs hu (by assumption) (by decide) | exact room2c hu (by decide) | exact room1 hu (by decide) | exact room1c hu (by decide) | ktr_units
  intro b₄ r h14 tk14 ld6 lt₄ F₈ N₁₂ hp
  refine dig fun kG => ?_
  obtain ⟨⟨A2, v2, n2, rfl, hA2, hi2⟩, hn6⟩ := hp
  subst hn6
  have mA1 := hS4 _ hA1
  have mA2 := hS4 _ hA2
  have hi1' : IntsAre v1 [2] := by rw [← fol1_eq (isStar mk)]; exact hi1
  have hi2' : IntsAre v2 (if isStar mk then [1] else []) := by rw [← fol2_eq (isStar mk)]; exact hi2
  clear N₁₁ hi1 hi2
  refine kG ?_
  clear kG
  k_steps
  · rename_i O hO lO T1 hT1 lT1 M1 hM1 lM1 hst T2 hT2 lT2 O2 hO2 F₉ N₁₃ lO2
    have hst' : isStar mk = true := hst
    rw [hst'] at hi2'
    refine Hold.out ?_
    refine eq_lists (vs := [.ref A1, .ref A2]) (us := [.ref T1, .ref T2]) N₁₃ (.tail _ (.tail _ (.tail _ (.tail _ (.head _))))) (.head _) rfl (by first | exact room1 hu (by decide) | exact room1c hu (by decide) | exact room2 hu (by decide) | exact room2c hu (by decide) | ktr_units) (fun j v u hv hu => ?_) ?_
    · match j with
      | 0 =>
        cases hv; cases hu
        exact eq_refs (us := [Value.int 2 _]) N₁₃ (.tail _ (.tail _ (.tail _ (.tail _ (.tail _ mA1))))) (.tail _ (.tail _ (.tail _ (.head _)))) hi1' (.cons _ _ .nil) (by first | exact room1 hu (by decide) | exact room1c hu (by decide) | exact room2 hu (by decide) | exact room2c hu (by decide) | ktr_units)
      | 1 =>
        cases hv; cases hu
        exact eq_refs (us := [Value.int 1 _]) N₁₃ (.tail _ (.tail _ (.tail _ (.tail _ (.tail _ mA2))))) (.tail _ (.head _)) hi2' (.cons _ _ .nil) (by first | exact room1 hu (by decide) | exact room1c hu (by decide) | exact room2 hu (by decide) | exact room2c hu (by decide) | ktr_units)
      | j + 2 => simp at hv
    · k_steps
      rename_i kF kN Tc kX
      exact hret _ _ kF (nw_sub kN fun p hp => .tail _ (.tail _ (.tail _ (.tail _ (.tail _ (up5 p hp))))))
  · rename_i O hO lO T1 hT1 lT1 M1 hM1 lM1 hst T2 hT2 lT2 O2 hO2 F₉ N₁₃ lO2
    have hst' : isStar mk = false := by first | exact hst | exact Bool.eq_false_iff.mpr hst
    rw [hst'] at hi2'
    refine Hold.out ?_
    refine eq_lists (vs := [.ref A1, .ref A2]) (us := [.ref T1, .ref T2]) N₁₃ (.tail _ (.tail _ (.tail _ (.tail _ (.head _))))) (.head _) rfl (by first | exact room1 hu (by decide) | exact room1c hu (by decide) | exact room2 hu (by decide) | exact room2c hu (by decide) | ktr_units) (fun j v u hv hu => ?_) ?_
    · match j with
      | 0 =>
        cases hv; cases hu
        exact eq_refs (us := [Value.int 2 _]) N₁₃ (.tail _ (.tail _ (.tail _ (.tail _ (.tail _ mA1))))) (.tail _ (.tail _ (.tail _ (.head _)))) hi1' (.cons _ _ .nil) (by first | exact room1 hu (by decide) | exact room1c hu (by decide) | exact room2 hu (by decide) | exact room2c hu (by decide) | ktr_units)
      | 1 =>
        cases hv; cases hu
        exact eq_refs (us := []) N₁₃ (.tail _ (.tail _ (.tail _ (.tail _ (.tail _ mA2))))) (.tail _ (.head _)) hi2' .nil (by first | exact room1 hu (by decide) | exact room1c hu (by decide) | exact room2 hu (by decide) | exact room2c hu (by decide) | ktr_units)
      | j + 2 => simp at hv
    · k_steps
      rename_i kF kN Tc kX
      exact hret _ _ kF (nw_sub kN fun p hp => .tail _ (.tail _ (.tail _ (.tail _ (.tail _ (up5 p hp))))))
theorem mright_c {w : World} {news : List (Addr × Obj)} {mk : Str} {u : Tok} :
    CallSpec w 174 500 3000 news [.str mk u] (fun _ r news' => r = .bool true ∧ news' = news) := by
  intro loose mean mg mb dp un gd cn cs a ccd cl outer A₀ base h₀ L m s Q E B F X N T hk hd hu ret
  have lt := nw_lt N
  exact mright_walk w B F X N T hk hd hu fun h' tk' F' N' => ret s.heap.objs.size _ h' tk' news lt F' N' ⟨rfl, rfl⟩
end Mine
end

-- text Y1
section
open PySem PySem.W PyProof.Rows PySem.Calls PyProof.Rows.LCg
set_option maxRecDepth 100000
set_option maxHeartbeats 8000000
namespace Mine
theorem getD_one (a b d : Int) : [a, b].getD (Int.toNat 1) d = b := rfl
theorem getD_zero (a b d : Int) : [a, b].getD (Int.toNat 0) d = a := rfl
theorem fmod_bd (a : Int) {b : Int} (h : 0 < b) : 0 ≤ a.fmod b ∧ a.fmod b < b := by
  rw [Int.fmod_eq_emod_of_nonneg _ (Int.le_of_lt h)]
  exact ⟨Int.emod_nonneg _ (Int.ne_of_gt h), Int.emod_lt_of_pos _ h⟩
theorem fdiv_bd {a b : Int} (ha : 0 ≤ a) (h : 0 < b) : 0 ≤ a.fdiv b ∧ a.fdiv b ≤ a := by
  rw [Int.fdiv_eq_ediv_of_nonneg _ (Int.le_of_lt h)]
  exact ⟨Int.ediv_nonneg ha (Int.le_of_lt h), Int.ediv_le_self _ ha⟩
local macro_rules | `(tactic| walk_at "binaryOp Mult int int") => `(tactic| (k_here; refine Hold.mk ?_))
theorem take_walk (w : World) {loose : List Str} {mean : ExcName → Option Value} {mg mb : Str → Option Value}
  {dp un : Nat} {gd : Option (List Code)} {cn : Str} {cs : Scope} {a : Addr} {ccd : Value} {cl : List (Str × Addr)} {outer : List Env} {A₀ : Around} {base h₀ : Heap} {L : Addr} {m : Str → Option Value} {s : Shared} {Q E : Value → Shared → Prop}
  {own : List (Addr × Obj)} {sA : Addr} {x y top : Int} {tx ty tt : Tok} {n : Nat}
  (B : Below A₀ base outer h₀) (F : Fr h₀ L s.heap m) (X : (hd.heap_39 w.params).In h₀) (N : News h₀ L s.heap ((sA, listOf #[.int x tx, .int y ty] n) :: own))
  (hoff : OwnOff own [sA]) (htop : top = 2 ∨ top = 4) (hx : 0 ≤ x) (hy : 0 ≤ y) (hy2 : y < 2147483647)
  (T : Top hd.view_39 loose mean mg mb h₀) (hk : cs.kind = .function) (hdp : dp + 10 < recursionLimit) (hu : un + 80 < cLine)
  (hret : ∀ h' tk' k tk x' tx' y' ty', 0 ≤ k → k < top → 0 ≤ x' → x' ≤ x → 0 ≤ y' → y' < 2147483647 → Fr h₀ L h' m → News h₀ L h' ((sA, listOf #[.int x' tx', .int y' ty'] n) :: own) → Q (.int k tk) { s with heap := h', toks := tk' }) :
  wpAny (model PySem.Challenge.rw_xw0200_01.row.prog w) (ktrTop dp un gd cn cs L a ccd cl outer) (call (.ref 145) [.ref sA, .int top tt]) Q E s := by
  w_top off
  revert X; k_fill; intro X
  rcases htop with rfl | rfl
  · refine wpAny_call ?_
    k_dflt cell_enter
    k_steps
    · rename_i kF kN Tc kX
      have b1 := fmod_bd x (b := 2) (by decide)
      have b2 := fdiv_bd hx (b := 2) (by decide)
      exact hret _ _ _ _ _ _ _ _ b1.1 b1.2 b2.1 b2.2 hy hy2 kF kN
    · refine Hold.out ?_
      refine mul_int ?_ (.of_left (PySem.intBits_le_64 ?_ ?_))
      · k_steps
        refine Hold.out ?_
        have b0 := fmod_bd (y * 39373 + 7) (b := 2147483647) (by decide)
        refine mul_int ?_ (.of_left (PySem.intBits_le_64 ?_ ?_))
        · k_steps
          rename_i kF kN Tc kX
          have b1 := fmod_bd ((((y * 39373 + 7).fmod 2147483647 * (y * 39373 + 7).fmod 2147483647).fmod 2147483629).fdiv 32) (b := 2) (by decide)
          exact hret _ _ _ _ _ _ _ _ b1.1 b1.2 hx (Int.le_refl _) b0.1 b0.2 kF kN
        · rw [getD_one, getD_one]; omega
        · rw [getD_one, getD_one]; omega
      · rw [getD_one]; omega
      · rw [getD_one]; omega
  · refine wpAny_call ?_
    k_dflt cell_enter
    k_steps
    · rename_i kF kN Tc kX
      have b1 := fmod_bd x (b := 4) (by decide)
      have b2 := fdiv_bd hx (b := 4) (by decide)
      exact hret _ _ _ _ _ _ _ _ b1.1 b1.2 b2.1 b2.2 hy hy2 kF kN
    · refine Hold.out ?_
      refine mul_int ?_ (.of_left (PySem.intBits_le_64 ?_ ?_))
      · k_steps
        refine Hold.out ?_
        have b0 := fmod_bd (y * 39373 + 7) (b := 2147483647) (by decide)
        refine mul_int ?_ (.of_left (PySem.intBits_le_64 ?_ ?_))
        · k_steps
          rename_i kF kN Tc kX
          have b1 := fmod_bd ((((y * 39373 + 7).fmod 2147483647 * (y * 39373 + 7).fmod 2147483647).fmod 2147483629).fdiv 32) (b := 4) (by decide)
          exact hret _ _ _ _ _ _ _ _ b1.1 b1.2 hx (Int.le_refl _) b0.1 b0.2 kF kN
        · rw [getD_one, getD_one]; omega
        · rw [getD_one, getD_one]; omega
      · rw [getD_one]; omega
      · rw [getD_one]; omega
theorem take_c {w : World} {news : List (Addr × Obj)} {sA : Addr} {x y top : Int} {tx ty tt : Tok} {n : Nat} (hS : (sA, listOf #[.int x tx, .int y ty] n) ∈ news) (htop : top = 2 ∨ top = 4) (hx : 0 ≤ x) (hy : 0 ≤ y) (hy2 : y < 2147483647) :
    CallSpec w 145 10 80 news [.ref sA, .int top tt] (fun _ r news' => ∃ k tk x' tx' y' ty', r = .int k tk ∧ 0 ≤ k ∧ k < top ∧ 0 ≤ x' ∧ 0 ≤ y' ∧ y' < 2147483647 ∧ news' = (sA, listOf #[.int x' tx', .int y' ty'] n) :: offs [sA] news) := by
  intro loose mean mg mb dp un gd cn cs a ccd cl outer A₀ base h₀ L m s Q E B F X N T hk hd hu ret
  have lt := nw_lt N
  refine take_walk w (own := offs [sA] news) (n := n) (tx := tx) (ty := ty) B F X (nw_sub N fun p hp => ?_) (offs_off _ _) htop hx hy hy2 T hk hd hu fun h' tk' k tk x' tx' y' ty' h1 h2 h3 _ h5 h6 F' N' => ret s.heap.objs.size _ h' tk' _ lt F' N' ⟨k, tk, x', tx', y', ty', rfl, h1, h2, h3, h5, h6, rfl⟩
  rcases List.mem_cons.mp hp with rfl | hp
  · exact hS
  · exact (mem_offs.mp hp).1
end Mine
end

-- text Y2
section
open PySem PySem.W PyProof.Rows PySem.Calls PyProof.Rows.LCg
set_option maxRecDepth 100000
set_option maxHeartbeats 8000000
namespace Mine
/-- texts, as values -/
inductive TxtsAre : List Value → List Str → Prop where
  | nil : TxtsAre [] []
  | cons (x : Str) (t : Tok) {vs : List Value} {xs : List Str} : TxtsAre vs xs → TxtsAre (.str x t :: vs) (x :: xs)
theorem TxtsAre.get {vs : List Value} {xs : List Str} (h : TxtsAre vs xs) : ∀ {i : Nat} {v : Value}, vs[i]? = some v → ∃ x t, v = .str x t ∧ x ∈ xs := by
  induction h with
  | nil => intro i v hv; simp at hv
  | cons x t h ih =>
    intro i v hv
    cases i with
    | zero => simp only [List.getElem?_cons_zero, Option.some.injEq] at hv; exact ⟨x, t, hv.symm, .head _⟩
    | succ i =>
      simp only [List.getElem?_cons_succ] at hv
      refine dig fun kG => ?_
      obtain ⟨y, u, e, hm⟩ := ih hv
      refine kG ?_
      clear kG
      exact ⟨y, u, e, .tail _ hm⟩
theorem item_at {prog : Program} {w : World} {A : Around} {E : Value → Shared → Prop} {s : Shared} {h₀ : Heap} {L : Addr} {news : List (Addr × Obj)} {value slice : PySem.Expr} {l : Addr} {vs : List Value} {i n : Nat} {k : Int} {u : Tok} {v : Value} {Q : Value → Shared → Prop} (N : News h₀ L s.heap news) (hm : (l, listOf vs.toArray n) ∈ news) (hx : vs[i]? = some v) (e : k = (i : Int)) (hl : vs.length ≤ 1000) (h : Q v s)
    (hs : ∀ u', subscripted slice false (.ref l) (.int (i : Int) u') = operate [.ref l, .int (i : Int) u'] (getItem (.ref l) (.int (i : Int) u')) := by intro _; with_unfolding_all rfl) :
    wpAny (model prog w) A (subscriptTail value slice (.ref l) (.int k u)) Q E s := by
  subst e
  exact item_nat N hm hx hl h (hs u)
theorem item_last {prog : Program} {w : World} {A : Around} {E : Value → Shared → Prop} {s : Shared} {h₀ : Heap} {L : Addr} {news : List (Addr × Obj)} {value slice : PySem.Expr} {l : Addr} {vs : List Value} {n : Nat} {u : Tok} {x : Value} {Q : Value → Shared → Prop} (N : News h₀ L s.heap news) (hm : (l, listOf (vs ++ [x]).toArray n) ∈ news) (hl : vs.length ≤ 1000) (h : Q x s)
    (hs : subscripted slice false (.ref l) (.int (-1) u) = operate [.ref l, .int (-1) u] (getItem (.ref l) (.int (-1) u)) := by with_unfolding_all rfl) :
    wpAny (model prog w) A (subscriptTail value slice (.ref l) (.int (-1) u)) Q E s := by
  have hL := isL_of N hm
  have hsz : (vs ++ [x]).toArray.size = vs.length + 1 := by simp
  exact tail_any hL.typeIs slot_list_getitem.lookup (wpAny_getItem_list_neg (x := x) hL (by decide) (by rw [hsz]; omega) (by decide) (by
    rw [hsz, show ((-1 : Int) + ((vs.length + 1 : Nat) : Int)).toNat = vs.length by omega]
    simp) h) hs
local macro_rules | `(tactic| k_mem) => `(tactic| assumption)
local macro_rules | `(tactic| walk_at "call ref") => `(tactic| (k_here; refine Hold.mk ?_))
local macro_rules | `(tactic| walk_at "subscriptTail") => `(tactic| (k_here; refine Hold.mk ?_))
local macro_rules | `(tactic| walk_at "call builtin:len") => `(tactic| (k_here; k_dflt (refine' len_led ?z (by k_asm) (by k_mem) ?_; (case z => assumption)); intro t' tk'))
theorem one_walk (w : World) {loose : List Str} {mean : ExcName → Option Value} {mg mb : Str → Option Value}
  {dp un : Nat} {gd : Option (List Code)} {cn : Str} {cs : Scope} {a : Addr} {ccd : Value} {cl : List (Str × Addr)} {outer : List Env} {A₀ : Around} {base h₀ : Heap} {L : Addr} {m : Str → Option Value} {s : Shared} {Q E : Value → Shared → Prop}
  {news : List (Addr × Obj)} {sA tA : Addr} {x y : Int} {tx ty : Tok} {n k : Nat} {vs : List Value} {xs : List Str}
  (B : Below A₀ base outer h₀) (F : Fr h₀ L s.heap m) (X : (hd.heap_39 w.params).In h₀) (N : News h₀ L s.heap news)
  (hS : (sA, listOf #[.int x tx, .int y ty] n) ∈ news) (hT : (tA, listOf vs.toArray k) ∈ news) (hne : @Ne Nat tA sA) (htop : vs.length = 2 ∨ vs.length = 4) (hvs : TxtsAre vs xs) (hx : 0 ≤ x) (hy : 0 ≤ y) (hy2 : y < 2147483647)
  (T : Top hd.view_39 loose mean mg mb h₀) (hk : cs.kind = .function) (hdp : dp + 20 < recursionLimit) (hu : un + 160 < cLine)
  (hret : ∀ h' tk' z tz x' tx' y' ty', z ∈ xs → 0 ≤ x' → 0 ≤ y' → y' < 2147483647 → Fr h₀ L h' m → News h₀ L h' ((sA, listOf #[.int x' tx', .int y' ty'] n) :: offs [sA] news) → Q (.str z tz) { s with heap := h', toks := tk' }) :
  wpAny (model PySem.Challenge.rw_xw0200_01.row.prog w) (ktrTop dp un gd cn cs L a ccd cl outer) (call (.ref 152) [.ref sA, .ref tA]) Q E s := by
  have hvl : vs.length ≤ 1000 := by omega
  have C := fun (tt : Tok) => take_c (w := w) (tt := tt) (top := (vs.length : Int)) hS (by omega) hx hy hy2
  w_top off
  revert X; k_fill; intro X
  refine wpAny_call ?_
  k_dflt cell_enter
  k_steps
  refine Hold.out ?_
  refine' CallSpec.use (C _) ?kB ?kF ?kX ?kN ?kT ?kk ?kd ?ku ?_
  case kB => k_asm
  case kF => k_asm
  case kX => k_asm
  case kN => k_asm
  case kT => k_asm
  case kk => exact rfl
  case kd => first | exact room2 hdp (by decide) | exact room2s hdp (by decide) | exact room2h hdp (by assumption) (by decide) | exact room2hs hdp (by assumption) (by decide) | exact room2c hdp (by decide) | exact room1 hdp (by decide) | exact room1c hdp (by decide) | ktr_room
  case ku => first | exact room2 hu (by decide) | exact room2s hu (by decide) | exact room2h hu (by assumption) (by decide) | exact room2hs hu (by assumption) (by decide) | exact room2c hu (by decide) | exact room1 hu (by decide) | exact room1c hu (by decide) | ktr_units
  intro b₁ r h₂ tk₂ led lt₁ F₂ N₂ hp
  refine dig fun kG => ?_
  obtain ⟨k', tk', x', tx', y', ty', rfl, h1, h2, h3, h4, h5, rfl⟩ := hp
  have hi : k'.toNat < vs.length := by omega
  have hv := List.getElem?_eq_getElem hi
  obtain ⟨z, tz, ez, hz⟩ := hvs.get hv
  rw [ez] at hv
  have hT2 : (tA, listOf vs.toArray k) ∈ (sA, listOf #[.int x' tx', .int y' ty'] n) :: offs [sA] news := .tail _ (mem_offs.mpr ⟨hT, by simpa using hne⟩)
  refine kG ?_
  clear kG
  k_steps
  refine Hold.out ?_
  refine item_at (i := k'.toNat) N₂ hT2 hv (by omega) hvl ?_
  k_steps
  rename_i kF kN Tc kX
  exact hret _ _ _ _ _ _ _ _ hz h3 h4 h5 kF kN
theorem one_c {w : World} {news : List (Addr × Obj)} {sA tA : Addr} {x y : Int} {tx ty : Tok} {n k : Nat} {vs : List Value} {xs : List Str} (hS : (sA, listOf #[.int x tx, .int y ty] n) ∈ news) (hT : (tA, listOf vs.toArray k) ∈ news) (hne : @Ne Nat tA sA) (htop : vs.length = 2 ∨ vs.length = 4) (hvs : TxtsAre vs xs) (hx : 0 ≤ x) (hy : 0 ≤ y) (hy2 : y < 2147483647) :
    CallSpec w 152 20 160 news [.ref sA, .ref tA] (fun _ r news' => ∃ z tz x' tx' y' ty', r = .str z tz ∧ z ∈ xs ∧ 0 ≤ x' ∧ 0 ≤ y' ∧ y' < 2147483647 ∧ news' = (sA, listOf #[.int x' tx', .int y' ty'] n) :: offs [sA] news) := by
  intro loose mean mg mb dp un gd cn cs a ccd cl outer A₀ base h₀ L m s Q E B F X N T hk hd hu ret
  have lt := nw_lt N
  exact one_walk w B F X N hS hT hne htop hvs hx hy hy2 T hk hd hu fun h' tk' z tz x' tx' y' ty' h1 h2 h3 h4 F' N' => ret s.heap.objs.size _ h' tk' _ lt F' N' ⟨z, tz, x', tx', y', ty', rfl, h1, h2, h3, h4, rfl⟩
end Mine
end

-- text Y3
section
open PySem PySem.W PyProof.Rows PySem.Calls PyProof.Rows.LCg
set_option maxRecDepth 100000
set_option maxHeartbeats 8000000
namespace Mine
local macro_rules | `(tactic| k_mem) => `(tactic| assumption)
local macro_rules | `(tactic| walk_at "call ref") => `(tactic| (k_here; refine Hold.mk ?_))
local macro_rules | `(tactic| walk_at "subscriptTail") => `(tactic| (k_here; refine Hold.mk ?_))
local macro_rules | `(tactic| walk_at "call builtin:list.append") => `(tactic| (k_here; k_dflt (refine' append_nv (by assumption) (by k_asm) (by k_asm) (by k_upd) ?_); intro h' F' N'))
/-- the drawing list first, then the rest -/
theorem draw_led {h₀ h : Heap} {L sA nA D : Addr} {oS' oN oD : Obj} {news : List (Addr × Obj)} (hN : (nA, oN) ∈ news) (hne : @Ne Nat nA sA) (N : News h₀ L h ((sA, oS') :: offs [sA] ((D, oD) :: news))) : News h₀ L h ((nA, oN) :: (sA, oS') :: offs [sA, nA] news) := by
  refine nw_sub N fun p hp => ?_
  rcases List.mem_cons.mp hp with rfl | hp
  · exact .tail _ (mem_offs.mpr ⟨.tail _ hN, by simpa using hne⟩)
  rcases List.mem_cons.mp hp with rfl | hp
  · exact .head _
  · refine dig fun kG => ?_
    obtain ⟨h1, h2⟩ := mem_offs.mp hp
    refine kG ?_
    clear kG
    exact .tail _ (mem_offs.mpr ⟨.tail _ h1, fun h3 => h2 (List.mem_cons.mpr (.inl (List.mem_singleton.mp h3)))⟩)
theorem draw_twice {sA nA : Addr} {oS oS' oN oN2 : Obj} {news : List (Addr × Obj)} : ∀ p ∈ (nA, oN2) :: (sA, oS') :: offs [sA, nA] news, p ∈ (nA, oN2) :: (sA, oS') :: offs [sA, nA] ((nA, oN) :: (sA, oS) :: offs [sA, nA] news) := by
  intro p hp
  rcases List.mem_cons.mp hp with rfl | hp
  · exact .head _
  rcases List.mem_cons.mp hp with rfl | hp
  · exact .tail _ (.head _)
  · exact .tail _ (.tail _ (mem_offs.mpr ⟨.tail _ (.tail _ hp), (mem_offs.mp hp).2⟩))
theorem name_draw_walk (w : World) {loose : List Str} {mean : ExcName → Option Value} {mg mb : Str → Option Value}
  {dp un : Nat} {gd : Option (List Code)} {cn : Str} {cs : Scope} {a : Addr} {ccd : Value} {cl : List (Str × Addr)} {outer : List Env} {A₀ : Around} {base h₀ : Heap} {L : Addr} {m : Str → Option Value} {s : Shared} {Q E : Value → Shared → Prop}
  {news : List (Addr × Obj)} {sA nA : Addr} {x y : Int} {tx ty : Tok} {n kn : Nat} {nv : List Value} {nms : List Str}
  (B : Below A₀ base outer h₀) (F : Fr h₀ L s.heap m) (X : (hd.heap_39 w.params).In h₀) (N : News h₀ L s.heap news)
  (hS : (sA, listOf #[.int x tx, .int y ty] n) ∈ news) (hN : (nA, listOf nv.toArray kn) ∈ news) (hne : @Ne Nat nA sA) (hnv : StrsAre nv nms) (hnl : nms.length ≤ 100) (hx : 0 ≤ x) (hy : 0 ≤ y) (hy2 : y < 2147483647)
  (T : Top hd.view_39 loose mean mg mb h₀) (hk : cs.kind = .function) (hdp : dp + 30 < recursionLimit) (hu : un + 300 < cLine)
  (hret : ∀ h' tk' D t1 t2 t3 nm mk nv' kn' x' tx' y' ty', (∀ p ∈ news, p.1 < D) → StrsAre nv' (nms ++ [nm]) → 0 ≤ x' → 0 ≤ y' → y' < 2147483647 → Fr h₀ L h' m → News h₀ L h' ((D, tupOf #[.str (Str.ofString "name") t1, .str nm t2, .str mk t3] 0) :: (nA, listOf nv'.toArray kn') :: (sA, listOf #[.int x' tx', .int y' ty'] n) :: offs [sA, nA] news) → Q (.ref D) { s with heap := h', toks := tk' }) :
  wpAny (model PySem.Challenge.rw_xw0200_01.row.prog w) (ktrTop dp un gd cn cs L a ccd cl outer) (call (.ref 181) [.ref sA, .ref nA]) Q E s := by
  w_top off
  revert X; k_fill; intro X
  refine wpAny_call ?_
  k_dflt cell_enter
  have hnl' : nv.length ≤ 100 := by rw [hnv.length]; exact hnl
  k_steps
  rename_i D1 h1 F1 N1 l1
  refine Hold.out ?_
  refine' CallSpec.use (one_c (xs := [Str.ofString "a", Str.ofString "b"]) (.tail _ hS) (.head _) (Nat.ne_of_gt (l1 _ hS)) (Or.inl rfl) (.cons _ _ (.cons _ _ .nil)) hx hy hy2) ?kB ?kF ?kX ?kN ?kT ?kk ?kd ?ku ?_
  case kB => k_asm
  case kF => k_asm
  case kX => k_asm
  case kN => k_asm
  case kT => k_asm
  case kk => exact rfl
  case kd => first | exact room2 hdp (by decide) | exact room2s hdp (by decide) | exact room2h hdp (by assumption) (by decide) | exact room2hs hdp (by assumption) (by decide) | exact room2c hdp (by decide) | exact room1 hdp (by decide) | exact room1c hdp (by decide) | ktr_room
  case ku => first | exact room2 hu (by decide) | exact room2s hu (by decide) | exact room2h hu (by assumption) (by decide) | exact room2hs hu (by assumption) (by decide) | exact room2c hu (by decide) | exact room1 hu (by decide) | exact room1c hu (by decide) | ktr_units
  intro b₁ r h₂ tk₂ led lt₁ F₂ N₂ hp
  refine dig fun kG => ?_
  obtain ⟨z, tz, x1, tx1, y1, ty1, rfl, hz, g1, g2, g3, rfl⟩ := hp
  have N₃ := draw_led hN hne N₂
  have hoff := offs_off [sA, nA] news
  clear N₂ N1 F1
  refine kG ?_
  clear kG
  k_steps
  rename_i h4 F4 N4
  try rw [List.push_toArray] at N4
  refine Hold.out ?_
  refine item_last N4 (.head _) (by omega) ?_
  have hnv1 : StrsAre (nv ++ [.str z tz]) (nms ++ [z]) := hnv.append' (.cons _ _ .nil)
  refine dig fun kG => ?_
  refine gen_eq (nv ++ [.str z tz]) fun nv1 hnv1e => ?_
  rw [← hnv1e] at N4 hnv1
  refine kG ?_
  clear kG
  k_steps
  rename_i D2 h5 F5 N5 l5
  refine Hold.out ?_
  refine' CallSpec.use (one_c (sA := sA) (xs := [Str.ofString "", Str.ofString "?", Str.ofString "*", Str.ofString "+"]) (.tail _ (.tail _ (.head _))) (.head _) (Nat.ne_of_gt (l5.2.1)) (Or.inr rfl) (.cons _ _ (.cons _ _ (.cons _ _ (.cons _ _ .nil)))) g1 g2 g3) ?kB ?kF ?kX ?kN ?kT ?kk ?kd ?ku ?_
  case kB => k_asm
  case kF => k_asm
  case kX => k_asm
  case kN => k_asm
  case kT => k_asm
  case kk => exact rfl
  case kd => first | exact room2 hdp (by decide) | exact room2s hdp (by decide) | exact room2h hdp (by assumption) (by decide) | exact room2hs hdp (by assumption) (by decide) | exact room2c hdp (by decide) | exact room1 hdp (by decide) | exact room1c hdp (by decide) | ktr_room
  case ku => first | exact room2 hu (by decide) | exact room2s hu (by decide) | exact room2h hu (by assumption) (by decide) | exact room2hs hu (by assumption) (by decide) | exact room2c hu (by decide) | exact room1 hu (by decide) | exact room1c hu (by decide) | ktr_units
  intro b₂ r h₆ tk₆ led lt₆ F₆ N₆ hp
  refine dig fun kG => ?_
  obtain ⟨mk, tm, x2, tx2, y2, ty2, rfl, hmk, g4, g5, g6, rfl⟩ := hp
  have N₇ := draw_led (nA := nA) (.head _) hne N₆
  have N₈ := nw_sub N₇ (draw_twice (nA := nA) (sA := sA) (news := news))
  clear N₇ N₆ N5
  refine kG ?_
  clear kG
  k_steps
  rename_i D3 h7 F7 N7 l7 kF kN Tc kX
  refine hret _ _ D3 _ _ _ z mk nv1 (kn + 1) x2 tx2 y2 ty2 (fun p hp => ?_) hnv1 g4 g5 g6 kF kN
  by_cases h1 : p.1 = sA
  · rw [h1]; exact l7.2.1
  by_cases h2 : p.1 = nA
  · rw [h2]; exact l7.1
  · exact (ktn_ltOf l7.2.2) p (mem_offs.mpr ⟨hp, by simp [h1, h2]⟩)
theorem name_draw_c {w : World} {news : List (Addr × Obj)} {sA nA : Addr} {x y : Int} {tx ty : Tok} {n kn : Nat} {nv : List Value} {nms : List Str} (hS : (sA, listOf #[.int x tx, .int y ty] n) ∈ news) (hN : (nA, listOf nv.toArray kn) ∈ news) (hne : @Ne Nat nA sA) (hnv : StrsAre nv nms) (hnl : nms.length ≤ 100) (hx : 0 ≤ x) (hy : 0 ≤ y) (hy2 : y < 2147483647) :
    CallSpec w 181 30 300 news [.ref sA, .ref nA] (fun b r news' => ∃ D t1 t2 t3 nm mk nv' kn' x' tx' y' ty', r = .ref D ∧ b ≤ D ∧ StrsAre nv' (nms ++ [nm]) ∧ 0 ≤ x' ∧ 0 ≤ y' ∧ y' < 2147483647 ∧
      news' = (D, tupOf #[.str (Str.ofString "name") t1, .str nm t2, .str mk t3] 0) :: (nA, listOf nv'.toArray kn') :: (sA, listOf #[.int x' tx', .int y' ty'] n) :: offs [sA, nA] news) := by
  intro loose mean mg mb dp un gd cn cs a ccd cl outer A₀ base h₀ L m s Q E B F X N T hk hd hu ret
  exact name_draw_walk w B F X N hS hN hne hnv hnl hx hy hy2 T hk hd hu fun h' tk' D t1 t2 t3 nm mk nv' kn' x' tx' y' ty' lt h1 h2 h3 h4 F' N' => ret D _ h' tk' _ lt F' N' ⟨D, t1, t2, t3, nm, mk, nv', kn', x', tx', y', ty', rfl, Nat.le_refl _, h1, h2, h3, h4, rfl⟩
end Mine
end

-- text Y4
section
open PySem PySem.W PyProof.Rows PySem.Calls PyProof.Rows.LCg
set_option maxRecDepth 100000
set_option maxHeartbeats 8000000
namespace Mine
local macro_rules | `(tactic| k_mem) => `(tactic| assumption)
local macro_rules | `(tactic| walk_at "call ref") => `(tactic| (k_here; refine Hold.mk ?_))
/-- what a draw of a particle leaves -/
def DrawPost (good : Part → Prop) (sA nA : Addr) (n : Nat) (nms : List Str) (news : List (Addr × Obj)) (b : Nat) (r : Value) (news' : List (Addr × Obj)) : Prop :=
  ∃ (P : Part) (seg : List (Addr × Obj)) (nv : List Value) (kn : Nat) (x : Int) (tx : Tok) (y : Int) (ty : Tok) (D : Addr), r = .ref D ∧ good P ∧ PartIn seg P r ∧ (∀ p ∈ seg, b ≤ p.1) ∧ StrsAre nv (nms ++ P.names) ∧ 0 ≤ x ∧ 0 ≤ y ∧ y < 2147483647 ∧
    news' = seg ++ (nA, listOf nv.toArray kn) :: (sA, listOf #[.int x tx, .int y ty] n) :: offs [sA, nA] news
def IsName (P : Part) : Prop := ∃ nm mk, P = .name nm mk
def IsGroup (P : Part) : Prop := ∃ s p q mk, IsName p ∧ IsName q ∧ P = .node s [p, q] mk
theorem name_post_c {w : World} {news : List (Addr × Obj)} {sA nA : Addr} {x y : Int} {tx ty : Tok} {n kn : Nat} {nv : List Value} {nms : List Str} (hS : (sA, listOf #[.int x tx, .int y ty] n) ∈ news) (hN : (nA, listOf nv.toArray kn) ∈ news) (hne : @Ne Nat nA sA) (hnv : StrsAre nv nms) (hnl : nms.length ≤ 100) (hx : 0 ≤ x) (hy : 0 ≤ y) (hy2 : y < 2147483647) :
    CallSpec w 181 30 300 news [.ref sA, .ref nA] (fun b r news' => DrawPost IsName sA nA n nms news b r news') := by
  intro loose mean mg mb dp un gd cn cs a ccd cl outer A₀ base h₀ L m s Q E B F X N T hk hd hu ret
  refine CallSpec.use (name_draw_c hS hN hne hnv hnl hx hy hy2) B F X N T hk hd hu fun b r h' tk' news' lt F' N' hp => ?_
  refine dig fun kG => ?_
  obtain ⟨D, t1, t2, t3, nm, mk, nv', kn', x', tx', y', ty', rfl, hb, h1, h2, h3, h4, rfl⟩ := hp
  refine kG ?_
  clear kG
  refine ret b _ h' tk' _ lt F' N' ⟨.name nm mk, [(D, tupOf #[.str (Str.ofString "name") t1, .str nm t2, .str mk t3] 0)], nv', kn', x', tx', y', ty', D, rfl, ⟨nm, mk, rfl⟩, ⟨D, 0, t1, t2, t3, rfl, .head _⟩, fun p hp => ?_, h1, h2, h3, h4, rfl⟩
  rw [List.mem_singleton.mp hp]; exact hb
mutual
theorem PartIn.mono {pw pw' : List (Addr × Obj)} (hs : ∀ p ∈ pw, p ∈ pw') : ∀ (P : Part) {v : Value}, PartIn pw P v → PartIn pw' P v
  | .name nm mk, v, h => by
    simp only [PartIn] at h ⊢
    refine dig fun kG => ?_
    obtain ⟨t, k, t1, t2, t3, rfl, hm⟩ := h
    refine kG ?_
    clear kG
    exact ⟨t, k, t1, t2, t3, rfl, hs _ hm⟩
  | .node s ps mk, v, h => by
    simp only [PartIn] at h ⊢
    refine dig fun kG => ?_
    obtain ⟨t, k, t1, t3, a, vs, k2, rfl, hm, hm2, hp⟩ := h
    refine kG ?_
    clear kG
    exact ⟨t, k, t1, t3, a, vs, k2, rfl, hs _ hm, hs _ hm2, PartsIn.mono hs ps hp⟩
theorem PartsIn.mono {pw pw' : List (Addr × Obj)} (hs : ∀ p ∈ pw, p ∈ pw') : ∀ (ps : List Part) {vs : List Value}, PartsIn pw ps vs → PartsIn pw' ps vs
  | [], vs, h => by simpa only [PartsIn] using h
  | p :: r, vs, h => by
    simp only [PartsIn] at h ⊢
    refine dig fun kG => ?_
    obtain ⟨v, vs', rfl, h1, h2⟩ := h
    refine kG ?_
    clear kG
    exact ⟨v, vs', rfl, PartIn.mono hs p h1, PartsIn.mono hs r h2⟩
end
/-- the ledger between two draws -/
theorem draw_next {h₀ h : Heap} {L sA nA : Addr} {oS oS' oN oN' : Obj} {seg seg2 rest : List (Addr × Obj)} (h1 : ∀ p ∈ seg, p.1 ≠ sA ∧ p.1 ≠ nA) (N : News h₀ L h (seg2 ++ (nA, oN') :: (sA, oS') :: offs [sA, nA] (seg ++ (nA, oN) :: (sA, oS) :: offs [sA, nA] rest))) : News h₀ L h (seg2 ++ (seg ++ (nA, oN') :: (sA, oS') :: offs [sA, nA] rest)) := by
  refine nw_sub N fun p hp => ?_
  rcases List.mem_append.mp hp with hp | hp
  · exact List.mem_append_left _ hp
  refine List.mem_append_right _ ?_
  rcases List.mem_append.mp hp with hp | hp
  · exact .tail _ (.tail _ (mem_offs.mpr ⟨List.mem_append_left _ hp, by simp [h1 p hp]⟩))
  rcases List.mem_cons.mp hp with rfl | hp
  · exact .head _
  rcases List.mem_cons.mp hp with rfl | hp
  · exact .tail _ (.head _)
  · exact .tail _ (.tail _ (mem_offs.mpr ⟨List.mem_append_right _ (.tail _ (.tail _ hp)), (mem_offs.mp hp).2⟩))
theorem draw_one {h₀ h : Heap} {L sA D D' : Addr} {oS oS' o o' : Obj} {own : List (Addr × Obj)} (hD : @Ne Nat D sA) (ho : OwnOff own [sA]) (N : News h₀ L h ((sA, oS') :: offs [sA] ((D', o') :: (D, o) :: (sA, oS) :: own))) : News h₀ L h ((D, o) :: (sA, oS') :: own) := by
  refine nw_sub N fun p hp => ?_
  rcases List.mem_cons.mp hp with rfl | hp
  · exact .tail _ (mem_offs.mpr ⟨.tail _ (.head _), by simpa using hD⟩)
  rcases List.mem_cons.mp hp with rfl | hp
  · exact .head _
  · exact .tail _ (mem_offs.mpr ⟨.tail _ (.tail _ (.tail _ hp)), fun h => ho p hp sA (.head _) (List.mem_singleton.mp h)⟩)
theorem partIn_has {pw : List (Addr × Obj)} {P : Part} {D : Addr} (h : PartIn pw P (.ref D)) : ∃ o, (D, o) ∈ pw := by
  cases P with
  | name nm mk => simp only [PartIn] at h; obtain ⟨t, k, t1, t2, t3, e, hm⟩ := h; cases e; exact ⟨_, hm⟩
  | node s ps mk => simp only [PartIn] at h; obtain ⟨t, k, t1, t3, a, vs, k2, e, hm, _⟩ := h; cases e; exact ⟨_, hm⟩
theorem group_walk (w : World) {loose : List Str} {mean : ExcName → Option Value} {mg mb : Str → Option Value}
  {dp un : Nat} {gd : Option (List Code)} {cn : Str} {cs : Scope} {a : Addr} {ccd : Value} {cl : List (Str × Addr)} {outer : List Env} {A₀ : Around} {base h₀ : Heap} {L : Addr} {m : Str → Option Value} {s : Shared} {Q E : Value → Shared → Prop}
  {news : List (Addr × Obj)} {sA nA : Addr} {x y : Int} {tx ty : Tok} {n kn : Nat} {nv : List Value} {nms : List Str}
  (B : Below A₀ base outer h₀) (F : Fr h₀ L s.heap m) (X : (hd.heap_39 w.params).In h₀) (N : News h₀ L s.heap news)
  (hS : (sA, listOf #[.int x tx, .int y ty] n) ∈ news) (hN : (nA, listOf nv.toArray kn) ∈ news) (hne : @Ne Nat nA sA) (hnv : StrsAre nv nms) (hnl : nms.length ≤ 90) (hx : 0 ≤ x) (hy : 0 ≤ y) (hy2 : y < 2147483647)
  (T : Top hd.view_39 loose mean mg mb h₀) (hk : cs.kind = .function) (hdp : dp + 40 < recursionLimit) (hu : un + 400 < cLine)
  (hret : ∀ h' tk' b r news', (∀ p ∈ news, p.1 < b) → DrawPost IsGroup sA nA n nms news b r news' → Fr h₀ L h' m → News h₀ L h' news' → Q r { s with heap := h', toks := tk' }) :
  wpAny (model PySem.Challenge.rw_xw0200_01.row.prog w) (ktrTop dp un gd cn cs L a ccd cl outer) (call (.ref 188) [.ref sA, .ref nA]) Q E s := by
  w_top off
  revert X; k_fill; intro X
  refine wpAny_call ?_
  k_dflt cell_enter
  k_steps
  refine Hold.out ?_
  refine' CallSpec.use (name_post_c hS hN hne hnv (by omega) hx hy hy2) ?kB ?kF ?kX ?kN ?kT ?kk ?kd ?ku ?_
  case kB => k_asm
  case kF => k_asm
  case kX => k_asm
  case kN => k_asm
  case kT => k_asm
  case kk => exact rfl
  case kd => first | exact room2 hdp (by decide) | exact room2s hdp (by decide) | exact room2h hdp (by assumption) (by decide) | exact room2hs hdp (by assumption) (by decide) | exact room2c hdp (by decide) | exact room1 hdp (by decide) | exact room1c hdp (by decide) | ktr_room
  case ku => first | exact room2 hu (by decide) | exact room2s hu (by decide) | exact room2h hu (by assumption) (by decide) | exact room2hs hu (by assumption) (by decide) | exact room2c hu (by decide) | exact room1 hu (by decide) | exact room1c hu (by decide) | ktr_units
  intro b₁ r₁ h₁ tk₁ led₁ lt₁ F₁ N₁ hp
  refine dig fun kG => ?_
  obtain ⟨P₁, seg₁, nv₁, kn₁, x₁, tx₁, y₁, ty₁, D₁, rfl, gd₁, pi₁, sb₁, hnv₁, hx₁, hy₁, hz₁, rfl⟩ := hp
  have hl₁ : (nms ++ P₁.names).length ≤ 91 := by
    obtain ⟨nm, mk, rfl⟩ := gd₁
    simp [Part.names]; omega
  have ltS := lt₁ _ hS
  have ltN := lt₁ _ hN
  have so₁ : ∀ p ∈ seg₁, p.1 ≠ sA ∧ p.1 ≠ nA := fun p hp => ⟨Nat.ne_of_gt (Nat.lt_of_lt_of_le ltS (sb₁ p hp)), Nat.ne_of_gt (Nat.lt_of_lt_of_le ltN (sb₁ p hp))⟩
  refine kG ?_
  clear kG
  k_steps
  refine Hold.out ?_
  refine' CallSpec.use (name_post_c (List.mem_append_right _ (.tail _ (.head _))) (List.mem_append_right _ (.head _)) hne hnv₁ (by omega) hx₁ hy₁ hz₁) ?kB ?kF ?kX ?kN ?kT ?kk ?kd ?ku ?_
  case kB => k_asm
  case kF => k_asm
  case kX => k_asm
  case kN => k_asm
  case kT => k_asm
  case kk => exact rfl
  case kd => first | exact room2 hdp (by decide) | exact room2s hdp (by decide) | exact room2h hdp (by assumption) (by decide) | exact room2hs hdp (by assumption) (by decide) | exact room2c hdp (by decide) | exact room1 hdp (by decide) | exact room1c hdp (by decide) | ktr_room
  case ku => first | exact room2 hu (by decide) | exact room2s hu (by decide) | exact room2h hu (by assumption) (by decide) | exact room2hs hu (by assumption) (by decide) | exact room2c hu (by decide) | exact room1 hu (by decide) | exact room1c hu (by decide) | ktr_units
  intro b₂ r₂ h₂ tk₂ led₂ lt₂ F₂ N₂ hp
  refine dig fun kG => ?_
  obtain ⟨P₂, seg₂, nv₂, kn₂, x₂, tx₂, y₂, ty₂, D₂, rfl, gd₂, pi₂, sb₂, hnv₂, hx₂, hy₂, hz₂, rfl⟩ := hp
  have N₃ := draw_next so₁ N₂
  refine gen_eq (listOf #[.int x₂ tx₂, .int y₂ ty₂] n) fun (oS₂ : Obj) hoS₂ => ?_
  refine gen_eq (seg₂ ++ (seg₁ ++ (nA, listOf nv₂.toArray kn₂) :: offs [sA, nA] news)) fun own hown => ?_
  have ltS₂ := lt₂ _ (List.mem_append_right seg₁ (.tail _ (.head _)))
  have hoff : OwnOff own [sA] := by
    intro p hp b hb e
    rw [List.mem_singleton.mp hb] at e
    rw [hown] at hp
    rcases List.mem_append.mp hp with hp | hp
    · exact Nat.ne_of_gt (Nat.lt_of_lt_of_le ltS₂ (sb₂ p hp)) e
    rcases List.mem_append.mp hp with hp | hp
    · exact (so₁ p hp).1 e
    rcases List.mem_cons.mp hp with rfl | hp
    · exact hne e
    · exact (mem_offs.mp hp).2 (by rw [e]; exact .head _)
  have N₄ : News _ _ h₂ ((sA, listOf #[.int x₂ tx₂, .int y₂ ty₂] n) :: own) := nw_sub N₃ fun p hp => by
    rcases List.mem_cons.mp hp with rfl | hp
    · exact List.mem_append_right _ (List.mem_append_right _ (.tail _ (.head _)))
    rw [hown] at hp
    rcases List.mem_append.mp hp with hp | hp
    · exact List.mem_append_left _ hp
    refine List.mem_append_right _ ?_
    rcases List.mem_append.mp hp with hp | hp
    · exact List.mem_append_left _ hp
    refine List.mem_append_right _ ?_
    rcases List.mem_cons.mp hp with rfl | hp
    · exact .head _
    · exact .tail _ (.tail _ hp)
  clear N₃ N₂ N₁ F₁
  obtain ⟨o₁, ho₁⟩ := partIn_has pi₁
  have hD₁ := sb₁ _ ho₁
  have mD₁ : (D₁, o₁) ∈ own := by rw [hown]; exact List.mem_append_right _ (List.mem_append_left _ ho₁)
  refine kG ?_
  clear kG
  k_steps
  rename_i D3 h3 l3 h4 D4 h5 F4 N5 l4
  refine Hold.out ?_
  refine' CallSpec.use (one_c (sA := sA) (xs := [Str.ofString "seq", Str.ofString "choice"]) (.tail _ (.tail _ (.head _))) (.head _) (Nat.ne_of_gt (l4.2.1)) (Or.inl rfl) (.cons _ _ (.cons _ _ .nil)) hx₂ hy₂ hz₂) ?kB ?kF ?kX ?kN ?kT ?kk ?kd ?ku ?_
  case kB => k_asm
  case kF => k_asm
  case kX => k_asm
  case kN => k_asm
  case kT => k_asm
  case kk => exact rfl
  case kd => first | exact room2 hdp (by decide) | exact room2s hdp (by decide) | exact room2h hdp (by assumption) (by decide) | exact room2hs hdp (by assumption) (by decide) | exact room2c hdp (by decide) | exact room1 hdp (by decide) | exact room1c hdp (by decide) | ktr_room
  case ku => first | exact room2 hu (by decide) | exact room2s hu (by decide) | exact room2h hu (by assumption) (by decide) | exact room2hs hu (by assumption) (by decide) | exact room2c hu (by decide) | exact room1 hu (by decide) | exact room1c hu (by decide) | ktr_units
  intro b₃ r₃ h₆ tk₆ led₃ lt₃ F₆ N₆ hp
  refine dig fun kG => ?_
  obtain ⟨kd, tkd, x₃, tx₃, y₃, ty₃, rfl, hkd, hx₃, hy₃, hz₃, rfl⟩ := hp
  have N₇ := draw_one (Nat.ne_of_gt l3.1) hoff N₆
  clear N₆ N5 F4
  refine kG ?_
  clear kG
  k_steps
  rename_i D5 h7 F7 N8 l5
  refine Hold.out ?_
  refine' CallSpec.use (one_c (sA := sA) (xs := [Str.ofString "", Str.ofString "*", Str.ofString "?", Str.ofString "+"]) (.tail _ (.tail _ (.head _))) (.head _) (Nat.ne_of_gt (l5.2.1)) (Or.inr rfl) (.cons _ _ (.cons _ _ (.cons _ _ (.cons _ _ .nil)))) hx₃ hy₃ hz₃) ?kB ?kF ?kX ?kN ?kT ?kk ?kd ?ku ?_
  case kB => k_asm
  case kF => k_asm
  case kX => k_asm
  case kN => k_asm
  case kT => k_asm
  case kk => exact rfl
  case kd => first | exact room2 hdp (by decide) | exact room2s hdp (by decide) | exact room2h hdp (by assumption) (by decide) | exact room2hs hdp (by assumption) (by decide) | exact room2c hdp (by decide) | exact room1 hdp (by decide) | exact room1c hdp (by decide) | ktr_room
  case ku => first | exact room2 hu (by decide) | exact room2s hu (by decide) | exact room2h hu (by assumption) (by decide) | exact room2hs hu (by assumption) (by decide) | exact room2c hu (by decide) | exact room1 hu (by decide) | exact room1c hu (by decide) | ktr_units
  intro b₄ r₄ h₈ tk₈ led₄ lt₄ F₈ N₉ hp
  refine dig fun kG => ?_
  obtain ⟨mk, tmk, x₄, tx₄, y₄, ty₄, rfl, hmk, hx₄, hy₄, hz₄, rfl⟩ := hp
  have N₁₀ := draw_one (Nat.ne_of_gt l3.1) hoff N₉
  clear N₉ N8 F7
  refine kG ?_
  clear kG
  k_steps
  rename_i D6 h9 F9 N11 l6 kF kN Tc kX
  have hks : ∃ b : Bool, kd = if b then Str.ofString "seq" else Str.ofString "choice" := by
    rcases List.mem_cons.mp hkd with rfl | h
    · exact ⟨true, rfl⟩
    · exact ⟨false, List.mem_singleton.mp h⟩
  refine dig fun kG => ?_
  obtain ⟨b, rfl⟩ := hks
  have l31 := (ktn_ltOf l3.2) _ mD₁
  have l61 := (ktn_ltOf l6.2.2) _ mD₁
  refine kG ?_
  clear kG
  refine hret _ _ b₁ (.ref D6) _ (fun p hp => lt₁ p hp) ⟨.node b [P₁, P₂] mk, (D6, tupOf #[.str (if b then Str.ofString "seq" else Str.ofString "choice") tkd, .ref D3, .str mk tmk] 0) :: (D3, tupOf #[.ref D₁, .ref D₂] 0) :: (seg₂ ++ seg₁), nv₂, kn₂, x₄, tx₄, y₄, ty₄, D6, rfl, ⟨b, P₁, P₂, mk, gd₁, gd₂, rfl⟩, ?_, fun p hp => ?_, ?_, hx₄, hy₄, hz₄, rfl⟩ kF (nw_sub kN fun p hp => ?_)
  · simp only [PartIn, PartsIn]
    exact ⟨D6, 0, tkd, tmk, D3, [.ref D₁, .ref D₂], 0, rfl, .head _, .tail _ (.head _), .ref D₁, [.ref D₂], rfl, pi₁.mono (fun p hp => .tail _ (.tail _ (List.mem_append_right _ hp))) _, .ref D₂, [], rfl, pi₂.mono (fun p hp => .tail _ (.tail _ (List.mem_append_left _ hp))) _, rfl⟩
  · rcases List.mem_cons.mp hp with rfl | hp
    · exact Nat.le_of_lt (Nat.lt_of_le_of_lt hD₁ l61)
    rcases List.mem_cons.mp hp with rfl | hp
    · exact Nat.le_of_lt (Nat.lt_of_le_of_lt hD₁ l31)
    rcases List.mem_append.mp hp with hp | hp
    · exact Nat.le_trans hD₁ (Nat.le_trans (Nat.le_of_lt (lt₂ _ (List.mem_append_left _ ho₁))) (sb₂ p hp))
    · exact sb₁ p hp
  · simp only [Part.names, Part.namess, List.append_nil]
    rw [← List.append_assoc]; exact hnv₂
  · rw [hown]
    rcases List.mem_cons.mp hp with rfl | hp
    · exact .head _
    rcases List.mem_cons.mp hp with rfl | hp
    · exact .tail _ (.head _)
    rcases List.mem_append.mp hp with hp | hp
    · refine .tail _ (.tail _ (.tail _ ?_))
      rcases List.mem_append.mp hp with hp | hp
      · exact List.mem_append_left _ hp
      · exact List.mem_append_right _ (List.mem_append_left _ hp)
    rcases List.mem_cons.mp hp with rfl | hp
    · exact .tail _ (.tail _ (.tail _ (List.mem_append_right _ (List.mem_append_right _ (.head _)))))
    rcases List.mem_cons.mp hp with rfl | hp
    · exact .tail _ (.tail _ (.head _))
    · exact .tail _ (.tail _ (.tail _ (List.mem_append_right _ (List.mem_append_right _ (.tail _ hp)))))
theorem group_c {w : World} {news : List (Addr × Obj)} {sA nA : Addr} {x y : Int} {tx ty : Tok} {n kn : Nat} {nv : List Value} {nms : List Str} (hS : (sA, listOf #[.int x tx, .int y ty] n) ∈ news) (hN : (nA, listOf nv.toArray kn) ∈ news) (hne : @Ne Nat nA sA) (hnv : StrsAre nv nms) (hnl : nms.length ≤ 90) (hx : 0 ≤ x) (hy : 0 ≤ y) (hy2 : y < 2147483647) :
    CallSpec w 188 40 400 news [.ref sA, .ref nA] (fun b r news' => DrawPost IsGroup sA nA n nms news b r news') := by
  intro loose mean mg mb dp un gd cn cs a ccd cl outer A₀ base h₀ L m s Q E B F X N T hk hd hu ret
  exact group_walk w B F X N hS hN hne hnv hnl hx hy hy2 T hk hd hu fun h' tk' b r news' lt hp F' N' => ret b r h' tk' news' lt F' N' hp
end Mine
end

-- text Y5
section
open PySem PySem.W PyProof.Rows PySem.Calls PyProof.Rows.LCg
set_option maxRecDepth 100000
set_option maxHeartbeats 8000000
namespace Mine
def MRight : Prop := ∀ (w : World) (news : List (Addr × Obj)) (mk : Str) (u : Tok), CallSpec w 174 500 3000 news [.str mk u] (fun _ r news' => r = .bool true ∧ news' = news)
def MModel : Prop := ∀ (w : World) (news pw : List (Addr × Obj)) (P : Part) (v : Value) (H nmA kn : Nat) (nmv : List Value), PartIn pw P v → (∀ p ∈ pw, p ∈ news) → P.size ≤ 30 → P.height ≤ H → (P.subs 0).length ≤ 100 →
    (nmA, listOf nmv.toArray kn) ∈ news → StrsAre nmv P.names → (∀ x ∈ P.subs 0, x.2.parts.length ≤ 100) →
    CallSpec w 167 (100 * H + 300) (600 * H + 1500) news [v, .ref nmA] (fun _ r news' => r = .bool true ∧ news' = news)
theorem loop_model (h167 : MModel) {w : World} {news : List (Addr × Obj)} {t a d1 d2 nmA : Addr} {mk : Str} {t1 t2 u1 u2 u3 v1 v2 v3 w1 w2 : Tok} (m1 : (t, tupOf #[.str (Str.ofString "seq") t1, .ref a, .str mk t2] 0) ∈ news) (m2 : (a, tupOf #[.ref d1, .ref d2] 0) ∈ news)
    (m3 : (d1, tupOf #[.str (Str.ofString "name") u1, .str (Str.ofString "a") u2, .str (Str.ofString "?") u3] 0) ∈ news) (m4 : (d2, tupOf #[.str (Str.ofString "name") v1, .str (Str.ofString "b") v2, .str (Str.ofString "") v3] 0) ∈ news)
    (m5 : (nmA, listOf #[.str (Str.ofString "a") w1, .str (Str.ofString "b") w2] 0) ∈ news) : CallSpec w 167 500 2700 news [.ref t, .ref nmA] (fun _ r news' => r = .bool true ∧ news' = news) := by
  have hP : PartIn news (.node true [.name (Str.ofString "a") (Str.ofString "?"), .name (Str.ofString "b") (Str.ofString "")] mk) (.ref t) := by
    simp only [PartIn, PartsIn]
    exact ⟨t, 0, _, _, a, [.ref d1, .ref d2], 0, rfl, m1, m2, .ref d1, [.ref d2], rfl, ⟨d1, 0, _, _, _, rfl, m3⟩, .ref d2, [], rfl, ⟨d2, 0, _, _, _, rfl, m4⟩, rfl⟩
  refine h167 w news news _ (.ref t) 2 nmA 0 [.str (Str.ofString "a") w1, .str (Str.ofString "b") w2] hP (fun p hp => hp) ?_ ?_ ?_ m5 ?_ ?_
  · simp [Part.size, Part.sizes]
  · simp [Part.height, Part.heights]
  · simp [Part.subs, Part.subss]
  · exact .cons _ _ (.cons _ _ .nil)
  · simp [Part.subs, Part.subss, Part.parts]
end Mine
end

-- text Y7
section
open PySem PySem.W PyProof.Rows PySem.Calls PyProof.Rows.LCg
set_option maxRecDepth 100000
set_option maxHeartbeats 8000000
namespace Mine
inductive LawPart : Prop | mk
theorem to_int {M : Model} {A : Around} {E Q : Value → Shared → Prop} {s : Shared} {x : Sem Value} (ha : ∀ Q' : Value → Shared → Prop, (∀ c t tk, Q' (.int c t) { s with toks := tk }) → wpAny M A x Q' E s) (hb : ∀ c t tk, Q (.int c t) { s with toks := tk }) : wpAny M A x Q E s := ha Q hb
theorem pool_pick {h₀ h : Heap} {L D0 nA sA : Addr} {o0 : Obj} {x y : Int} {tx ty : Tok} {rest : List (Addr × Obj)} (N : News h₀ L h ((D0, o0) :: (nA, listOf #[] 0) :: (sA, listOf #[.int x tx, .int y ty] 0) :: rest)) (hx : 0 ≤ x) (hy : 0 ≤ y ∧ y < 2147483647) :
    ∃ x' tx' y' ty', 0 ≤ x' ∧ 0 ≤ y' ∧ y' < 2147483647 ∧ News h₀ L h [(nA, listOf #[] 0), (sA, listOf #[.int x' tx', .int y' ty'] 0)] := by
  refine ⟨x, tx, y, ty, hx, hy.1, hy.2, nw_sub N fun p hp => ?_⟩
  rcases List.mem_cons.mp hp with rfl | hp
  · exact .tail _ (.head _)
  · rw [List.mem_singleton.mp hp]; exact .tail _ (.tail _ (.head _))
theorem great_nonneg {c : Int} {p : Prop} [Decidable p] : 0 ≤ (if -1 - c > c then -1 - c else c) * (if p then (1 : Int) else 0) := by
  refine Int.mul_nonneg ?_ ?_
  · split <;> omega
  · split <;> decide
theorem led_of {h₀ h : Heap} {L : Addr} {l : List (Addr × Obj)} (N : News h₀ L h l) : ∃ l', l' = l ∧ News h₀ L h l' := ⟨l, rfl, N⟩
theorem nw_first {h₀ h : Heap} {L : Addr} {l : List (Addr × Obj)} {p : Addr × Obj} (N : News h₀ L h l) (hp : p ∈ l) : News h₀ L h (p :: l) := nw_sub N fun q hq => (List.mem_cons.mp hq).elim (fun e => e ▸ hp) id
theorem law_end {cl : Str → Option Addr} {mean : ExcName → Option Value} {ns : List Int} {s₁ s' : Shared} {L : Addr} {m : Str → Option Value} (F : Fr s₁.heap L s'.heap m) (hg : s'.gens = #[]) (hos : s'.os = s₁.os) :
    GoodW PySem.Challenge.rw_xw0200_01.row.claim cl mean [ofPy (PyData.list (ns.map PyData.int))] s₁ (.ok (.ret (.bool true))) s' := by
  refine goodW_bool F hg (raisesW_false ?_) ?_ hos
  · wrow_none_raised
  · kc_post
theorem draw_own {h₀ h : Heap} {L sA nA : Addr} {oN oS : Obj} {seg keep news : List (Addr × Obj)} (N : News h₀ L h (seg ++ (nA, oN) :: (sA, oS) :: offs [sA, nA] news)) (hk : ∀ p ∈ keep, p ∈ news ∧ p.1 ≠ sA ∧ p.1 ≠ nA) (hseg : ∀ p ∈ seg, p.1 ≠ sA ∧ p.1 ≠ nA) :
    ∃ own, (∀ p ∈ seg, p ∈ own) ∧ (∀ p ∈ keep, p ∈ own) ∧ (∀ p ∈ own, p.1 ≠ sA ∧ p.1 ≠ nA) ∧ News h₀ L h ((nA, oN) :: (sA, oS) :: own) := by
  refine ⟨seg ++ keep, fun p hp => List.mem_append_left _ hp, fun p hp => List.mem_append_right _ hp, fun p hp => ?_, nw_sub N fun p hp => ?_⟩
  · rcases List.mem_append.mp hp with hp | hp
    · exact hseg p hp
    · exact (hk p hp).2
  · rcases List.mem_cons.mp hp with rfl | hp
    · exact List.mem_append_right _ (.head _)
    rcases List.mem_cons.mp hp with rfl | hp
    · exact List.mem_append_right _ (.tail _ (.head _))
    rcases List.mem_append.mp hp with hp | hp
    · exact List.mem_append_left _ hp
    · exact List.mem_append_right _ (.tail _ (.tail _ (mem_offs.mpr ⟨(hk p hp).1, by simp [(hk p hp).2]⟩)))
theorem one_next {h₀ h : Heap} {L sA : Addr} {oS : Obj} {led tg : List (Addr × Obj)} (N : News h₀ L h ((sA, oS) :: offs [sA] led)) (ht : ∀ p ∈ tg, p ∈ led ∧ @Ne Nat p.1 sA) : News h₀ L h ((sA, oS) :: tg) := by
  refine nw_sub N fun p hp => ?_
  rcases List.mem_cons.mp hp with rfl | hp
  · exact .head _
  · exact .tail _ (mem_offs.mpr ⟨(ht p hp).1, by simpa using (ht p hp).2⟩)
theorem kinds_of {kd : Str} (h : kd ∈ [Str.ofString "choice", Str.ofString "seq"]) : ∃ b : Bool, kd = if b then Str.ofString "seq" else Str.ofString "choice" := by
  rcases List.mem_cons.mp h with rfl | h
  · exact ⟨false, rfl⟩
  · exact ⟨true, List.mem_singleton.mp h⟩
structure Small (P : Part) : Prop where
  size : P.size ≤ 30
  height : P.height ≤ 3
  subs : (P.subs 0).length ≤ 100
  parts : ∀ x ∈ P.subs 0, x.2.parts.length ≤ 100
theorem small_two {P Q : Part} {b : Bool} {mk : Str} (h1 : IsGroup P) (h2 : IsName Q) : Small (.node b [P, Q] mk) := by
  obtain ⟨s, p, q, m1, ⟨n1, m2, rfl⟩, ⟨n2, m3, rfl⟩, rfl⟩ := h1
  obtain ⟨n3, m4, rfl⟩ := h2
  constructor <;> simp [Part.size, Part.sizes, Part.height, Part.heights, Part.subs, Part.subss, Part.parts]
theorem small_three {R P Q : Part} {b : Bool} {mk : Str} (h0 : IsName R) (h1 : IsGroup P) (h2 : IsName Q) : Small (.node b [R, P, Q] mk) := by
  obtain ⟨s, p, q, m1, ⟨n1, m2, rfl⟩, ⟨n2, m3, rfl⟩, rfl⟩ := h1
  obtain ⟨n3, m4, rfl⟩ := h2
  obtain ⟨n5, m5, rfl⟩ := h0
  constructor <;> simp [Part.size, Part.sizes, Part.height, Part.heights, Part.subs, Part.subss, Part.parts]
theorem IsName.one {P : Part} (h : IsName P) : P.names.length = 1 := by obtain ⟨n, m, rfl⟩ := h; rfl
theorem IsGroup.two {P : Part} (h : IsGroup P) : P.names.length = 2 := by
  obtain ⟨s, p, q, m1, ⟨n1, m2, rfl⟩, ⟨n2, m3, rfl⟩, rfl⟩ := h; rfl
theorem off_seg {seg news : List (Addr × Obj)} {b sA nA : Nat} {oS oN : Obj} (hb : ∀ p ∈ seg, b ≤ p.1) (lt : ∀ p ∈ news, p.1 < b) (hS : (sA, oS) ∈ news) (hN : (nA, oN) ∈ news) : ∀ p ∈ seg, p.1 ≠ sA ∧ p.1 ≠ nA := fun p hp => ⟨Nat.ne_of_gt (Nat.lt_of_lt_of_le (lt _ hS) (hb p hp)), Nat.ne_of_gt (Nat.lt_of_lt_of_le (lt _ hN) (hb p hp))⟩
end Mine
end

-- text Y6
section
open PySem PySem.W PyProof.Rows PySem.Calls PyProof.Rows.LCg
set_option maxRecDepth 100000
set_option maxHeartbeats 8000000
namespace Mine
section
theorem right_use (h : MRight) {w : World} {news : List (Addr × Obj)} {mk : Str} {u : Tok} : CallSpec w 174 500 3000 news [.str mk u] (fun _ r news' => r = .bool true ∧ news' = news) := h w news mk u
local macro_rules | `(tactic| walk_at "call ref") => `(tactic| (k_here; (first | (with_reducible show wpAny _ _ (call (Value.ref 174) _ _) _ _ _) | (with_reducible show wpAny _ _ (call (Value.ref 181) _ _) _ _ _) | (with_reducible show wpAny _ _ (call (Value.ref 188) _ _) _ _ _) | (with_reducible show wpAny _ _ (call (Value.ref 152) _ _) _ _ _) | (with_reducible show wpAny _ _ (call (Value.ref 167) _ _) _ _ _)); refine Hold.mk ?_))
local macro_rules | `(tactic| walk_at "exec Assign") => `(tactic| (k_here; (with_reducible show wpAny _ _ (exec (Stmt.Assign [Expr.Name _ _] (Expr.IfExp (Expr.Compare (Expr.Subscript _ _ _) _ _ _) _ _ _) _) _) _ _ _); (fail_if_success (have : LawPart := by with_reducible assumption)); refine Hold.mk ?_))
local macro_rules | `(tactic| walk_at "eval IfExp") => `(tactic| (k_here; (with_reducible show wpAny _ _ (eval (Expr.IfExp (Expr.Compare (Expr.Name _ _) _ _ _) _ _ _) _) _ _ _); (fail_if_success (have : LawPart := by with_reducible assumption)); refine Hold.mk ?_))
theorem str_four {a b c d : Str} {t1 t2 t3 t4 : Tok} (i : Nat) (v : Value) (h : ([.str a t1, .str b t2, .str c t3, .str d t4] : List Value)[i]? = some v) : ∃ mk t, v = .str mk t := by
  have := List.mem_of_getElem? h
  simp only [List.mem_cons, List.not_mem_nil, or_false] at this
  rcases this with rfl | rfl | rfl | rfl <;> exact ⟨_, _, rfl⟩
theorem look_head {h₀ h : Heap} {L : Addr} {m : Str → Option Value} {x : Str} {v : Value} (_ : Fr h₀ L h m) (e : m x = some v) : ∃ sc, sc = v ∧ m x = some sc := ⟨v, rfl, e⟩
theorem fold_one {m : Str → Option Value} {a : Str} {v : Value} (h : m a = some v) : (fun y => if y = a then some v else m y) = m := by
  funext y
  by_cases e : y = a
  · rw [if_pos e, e, h]
  · rw [if_neg e]
theorem fr_fold {h₀ h : Heap} {L : Addr} {m : Str → Option Value} {a : Str} {v : Value} (F : Fr h₀ L h m) (e : m a = some v) : Fr h₀ L h (fun y => if y = a then some v else m y) := by
  rw [fold_one e]; exact F
local macro_rules | `(tactic| walk_at "pyIter ref") => `(tactic| (k_here; refine Hold.mk ?_))
local macro_rules | `(tactic| walk_at "exec For") => `(tactic| (k_here; (rename Fr _ _ _ _ => lF'); (with_unfolding_all refine' For_invVF lF' rfl rfl ?_; k_whole)))
local macro_rules | `(tactic| k_qdec) => `(tactic| decide +kernel)
theorem top_walk (h174 : MRight) (h167 : MModel) : PySem.Challenge.rw_xw0200_01.Holds := by
  refine hd ?_
  k_go0
  with_reducible rename _ = (#[] : Array _) => hg0
  all_goals try k_fold
  k_steps
  rename_i LL hL FL NL lL
  refine Hold.out ?_
  refine dig fun kG => ?_
  obtain ⟨led0, hled0, NL2⟩ := led_of NL
  obtain ⟨vs, hmL, hvs⟩ : ∃ vs : List Value, (LL, listOf vs.toArray 0) ∈ led0 ∧ ∀ (i : Nat) v, vs[i]? = some v → ∃ mk t, v = .str mk t := ⟨[_, _, _, _], by rw [hled0]; exact .head _, str_four⟩
  obtain ⟨sc, hscv, hsc⟩ := look_head (x := Str.ofString "script") FL rfl
  clear NL hled0 lL
  refine kG ?_
  clear kG
  refine iter_lst (tA := LL) (vs := vs) (k := 0) (news := led0) (fun i m nx => nx = led0 ∧ m (Str.ofString "script") = some sc) (by rfl) FL NL2 ⟨rfl, hsc⟩ (fun i m nx h => by rw [h.1]; exact hmL) ?_ ?_
  · intro i v m₁ nx h tk it io hv hJ hlt hoff F₂ N₂
    refine dig fun kG => ?_
    obtain ⟨hnx, hsc1⟩ := hJ
    subst hnx
    obtain ⟨mk, tmk, rfl⟩ := hvs i v hv
    clear NL2 FL
    revert F₂ N₂
    intro F₂ N₂
    refine kG ?_
    clear kG
    k_steps
    refine Hold.out ?_
    k_dflt (refine' CallSpec.use (right_use h174) ?kB ?kF ?kX ?kN ?kT ?kk ?kd ?ku ?_)
    case kB => k_asm
    case kF => k_asm
    case kX => k_asm
    case kN => k_asm
    case kT => k_asm
    case kk => exact rfl
    case kd => ktr_room
    case ku => ktr_units
    intro bA rA hA tkA nwA ltA FA NA hpA
    refine dig fun kG => ?_
    obtain ⟨rfl, rfl⟩ := hpA
    clear ltA
    refine kG ?_
    clear kG
    k_steps
    refine Hold.out ?_
    k_dflt (refine' CallSpec.use (loop_model h167 ?m1 ?m2 ?m3 ?m4 ?m5) ?kB ?kF ?kX ?kN ?kT ?kk ?kd ?ku ?_)
    case kN => k_asm
    case m1 => k_mem
    case m2 => k_mem
    case m3 => k_mem
    case m4 => k_mem
    case m5 => k_mem
    case kB => k_asm
    case kF => k_asm
    case kX => k_asm
    case kT => k_asm
    case kk => exact rfl
    case kd => ktr_room
    case ku => ktr_units
    intro bB rB hB tkB nwB ltB FE NE hpB
    refine dig fun kG => ?_
    obtain ⟨rfl, rfl⟩ := hpB
    clear ltB
    refine kG ?_
    clear kG
    k_steps
    refine ⟨_, _, _, nx, rfl, FE, nw_sub NE fun p hp => .tail _ (.tail _ (.tail _ (.tail _ (.tail _ hp)))), hoff, rfl, ?_⟩
    first | exact hsc1 | (rw [if_neg (by decide)]; exact hsc1)

  intro m₁ nx h tk hJ F₂ N₂
  refine dig fun kG => ?_
  obtain ⟨hnx, hsc1⟩ := hJ
  subst hnx
  have F₃ := fr_fold F₂ hsc1
  subst hscv
  clear NL2 FL F₂ hmL hvs
  revert F₃ N₂
  intro F₃ N₂
  refine kG ?_
  clear kG
  k_steps
  clear h174
  refine Hold.out ?_
  refine to_int ?_ ?_
  · intro Q' hq'
    have lawPart := LawPart.mk
    k_steps
    all_goals exact hq' _ _ _
  intro c t tk
  k_steps
  rename_i sA hS5 F0 N0 lS Gc kX nA h4 ln D0 h3 lD ha hb hc F₁ N₁
  refine dig fun kG => ?_
  obtain ⟨x, tx, y, ty, hx, hy, hz, N₂⟩ := pool_pick N₁ great_nonneg (fmod_bd _ (by decide))
  have hne : @Ne Nat nA sA := Nat.ne_of_gt ln.1
  clear N₁ lD lS ln
  have lawPart := LawPart.mk
  refine kG ?_
  clear kG
  refine Hold.out ?_
  k_steps
  · rename_i tok cond
    clear cond
    refine Hold.out ?_
    k_dflt (refine' CallSpec.use (name_post_c (sA := sA) (nA := nA) (nv := []) (nms := []) (.tail _ (.head _)) (.head _) hne .nil (Nat.zero_le _) hx hy hz) ?kB ?kF ?kX ?kN ?kT ?kk ?kd ?ku ?_)
    case kB => k_asm
    case kF => k_asm
    case kX => k_asm
    case kN => k_asm
    case kT => k_asm
    case kk => exact rfl
    case kd => ktr_room
    case ku => ktr_units
    intro b₀ r₀ h₀ tk₀ led₀ lt₀ F₂ N₃ hp
    refine dig fun kG => ?_
    obtain ⟨P₀, seg₀, nv₀, kn₀, x₀, tx₀, y₀, ty₀, D₀, rfl, gd₀, pi₀, sb₀, hnv₀, hx₀, hy₀, hz₀, rfl⟩ := hp
    obtain ⟨own₀, up₀, kp₀, of₀, N₄⟩ := draw_own N₃ (keep := []) (fun p hp => nomatch hp) (off_seg sb₀ lt₀ (.tail _ (.head _)) (.head _))
    clear N₃ F₁ N₂
    refine kG ?_
    clear kG
    k_steps
    rename_i Dt hx1 lt hx2 F₃ N₃r
    refine dig fun kG => ?_
    obtain ⟨led₀, hled₀, N₃⟩ := led_of N₃r
    have hS₀ : (sA, listOf #[.int x₀ tx₀, .int y₀ ty₀] 0) ∈ led₀ := by rw [hled₀]; exact .tail _ (.tail _ (.head _))
    have hN₀ : (nA, listOf nv₀.toArray kn₀) ∈ led₀ := by rw [hled₀]; exact .tail _ (.head _)
    have mt₀ : (Dt, ({ cls := .type "tuple", data := .seq #[.ref D₀] } : Obj)) ∈ (Dt, ({ cls := .type "tuple", data := .seq #[.ref D₀] } : Obj)) :: own₀ := .head _
    have hkeep₀ : ∀ p ∈ (Dt, ({ cls := .type "tuple", data := .seq #[.ref D₀] } : Obj)) :: own₀, p ∈ led₀ ∧ p.1 ≠ sA ∧ p.1 ≠ nA := by
      intro p hp
      rcases List.mem_cons.mp hp with rfl | hp
      · rw [hled₀]; exact ⟨.head _, Nat.ne_of_gt lt.2.1, Nat.ne_of_gt lt.1⟩
      · rw [hled₀]; exact ⟨.tail _ (.tail _ (.tail _ hp)), of₀ p hp⟩
    have k₀ : ∀ p ∈ seg₀, p ∈ (Dt, ({ cls := .type "tuple", data := .seq #[.ref D₀] } : Obj)) :: own₀ := fun p hp => .tail _ (up₀ p hp)
    have hnl₀ : ([] ++ P₀.names).length ≤ 90 := by have := gd₀.one; simp only [List.length_append, List.length_nil]; omega
    clear N₃r
    refine kG ?_
    clear kG
    refine Hold.out ?_
    k_dflt (refine' CallSpec.use (group_c (sA := sA) (nA := nA) hS₀ hN₀ hne hnv₀ hnl₀ hx₀ hy₀ hz₀) ?kB ?kF ?kX ?kN ?kT ?kk ?kd ?ku ?_)
    case kB => k_asm
    case kF => k_asm
    case kX => k_asm
    case kN => k_asm
    case kT => k_asm
    case kk => exact rfl
    case kd => ktr_room
    case ku => ktr_units
    intro b₁ r₁ h₁ tk₁ led₁ lt₁ F₄ N₄ hp
    refine dig fun kG => ?_
    obtain ⟨P₁, seg₁, nv₁, kn₁, x₁, tx₁, y₁, ty₁, D₁, rfl, gd₁, pi₁, sb₁, hnv₁, hx₁, hy₁, hz₁, rfl⟩ := hp
    obtain ⟨own₁, up₁, kp₁, of₁, N₅⟩ := draw_own N₄ hkeep₀ (off_seg sb₁ lt₁ hS₀ hN₀)
    clear N₄ N₃ F₃
    refine kG ?_
    clear kG
    k_steps
    refine Hold.out ?_
    k_dflt (refine' CallSpec.use (name_post_c (sA := sA) (nA := nA) (.tail _ (.head _)) (.head _) hne hnv₁ (by have := gd₁.two; have := gd₀.one; simp only [List.length_append, List.length_nil]; omega) hx₁ hy₁ hz₁) ?kB ?kF ?kX ?kN ?kT ?kk ?kd ?ku ?_)
    case kB => k_asm
    case kF => k_asm
    case kX => k_asm
    case kN => k_asm
    case kT => k_asm
    case kk => exact rfl
    case kd => ktr_room
    case ku => ktr_units
    intro b₂ r₂ h₂ tk₂ led₂ lt₂ F₆ N₆ hp
    refine dig fun kG => ?_
    obtain ⟨P₂, seg₂, nv₂, kn₂, x₂, tx₂, y₂, ty₂, D₂, rfl, gd₂, pi₂, sb₂, hnv₂, hx₂, hy₂, hz₂, rfl⟩ := hp
    obtain ⟨own₂, up₂, kp₂, of₂, N₇⟩ := draw_own N₆ (keep := own₁) (fun p hp => ⟨.tail _ (.tail _ hp), of₁ p hp⟩) (off_seg sb₂ lt₂ (.tail _ (.head _)) (.head _))
    have mt := kp₂ _ (kp₁ _ mt₀)
    have N₈ := nw_first N₇ (.tail _ (.tail _ mt))
    clear N₇ N₆ F₄ N₅
    refine kG ?_
    clear kG
    k_steps
    rename_i Da hDa lDa Di hDi lDi hq1 Lk hq2 F₇ N₉ lLk
    refine Hold.out ?_
    k_dflt (refine' CallSpec.use (one_c (sA := sA) (xs := [Str.ofString "choice", Str.ofString "seq"]) (.tail _ (.tail _ (.tail _ (.tail _ (.tail _ (.head _)))))) (.head _) (Nat.ne_of_gt lLk.2.2.2.2.1) (Or.inl rfl) (.cons _ _ (.cons _ _ .nil)) hx₂ hy₂ hz₂) ?kB ?kF ?kX ?kN ?kT ?kk ?kd ?ku ?_)
    case kB => k_asm
    case kF => k_asm
    case kX => k_asm
    case kN => k_asm
    case kT => k_asm
    case kk => exact rfl
    case kd => ktr_room
    case ku => ktr_units
    intro b₃ r₃ h₃ tk₃ led₃ lt₃ F₉ N₁₀ hp
    refine dig fun kG => ?_
    obtain ⟨kd, tkd, x₃, tx₃, y₃, ty₃, rfl, hkd, hx₃, hy₃, hz₃, rfl⟩ := hp
    obtain ⟨kb, rfl⟩ := kinds_of hkd
    have N₁₁ := one_next (tg := (Di, ({ cls := .type "tuple", data := .seq #[.ref D₀, .ref D₁, .ref D₂] } : Obj)) :: (nA, listOf nv₂.toArray kn₂) :: own₂) N₁₀ (fun p hp => by
      rcases List.mem_cons.mp hp with rfl | hp
      · exact ⟨.tail _ (.head _), Nat.ne_of_gt lDi.2.2.2.1⟩
      rcases List.mem_cons.mp hp with rfl | hp
      · exact ⟨.tail _ (.tail _ (.tail _ (.tail _ (.head _)))), hne⟩
      · exact ⟨.tail _ (.tail _ (.tail _ (.tail _ (.tail _ (.tail _ (hp)))))), (of₂ p hp).1⟩)
    clear N₁₀ N₉ F₇
    refine kG ?_
    clear kG
    k_steps
    rename_i Lm hm F₁₀ N₁₂ lLm
    refine Hold.out ?_
    k_dflt (refine' CallSpec.use (one_c (sA := sA) (xs := [Str.ofString "*", Str.ofString "", Str.ofString "+", Str.ofString "?"]) (.tail _ (.head _)) (.head _) (Nat.ne_of_gt lLm.1) (Or.inr rfl) (.cons _ _ (.cons _ _ (.cons _ _ (.cons _ _ .nil)))) hx₃ hy₃ hz₃) ?kB ?kF ?kX ?kN ?kT ?kk ?kd ?ku ?_)
    case kB => k_asm
    case kF => k_asm
    case kX => k_asm
    case kN => k_asm
    case kT => k_asm
    case kk => exact rfl
    case kd => ktr_room
    case ku => ktr_units
    intro b₄ r₄ h₄ tk₄ led₄ lt₄ F₁₁ N₁₃ hp
    refine dig fun kG => ?_
    obtain ⟨mk, tmk, x₄, tx₄, y₄, ty₄, rfl, hmk, hx₄, hy₄, hz₄, rfl⟩ := hp
    have N₁₄ := one_next (tg := (Di, ({ cls := .type "tuple", data := .seq #[.ref D₀, .ref D₁, .ref D₂] } : Obj)) :: (nA, listOf nv₂.toArray kn₂) :: own₂) N₁₃ (fun p hp => by
      rcases List.mem_cons.mp hp with rfl | hp
      · exact ⟨.tail _ (.tail _ (.head _)), Nat.ne_of_gt lDi.2.2.2.1⟩
      rcases List.mem_cons.mp hp with rfl | hp
      · exact ⟨.tail _ (.tail _ (.tail _ (.head _))), hne⟩
      · exact ⟨.tail _ (.tail _ (.tail _ (.tail _ hp))), (of₂ p hp).1⟩)
    clear N₁₃ N₁₂ F₁₀
    refine kG ?_
    clear kG
    k_steps
    rename_i W hW1 lW hW2 F₁₂ N₁₅
    refine dig fun kG => ?_
    obtain ⟨ldw, hldw, N₁₆⟩ := led_of N₁₅
    have upw : ∀ p ∈ own₂, p ∈ ldw := fun p hp => by rw [hldw]; exact .tail _ (.tail _ (.tail _ (.tail _ hp)))
    have hPw : PartIn ldw (.node kb [P₀, P₁, P₂] mk) (.ref W) := by
      simp only [PartIn, PartsIn]
      exact ⟨W, 0, tkd, tmk, Di, [.ref D₀, .ref D₁, .ref D₂], 0, rfl, by rw [hldw]; exact .head _, by rw [hldw]; exact .tail _ (.tail _ (.head _)), .ref D₀, [.ref D₁, .ref D₂], rfl, pi₀.mono (fun p hp => upw p (kp₂ p (kp₁ p (k₀ p hp)))) _, .ref D₁, [.ref D₂], rfl, pi₁.mono (fun p hp => upw p (kp₂ p (up₁ p hp))) _, .ref D₂, [], rfl, pi₂.mono (fun p hp => upw p (up₂ p hp)) _, rfl⟩
    have hsm : Small (.node kb [P₀, P₁, P₂] mk) := small_three gd₀ gd₁ gd₂
    have hnw : (nA, listOf nv₂.toArray kn₂) ∈ ldw := by rw [hldw]; exact .tail _ (.tail _ (.tail _ (.head _)))
    have hns : StrsAre nv₂ (Part.node kb [P₀, P₁, P₂] mk).names := by
      simp only [Part.names, Part.namess, List.append_nil]
      simpa only [List.nil_append, List.append_assoc] using hnv₂
    clear N₁₅ hldw
    refine kG ?_
    clear kG
    refine Hold.out ?_
    k_dflt (refine' CallSpec.use (h167 _ ldw ldw _ (.ref W) 3 nA kn₂ nv₂ hPw (fun _ h => h) hsm.size hsm.height hsm.subs hnw hns hsm.parts) ?kB ?kF ?kX ?kN ?kT ?kk ?kd ?ku ?_)
    case kB => k_asm
    case kF => k_asm
    case kX => k_asm
    case kN => k_asm
    case kT => k_asm
    case kk => exact rfl
    case kd => ktr_room
    case ku => ktr_units
    intro b₅ r₅ h₅ tk₅ led₅ lt₅ F₁₃ N₁₇ hp
    refine dig fun kG => ?_
    obtain ⟨rfl, rfl⟩ := hp
    clear N₁₆ F₁₂
    refine kG ?_
    clear kG
    repeat' (first | (k_unfold; (try dsimp only)) | walk1 | (dsimp only; walk1) | (leave1; try dsimp only))
    refine' law_end ?hF ?hg ?ho
    case hF => exact F₁₃
    case hg => exact hg0
    case ho => exact rfl
  · rename_i tok cond Dt hx1 lt hx2 F₃ N₃r
    refine dig fun kG => ?_
    obtain ⟨led₀, hled₀, N₃⟩ := led_of N₃r
    have hS₀ : (sA, listOf #[.int x tx, .int y ty] 0) ∈ led₀ := by rw [hled₀]; exact .tail _ (.tail _ (.head _))
    have hN₀ : (nA, listOf ([] : List Value).toArray 0) ∈ led₀ := by rw [hled₀]; exact .tail _ (.head _)
    have mt₀ : (Dt, ({ cls := .type "tuple", data := .seq #[] } : Obj)) ∈ [(Dt, ({ cls := .type "tuple", data := .seq #[] } : Obj))] := .head _
    have hkeep₀ : ∀ p ∈ [(Dt, ({ cls := .type "tuple", data := .seq #[] } : Obj))], p ∈ led₀ ∧ p.1 ≠ sA ∧ p.1 ≠ nA := by
      intro p hp
      rw [List.mem_singleton.mp hp, hled₀]
      exact ⟨.head _, Nat.ne_of_gt lt.2, Nat.ne_of_gt lt.1⟩
    have hnv₀ : StrsAre [] [] := .nil
    have hnl₀ : ([] : List Str).length ≤ 90 := Nat.zero_le _
    clear N₃r cond
    refine kG ?_
    clear kG
    refine Hold.out ?_
    k_dflt (refine' CallSpec.use (group_c (sA := sA) (nA := nA) hS₀ hN₀ hne hnv₀ hnl₀ hx hy hz) ?kB ?kF ?kX ?kN ?kT ?kk ?kd ?ku ?_)
    case kB => k_asm
    case kF => k_asm
    case kX => k_asm
    case kN => k_asm
    case kT => k_asm
    case kk => exact rfl
    case kd => ktr_room
    case ku => ktr_units
    intro b₁ r₁ h₁ tk₁ led₁ lt₁ F₄ N₄ hp
    refine dig fun kG => ?_
    obtain ⟨P₁, seg₁, nv₁, kn₁, x₁, tx₁, y₁, ty₁, D₁, rfl, gd₁, pi₁, sb₁, hnv₁, hx₁, hy₁, hz₁, rfl⟩ := hp
    obtain ⟨own₁, up₁, kp₁, of₁, N₅⟩ := draw_own N₄ hkeep₀ (off_seg sb₁ lt₁ hS₀ hN₀)
    clear N₄ N₃ F₃
    refine kG ?_
    clear kG
    k_steps
    refine Hold.out ?_
    k_dflt (refine' CallSpec.use (name_post_c (sA := sA) (nA := nA) (.tail _ (.head _)) (.head _) hne hnv₁ (by have := gd₁.two; simp only [List.length_append, List.length_nil]; omega) hx₁ hy₁ hz₁) ?kB ?kF ?kX ?kN ?kT ?kk ?kd ?ku ?_)
    case kB => k_asm
    case kF => k_asm
    case kX => k_asm
    case kN => k_asm
    case kT => k_asm
    case kk => exact rfl
    case kd => ktr_room
    case ku => ktr_units
    intro b₂ r₂ h₂ tk₂ led₂ lt₂ F₆ N₆ hp
    refine dig fun kG => ?_
    obtain ⟨P₂, seg₂, nv₂, kn₂, x₂, tx₂, y₂, ty₂, D₂, rfl, gd₂, pi₂, sb₂, hnv₂, hx₂, hy₂, hz₂, rfl⟩ := hp
    obtain ⟨own₂, up₂, kp₂, of₂, N₇⟩ := draw_own N₆ (keep := own₁) (fun p hp => ⟨.tail _ (.tail _ hp), of₁ p hp⟩) (off_seg sb₂ lt₂ (.tail _ (.head _)) (.head _))
    have mt := kp₂ _ (kp₁ _ mt₀)
    have N₈ := nw_first N₇ (.tail _ (.tail _ mt))
    clear N₇ N₆ F₄ N₅
    refine kG ?_
    clear kG
    k_steps
    rename_i Di hDi lDi hq1 Lk hq2 F₇ N₉ lLk
    refine Hold.out ?_
    k_dflt (refine' CallSpec.use (one_c (sA := sA) (xs := [Str.ofString "choice", Str.ofString "seq"]) (.tail _ (.tail _ (.tail _ (.tail _ (.head _))))) (.head _) (Nat.ne_of_gt lLk.2.2.2.1) (Or.inl rfl) (.cons _ _ (.cons _ _ .nil)) hx₂ hy₂ hz₂) ?kB ?kF ?kX ?kN ?kT ?kk ?kd ?ku ?_)
    case kB => k_asm
    case kF => k_asm
    case kX => k_asm
    case kN => k_asm
    case kT => k_asm
    case kk => exact rfl
    case kd => ktr_room
    case ku => ktr_units
    intro b₃ r₃ h₃ tk₃ led₃ lt₃ F₉ N₁₀ hp
    refine dig fun kG => ?_
    obtain ⟨kd, tkd, x₃, tx₃, y₃, ty₃, rfl, hkd, hx₃, hy₃, hz₃, rfl⟩ := hp
    obtain ⟨kb, rfl⟩ := kinds_of hkd
    have N₁₁ := one_next (tg := (Di, ({ cls := .type "tuple", data := .seq #[.ref D₁, .ref D₂] } : Obj)) :: (nA, listOf nv₂.toArray kn₂) :: own₂) N₁₀ (fun p hp => by
      rcases List.mem_cons.mp hp with rfl | hp
      · exact ⟨.tail _ (.head _), Nat.ne_of_gt lDi.2.2.1⟩
      rcases List.mem_cons.mp hp with rfl | hp
      · exact ⟨.tail _ (.tail _ (.tail _ (.head _))), hne⟩
      · exact ⟨.tail _ (.tail _ (.tail _ (.tail _ (.tail _ (hp))))), (of₂ p hp).1⟩)
    clear N₁₀ N₉ F₇
    refine kG ?_
    clear kG
    k_steps
    rename_i Lm hm F₁₀ N₁₂ lLm
    refine Hold.out ?_
    k_dflt (refine' CallSpec.use (one_c (sA := sA) (xs := [Str.ofString "*", Str.ofString "", Str.ofString "+", Str.ofString "?"]) (.tail _ (.head _)) (.head _) (Nat.ne_of_gt lLm.1) (Or.inr rfl) (.cons _ _ (.cons _ _ (.cons _ _ (.cons _ _ .nil)))) hx₃ hy₃ hz₃) ?kB ?kF ?kX ?kN ?kT ?kk ?kd ?ku ?_)
    case kB => k_asm
    case kF => k_asm
    case kX => k_asm
    case kN => k_asm
    case kT => k_asm
    case kk => exact rfl
    case kd => ktr_room
    case ku => ktr_units
    intro b₄ r₄ h₄ tk₄ led₄ lt₄ F₁₁ N₁₃ hp
    refine dig fun kG => ?_
    obtain ⟨mk, tmk, x₄, tx₄, y₄, ty₄, rfl, hmk, hx₄, hy₄, hz₄, rfl⟩ := hp
    have N₁₄ := one_next (tg := (Di, ({ cls := .type "tuple", data := .seq #[.ref D₁, .ref D₂] } : Obj)) :: (nA, listOf nv₂.toArray kn₂) :: own₂) N₁₃ (fun p hp => by
      rcases List.mem_cons.mp hp with rfl | hp
      · exact ⟨.tail _ (.tail _ (.head _)), Nat.ne_of_gt lDi.2.2.1⟩
      rcases List.mem_cons.mp hp with rfl | hp
      · exact ⟨.tail _ (.tail _ (.tail _ (.head _))), hne⟩
      · exact ⟨.tail _ (.tail _ (.tail _ (.tail _ hp))), (of₂ p hp).1⟩)
    clear N₁₃ N₁₂ F₁₀
    refine kG ?_
    clear kG
    k_steps
    rename_i W hW1 lW hW2 F₁₂ N₁₅
    refine dig fun kG => ?_
    obtain ⟨ldw, hldw, N₁₆⟩ := led_of N₁₅
    have upw : ∀ p ∈ own₂, p ∈ ldw := fun p hp => by rw [hldw]; exact .tail _ (.tail _ (.tail _ (.tail _ hp)))
    have hPw : PartIn ldw (.node kb [P₁, P₂] mk) (.ref W) := by
      simp only [PartIn, PartsIn]
      exact ⟨W, 0, tkd, tmk, Di, [.ref D₁, .ref D₂], 0, rfl, by rw [hldw]; exact .head _, by rw [hldw]; exact .tail _ (.tail _ (.head _)), .ref D₁, [.ref D₂], rfl, pi₁.mono (fun p hp => upw p (kp₂ p (up₁ p hp))) _, .ref D₂, [], rfl, pi₂.mono (fun p hp => upw p (up₂ p hp)) _, rfl⟩
    have hsm : Small (.node kb [P₁, P₂] mk) := small_two gd₁ gd₂
    have hnw : (nA, listOf nv₂.toArray kn₂) ∈ ldw := by rw [hldw]; exact .tail _ (.tail _ (.tail _ (.head _)))
    have hns : StrsAre nv₂ (Part.node kb [P₁, P₂] mk).names := by
      simp only [Part.names, Part.namess, List.append_nil]
      simpa only [List.nil_append, List.append_assoc] using hnv₂
    clear N₁₅ hldw
    refine kG ?_
    clear kG
    refine Hold.out ?_
    k_dflt (refine' CallSpec.use (h167 _ ldw ldw _ (.ref W) 3 nA kn₂ nv₂ hPw (fun _ h => h) hsm.size hsm.height hsm.subs hnw hns hsm.parts) ?kB ?kF ?kX ?kN ?kT ?kk ?kd ?ku ?_)
    case kB => k_asm
    case kF => k_asm
    case kX => k_asm
    case kN => k_asm
    case kT => k_asm
    case kk => exact rfl
    case kd => ktr_room
    case ku => ktr_units
    intro b₅ r₅ h₅ tk₅ led₅ lt₅ F₁₃ N₁₇ hp
    refine dig fun kG => ?_
    obtain ⟨rfl, rfl⟩ := hp
    clear N₁₆ F₁₂
    refine kG ?_
    clear kG
    repeat' (first | (k_unfold; (try dsimp only)) | walk1 | (dsimp only; walk1) | (leave1; try dsimp only))
    refine' law_end ?hF ?hg ?ho
    case hF => exact F₁₃
    case hg => exact hg0
    case ho => exact rfl
end
end Mine
end

open PySem PySem.W PyProof.Rows
set_option maxRecDepth 100000 in
set_option maxHeartbeats 8000000 in
theorem PySem.Challenge.cw_xw0200_01_holds : PySem.Challenge.rw_xw0200_01.Holds :=
  Mine.top_walk (fun _ _ _ _ => Mine.mright_c) (fun _ _ _ _ _ _ _ _ _ hP hK hn hH hs hnm hns hsm => Mine.model_c hP hK hn hH hs hnm hns hsm)
