import PyProof.Rows.All
import Wide.All
import OpenK.AllK
import Wide.FinOn
import PySem.Challenge.RW_rh0071_01
open PySem PySem.W PyProof.Rows
set_option Elab.async false
set_option maxRecDepth 100000
set_option linter.unusedVariables false
set_option linter.unusedSimpArgs false
namespace Mine
noncomputable abbrev prg : Program := PySem.Challenge.pw_rh0071_01
noncomputable def prv : Program := view prg [1,2,3,4,5,7,8,9,11,12,13,14,15,16,17,18,19,20,21,22,23,24,25]
noncomputable abbrev rrow : RowW := PySem.Challenge.rw_rh0071_01.row.toRowW
noncomputable abbrev xtt : Shared → Bool := fun s => xlAt prv [] s && recOk (RowW.records rrow) s
theorem op3 : ∀ w : World, (fencedOpening treeTable prg w 2622).map (fun s => (s.heap, s.gens, s.drawn, s.toks)) = some (boot_heap w.params, Array.mk [], boot_drawn, boot_toks) :=
  boot_open (by kernel_rfl) (by rfl) (fun s => by kernel_rfl)
theorem leftB {p q : Program} {loose : List Str} {Xt : Shared → Bool} {α : Type} {Yf : Shared → α} {Ya : World → α} {N : Nat}
    (b : ∀ w : World, (fencedOpening treeTable p w N).map (fun s => (s.heap, s.gens, s.drawn, s.toks)) = some (boot_heap w.params, Array.mk [], boot_drawn, boot_toks))
    (h : ∀ (w : World) (os : OsState), (topFrom treeTable p w N ⟨boot_heap w.params, Array.mk [], boot_drawn, boot_toks, os⟩).map (fun s => (openSeen q loose (importedModules p.main.body) Xt true s, Yf s)) = some (openGood q loose, Ya w)) : LeftO p q loose Xt Yf Ya N := fun w => by
  obtain ⟨⟨hp, gs, d, k, os⟩, e, e'⟩ := Option.map_eq_some_iff.mp (b w)
  obtain ⟨rfl, rfl, rfl, rfl⟩ : hp = boot_heap w.params ∧ gs = Array.mk [] ∧ d = boot_drawn ∧ k = boot_toks := by simpa using e'
  unfold openEnds
  rw [e]
  exact h w os
theorem topF {p q : Program} {loose : List Str} {Xt : Shared → Bool} {α : Type} {Yf : Shared → α} {r : α} {N : Nat} {w : World} {s₀ : Shared} {n₀ : Nat} {ann : Option Value}
   (sz : (s₀.heap.isNs mainGlobals && s₀.gens.size == 0, s₀.heap.objs.size, s₀.heap.nsMap mainGlobals "__annotations__") = (true, n₀, ann))
   (h : (topRun treeTable p w n₀ ann N s₀ (topStub p)).map (fun s₁ => (staticsOk (importedModules p.main.body) s₀.heap s₁.heap && namesBound p s₁.heap && gensDone s₁ && laidKept s₀.heap s₁.heap, openSeen q loose (importedModules p.main.body) Xt true s₁, Yf s₁)) = some (true, openGood q loose, r)) :
   (topFrom treeTable p w N s₀).map (fun s => (openSeen q loose (importedModules p.main.body) Xt true s, Yf s)) = some (openGood q loose, r) := by
  simp only [Prod.mk.injEq] at sz
  obtain ⟨z1, z2, z3⟩ := sz
  obtain ⟨s₁, h1, h2⟩ := Option.map_eq_some_iff.mp h
  obtain ⟨h2, h3⟩ := Prod.mk.inj h2
  unfold topFrom
  rw [z1, z2, z3]
  show Option.map _ (Option.bind _ _) = _
  rw [h1]
  show Option.map _ (match staticsOk (importedModules p.main.body) s₀.heap s₁.heap && namesBound p s₁.heap && gensDone s₁ && laidKept s₀.heap s₁.heap with | true => some s₁ | false => none) = _
  rw [h2]
  exact congrArg some h3
theorem said1 : PySem.Challenge.rw_rh0071_01.wellSaid = true := by
  first
    | (refine (congrFun PySem.W.Fast.te9446332074065402090 _).trans ?_
       unfold PySem.W.Fast.tw9446332074065402090
       repeat' first | with_reducible refine look_both ?_ ?_ | unfold PySem.W.Fast.tw17960256430627541270 | unfold PySem.W.Fast.tw2436336058641802641 | unfold PySem.W.Fast.tw12908688711261696721
       all_goals decide +kernel)
    | kernel_rfl
local macro_rules | `(tactic| o_law) => `(tactic| refine holds_law said1 fun said => ?_)
local macro_rules | `(tactic| o_head $H) => `(tactic| refine holds_open (q := prv) (loose := []) (Xt := xtt) (XP := XL prv []) (Yf := Hook.obs $H) (Ya := Hook.val $H) (YP := Hook.says $H) (N := 2622) (leftB op3 fun w os => topF (n₀ := 11) (ann := some (.ref 6)) (by kernel_rfl) (by first | (rw [PySem.W.Fast.te14082659384304107361, PySem.W.Fast.te14364793385576792824, PySem.W.Fast.te4187177175401517315]; kernel_rfl) | kernel_rfl)) (Hook.of $H) (Hook.keeps $H) (fun s e => xl_of s (Bool.and_eq_true_iff.mp e).1) XL.keeps (by rfl) (by rfl) (by rfl) (fun s e => recFacts_of (Bool.and_eq_true_iff.mp e).2) (by rfl) (by first | assumption | decide +kernel) (by decide +kernel) ⟨rfl, rfl, rfl, rfl, rfl, by decide +kernel⟩ ?hw ?hc)
set_option maxHeartbeats 8000000 in
open_top hd for PySem.Challenge.rw_rh0071_01
end Mine

namespace Mine
noncomputable def IsX (h : Heap) (n : Int) (a : Addr) : Prop := ∃ t u, IsTup h a #[.str (Str.ofString "x") t, .int n u]
theorem IsX.reads {h : Heap} {n : Int} {a : Addr} (x : IsX h n a) : ∃ as, Reads h (.ref a) (.tuple [.str (Str.ofString "x"), .int n]) as := by
  obtain ⟨t, u, o, ho, hc, m, hd⟩ := x
  exact ⟨_, .tuple ho hc hd (.cons (.str _ _) (.cons (.int _ _) .nil))⟩
theorem x_lay (n : Int) : PyData.canLay0 (.tuple [.str (Str.ofString "x"), .int n]) = true := by
  show PyData.canLayAll0 [.str (Str.ofString "x"), .int n] = true
  show (PyData.strOk (Str.ofString "x") && (true && true)) = true
  have : PyData.strOk (Str.ofString "x") = true := by decide +kernel
  rw [this]; rfl
noncomputable def xHash (w : World) (n : Int) : Int := reduceHash (Builtin.Tuple.tupleHashOf [hashStr w (Str.ofString "x"), hashInt n])
noncomputable def xKind (prog : Program) (w : World) : HeapKind prog w Int where
  is := IsX
  hash := xHash w
  draws := fun _ => 3
  room := fun A => A.units + 1 < cLine
  inj := fun {h a x y} hx hy => by
    obtain ⟨t, u, o, ho, hc, m, hd⟩ := hx
    obtain ⟨t', u', o', ho', hc', m', hd'⟩ := hy
    rw [ho] at ho'; cases ho'
    rw [hd] at hd'
    simp only [Data.seq.injEq] at hd'
    have := congrArg Array.toList hd'.1
    simp at this
    exact this.2.1
  keeps := fun {h h' k a d o es ep} x ho hd hs => by
    obtain ⟨t, u, o', ho', hc, m, hd'⟩ := x
    have hne : a ≠ d := by
      rintro rfl
      rw [ho] at ho'; cases ho'; rw [hd] at hd'; exact nomatch hd'
    exact ⟨t, u, o', (hs.2 a hne).trans ho', hc, m, hd'⟩
  pyHash := fun {A E s k a Q} hu hk h => by
    obtain ⟨t, u, o, ho, hc, m, hd⟩ := hk
    have hT : s.TypeIs (.ref a) "tuple" := ⟨o, ho, hc⟩
    unfold pyHash
    first | unfold pyHashByItsType | skip
    first | refine wpAny_bind (wpAny_cRoomFor_or (.inr (by omega)) ?_) | skip
    refine wpAny_bind (wpAny_specialOf hT PySem.F.slot_tuple_hash.lookup ?_)
    show wpAny _ _ (if (some (Value.builtin "tuple.__hash__") == some Value.none) = true then _ else _) Q E s
    rw [if_neg (by rw [beq_builtin_none]; exact Bool.false_ne_true)]
    refine wpAny_bind (wpAny_specialOf hT PySem.F.slot_tuple_hash.lookup ?_)
    show wpAny _ _ (callSpecialIfBoundUnlessNone? (.ref a) "__hash__" _ >>= _) Q E s
    refine wpAny_bind (wpAny_callSpecialIfBoundUnlessNone?_slot hT PySem.F.slot_tuple_hash (wpAny_call_entry PySem.F.slot_tuple_hash hT PySem.F.entry_tuple_hash ?_ (PySem.F.args_tuple_hash_1 _)))
    show wpAny _ _ (Builtin.Tuple.tupleItemsOf (.ref a) >>= _) _ _ s
    refine wpAny_bind (wpAny_tupleItemsOf ho hd ?_)
    refine wpAny_bind ?_
    rw [← Array.forIn_toList]
    simp only [List.forIn_cons, List.forIn_nil]
    refine wpAny_bind (wpAny_bind ((PySem.strKind prog w).pyHash (k := Str.ofString "x") (by simp [PySem.strKind, Value.isStrOf]) ?_))
    refine wpAny_pure (wpAny_bind (wpAny_bind ((PySem.intKind prog w).pyHash (k := k) (by simp [PySem.intKind, Value.isInt]) ?_)))
    refine wpAny_pure (wpAny_pure ?_)
    show wpAny _ _ (retInt (Builtin.Tuple.tupleHashOf [hashStr w (Str.ofString "x"), hashInt k])) _ _ _
    refine wpAny_ret_mkInt ?_
    show wpAny _ _ (if (decide (-(2 : Int) ^ 63 ≤ Builtin.Tuple.tupleHashOf [hashStr w (Str.ofString "x"), hashInt k]) && decide (Builtin.Tuple.tupleHashOf [hashStr w (Str.ofString "x"), hashInt k] < 2 ^ 63)) = true then _ else _) Q E _
    unfold xHash reduceHash at h
    by_cases hr : (decide (-(2 : Int) ^ 63 ≤ Builtin.Tuple.tupleHashOf [hashStr w (Str.ofString "x"), hashInt k]) && decide (Builtin.Tuple.tupleHashOf [hashStr w (Str.ofString "x"), hashInt k] < 2 ^ 63)) = true
    · rw [if_pos hr]
      rw [if_pos hr] at h
      exact wpAny_pure (by simpa [Nat.add_assoc] using h)
    · rw [if_neg hr]
      rw [if_neg hr] at h
      exact wpAny_bind (wpAny_rule (wpAny_pure (by simpa [Nat.add_assoc] using h)))
  eqBool := fun {A E s x y a b Q} hu hx hy h => by
    obtain ⟨as, r1⟩ := hx.reads
    obtain ⟨bs, r2⟩ := hy.reads
    refine SeqAt.eqBoolOverData prog w A E s _ _ _ _ as bs Q r1 r2 (x_lay x) (x_lay y) ?_ ?_
    · show A.units + min 1 1 < cLine
      exact hu
    · have : PyData.eqv (.tuple [.str (Str.ofString "x"), .int x]) (.tuple [.str (Str.ofString "x"), .int y]) = decide (x = y) := by
        simp only [PyData.eqv, PyData.eqvAll]
        by_cases hxy : x = y <;> simp [hxy]
      rw [this]; exact h
  quiet := fun {A E s k a Q} hk h => by
    obtain ⟨t, u, o, ho, hc, m, hd⟩ := hk
    have hT : s.TypeIs (.ref a) "tuple" := ⟨o, ho, hc⟩
    unfold eqIsQuiet
    refine wpAny_bind (wpAny_specialOf hT PySem.F.slot_tuple_eq.lookup ?_)
    show wpAny _ _ (isInstance (.ref a) (.type "tuple") >>= _) _ _ s
    refine wpAny_bind (wpAny_isInstance hT isSubtype_tuple_tuple ?_)
    simp only [Bool.not_true, Bool.false_eq_true, if_false]
    refine wpAny_bind (wpAny_seqItems ho hd ?_)
    refine wpAny_bind ?_
    show wpAny _ _ (forIn _ _ _) _ _ s
    rw [← Array.forIn_toList]
    refine wpAny_forIn_list _ (fun rest r s' => r.1 = none ∧ s' = s ∧ ∀ v ∈ rest, carriedByValue v = true) _ ?_ ?_ _ _ ⟨rfl, rfl, fun v hv => by simp at hv; rcases hv with rfl | rfl <;> rfl⟩
    · rintro v rest r s' ⟨hr, rfl, hall⟩
      rw [eqIsQuiet_byValue _ (hall v List.mem_cons_self)]
      refine wpAny_bind (wpAny_pure ?_)
      simp only [Bool.not_true, Bool.false_eq_true, if_false]
      exact wpAny_pure ⟨rfl, rfl, fun u hu' => hall u (List.mem_cons_of_mem _ hu')⟩
    · rintro ⟨r1, r2⟩ s' ⟨hr, rfl, _⟩
      simp only at hr
      subst hr
      exact wpAny_pure h
end Mine
namespace Mine
theorem len0 {α : Type} {l : List α} (h : l.length = 0) : l = [] := List.eq_nil_of_length_eq_zero h
theorem lenS {α : Type} {n : Nat} {l : List α} (h : l.length = n + 1) : ∃ a t, l = a :: t ∧ t.length = n := by
  cases l with
  | nil => cases h
  | cons a t => exact ⟨a, t, rfl, Nat.succ.inj h⟩
theorem len1 {α : Type} {l : List α} (h : l.length = 1) : ∃ a1, l = [a1] := by
  obtain ⟨a, t, rfl, h1⟩ := lenS h
  exact ⟨a, congrArg _ (len0 h1)⟩
theorem len2 {α : Type} {l : List α} (h : l.length = 2) : ∃ a1 a2, l = [a1, a2] := by
  obtain ⟨a1, t, rfl, h1⟩ := lenS h
  obtain ⟨a2, e⟩ := len1 h1
  exact ⟨a1, a2, congrArg _ e⟩
theorem len3 {α : Type} {l : List α} (h : l.length = 3) : ∃ a1 a2 a3, l = [a1, a2, a3] := by
  obtain ⟨a1, t, rfl, h1⟩ := lenS h
  obtain ⟨a2, a3, e⟩ := len2 h1
  exact ⟨a1, a2, a3, congrArg _ e⟩
theorem len4 {α : Type} {l : List α} (h : l.length = 4) : ∃ a1 a2 a3 a4, l = [a1, a2, a3, a4] := by
  obtain ⟨a1, t, rfl, h1⟩ := lenS h
  obtain ⟨a2, a3, a4, e⟩ := len3 h1
  exact ⟨a1, a2, a3, a4, congrArg _ e⟩
theorem len5 {α : Type} {l : List α} (h : l.length = 5) : ∃ a1 a2 a3 a4 a5, l = [a1, a2, a3, a4, a5] := by
  obtain ⟨a1, t, rfl, h1⟩ := lenS h
  obtain ⟨a2, a3, a4, a5, e⟩ := len4 h1
  exact ⟨a1, a2, a3, a4, a5, congrArg _ e⟩
theorem len6 {α : Type} {l : List α} (h : l.length = 6) : ∃ a1 a2 a3 a4 a5 a6, l = [a1, a2, a3, a4, a5, a6] := by
  obtain ⟨a1, t, rfl, h1⟩ := lenS h
  obtain ⟨a2, a3, a4, a5, a6, e⟩ := len5 h1
  exact ⟨a1, a2, a3, a4, a5, a6, congrArg _ e⟩
inductive V where
  | none
  | bool (b : Bool)
  | int (i : Int)
  | str (s : String)
  | tup (l : List V)
  | ref (a : Addr)
  | ty (n : String)
mutual
noncomputable def Rel (h : Heap) : Value → V → Prop
  | v, .none => v = .none
  | v, .bool b => v = .bool b
  | v, .int i => ∃ t, v = .int i t
  | v, .str s => ∃ t, v = .str (Str.ofString s) t
  | v, .tup l => ∃ a vs, v = .ref a ∧ IsTup h a vs.toArray ∧ RelL h vs l
  | v, .ref a => v = .ref a
  | v, .ty n => v = .type n
noncomputable def RelL (h : Heap) : List Value → List V → Prop
  | vs, [] => vs = []
  | vs, x :: xs => ∃ v r, vs = v :: r ∧ Rel h v x ∧ RelL h r xs
end
mutual
theorem Rel.mono {h h' : Heap} (k : ∀ a items, IsTup h a items → IsTup h' a items) : ∀ (x : V) (v : Value), Rel h v x → Rel h' v x
  | .none, _, r => r
  | .bool _, _, r => r
  | .int _, _, r => r
  | .str _, _, r => r
  | .tup l, v, r => by
    obtain ⟨a, vs, e, t, q⟩ := r
    exact ⟨a, vs, e, k _ _ t, RelL.mono k l vs q⟩
  | .ref _, _, r => r
  | .ty _, _, r => r
theorem RelL.mono {h h' : Heap} (k : ∀ a items, IsTup h a items → IsTup h' a items) : ∀ (x : List V) (v : List Value), RelL h v x → RelL h' v x
  | [], _, r => r
  | x :: xs, v, r => by
    obtain ⟨y, ys, e, p, q⟩ := r
    exact ⟨y, ys, e, Rel.mono k x y p, RelL.mono k xs ys q⟩
end
theorem RelL.length {h : Heap} : ∀ {xs : List V} {vs : List Value}, RelL h vs xs → vs.length = xs.length
  | [], _, r => by cases r; rfl
  | x :: xs, vs, r => by
    obtain ⟨v, r', e, _, q⟩ := r
    subst e
    simp [RelL.length q]
theorem RelL.get {h : Heap} : ∀ {xs : List V} {vs : List Value} {i : Nat} {x : V}, RelL h vs xs → xs[i]? = some x → ∃ v, vs[i]? = some v ∧ Rel h v x
  | [], _, _, _, _, e => by simp at e
  | x :: xs, vs, i, y, r, e => by
    obtain ⟨v, r', ev, p, q⟩ := r
    subst ev
    cases i with
    | zero => simp at e; subst e; exact ⟨v, rfl, p⟩
    | succ i => simp at e; simpa using RelL.get q e
theorem RelL.snoc {h : Heap} {x : V} {v : Value} (p : Rel h v x) : ∀ {xs : List V} {vs : List Value}, RelL h vs xs → RelL h (vs ++ [v]) (xs ++ [x])
  | [], vs, r => by cases r; exact ⟨v, [], rfl, p, rfl⟩
  | y :: ys, vs, r => by
    obtain ⟨w, r', ev, a, q⟩ := r
    subst ev
    exact ⟨w, r' ++ [v], rfl, a, RelL.snoc p q⟩
theorem RelL.append {h : Heap} : ∀ {xs ys : List V} {vs ws : List Value}, RelL h vs xs → RelL h ws ys → RelL h (vs ++ ws) (xs ++ ys)
  | [], ys, vs, ws, r, q => by cases r; exact q
  | y :: xs, ys, vs, ws, r, q => by
    obtain ⟨w, r', ev, a, b⟩ := r
    subst ev
    exact ⟨w, r' ++ ws, rfl, a, RelL.append b q⟩
theorem RelL.take {h : Heap} : ∀ {n : Nat} {xs : List V} {vs : List Value}, RelL h vs xs → RelL h (vs.take n) (xs.take n)
  | 0, xs, vs, r => by simp [RelL]
  | n + 1, [], vs, r => by cases r; simp [RelL]
  | n + 1, y :: xs, vs, r => by
    obtain ⟨w, r', ev, a, b⟩ := r
    subst ev
    exact ⟨w, r'.take n, rfl, a, RelL.take b⟩
theorem RelL.drop {h : Heap} : ∀ {n : Nat} {xs : List V} {vs : List Value}, RelL h vs xs → RelL h (vs.drop n) (xs.drop n)
  | 0, xs, vs, r => by simpa using r
  | n + 1, [], vs, r => by cases r; simp [RelL]
  | n + 1, y :: xs, vs, r => by
    obtain ⟨w, r', ev, a, b⟩ := r
    subst ev
    simpa using RelL.drop b
theorem RelL.set {h : Heap} {x : V} {v : Value} (p : Rel h v x) : ∀ {i : Nat} {xs : List V} {vs : List Value}, RelL h vs xs → RelL h (vs.set i v) (xs.set i x)
  | i, [], vs, r => by cases r; cases i <;> simp [RelL]
  | 0, y :: xs, vs, r => by
    obtain ⟨w, r', ev, a, b⟩ := r
    subst ev
    exact ⟨v, r', rfl, p, b⟩
  | i + 1, y :: xs, vs, r => by
    obtain ⟨w, r', ev, a, b⟩ := r
    subst ev
    exact ⟨w, r'.set i v, rfl, a, RelL.set p b⟩
noncomputable def nidL : List Nat → Option Nat
  | [] => some 0
  | c :: r => if 0 < c ∧ c < 128 then (nidL r).map (fun n => n * 128 + c) else none
noncomputable def nid (x : Str) : Option Nat := nidL x.cps.toList
theorem nidL_inj : ∀ {a b : List Nat} {n : Nat}, nidL a = some n → nidL b = some n → a = b
  | [], [], _, _, _ => rfl
  | [], c :: r, n, h1, h2 => by
    simp only [nidL, Option.some.injEq] at h1
    subst h1
    simp only [nidL] at h2
    split at h2
    · obtain ⟨m, _, e⟩ := Option.map_eq_some_iff.mp h2
      omega
    · cases h2
  | c :: r, [], n, h1, h2 => by
    simp only [nidL, Option.some.injEq] at h2
    subst h2
    simp only [nidL] at h1
    split at h1
    · obtain ⟨m, _, e⟩ := Option.map_eq_some_iff.mp h1
      omega
    · cases h1
  | c :: r, d :: q, n, h1, h2 => by
    simp only [nidL] at h1 h2
    split at h1
    · split at h2
      · obtain ⟨m, e1, f1⟩ := Option.map_eq_some_iff.mp h1
        obtain ⟨k, e2, f2⟩ := Option.map_eq_some_iff.mp h2
        have hm : m = k := by omega
        have hc : c = d := by omega
        subst hm hc
        rw [nidL_inj e1 e2]
      · cases h2
    · cases h1
theorem nid_inj {x y : Str} {n : Nat} (h1 : nid x = some n) (h2 : nid y = some n) : x = y := by
  obtain ⟨⟨l⟩⟩ := x
  obtain ⟨⟨k⟩⟩ := y
  have := nidL_inj h1 h2
  simp at this
  rw [this]
inductive MObj where
  | list (l : List V)
  | dI (ep : Nat) (kvs : List (Int × V))
  | dS (kvs : List (Str × V))
  | ns (kvs : List (Nat × V))
  | inst (C dx : Addr)
  | cell (v : Option V)
  | rng (a b : Int)
  | dT (kvs : List (Int × V))
structure Cx where
  prog : Program
  w : World
  K : Frag
  h₀ : Heap
  X : K.In h₀
  mg : Str → Option Value
  mb : Str → Option Value
  G : h₀.Ns mainGlobals mg
  B : h₀.Ns builtinsNs mb
  BB : ∀ x : Str, x ≠ "__name__" → mb x = bootBuiltins x
  NL : h₀.NoLimit
noncomputable abbrev Cx.M (c : Cx) : Model := model c.prog c.w
noncomputable def NsRel (h : Heap) : List DictEntry → List (Nat × V) → Prop
  | es, [] => es = []
  | es, (k, x) :: r => ∃ e es', es = e :: es' ∧ (∃ n t, e.key = .str n t ∧ nid n = some k) ∧ Rel h e.val x ∧ NsRel h es' r
noncomputable def RelO (c : Cx) (h : Heap) (a : Addr) : MObj → Prop
  | .list l => ∃ vs n, h.get? a = some (listOf vs.toArray n) ∧ RelL h vs l
  | .dI ep kvs => ∃ kv, h.DictAt (intKind c.prog c.w) a kv ep ∧ kv.map (·.1) = kvs.map (·.1) ∧ RelL h (kv.map (·.2)) (kvs.map (·.2))
  | .dS kvs => ∃ kv, h.DictOf (strKind c.prog c.w) a kv ∧ kv.map (·.1) = kvs.map (·.1) ∧ RelL h (kv.map (·.2)) (kvs.map (·.2))
  | .ns kvs => ∃ es n, h.get? a = some (dictOf es n) ∧ NsRel h es kvs
  | .inst C dx => h.get? a = some (instObj C dx)
  | .cell v => ∃ o v', h.get? a = some o ∧ o.data = .cell v' ∧ ∀ x, v = some x → ∃ y, v' = some y ∧ Rel h y x
  | .rng x y => ∃ t u v, IsRange h a x y 1 t u v
  | .dT kvs => ∃ xs, h.DictOfH (xKind c.prog c.w) a xs ∧ xs.map (·.1) = kvs.map (·.1) ∧ RelL h (xs.map (·.2.2)) (kvs.map (·.2))
theorem NsRel.mono {h h' : Heap} (k : ∀ a items, IsTup h a items → IsTup h' a items) : ∀ (kvs : List (Nat × V)) (es : List DictEntry), NsRel h es kvs → NsRel h' es kvs
  | [], _, r => r
  | (n, x) :: r, es, q => by
    obtain ⟨e, es', a, b, p, t⟩ := q
    exact ⟨e, es', a, b, Rel.mono k _ _ p, NsRel.mono k r es' t⟩
theorem RelO.mono {c : Cx} {h h' : Heap} {a : Addr} (k : ∀ a items, IsTup h a items → IsTup h' a items) (e : ∀ o, h.get? a = some o → h'.get? a = some o) : ∀ (o : MObj), RelO c h a o → RelO c h' a o
  | .list l, r => by obtain ⟨vs, n, p, q⟩ := r; exact ⟨vs, n, e _ p, RelL.mono k _ _ q⟩
  | .dI ep kvs, r => by
    obtain ⟨kv, ⟨o, es, p, z⟩, q, t⟩ := r
    exact ⟨kv, ⟨o, es, e _ p, z⟩, q, RelL.mono k _ _ t⟩
  | .dS kvs, r => by
    obtain ⟨kv, ⟨o, es, ep, p, z⟩, q, t⟩ := r
    exact ⟨kv, ⟨o, es, ep, e _ p, z⟩, q, RelL.mono k _ _ t⟩
  | .ns kvs, r => by obtain ⟨es, n, p, q⟩ := r; exact ⟨es, n, e _ p, NsRel.mono k _ _ q⟩
  | .inst C dx, r => e _ r
  | .cell v, r => by obtain ⟨o, v', p, q, t⟩ := r; exact ⟨o, v', e _ p, q, fun x hx => by obtain ⟨y, y1, y2⟩ := t x hx; exact ⟨y, y1, Rel.mono k _ _ y2⟩⟩
  | .rng x y, r => by obtain ⟨t, u, v, p⟩ := r; exact ⟨t, u, v, e _ p⟩
  | .dT kvs, r => by
    obtain ⟨xs, ⟨o, es, ep, p, z1, z2, z3, z4, z5⟩, q, t⟩ := r
    exact ⟨xs, ⟨o, es, ep, e _ p, z1, z2, z3, fun x hx => by obtain ⟨t, u, w⟩ := z4 x hx; exact ⟨t, u, k _ _ w⟩, z5⟩, q, RelL.mono k _ _ t⟩
theorem RelO.live {c : Cx} {h : Heap} {a : Addr} : ∀ {o : MObj}, RelO c h a o → ∃ x, h.get? a = some x ∧ ∀ items, ¬ IsTup h a items
  | .list l, r => by
    obtain ⟨vs, n, p, q⟩ := r
    refine ⟨_, p, fun items t => ?_⟩
    obtain ⟨o, po, pc, _⟩ := t
    rw [p] at po; cases po; exact absurd (Value.type.inj pc) (by decide)
  | .dI ep kvs, r => by
    obtain ⟨kv, ⟨o, es, p, z, zd, _⟩, _⟩ := r
    refine ⟨_, p, fun items t => ?_⟩
    obtain ⟨o', po, pc, n, pd⟩ := t
    rw [p] at po; cases po; rw [zd] at pd; cases pd
  | .dS kvs, r => by
    obtain ⟨kv, ⟨o, es, ep, p, z, zd, _⟩, _⟩ := r
    refine ⟨_, p, fun items t => ?_⟩
    obtain ⟨o', po, pc, n, pd⟩ := t
    rw [p] at po; cases po; rw [zd] at pd; cases pd
  | .ns kvs, r => by
    obtain ⟨es, n, p, q⟩ := r
    refine ⟨_, p, fun items t => ?_⟩
    obtain ⟨o', po, pc, n, pd⟩ := t
    rw [p] at po; cases po; cases pd
  | .inst C dx, r => by
    refine ⟨_, r, fun items t => ?_⟩
    obtain ⟨o', po, pc, n, pd⟩ := t
    rw [show h.get? a = _ from r] at po; cases po; cases pd
  | .rng x y, r => by
    obtain ⟨t, u, v, p⟩ := r
    refine ⟨_, p, fun items t => ?_⟩
    obtain ⟨o', po, pc, n, pd⟩ := t
    rw [p] at po; cases po; cases pd
  | .cell v, r => by
    obtain ⟨o, v', p, q, t⟩ := r
    refine ⟨_, p, fun items t => ?_⟩
    obtain ⟨o', po, pc, n, pd⟩ := t
    rw [p] at po; cases po; rw [q] at pd; cases pd
  | .dT kvs, r => by
    obtain ⟨xs, ⟨o, es, ep, p, z, zd, _⟩, _⟩ := r
    refine ⟨_, p, fun items t => ?_⟩
    obtain ⟨o', po, pc, n, pd⟩ := t
    rw [p] at po; cases po; rw [zd] at pd; cases pd
noncomputable abbrev AH := Addr → Option MObj
noncomputable abbrev Loc := List (Nat × V)
structure Abs (c : Cx) (L : Addr) (loc : Loc) (H : AH) (s : Shared) : Prop where
  base : ∀ b o, c.h₀.get? b = some o → s.heap.get? b = some o
  lo : c.h₀.objs.size ≤ L
  ns : ∃ m, s.heap.Ns L m ∧ ∀ x i v, nid x = some i → loc.lookup i = some v → ∃ y, m x = some y ∧ Rel s.heap y v
  obj : ∀ a o, H a = some o → c.h₀.objs.size ≤ a ∧ a ≠ L ∧ RelO c s.heap a o
structure Step (L : Addr) (H : AH) (s : Shared) (H' : AH) (s' : Shared) : Prop where
  keep : ∀ a o, s.heap.get? a = some o → a ≠ L → H a = none → s'.heap.get? a = some o
  dom : ∀ a, H' a ≠ none → H a ≠ none ∨ s.heap.get? a = none ∨ a = L
  rest : ∃ h t, s' = { s with heap := h, toks := t }
theorem Step.refl (L : Addr) (H : AH) (s : Shared) : Step L H s H s := ⟨fun _ _ e _ _ => e, fun _ h => .inl h, ⟨_, _, rfl⟩⟩
theorem Step.trans {L : Addr} {H H1 H2 : AH} {s s1 s2 : Shared} (p : Step L H s H1 s1) (q : Step L H1 s1 H2 s2) : Step L H s H2 s2 := by
  refine ⟨fun a o e hL hH => q.keep a o (p.keep a o e hL hH) hL ?_, fun a h => ?_, ?_⟩
  · cases h1 : H1 a with
    | none => rfl
    | some o' =>
      rcases p.dom a (by rw [h1]; exact Option.some_ne_none _) with h | h | h
      · exact absurd hH h
      · rw [e] at h; cases h
      · exact absurd h hL
  · rcases q.dom a h with h | h | h
    · exact p.dom a h
    · by_cases hL : a = L
      · exact .inr (.inr hL)
      · cases hH : H a with
        | some o => exact .inl (Option.some_ne_none _)
        | none =>
          cases e : s.heap.get? a with
          | none => exact .inr (.inl rfl)
          | some o => rw [p.keep a o e hL hH] at h; cases h
    · exact .inr (.inr h)
  · obtain ⟨h, t, rfl⟩ := p.rest
    obtain ⟨h', t', rfl⟩ := q.rest
    exact ⟨h', t', rfl⟩
theorem Abs.tupNotHere {c : Cx} {L : Addr} {loc : Loc} {H : AH} {s : Shared} (A : Abs c L loc H s) {a : Addr} {items : Array Value} (t : IsTup s.heap a items) : a ≠ L ∧ H a = none := by
  refine ⟨?_, ?_⟩
  · rintro rfl
    obtain ⟨m, ⟨o, es, ep, p, q, _⟩, _⟩ := A.ns
    obtain ⟨o', po, pc, n, pd⟩ := t
    rw [p] at po; cases po; rw [q] at pd; cases pd
  · cases e : H a with
    | none => rfl
    | some o =>
      obtain ⟨_, _, z⟩ := (A.obj a o e).2.2.live
      exact absurd t (z items)
theorem Abs.tups {c : Cx} {L : Addr} {loc : Loc} {H H' : AH} {s s' : Shared} (A : Abs c L loc H s) (S : Step L H s H' s') : ∀ a items, IsTup s.heap a items → IsTup s'.heap a items := by
  intro a items t
  obtain ⟨h1, h2⟩ := A.tupNotHere t
  obtain ⟨o, ho, r⟩ := t
  exact ⟨o, S.keep a o ho h1 h2, r⟩
theorem Abs.rel {c : Cx} {L : Addr} {loc : Loc} {H H' : AH} {s s' : Shared} (A : Abs c L loc H s) (S : Step L H s H' s') {v : Value} {x : V} (r : Rel s.heap v x) : Rel s'.heap v x := Rel.mono (A.tups S) _ _ r
theorem Abs.relL {c : Cx} {L : Addr} {loc : Loc} {H H' : AH} {s s' : Shared} (A : Abs c L loc H s) (S : Step L H s H' s') {v : List Value} {x : List V} (r : RelL s.heap v x) : RelL s'.heap v x := RelL.mono (A.tups S) _ _ r
noncomputable def NoE : Value → Shared → Prop := fun _ _ => False
inductive EPost (c : Cx) (L : Addr) (loc : Loc) (H : AH) (s : Shared) (Q : V → AH → Prop) (v : Value) (s' : Shared) : Prop
  | mk (x : V) (H' : AH) (r : Rel s'.heap v x) (a : Abs c L loc H' s') (st : Step L H s H' s') (q : Q x H')
inductive LPost (c : Cx) (L : Addr) (loc : Loc) (H : AH) (s : Shared) (Q : List V → AH → Prop) (v : List Value) (s' : Shared) : Prop
  | mk (x : List V) (H' : AH) (r : RelL s'.heap v x) (a : Abs c L loc H' s') (st : Step L H s H' s') (q : Q x H')
inductive BPost (c : Cx) (L : Addr) (loc : Loc) (H : AH) (s : Shared) (Q : Bool → AH → Prop) (b : Bool) (s' : Shared) : Prop
  | mk (H' : AH) (a : Abs c L loc H' s') (st : Step L H s H' s') (q : Q b H')
inductive Fl where
  | next | brk | cont
  | ret (v : V)
noncomputable def RelF (h : Heap) : Flow → Fl → Prop
  | f, .next => f = .next
  | f, .brk => f = .brk
  | f, .cont => f = .cont
  | f, .ret x => ∃ v, f = .ret v ∧ Rel h v x
inductive SPost (c : Cx) (L : Addr) (H : AH) (s : Shared) (Q : Fl → Loc → AH → Prop) (f : Flow) (s' : Shared) : Prop
  | mk (x : Fl) (loc' : Loc) (H' : AH) (r : RelF s'.heap f x) (a : Abs c L loc' H' s') (st : Step L H s H' s') (q : Q x loc' H')
inductive PB (v : V) (R : Bool → Prop) : Prop
  | mk (b : Bool) (e : v = .bool b) (h : R b)
inductive PRef (v : V) (G R : Addr → Prop) : Prop
  | mk (d : Addr) (e : v = .ref d) (g : G d) (h : R d)
inductive PList (H : AH) (d : Addr) (m : Nat) (R : List V → Prop) : Prop
  | mk (l : List V) (e : H d = some (.list l)) (hl : l.length < m) (h : R l)
inductive PKey (H : AH) (d : Addr) (x : V) (R : Int → List (Int × V) → Prop) : Prop
  | mk (k : Int) (ep : Nat) (l : List (Int × V)) (e : x = .int k) (e2 : H d = some (.dI ep l)) (h : R k l)
inductive PPair (v : V) (R : V → V → Prop) : Prop
  | mk (a b : V) (e : v = .tup [a, b]) (h : R a b)
inductive PI (v : V) (R : Int → Prop) : Prop
  | mk (i : Int) (e : v = .int i) (h : R i)
noncomputable def WE (c : Cx) (A : Around) (L : Addr) (loc : Loc) (t : Sem Value) (Q : V → AH → Prop) (H : AH) : Prop :=
  ∀ s, Abs c L loc H s → wpAny c.M A t (EPost c L loc H s Q) NoE s
noncomputable def WL (c : Cx) (A : Around) (L : Addr) (loc : Loc) (t : Sem (List Value)) (Q : List V → AH → Prop) (H : AH) : Prop :=
  ∀ s, Abs c L loc H s → wpAny c.M A t (LPost c L loc H s Q) NoE s
noncomputable def WB (c : Cx) (A : Around) (L : Addr) (loc : Loc) (t : Sem Bool) (Q : Bool → AH → Prop) (H : AH) : Prop :=
  ∀ s, Abs c L loc H s → wpAny c.M A t (BPost c L loc H s Q) NoE s
noncomputable def WS (c : Cx) (A : Around) (L : Addr) (t : Sem Flow) (Q : Fl → Loc → AH → Prop) (loc : Loc) (H : AH) : Prop :=
  ∀ s, Abs c L loc H s → wpAny c.M A t (SPost c L H s Q) NoE s
theorem WS.gen {c : Cx} {A : Around} {L : Addr} {t : Sem Flow} {Q : Fl → Loc → AH → Prop} {loc : Loc} {H : AH} (h : ∀ Q' : Fl → Loc → AH → Prop, (∀ f l H, Q f l H → Q' f l H) → WS c A L t Q' loc H) : WS c A L t Q loc H := h Q fun _ _ _ x => x
theorem WE.gen {c : Cx} {A : Around} {L : Addr} {loc : Loc} {t : Sem Value} {Q : V → AH → Prop} {H : AH} (h : ∀ Q' : V → AH → Prop, (∀ v H, Q v H → Q' v H) → WE c A L loc t Q' H) : WE c A L loc t Q H := h Q fun _ _ x => x
theorem WB.gen {c : Cx} {A : Around} {L : Addr} {loc : Loc} {t : Sem Bool} {Q : Bool → AH → Prop} {H : AH} (h : ∀ Q' : Bool → AH → Prop, (∀ v H, Q v H → Q' v H) → WB c A L loc t Q' H) : WB c A L loc t Q H := h Q fun _ _ x => x
theorem EPost.trans {c : Cx} {L : Addr} {loc : Loc} {H H1 : AH} {s s1 : Shared} {Q : V → AH → Prop} (S : Step L H s H1 s1) {v : Value} {s' : Shared} (h : EPost c L loc H1 s1 Q v s') : EPost c L loc H s Q v s' := by
  obtain ⟨x, H', a, b, d, e⟩ := h; exact ⟨x, H', a, b, S.trans d, e⟩
theorem LPost.trans {c : Cx} {L : Addr} {loc : Loc} {H H1 : AH} {s s1 : Shared} {Q : List V → AH → Prop} (S : Step L H s H1 s1) {v : List Value} {s' : Shared} (h : LPost c L loc H1 s1 Q v s') : LPost c L loc H s Q v s' := by
  obtain ⟨x, H', a, b, d, e⟩ := h; exact ⟨x, H', a, b, S.trans d, e⟩
theorem BPost.trans {c : Cx} {L : Addr} {loc : Loc} {H H1 : AH} {s s1 : Shared} {Q : Bool → AH → Prop} (S : Step L H s H1 s1) {v : Bool} {s' : Shared} (h : BPost c L loc H1 s1 Q v s') : BPost c L loc H s Q v s' := by
  obtain ⟨H', b, d, e⟩ := h; exact ⟨H', b, S.trans d, e⟩
theorem SPost.trans {c : Cx} {L : Addr} {H H1 : AH} {s s1 : Shared} {Q : Fl → Loc → AH → Prop} (S : Step L H s H1 s1) {v : Flow} {s' : Shared} (h : SPost c L H1 s1 Q v s') : SPost c L H s Q v s' := by
  obtain ⟨x, l, H', a, b, d, e⟩ := h; exact ⟨x, l, H', a, b, S.trans d, e⟩
theorem EPost.mono {c : Cx} {L : Addr} {loc : Loc} {H : AH} {s : Shared} {Q Q' : V → AH → Prop} (k : ∀ x H, Q x H → Q' x H) {v : Value} {s' : Shared} (h : EPost c L loc H s Q v s') : EPost c L loc H s Q' v s' := by
  obtain ⟨x, H', a, b, d, e⟩ := h; exact ⟨x, H', a, b, d, k _ _ e⟩
theorem SPost.mono {c : Cx} {L : Addr} {H : AH} {s : Shared} {Q Q' : Fl → Loc → AH → Prop} (k : ∀ x l H, Q x l H → Q' x l H) {v : Flow} {s' : Shared} (h : SPost c L H s Q v s') : SPost c L H s Q' v s' := by
  obtain ⟨x, l, H', a, b, d, e⟩ := h; exact ⟨x, l, H', a, b, d, k _ _ _ e⟩
section
variable {c : Cx} {A : Around} {L : Addr} {loc : Loc} {H : AH}
theorem WE.mono {t : Sem Value} {Q Q' : V → AH → Prop} (h : WE c A L loc t Q H) (k : ∀ x H, Q x H → Q' x H) : WE c A L loc t Q' H :=
  fun s a => wpAny_mono (h s a) (fun _ _ p => p.mono k) fun _ _ p => p
theorem WS.mono {t : Sem Flow} {Q Q' : Fl → Loc → AH → Prop} (h : WS c A L t Q loc H) (k : ∀ x l H, Q x l H → Q' x l H) : WS c A L t Q' loc H :=
  fun s a => wpAny_mono (h s a) (fun _ _ p => p.mono k) fun _ _ p => p
theorem WS.weaken {t : Sem Flow} {Q : Fl → Loc → AH → Prop} {loc' : Loc} {H' : AH} (h : WS c A L t Q loc' H') (kl : ∀ i v, loc'.lookup i = some v → loc.lookup i = some v) (kh : ∀ a o, H' a = some o → H a = some o) :
    WS c A L t Q loc H := by
  intro s a
  have a' : Abs c L loc' H' s := ⟨a.base, a.lo, by obtain ⟨m, p, q⟩ := a.ns; exact ⟨m, p, fun x i v n e => q x i v n (kl i v e)⟩, fun b o e => a.obj b o (kh b o e)⟩
  refine wpAny_mono (h s a') (fun f s' p => ?_) fun _ _ p => p
  obtain ⟨x, l, H2, p1, p2, p3, p4⟩ := p
  refine ⟨x, l, H2, p1, p2, ⟨fun b o e1 e2 e3 => p3.keep b o e1 e2 ?_, fun b e => ?_, p3.rest⟩, p4⟩
  · cases e4 : H' b with
    | none => rfl
    | some o' => rw [kh b o' e4] at e3; cases e3
  · rcases p3.dom b e with e | e
    · left
      cases e4 : H' b with
      | none => exact absurd e4 e
      | some o' => rw [kh b o' e4]; exact Option.some_ne_none _
    · exact .inr e
end
end Mine
namespace Mine
noncomputable def AH.set (H : AH) (a : Addr) (o : MObj) : AH := fun b => if b = a then some o else H b
@[simp] theorem AH.set_same (H : AH) (a : Addr) (o : MObj) : H.set a o a = some o := by simp [AH.set]
theorem AH.set_ne (H : AH) {a b : Addr} (o : MObj) (h : b ≠ a) : H.set a o b = H b := by simp [AH.set, h]
section
variable {c : Cx} {A : Around} {L : Addr} {loc : Loc} {H : AH} {s : Shared}
theorem Abs.toks (a : Abs c L loc H s) (t : Nat) : Abs c L loc H { s with toks := t } := ⟨a.base, a.lo, a.ns, a.obj⟩
theorem Step.toks (L : Addr) (H : AH) (s : Shared) (t : Nat) : Step L H s H { s with toks := t } := ⟨fun _ _ e _ _ => e, fun _ h => .inl h, ⟨s.heap, t, rfl⟩⟩
theorem Abs.L_lt (a : Abs c L loc H s) : L < s.heap.objs.size := by obtain ⟨m, n, _⟩ := a.ns; exact n.lt
theorem Abs.fresh (a : Abs c L loc H s) : H s.heap.objs.size = none := by
  cases e : H s.heap.objs.size with
  | none => rfl
  | some o =>
    obtain ⟨x, hx, _⟩ := (a.obj _ _ e).2.2.live
    exact absurd (Heap.lt_size hx) (Nat.lt_irrefl _)
theorem tups_push {h : Heap} (o : Obj) (a : Addr) (items : Array Value) (t : IsTup h a items) : IsTup (h.push o) a items := by
  obtain ⟨x, hx, r⟩ := t; exact ⟨x, Heap.get?_push_of_some o hx, r⟩
theorem Abs.push (a : Abs c L loc H s) (o : Obj) : Abs c L loc H { s with heap := s.heap.push o } := by
  refine ⟨fun b x e => Heap.get?_push_of_some o (a.base b x e), a.lo, ?_, fun b x e => ?_⟩
  · obtain ⟨m, n, q⟩ := a.ns
    exact ⟨m, n.push o, fun x i v e e' => by obtain ⟨y, y1, y2⟩ := q x i v e e'; exact ⟨y, y1, Rel.mono (tups_push o) _ _ y2⟩⟩
  · obtain ⟨p, q, r⟩ := a.obj b x e
    exact ⟨p, q, RelO.mono (tups_push o) (fun y e => Heap.get?_push_of_some o e) _ r⟩
theorem Step.push (L : Addr) (H : AH) (s : Shared) (o : Obj) : Step L H s H { s with heap := s.heap.push o } :=
  ⟨fun _ _ e _ _ => Heap.get?_push_of_some o e, fun _ h => .inl h, ⟨_, s.toks, rfl⟩⟩
theorem get?_size (h : Heap) : h.get? h.objs.size = none := by
  cases e : h.get? h.objs.size with
  | none => rfl
  | some o => exact absurd (Heap.lt_size e) (Nat.lt_irrefl _)
theorem Abs.new (a : Abs c L loc H s) (o : Obj) (x : MObj) (hx : RelO c (s.heap.push o) s.heap.objs.size x) : Abs c L loc (H.set s.heap.objs.size x) { s with heap := s.heap.push o } := by
  have p := a.push o
  refine ⟨p.base, p.lo, p.ns, fun b y e => ?_⟩
  by_cases hb : b = s.heap.objs.size
  · subst hb
    rw [AH.set_same] at e; cases e
    exact ⟨Nat.le_trans a.lo (Nat.le_of_lt a.L_lt), Ne.symm (Nat.ne_of_lt a.L_lt), hx⟩
  · rw [AH.set_ne _ _ hb] at e; exact p.obj b y e
theorem Step.new (L : Addr) (H : AH) (s : Shared) (o : Obj) (x : MObj) : Step L H s (H.set s.heap.objs.size x) { s with heap := s.heap.push o } := by
  refine ⟨fun _ _ e _ _ => Heap.get?_push_of_some o e, fun b h => ?_, ⟨_, s.toks, rfl⟩⟩
  by_cases hb : b = s.heap.objs.size
  · subst hb; exact .inr (.inl (get?_size _))
  · rw [AH.set_ne _ _ hb] at h; exact .inl h
theorem Abs.tups_upd (a : Abs c L loc H s) {d : Addr} {o : MObj} {h' : Heap} (hd : H d = some o) (hs : Heap.SameBut d s.heap h') : ∀ b items, IsTup s.heap b items → IsTup h' b items := by
  intro b items t
  have hb : b ≠ d := by rintro rfl; exact (a.obj _ _ hd).2.2.live.choose_spec.2 _ t
  obtain ⟨x, hx, r⟩ := t
  exact ⟨x, (hs.2 b hb).trans hx, r⟩
theorem Abs.upd (a : Abs c L loc H s) {d : Addr} {o o' : MObj} {h' : Heap} {t : Nat} (hd : H d = some o) (hs : Heap.SameBut d s.heap h') (hr : RelO c h' d o') :
    Abs c L loc (H.set d o') { s with heap := h', toks := t } := by
  have D := a.obj _ _ hd
  have tu := a.tups_upd hd hs
  refine ⟨fun b x e => (hs.2 b ?_).trans (a.base b x e), a.lo, ?_, fun b x e => ?_⟩
  · exact Nat.ne_of_lt (Nat.lt_of_lt_of_le (Heap.lt_size e) D.1)
  · obtain ⟨m, n, q⟩ := a.ns
    exact ⟨m, n.sameBut hs (Ne.symm D.2.1), fun x i v e e' => by obtain ⟨y, y1, y2⟩ := q x i v e e'; exact ⟨y, y1, Rel.mono tu _ _ y2⟩⟩
  · by_cases hb : b = d
    · subst hb; rw [AH.set_same] at e; cases e; exact ⟨D.1, D.2.1, hr⟩
    · rw [AH.set_ne _ _ hb] at e
      obtain ⟨p, q, r⟩ := a.obj b x e
      exact ⟨p, q, RelO.mono tu (fun y e => (hs.2 b hb).trans e) _ r⟩
theorem Step.upd {d : Addr} {o o' : MObj} {h' : Heap} {t : Nat} (hd : H d = some o) (hs : Heap.SameBut d s.heap h') : Step L H s (H.set d o') { s with heap := h', toks := t } := by
  refine ⟨fun b x e _ hb => (hs.2 b ?_).trans e, fun b h => ?_, ⟨_, _, rfl⟩⟩
  · rintro rfl; rw [hd] at hb; cases hb
  · by_cases hb : b = d
    · subst hb; exact .inl (by rw [hd]; exact Option.some_ne_none _)
    · rw [AH.set_ne _ _ hb] at h; exact .inl h
theorem Abs.store (a : Abs c L loc H s) {x : Str} {i : Nat} {v : Value} {V : V} {h' : Heap} {t : Nat} (hi : nid x = some i) (hv : Rel s.heap v V)
    (hn : ∀ m, s.heap.Ns L m → h'.Ns L (fun y => if y = x then some v else m y)) (hs : Heap.SameBut L s.heap h') : Abs c L ((i, V) :: loc) H { s with heap := h', toks := t } := by
  have tu : ∀ b items, IsTup s.heap b items → IsTup h' b items := fun b items t => by
    have := (a.tupNotHere t).1
    obtain ⟨x, hx, r⟩ := t
    exact ⟨x, (hs.2 b this).trans hx, r⟩
  refine ⟨fun b x e => (hs.2 b ?_).trans (a.base b x e), a.lo, ?_, fun b x e => ?_⟩
  · exact Nat.ne_of_lt (Nat.lt_of_lt_of_le (Heap.lt_size e) a.lo)
  · obtain ⟨m, n, q⟩ := a.ns
    refine ⟨_, hn m n, fun y j w e e' => ?_⟩
    by_cases hy : y = x
    · subst hy
      rw [hi] at e; cases e
      simp at e'
      subst e'
      exact ⟨v, if_pos rfl, Rel.mono tu _ _ hv⟩
    · have hj : ¬ j = i := fun q => hy (nid_inj (q ▸ e) hi)
      have : (j == i) = false := by simpa using hj
      rw [List.lookup_cons, this] at e'
      obtain ⟨z, z1, z2⟩ := q y j w e e'
      exact ⟨z, by simpa [hy] using z1, Rel.mono tu _ _ z2⟩
  · obtain ⟨p, q, r⟩ := a.obj b x e
    exact ⟨p, q, RelO.mono tu (fun y e => (hs.2 b q).trans e) _ r⟩
theorem Step.store {h' : Heap} {t : Nat} (hs : Heap.SameBut L s.heap h') : Step L H s H { s with heap := h', toks := t } :=
  ⟨fun b _ e hb _ => (hs.2 b hb).trans e, fun _ h => .inl h, ⟨_, _, rfl⟩⟩
end
noncomputable def KOk (cs : Scope) (ks : List (Nat × NameKind)) : Prop := cs.kind = .function ∧ ∀ x i, nid x = some i → cs.names.lookup x = ks.lookup i
theorem KOk.of {cs : Scope} {ks : List (Nat × NameKind)} (hk : cs.kind = .function) (h : cs.names.map (fun p => (nid p.1, p.2)) = ks.map fun p => (some p.1, p.2)) : KOk cs ks := by
  refine ⟨hk, ?_⟩
  generalize cs.names = l at h
  clear hk
  induction ks generalizing l with
  | nil => intro x i _; cases l with | nil => rfl | cons p r => cases h
  | cons q ks ih =>
    intro x i e
    cases l with
    | nil => cases h
    | cons p r =>
      simp only [List.map_cons, List.cons.injEq, Prod.mk.injEq] at h
      obtain ⟨⟨h1, h2⟩, h3⟩ := h
      have := ih r h3 x i e
      by_cases hx : x = p.1
      · subst hx
        rw [h1] at e; cases e
        rw [List.lookup_cons, List.lookup_cons, beq_self_eq_true, beq_self_eq_true, h2]
      · have hi : ¬ i = q.1 := fun z => hx (nid_inj e (z ▸ h1))
        have a1 : (x == p.1) = false := by simpa using hx
        have a2 : (i == q.1) = false := by simpa using hi
        rw [List.lookup_cons, List.lookup_cons, a1, a2]; exact this
structure EnvOk (env : Env) (L : Addr) (ks : List (Nat × NameKind)) : Prop where
  fn : env.scope.kind = .function
  loc : env.locals = L
  glob : env.globals = mainGlobals
  blt : env.builtins = builtinsNs
  ks : ∀ x i, nid x = some i → env.scope.names.lookup x = ks.lookup i
theorem KOk.env {cs : Scope} {ks : List (Nat × NameKind)} (k : KOk cs ks) (cn : Str) (L ad : Addr) (cd : Value) (cl : List (Str × Addr)) : EnvOk (W.envX cn cs L ad cd cl) L ks := ⟨k.1, rfl, rfl, rfl, k.2⟩
theorem EnvOk.quiet {env : Env} {L : Addr} {ks : List (Nat × NameKind)} (K : EnvOk env L ks) : interactive env = false := by unfold interactive; rw [K.fn]; rfl
theorem not_debug {x : Str} {i : Nat} (h : nid x = some i) (hi : (i == 6899408724578349023) = false) : (x == ("__debug__" : Str)) = false := by
  cases e : x == ("__debug__" : Str) with
  | false => rfl
  | true =>
    have : x = Str.ofString "__debug__" := beq_iff_eq.mp e
    subst this
    have z : nid (Str.ofString "__debug__") = some 6899408724578349023 := by decide +kernel
    rw [z] at h
    cases h
    cases hi
noncomputable def AOk (n : Nat) (A : Around) : Prop := A.handled = none ∧ A.depth + n < 900 ∧ A.units + 10 * n < 9000
theorem AOk.mono {n m : Nat} {A : Around} (h : AOk n A) (k : m ≤ n) : AOk m A := ⟨h.1, by have := h.2.1; omega, by have := h.2.2; omega⟩
theorem AOk.deeper {n : Nat} {A : Around} (env : Env) (h : AOk (n + 1) A) : AOk n (A.deeper env) := ⟨h.1, by have := h.2.1; show A.depth + 1 + n < 900; omega, by have := h.2.2; show A.units + 3 + 10 * n < 9000; omega⟩
theorem AOk.in1 {n : Nat} {A : Around} (h : AOk (n + 1) A) : AOk n A.in1 := ⟨h.1, by have := h.2.1; show A.depth + n < 900; omega, by have := h.2.2; show A.units + 1 + 10 * n < 9000; omega⟩
theorem AOk.room {n : Nat} {A : Around} (h : AOk n A) : A.depth < recursionLimit := by have := h.2.1; simp only [recursionLimit]; omega
theorem AOk.units {n : Nat} {A : Around} (h : AOk n A) : A.units < cLine := by have := h.2.2; rw [cLine_is]; omega
section
variable {c : Cx} {A : Around} {L : Addr} {loc : Loc} {H : AH} {env : Env} {ks : List (Nat × NameKind)} {Q : V → AH → Prop}
theorem E_local {x : Str} {i : Nat} {pos : Pos} {V : V} (K : EnvOk env L ks) (hi : nid x = some i) (hk : ks.lookup i = some .local) (hv : loc.lookup i = some V) (h : Q V H) (hd : (i == 6899408724578349023) = false) :
    WE c A L loc (eval (.Name x pos) env) Q H := by
  intro s a
  obtain ⟨m, n, q⟩ := a.ns
  obtain ⟨y, y1, y2⟩ := q x i V hi hv
  refine wpAny_Name (wpAny_loadName_local K.fn (by show env.scope.names.lookup x = _; rw [K.ks x i hi]; exact hk) (K.loc.symm ▸ n) y1 ?_) (not_debug hi hd)
  exact ⟨V, H, y2, a, Step.refl .., h⟩
theorem E_int {i : Int} {k : Nat} {pos : Pos} (h : Q (.int i) H) : WE c A L loc (eval (.Constant (.int i) k pos) env) Q H := fun s a =>
  wpAny_Constant_int ⟨.int i, H, ⟨_, rfl⟩, a.toks _, Step.toks .., h⟩
theorem E_str {i : String} {k : Nat} {pos : Pos} (h : Q (.str i) H) : WE c A L loc (eval (.Constant (.str (Str.ofString i)) k pos) env) Q H := fun s a =>
  wpAny_Constant_str ⟨.str i, H, ⟨_, rfl⟩, a.toks _, Step.toks .., h⟩
theorem E_bool {i : Bool} {k : Nat} {pos : Pos} (h : Q (.bool i) H) : WE c A L loc (eval (.Constant (.bool i) k pos) env) Q H := fun s a =>
  wpAny_Constant_bool ⟨.bool i, H, rfl, a, Step.refl .., h⟩
theorem E_none {k : Nat} {pos : Pos} (h : Q .none H) : WE c A L loc (eval (.Constant .none k pos) env) Q H := fun s a =>
  wpAny_Constant_none ⟨.none, H, rfl, a, Step.refl .., h⟩
theorem mg_K (c : Cx) {x : Str} {v : Value} (e : nsIn c.K mainGlobals x = some (some v)) : c.mg x = some v := mg_of c.X c.G e
theorem E_glob {x : Str} {i : Nat} {pos : Pos} {v : Value} {V : V} (K : EnvOk env L ks) (hi : nid x = some i) (hk : ks.lookup i = some .globalImplicit) (e : nsIn c.K mainGlobals x = some (some v)) (hv : ∀ h, Rel h v V) (h : Q V H) (hd : (i == 6899408724578349023) = false) :
    WE c A L loc (eval (.Name x pos) env) Q H := fun s a =>
  Calls.Name_function_global K.fn (by show env.scope.names.lookup x = _; rw [K.ks x i hi]; exact hk)
    (Calls.loadGlobal_global (K.glob.symm ▸ c.G.keeps a.base) (mg_K c e) ⟨V, H, hv _, a, Step.refl .., h⟩) (not_debug hi hd)
theorem L_nil {pos : Pos} {Q : List V → AH → Prop} (h : Q [] H) : WL c A L loc (spliced (backTo pos (starEach [] env))) Q H := fun s a =>
  wpAny_items_nil ⟨[], H, rfl, a, Step.refl .., h⟩
theorem L_cons {pos : Pos} {e : Expr} {rest : List Expr} {Q : List V → AH → Prop}
    (h : WE c A L loc (eval e env) (fun x H1 => WL c A L loc (spliced (backTo pos (starEach rest env))) (fun xs H2 => Q (x :: xs) H2) H1) H)
    (he : starEach (e :: rest) env = (false, eval e env) :: starEach rest env := by rfl) : WL c A L loc (spliced (backTo pos (starEach (e :: rest) env))) Q H := fun s a =>
  wpAny_items_cons (wpAny_mono (h s a) (fun v s1 p => by
    obtain ⟨x, H1, r, a1, S, p⟩ := p
    refine wpAny_mono (p s1 a1) (fun vs s2 q => ?_) fun _ _ e => e
    obtain ⟨xs, H2, rs, a2, S2, q⟩ := q
    exact ⟨x :: xs, H2, ⟨v, vs, rfl, a1.rel S2 r, rs⟩, a2, S.trans S2, q⟩) fun _ _ e => e) he
theorem E_tuple {es : List Expr} {k : Nat} {pos : Pos} (h : WL c A L loc (spliced (backTo pos (starEach es env))) (fun xs H1 => xs.length ≤ 1000 ∧ Q (.tup xs) H1) H) :
    WE c A L loc (eval (.Tuple es k pos) env) Q H := fun s a =>
  wpAny_Tuple (wpAny_mono (h s a) (fun vs s1 p => by
    obtain ⟨xs, H1, r, a1, S, hl, q⟩ := p
    refine ⟨by rw [r.length, sizeLine_eq]; omega, .tup xs, H1, ⟨_, vs, rfl, ⟨_, Heap.get?_push_size _ rfl, rfl, 0, rfl⟩, RelL.mono (tups_push _) _ _ r⟩, a1.push _, S.trans (Step.push ..), q⟩) fun _ _ e => e)
theorem E_list {es : List Expr} {pos : Pos} (h : WL c A L loc (spliced (backTo pos (starEach es env))) (fun xs H1 => xs.length ≤ 1000 ∧ ∀ d, H1 d = none → Q (.ref d) (H1.set d (.list xs))) H) :
    WE c A L loc (eval (.List es pos) env) Q H := fun s a =>
  wpAny_List (wpAny_mono (h s a) (fun vs s1 p => by
    obtain ⟨xs, H1, r, a1, S, hl, q⟩ := p
    refine ⟨by rw [r.length, sizeLine_eq]; omega, .ref s1.heap.objs.size, H1.set s1.heap.objs.size (.list xs), rfl, a1.new _ _ ⟨vs, 0, Heap.get?_push_size _ rfl, RelL.mono (tups_push _) _ _ r⟩, S.trans (Step.new ..), q _ a1.fresh⟩) fun _ _ e => e)
noncomputable def V.okN : Nat → V → Bool
  | _, .none => true
  | _, .bool _ => true
  | _, .int _ => true
  | _, .str _ => true
  | 0, .tup _ => false
  | n + 1, .tup l => l.all (V.okN n)
  | _, .ref _ => false
  | _, .ty _ => false
noncomputable def V.ok (v : V) : Bool := V.okN 3 v
mutual
noncomputable def V.py : V → PyData
  | .none => .none
  | .bool b => .bool b
  | .int i => .int i
  | .str s => .str (Str.ofString s)
  | .tup l => .tuple (V.pys l)
  | .ref _ => .none
  | .ty _ => .none
noncomputable def V.pys : List V → List PyData
  | [] => []
  | x :: xs => x.py :: V.pys xs
end
noncomputable def V.eq (a b : V) : Bool := PyData.eqv a.py b.py
theorem strOk_ofString (s : String) : PyData.strOk (Str.ofString s) = true := by
  rw [Str.ofString_eq_toList]
  unfold PyData.strOk
  simp only [List.all_toArray, List.all_map, List.all_eq_true]
  intro x _
  have := x.valid
  simp only [Function.comp, decide_eq_true_eq]
  show x.val.toNat < _
  simp only [UInt32.isValidChar, Nat.isValidChar] at this
  omega
mutual
theorem V.py_canLay : ∀ (n : Nat) (x : V), V.okN n x = true → x.py.canLay0 = true
  | _, .none, _ => rfl
  | _, .bool _, _ => rfl
  | _, .int _, _ => rfl
  | _, .str s, _ => strOk_ofString s
  | 0, .tup _, h => by simp [V.okN] at h
  | n + 1, .tup l, h => by
    simp only [V.okN] at h
    show PyData.canLayAll0 (V.pys l) = true
    exact V.pys_canLay n l h
  | _, .ref _, h => by simp [V.okN] at h
  | _, .ty _, h => by simp [V.okN] at h
theorem V.pys_canLay : ∀ (n : Nat) (x : List V), x.all (V.okN n) = true → PyData.canLayAll0 (V.pys x) = true
  | _, [], _ => rfl
  | n, x :: xs, h => by
    simp only [List.all_cons, Bool.and_eq_true] at h
    show (x.py.canLay0 && PyData.canLayAll0 (V.pys xs)) = true
    rw [V.py_canLay n x h.1, V.pys_canLay n xs h.2]; rfl
end
mutual
theorem V.py_depth : ∀ (n : Nat) (x : V), V.okN n x = true → x.py.depth ≤ n
  | _, .none, _ => Nat.zero_le _
  | _, .bool _, _ => Nat.zero_le _
  | _, .int _, _ => Nat.zero_le _
  | _, .str s, _ => Nat.zero_le _
  | 0, .tup _, h => by simp [V.okN] at h
  | n + 1, .tup l, h => by
    simp only [V.okN] at h
    show PyData.depthAll (V.pys l) + 1 ≤ n + 1
    exact Nat.succ_le_succ (V.pys_depth n l h)
  | _, .ref _, h => by simp [V.okN] at h
  | _, .ty _, h => by simp [V.okN] at h
theorem V.pys_depth : ∀ (n : Nat) (x : List V), x.all (V.okN n) = true → PyData.depthAll (V.pys x) ≤ n
  | _, [], _ => Nat.zero_le _
  | n, x :: xs, h => by
    simp only [List.all_cons, Bool.and_eq_true] at h
    show max x.py.depth (PyData.depthAll (V.pys xs)) ≤ n
    exact Nat.max_le.mpr ⟨V.py_depth n x h.1, V.pys_depth n xs h.2⟩
end
mutual
theorem Rel.reads {h : Heap} : ∀ (n : Nat) (x : V) (v : Value), V.okN n x = true → Rel h v x → ∃ as, Reads h v x.py as
  | _, .none, v, _, r => by cases r; exact ⟨_, .none⟩
  | _, .bool _, v, _, r => by cases r; exact ⟨_, .bool _⟩
  | _, .int _, v, _, r => by obtain ⟨t, rfl⟩ := r; exact ⟨_, .int _ _⟩
  | _, .str s, v, _, r => by obtain ⟨t, rfl⟩ := r; exact ⟨_, .str _ _⟩
  | 0, .tup _, _, h, _ => by simp [V.okN] at h
  | n + 1, .tup l, v, ok, r => by
    simp only [V.okN] at ok
    obtain ⟨a, vs, rfl, ⟨o, ho, hc, m, hd⟩, q⟩ := r
    obtain ⟨as, z⟩ := RelL.reads n l vs ok q
    exact ⟨as, .tuple ho hc hd (by simpa using z)⟩
  | _, .ref _, _, h, _ => by simp [V.okN] at h
  | _, .ty _, _, h, _ => by simp [V.okN] at h
theorem RelL.reads {h : Heap} : ∀ (n : Nat) (x : List V) (v : List Value), x.all (V.okN n) = true → RelL h v x → ∃ as, ReadsAll h v (V.pys x) as
  | _, [], _, _, r => by cases r; exact ⟨_, .nil⟩
  | n, x :: xs, v, ok, r => by
    simp only [List.all_cons, Bool.and_eq_true] at ok
    obtain ⟨w, ws, rfl, p, q⟩ := r
    obtain ⟨as, z⟩ := Rel.reads n x w ok.1 p
    obtain ⟨bs, y⟩ := RelL.reads n xs ws ok.2 q
    exact ⟨_, .cons z y⟩
end
theorem V.shaped {x : V} (h : x.ok = true) : SeqAt.shaped x.py = true := by
  unfold SeqAt.shaped
  rw [V.py_canLay 3 x h, decide_eq_true (Nat.le_trans (V.py_depth 3 x h) (by decide))]; rfl
end
end Mine
namespace Mine
section
variable {c : Cx} {A : Around} {L : Addr} {loc : Loc} {H : AH} {s : Shared}
theorem Abs.keeps (a : Abs c L loc H s) {h' : Heap} (t : Nat) (k : ∀ b o, s.heap.get? b = some o → h'.get? b = some o) : Abs c L loc H { s with heap := h', toks := t } := by
  have tu : ∀ b items, IsTup s.heap b items → IsTup h' b items := fun b items t => t.keeps k
  refine ⟨fun b x e => k _ _ (a.base b x e), a.lo, ?_, fun b x e => ?_⟩
  · obtain ⟨m, n, q⟩ := a.ns
    exact ⟨m, n.keeps k, fun x i v e e' => by obtain ⟨y, y1, y2⟩ := q x i v e e'; exact ⟨y, y1, Rel.mono tu _ _ y2⟩⟩
  · obtain ⟨p, q, r⟩ := a.obj b x e
    exact ⟨p, q, RelO.mono tu (fun y e => k _ _ e) _ r⟩
theorem Step.keeps {h' : Heap} (t : Nat) (k : ∀ b o, s.heap.get? b = some o → h'.get? b = some o) : Step L H s H { s with heap := h', toks := t } :=
  ⟨fun _ _ e _ _ => k _ _ e, fun _ h => .inl h, ⟨_, _, rfl⟩⟩
theorem Abs.made (a : Abs c L loc H s) {h' : Heap} (t : Nat) (k : ∀ b o, s.heap.get? b = some o → h'.get? b = some o) {d : Addr} (hd : s.heap.get? d = none) (hs : s.heap.objs.size ≤ d) {x : MObj} (hx : RelO c h' d x) :
    Abs c L loc (H.set d x) { s with heap := h', toks := t } := by
  have p := a.keeps t k
  refine ⟨p.base, p.lo, p.ns, fun b y e => ?_⟩
  by_cases hb : b = d
  · subst hb
    rw [AH.set_same] at e; cases e
    exact ⟨Nat.le_trans a.lo (Nat.le_trans (Nat.le_of_lt a.L_lt) hs), Ne.symm (Nat.ne_of_lt (Nat.lt_of_lt_of_le a.L_lt hs)), hx⟩
  · rw [AH.set_ne _ _ hb] at e; exact p.obj b y e
theorem Step.made {h' : Heap} (t : Nat) (k : ∀ b o, s.heap.get? b = some o → h'.get? b = some o) {d : Addr} (hd : s.heap.get? d = none) (x : MObj) : Step L H s (H.set d x) { s with heap := h', toks := t } := by
  refine ⟨fun _ _ e _ _ => k _ _ e, fun b h => ?_, ⟨_, _, rfl⟩⟩
  by_cases hb : b = d
  · subst hb; exact .inr (.inl hd)
  · rw [AH.set_ne _ _ hb] at h; exact .inl h
theorem Abs.none_of (a : Abs c L loc H s) {d : Addr} (hd : s.heap.get? d = none) : H d = none := by
  cases e : H d with
  | none => rfl
  | some o =>
    obtain ⟨x, hx, _⟩ := (a.obj _ _ e).2.2.live
    rw [hd] at hx; cases hx
theorem Abs.list (a : Abs c L loc H s) {d : Addr} {l : List V} (h : H d = some (.list l)) : ∃ vs n, s.heap.get? d = some (W.listOf vs.toArray n) ∧ RelL s.heap vs l := (a.obj _ _ h).2.2
end
theorem RelO.list_mk {c : Cx} {h : Heap} {d : Addr} {vs : List Value} {n : Nat} {l : List V} (e : h.get? d = some (W.listOf vs.toArray n)) (r : RelL h vs l) : RelO c h d (.list l) := ⟨vs, n, e, r⟩
theorem rI (h : Heap) (i : Int) (t : Tok) : Rel h (.int i t) (.int i) := ⟨t, rfl⟩
theorem rS (h : Heap) (i : String) (t : Tok) : Rel h (.str (Str.ofString i) t) (.str i) := ⟨t, rfl⟩
theorem rB (h : Heap) (b : Bool) : Rel h (.bool b) (.bool b) := rfl
theorem rN (h : Heap) : Rel h .none .none := rfl
theorem rR (h : Heap) (a : Addr) : Rel h (.ref a) (.ref a) := rfl
noncomputable def OpR (c : Cx) (A : Around) (t : Value → Value → Sem Value) (x y : V) (Q : V → AH → Prop) (H : AH) : Prop :=
  ∀ L loc s v w, Abs c L loc H s → Rel s.heap v x → Rel s.heap w y → wpAny c.M A (t v w) (EPost c L loc H s Q) NoE s
section
variable {c : Cx} {A : Around} {L : Addr} {loc : Loc} {H : AH} {Q : V → AH → Prop} {env : Env}
theorem E_binop {l r : Expr} {op : Operator} {pos : Pos} (h : WE c A L loc (eval l env) (fun x H1 => WE c A L loc (eval r env) (fun y H2 => OpR c A (binaryOp op) x y Q H2) H1) H) :
    WE c A L loc (eval (.BinOp l op r pos) env) Q H := fun s a =>
  wpAny_BinOp (wpAny_mono (h s a) (fun v s1 p => by
    obtain ⟨x, H1, r1, a1, S1, p⟩ := p
    refine wpAny_mono (p s1 a1) (fun w s2 q => ?_) fun _ _ e => e
    obtain ⟨y, H2, r2, a2, S2, q⟩ := q
    exact wpAny_mono (q L loc s2 v w a2 (a1.rel S2 r1) r2) (fun _ _ z => z.trans (S1.trans S2)) fun _ _ e => e) fun _ _ e => e)
theorem E_cmp {l r : Expr} {op : CmpOp} {pos : Pos} (h : WE c A L loc (eval l env) (fun x H1 => WE c A L loc (eval r env) (fun y H2 => OpR c A (compareOp op) x y Q H2) H1) H) (hm : behindInMarks op r = false) :
    WE c A L loc (eval (.Compare l [op] [r] pos) env) Q H := fun s a =>
  wpAny_Compare1 (wpAny_mono (h s a) (fun v s1 p => by
    obtain ⟨x, H1, r1, a1, S1, p⟩ := p
    refine wpAny_mono (p s1 a1) (fun w s2 q => ?_) fun _ _ e => e
    obtain ⟨y, H2, r2, a2, S2, q⟩ := q
    exact wpAny_mono (q L loc s2 v w a2 (a1.rel S2 r1) r2) (fun _ _ z => z.trans (S1.trans S2)) fun _ _ e => e) fun _ _ e => e) hm
theorem B_cmp {l r : Expr} {op : CmpOp} {pos : Pos} {whole : Sem Value} {Q : Bool → AH → Prop}
    (h : WE c A L loc (eval l env) (fun x H1 => WE c A L loc (eval r env) (fun y H2 => OpR c A (compareOp op) x y (fun v H3 => PB v fun b => Q b H3) H2) H1) H) (hm : behindInMarks op r = false) :
    WB c A L loc (isTrue (.Compare l [op] [r] pos) env whole) Q H := fun s a =>
  wpAny_isTrue_Compare1 (wpAny_mono (h s a) (fun v s1 p => by
    obtain ⟨x, H1, r1, a1, S1, p⟩ := p
    refine wpAny_mono (p s1 a1) (fun w s2 q => ?_) fun _ _ e => e
    obtain ⟨y, H2, r2, a2, S2, q⟩ := q
    refine wpAny_mono (q L loc s2 v w a2 (a1.rel S2 r1) r2) (fun u s3 z => ?_) fun _ _ e => e
    obtain ⟨_, H3, r3, a3, S3, b, rfl, z⟩ := z
    have hu : u = .bool b := r3
    subst hu
    exact wpAny_truthy_bool ⟨H3, a3, (S1.trans S2).trans S3, z⟩) fun _ _ e => e) hm
theorem B_not {x : Expr} {pos : Pos} {whole : Sem Value} {Q : Bool → AH → Prop} (h : WB c A L loc (isTrue x env (eval x env)) (fun b H1 => Q (!b) H1) H) : WB c A L loc (isTrue (.UnaryOp .Not x pos) env whole) Q H := fun s a =>
  wpAny_isTrue_Not (wpAny_mono (h s a) (fun _ _ p => by obtain ⟨H1, a1, S1, p⟩ := p; exact ⟨H1, a1, S1, p⟩) fun _ _ e => e)
theorem B_and {values : List Expr} {pos : Pos} {whole : Sem Value} {Q : Bool → AH → Prop} (h : WB c A L loc (allTrue .And values env) Q H) : WB c A L loc (isTrue (.BoolOp .And values pos) env whole) Q H := fun s a => wpAny_isTrue_BoolOp (h s a)
theorem B_or {values : List Expr} {pos : Pos} {whole : Sem Value} {Q : Bool → AH → Prop} (h : WB c A L loc (allTrue .Or values env) Q H) : WB c A L loc (isTrue (.BoolOp .Or values pos) env whole) Q H := fun s a => wpAny_isTrue_BoolOp (h s a)
theorem A_and_nil {Q : Bool → AH → Prop} (h : Q true H) : WB c A L loc (allTrue .And [] env) Q H := fun s a => wpAny_allTrue_And_nil ⟨H, a, Step.refl .., h⟩
theorem A_or_nil {Q : Bool → AH → Prop} (h : Q false H) : WB c A L loc (allTrue .Or [] env) Q H := fun s a => wpAny_allTrue_Or_nil ⟨H, a, Step.refl .., h⟩
theorem A_and_cons {x : Expr} {rest : List Expr} {Q : Bool → AH → Prop} (h : WB c A L loc (isTrue x env (eval x env)) (fun b H1 => if b then WB c A L loc (allTrue .And rest env) Q H1 else Q false H1) H) :
    WB c A L loc (allTrue .And (x :: rest) env) Q H := fun s a => wpAny_allTrue_And_cons (wpAny_mono (h s a) (fun b s1 p => by
    obtain ⟨H1, a1, S1, p⟩ := p
    cases b
    · exact ⟨H1, a1, S1, p⟩
    · exact wpAny_mono (p s1 a1) (fun _ _ z => z.trans S1) fun _ _ e => e) fun _ _ e => e)
theorem A_or_cons {x : Expr} {rest : List Expr} {Q : Bool → AH → Prop} (h : WB c A L loc (isTrue x env (eval x env)) (fun b H1 => if b then Q true H1 else WB c A L loc (allTrue .Or rest env) Q H1) H) :
    WB c A L loc (allTrue .Or (x :: rest) env) Q H := fun s a => wpAny_allTrue_Or_cons (wpAny_mono (h s a) (fun b s1 p => by
    obtain ⟨H1, a1, S1, p⟩ := p
    cases b
    · exact wpAny_mono (p s1 a1) (fun _ _ z => z.trans S1) fun _ _ e => e
    · exact ⟨H1, a1, S1, p⟩) fun _ _ e => e)
theorem B_val {e : Expr} {Q : Bool → AH → Prop} (h : WE c A L loc (eval e env) (fun v H1 => PB v fun b => Q b H1) H)
    (he : isTrue e env (eval e env) = (do let v ← eval e env; standAt e.pos; holding [v] (truthy v))) : WB c A L loc (isTrue e env (eval e env)) Q H := fun s a =>
  wpAny_isTrue_value (wpAny_mono (h s a) (fun v s1 p => by
    obtain ⟨_, H1, r, a1, S1, b, rfl, p⟩ := p
    have hv : v = .bool b := r
    subst hv
    exact wpAny_truthy_bool ⟨H1, a1, S1, p⟩) fun _ _ e => e) he
theorem E_if {test body orelse : Expr} {pos : Pos} (h : WB c A L loc (isTrue test env (eval test env)) (fun b H1 => if b then WE c A L loc (eval body env) Q H1 else WE c A L loc (eval orelse env) Q H1) H) :
    WE c A L loc (eval (.IfExp test body orelse pos) env) Q H := fun s a => wpAny_IfExp (wpAny_mono (h s a) (fun b s1 p => by
    obtain ⟨H1, a1, S1, p⟩ := p
    cases b <;> exact wpAny_mono (p s1 a1) (fun _ _ z => z.trans S1) fun _ _ e => e) fun _ _ e => e)
theorem E_and_last {x : Expr} {pos : Pos} (h : WE c A L loc (eval x env) Q H) : WE c A L loc (boolOp pos .And [eval x env]) Q H := h
theorem E_or_last {x : Expr} {pos : Pos} (h : WE c A L loc (eval x env) Q H) : WE c A L loc (boolOp pos .Or [eval x env]) Q H := h
theorem E_and_cons {x : Sem Value} {y : Sem Value} {r : List (Sem Value)} {pos : Pos} (h : WE c A L loc x (fun v H1 => PB v fun b => if b then WE c A L loc (boolOp pos .And (y :: r)) Q H1 else Q (.bool false) H1) H) : WE c A L loc (boolOp pos .And (x :: y :: r)) Q H := by
  intro s a
  show wpAny c.M A (do
    let v ← x
    standAt pos
    let t ← holding [v] (truthy v)
    match BoolOp.And, t with
    | .And, false | .Or, true => pure v
    | _, _ => boolOp pos .And (y :: r)) _ _ s
  refine wpAny_bind (wpAny_mono (h s a) (fun v s1 p => ?_) fun _ _ e => e)
  obtain ⟨_, H1, r1, a1, S1, b, rfl, p⟩ := p
  have hv : v = .bool b := r1
  subst hv
  refine wpAny_bind (wpAny_standAt (wpAny_bind (wpAny_holding (wpAny_truthy_bool ?_))))
  cases b
  · exact wpAny_pure ⟨_, H1, rB _ _, a1, S1, p⟩
  · exact wpAny_mono (p s1 a1) (fun _ _ z => z.trans S1) fun _ _ e => e
theorem E_or_cons {x : Sem Value} {y : Sem Value} {r : List (Sem Value)} {pos : Pos} (h : WE c A L loc x (fun v H1 => PB v fun b => if b then Q (.bool true) H1 else WE c A L loc (boolOp pos .Or (y :: r)) Q H1) H) : WE c A L loc (boolOp pos .Or (x :: y :: r)) Q H := by
  intro s a
  show wpAny c.M A (do
    let v ← x
    standAt pos
    let t ← holding [v] (truthy v)
    match BoolOp.Or, t with
    | .And, false | .Or, true => pure v
    | _, _ => boolOp pos .Or (y :: r)) _ _ s
  refine wpAny_bind (wpAny_mono (h s a) (fun v s1 p => ?_) fun _ _ e => e)
  obtain ⟨_, H1, r1, a1, S1, b, rfl, p⟩ := p
  have hv : v = .bool b := r1
  subst hv
  refine wpAny_bind (wpAny_standAt (wpAny_bind (wpAny_holding (wpAny_truthy_bool ?_))))
  cases b
  · exact wpAny_mono (p s1 a1) (fun _ _ z => z.trans S1) fun _ _ e => e
  · exact wpAny_pure ⟨_, H1, rB _ _, a1, S1, p⟩
theorem E_boolop {op : BoolOp} {es : List Expr} {pos : Pos} (h : WE c A L loc (boolOp pos op (evalEach es env)) Q H) : WE c A L loc (eval (.BoolOp op es pos) env) Q H := fun s a => by
  show wpAny c.M A (boolOp pos op (evalEach es env)) _ _ s; exact h s a
theorem E_usub {x : Expr} {pos : Pos} (h : WE c A L loc (eval x env) (fun v H1 => PI v fun i => Q (.int (-i)) H1) H) : WE c A L loc (eval (.UnaryOp .USub x pos) env) Q H := fun s a =>
  wpAny_UnaryOp (wpAny_mono (h s a) (fun v s1 p => by
    obtain ⟨_, H1, r, a1, S1, i, rfl, p⟩ := p
    obtain ⟨t, rfl⟩ := r
    exact neg_int ⟨_, H1, rI _ _ _, a1.toks _, S1.trans (Step.toks ..), p⟩) fun _ _ e => e)
theorem o_add {i j : Int} (h : Q (.int (i + j)) H) : OpR c A (binaryOp .Add) (.int i) (.int j) Q H := fun L loc s v w a ⟨t, e1⟩ ⟨u, e2⟩ => by
  subst e1 e2; exact add_int ⟨_, H, rI _ _ _, a.toks _, Step.toks .., h⟩
theorem o_sub {i j : Int} (h : Q (.int (i - j)) H) : OpR c A (binaryOp .Sub) (.int i) (.int j) Q H := fun L loc s v w a ⟨t, e1⟩ ⟨u, e2⟩ => by
  subst e1 e2; exact sub_int ⟨_, H, rI _ _ _, a.toks _, Step.toks .., h⟩
theorem o_mod {i j : Int} (hj : j ≠ 0) (h : Q (.int (i.fmod j)) H) : OpR c A (binaryOp .Mod) (.int i) (.int j) Q H := fun L loc s v w a ⟨t, e1⟩ ⟨u, e2⟩ => by
  subst e1 e2; exact mod_int hj ⟨_, H, rI _ _ _, a.toks _, Step.toks .., h⟩
theorem o_div {i j : Int} (hj : j ≠ 0) (hs : j.natAbs < 1000) (h : Q (.int (i.fdiv j)) H) : OpR c A (binaryOp .FloorDiv) (.int i) (.int j) Q H := fun L loc s v w a ⟨t, e1⟩ ⟨u, e2⟩ => by
  subst e1 e2; exact floordiv_int hj ⟨_, H, rI _ _ _, a.toks _, Step.toks .., h⟩ (.inl (PyProof.noPylong_small (by omega)))
theorem o_lt {i j : Int} (h : Q (.bool (decide (i < j))) H) : OpR c A (compareOp .Lt) (.int i) (.int j) Q H := fun L loc s v w a ⟨t, e1⟩ ⟨u, e2⟩ => by
  subst e1 e2; exact lt_int ⟨_, H, rB _ _, a, Step.refl .., h⟩
theorem o_gt {i j : Int} (h : Q (.bool (decide (j < i))) H) : OpR c A (compareOp .Gt) (.int i) (.int j) Q H := fun L loc s v w a ⟨t, e1⟩ ⟨u, e2⟩ => by
  subst e1 e2; exact gt_int ⟨_, H, rB _ _, a, Step.refl .., h⟩
theorem o_le {i j : Int} (h : Q (.bool (decide (i ≤ j))) H) : OpR c A (compareOp .LtE) (.int i) (.int j) Q H := fun L loc s v w a ⟨t, e1⟩ ⟨u, e2⟩ => by
  subst e1 e2; exact le_int ⟨_, H, rB _ _, a, Step.refl .., h⟩
theorem o_ge {i j : Int} (h : Q (.bool (decide (j ≤ i))) H) : OpR c A (compareOp .GtE) (.int i) (.int j) Q H := fun L loc s v w a ⟨t, e1⟩ ⟨u, e2⟩ => by
  subst e1 e2; exact ge_int ⟨_, H, rB _ _, a, Step.refl .., h⟩
theorem o_eq {x y : V} {n : Nat} (hA : AOk n A) (hn : 10 ≤ n) (hx : x.ok = true) (hy : y.ok = true) (h : Q (.bool (V.eq x y)) H) : OpR c A (compareOp .Eq) x y Q H := fun L loc s v w a r1 r2 => by
  obtain ⟨as, z1⟩ := Rel.reads 3 x v hx r1
  obtain ⟨bs, z2⟩ := Rel.reads 3 y w hy r2
  exact eq_dataH z1 z2 (V.shaped hx) (V.shaped hy) (by have := hA.2.2; rw [cLine_is]; omega) ⟨_, H, rB _ _, a, Step.refl .., h⟩
theorem o_ne {x y : V} {n : Nat} (hA : AOk n A) (hn : 10 ≤ n) (hx : x.ok = true) (hy : y.ok = true) (h : Q (.bool (!V.eq x y)) H) : OpR c A (compareOp .NotEq) x y Q H := fun L loc s v w a r1 r2 => by
  obtain ⟨as, z1⟩ := Rel.reads 3 x v hx r1
  obtain ⟨bs, z2⟩ := Rel.reads 3 y w hy r2
  exact ne_dataH z1 z2 (V.shaped hx) (V.shaped hy) (by have := hA.2.2; rw [cLine_is]; omega) ⟨_, H, rB _ _, a, Step.refl .., h⟩
theorem o_addl {d e : Addr} {xs ys : List V} (hd : H d = some (.list xs)) (he : H e = some (.list ys)) (hl : xs.length + ys.length ≤ 1000) (h : ∀ f, H f = none → Q (.ref f) (H.set f (.list (xs ++ ys)))) :
    OpR c A (binaryOp .Add) (.ref d) (.ref e) Q H := fun L loc s v w a r1 r2 => by
  have e1 : v = .ref d := r1
  have e2 : w = .ref e := r2
  subst e1 e2
  obtain ⟨vs, n, g1, q1⟩ := a.list hd
  obtain ⟨ws, m, g2, q2⟩ := a.list he
  refine P.add_list g1 g2 ⟨.ref s.heap.objs.size, H.set s.heap.objs.size (.list (xs ++ ys)), rfl, a.new _ _ (RelO.list_mk (vs := vs ++ ws) (n := 0) ?_ (RelL.mono (tups_push _) _ _ (q1.append q2))), Step.new .., h _ a.fresh⟩ ?_
  · rw [Heap.get?_push_size _ rfl]; simp
  · simp only [List.size_toArray]; rw [q1.length, q2.length, sizeLine_eq]; omega
end
end Mine
namespace Mine
section
variable {c : Cx} {A : Around} {L : Addr} {loc : Loc} {H : AH} {Q : V → AH → Prop} {env : Env}
theorem E_sub {value slice : Expr} {pos : Pos} (h : WE c A L loc (eval value env) (fun x H1 => WE c A L loc (eval slice env) (fun y H2 => OpR c A (subscriptTail value slice) x y Q H2) H1) H) :
    WE c A L loc (eval (.Subscript value slice pos) env) Q H := fun s a =>
  Subscript_ (wpAny_mono (h s a) (fun v s1 p => by
    obtain ⟨x, H1, r1, a1, S1, p⟩ := p
    refine wpAny_mono (p s1 a1) (fun w s2 q => ?_) fun _ _ e => e
    obtain ⟨y, H2, r2, a2, S2, q⟩ := q
    exact wpAny_mono (q L loc s2 v w a2 (a1.rel S2 r1) r2) (fun _ _ z => z.trans (S1.trans S2)) fun _ _ e => e) fun _ _ e => e)
theorem seqIndex_nn {k : Int} {n : Nat} (h0 : 0 ≤ k) (h1 : k.toNat < n) : seqIndex? k n = some k.toNat := by
  unfold seqIndex?
  have e : ¬ k < 0 := by omega
  simp only [if_neg e]
  rw [if_pos]
  simp only [Bool.and_eq_true, decide_eq_true_eq]
  omega
theorem lt_of_get {α : Type} {l : List α} {i : Nat} {x : α} (h : l[i]? = some x) : i < l.length := by
  rcases Nat.lt_or_ge i l.length with h1 | h1
  · exact h1
  · rw [List.getElem?_eq_none h1] at h; cases h
theorem o_item_list {value slice : Expr} {d : Addr} {l : List V} {k : Int} {x : V} (hd : H d = some (.list l)) (h0 : 0 ≤ k) (h1 : k < 100000) (hx : l[k.toNat]? = some x) (h : Q x H)
    (hs : ∀ o i, subscripted slice false o i = operate [o, i] (PySem.getItem o i)) : OpR c A (subscriptTail value slice) (.ref d) (.int k) Q H := fun L loc s v w a r1 ⟨u, e2⟩ => by
  have e1 : v = .ref d := r1
  subst e1 e2
  obtain ⟨vs, n, g, q⟩ := a.list hd
  obtain ⟨y, hy, ry⟩ := q.get hx
  have hL : s.heap.IsList d vs.toArray := ⟨_, g, rfl, n, rfl⟩
  exact tail_any hL.typeIs slot_list_getitem.lookup (wpAny_getItem_list hL h0 (by omega) (by simpa using hy) ⟨x, H, ry, a, Step.refl .., h⟩) (hs _ _)
theorem o_item_tup {value slice : Expr} {l : List V} {k : Int} {x : V} (h0 : 0 ≤ k) (h1 : k < 100000) (hx : l[k.toNat]? = some x) (h : Q x H)
    (hs : ∀ o i, subscripted slice false o i = operate [o, i] (PySem.getItem o i)) : OpR c A (subscriptTail value slice) (.tup l) (.int k) Q H := fun L loc s v w a r1 ⟨u, e2⟩ => by
  obtain ⟨d, vs, e1, ht, q⟩ := r1
  subst e1 e2
  obtain ⟨y, hy, ry⟩ := q.get hx
  exact item_tupleT ht (by omega) (by omega) (seqIndex_nn h0 (lt_of_get hy)) hy ⟨x, H, ry, a, Step.refl .., h⟩ (hs _ _)
theorem str_one (ch : Char) : Str.ofString (String.singleton ch) = ⟨#[ch.toNat]⟩ := by
  rw [Str.ofString_eq_toList]; simp
theorem o_item_str {value slice : Expr} {x : String} {k : Int} {ch : Char} (h0 : 0 ≤ k) (h1 : k < 100000) (hx : x.toList[k.toNat]? = some ch) (h : Q (.str (String.singleton ch)) H)
    (hs : ∀ o i, subscripted slice false o i = operate [o, i] (PySem.getItem o i)) : OpR c A (subscriptTail value slice) (.str x) (.int k) Q H := fun L loc s v w a ⟨t, e1⟩ ⟨u, e2⟩ => by
  subst e1 e2
  have hlen : (Str.ofString x).length = x.toList.length := by rw [Str.ofString_eq_toList]; simp [PySem.Str.length]
  have hget : (Str.ofString x).cps[k.toNat]? = some ch.toNat := by rw [Str.ofString_eq_toList]; simp [hx]
  refine tail_any (typeIs_str s _ t) F.slot_str_getitem.lookup (P.getItem_str (c := ch.toNat) ?_ ?_ ?_) (hs _ _)
  · simp only [Bool.or_eq_false_iff, decide_eq_false_iff_not]; omega
  · rw [hlen, seqIndex_nn h0 (lt_of_get hx)]; exact hget
  · exact ⟨.str (String.singleton ch), H, ⟨s.toks, by rw [str_one]⟩, a.toks _, Step.toks .., h⟩
noncomputable def dget {K : Type} [DecidableEq K] (kvs : List (K × V)) (k : K) : Option V := (kvs.find? fun p => p.1 = k).map (·.2)
noncomputable def dput {K : Type} [DecidableEq K] (kvs : List (K × V)) (k : K) (v : V) : List (K × V) :=
  if kvs.any (fun p => p.1 = k) then kvs.map (fun p => if p.1 = k then (p.1, v) else p) else kvs ++ [(k, v)]
theorem dget_rel {K : Type} [DecidableEq K] {h : Heap} {k : K} : ∀ {kv : List (K × Value)} {kvs : List (K × V)}, kv.map (·.1) = kvs.map (·.1) → RelL h (kv.map (·.2)) (kvs.map (·.2)) →
    (∀ x, dget kvs k = some x → ∃ v, valueAt kv k = some v ∧ Rel h v x) ∧ (dget kvs k = none → valueAt kv k = none)
  | [], [], _, _ => ⟨fun x e => by simp [dget] at e, fun _ => rfl⟩
  | [], _ :: _, e, _ => by simp at e
  | _ :: _, [], e, _ => by simp at e
  | (k1, v1) :: kv, (k2, x2) :: kvs, e, r => by
    simp only [List.map_cons, List.cons.injEq] at e
    obtain ⟨e1, e2⟩ := e
    subst e1
    obtain ⟨v, r', ev, p, q⟩ := r
    simp only [List.map_cons, List.cons.injEq] at ev
    obtain ⟨rfl, rfl⟩ := ev
    have ih := dget_rel (k := k) e2 q
    by_cases hk : k1 = k
    · subst hk
      exact ⟨fun x z => by simp [dget] at z; subst z; exact ⟨v1, by simp [valueAt], p⟩, fun z => by simp [dget] at z⟩
    · simpa [dget, valueAt, List.find?_cons, hk] using ih
theorem dput_rel {K : Type} [DecidableEq K] {h : Heap} {k : K} {v : Value} {x : V} (r : Rel h v x) {kv : List (K × Value)} {kvs : List (K × V)} (e : kv.map (·.1) = kvs.map (·.1)) (q : RelL h (kv.map (·.2)) (kvs.map (·.2))) :
    (stored kv k v).map (·.1) = (dput kvs k x).map (·.1) ∧ RelL h ((stored kv k v).map (·.2)) ((dput kvs k x).map (·.2)) := by
  have hany : ∀ {kv : List (K × Value)} {kvs : List (K × V)}, kv.map (·.1) = kvs.map (·.1) → kv.any (fun p => p.1 = k) = kvs.any fun p => p.1 = k := by
    intro kv
    induction kv with
    | nil => intro kvs e; cases kvs with | nil => rfl | cons _ _ => simp at e
    | cons p kv ih =>
      intro kvs e
      cases kvs with
      | nil => simp at e
      | cons p' kvs =>
        simp only [List.map_cons, List.cons.injEq] at e
        simp [ih e.2, e.1]
  unfold stored dput
  rw [hany e]
  split
  · clear hany
    rename_i z
    clear z
    induction kv generalizing kvs with
    | nil => cases kvs with | nil => exact ⟨rfl, q⟩ | cons _ _ => simp at e
    | cons p kv ih =>
      cases kvs with
      | nil => simp at e
      | cons p' kvs =>
        obtain ⟨k1, v1⟩ := p
        obtain ⟨k2, x2⟩ := p'
        simp only [List.map_cons, List.cons.injEq] at e
        obtain ⟨e1, e2⟩ := e
        subst e1
        obtain ⟨w, r', ev, p1, q1⟩ := q
        simp only [List.map_cons, List.cons.injEq] at ev
        obtain ⟨rfl, rfl⟩ := ev
        obtain ⟨i1, i2⟩ := ih e2 q1
        simp only [List.map_cons]
        by_cases hk : k1 = k
        · simp only [hk, if_true]
          exact ⟨by rw [i1], _, _, rfl, r, i2⟩
        · simp only [hk, if_false]
          exact ⟨by rw [i1], _, _, rfl, p1, i2⟩
  · simp only [List.map_append]
    exact ⟨by rw [e]; rfl, q.append ⟨v, [], rfl, r, rfl⟩⟩
theorem Abs.sm {s : Shared} (a : Abs c L loc H s) {d : Addr} {o : MObj} (h : H d = some o) : (d == sysModules) = false := by
  have h1 := (a.obj _ _ h).1
  have h2 : mainGlobals < c.h₀.objs.size := c.G.lt
  have : d ≠ sysModules := by
    intro e
    rw [e] at h1
    have h3 : sysModules < mainGlobals := by decide
    exact absurd (Nat.lt_trans h3 (Nat.lt_of_lt_of_le h2 h1)) (Nat.lt_irrefl _)
  simpa using this
theorem int_is (i : Int) (t : Tok) (c : Cx) : (intKind c.prog c.w).is i (.int i t) = true := by show Value.isInt i (.int i t) = true; simp [Value.isInt]
theorem o_item_dI {value slice : Expr} {d : Addr} {ep : Nat} {l : List (Int × V)} {k : Int} {x : V} (hd : H d = some (.dI ep l)) (hx : dget l k = some x) (h : Q x H)
    (hs : ∀ o i, subscripted slice false o i = operate [o, i] (PySem.getItem o i)) : OpR c A (subscriptTail value slice) (.ref d) (.int k) Q H := fun L loc s v w a r1 ⟨u, e2⟩ => by
  have e1 : v = .ref d := r1
  subst e1 e2
  obtain ⟨kv, g0, q1, q2⟩ := (a.obj _ _ hd).2.2
  have g := g0.dictOf
  obtain ⟨y, hy, ry⟩ := (dget_rel q1 q2).1 x hx
  exact tail_any g.mapOf.typeIs slot_dict_getitem.lookup (wpAny_getItem_of (int_is k u c) g.mapOf hy ⟨x, H, ry, a.toks _, Step.toks .., h⟩) (hs _ _)
theorem o_item_dS {value slice : Expr} {d : Addr} {l : List (Str × V)} {k : String} {x : V} (hd : H d = some (.dS l)) (hx : dget l (Str.ofString k) = some x) (h : Q x H)
    (hs : ∀ o i, subscripted slice false o i = operate [o, i] (PySem.getItem o i)) : OpR c A (subscriptTail value slice) (.ref d) (.str k) Q H := fun L loc s v w a r1 ⟨u, e2⟩ => by
  have e1 : v = .ref d := r1
  subst e1 e2
  obtain ⟨kv, g, q1, q2⟩ := (a.obj _ _ hd).2.2
  obtain ⟨y, hy, ry⟩ := (dget_rel q1 q2).1 x hx
  exact tail_any g.mapOf.typeIs slot_dict_getitem.lookup (wpAny_getItem_of (strKind_is c.prog c.w _ u) g.mapOf hy ⟨x, H, ry, a.toks _, Step.toks .., h⟩) (hs _ _)
theorem o_in_dI {d : Addr} {ep : Nat} {l : List (Int × V)} {k : Int} (hd : H d = some (.dI ep l)) (h : Q (.bool (dget l k).isSome) H) : OpR c A (compareOp .In) (.int k) (.ref d) Q H := fun L loc s v w a ⟨u, e1⟩ r2 => by
  have e2 : w = .ref d := r2
  subst e1 e2
  obtain ⟨kv, g0, q1, q2⟩ := (a.obj _ _ hd).2.2
  have g := g0.dictOf
  have z := dget_rel (k := k) q1 q2
  refine wpAny_in_of (int_is k u c) (a.sm hd) g.mapOf ?_
  cases e : dget l k with
  | none => rw [e] at h; rw [z.2 e]; exact ⟨_, H, rB _ _, a.toks _, Step.toks .., h⟩
  | some x => rw [e] at h; obtain ⟨y, hy, _⟩ := z.1 x e; rw [hy]; exact ⟨_, H, rB _ _, a.toks _, Step.toks .., h⟩
theorem o_notin_dI {d : Addr} {ep : Nat} {l : List (Int × V)} {k : Int} (hd : H d = some (.dI ep l)) (h : Q (.bool (!(dget l k).isSome)) H) : OpR c A (compareOp .NotIn) (.int k) (.ref d) Q H := fun L loc s v w a ⟨u, e1⟩ r2 => by
  have e2 : w = .ref d := r2
  subst e1 e2
  obtain ⟨kv, g0, q1, q2⟩ := (a.obj _ _ hd).2.2
  have g := g0.dictOf
  have z := dget_rel (k := k) q1 q2
  refine wpAny_notIn_of (int_is k u c) (a.sm hd) g.mapOf ?_
  cases e : dget l k with
  | none => rw [e] at h; rw [z.2 e]; exact ⟨_, H, rB _ _, a.toks _, Step.toks .., h⟩
  | some x => rw [e] at h; obtain ⟨y, hy, _⟩ := z.1 x e; rw [hy]; exact ⟨_, H, rB _ _, a.toks _, Step.toks .., h⟩
theorem any_of_rel {h : Heap} {e : Value → Bool} {f : V → Bool} : ∀ {xs : List V} {vs : List Value}, RelL h vs xs → (∀ v x, x ∈ xs → Rel h v x → e v = f x) → vs.any e = xs.any f
  | [], vs, r, _ => by cases r; rfl
  | x :: xs, vs, r, k => by
    obtain ⟨v, r', rfl, p, q⟩ := r
    simp only [List.any_cons]
    rw [k v x (.head _) p, any_of_rel q fun v y hy => k v y (.tail _ hy)]
theorem RelL.mem {h : Heap} {v : Value} : ∀ {xs : List V} {vs : List Value}, RelL h vs xs → v ∈ vs → ∃ x, x ∈ xs ∧ Rel h v x
  | [], vs, r, hm => by cases r; cases hm
  | x :: xs, vs, r, hm => by
    obtain ⟨w, r', rfl, p, q⟩ := r
    rcases List.mem_cons.mp hm with rfl | hm
    · exact ⟨x, .head _, p⟩
    · obtain ⟨y, hy, ry⟩ := RelL.mem q hm; exact ⟨y, .tail _ hy, ry⟩
theorem in_e {h : Heap} {x : V} {xs : List V} (hx : x.ok = true) (hxs : xs.all V.ok = true) {e : Value → Bool} (he : e = fun v => @decide (∃ y, y ∈ xs ∧ Rel h v y ∧ V.eq y x = true) (Classical.propDecidable _)) :
    ∀ v y, y ∈ xs → Rel h v y → e v = V.eq y x := by
  intro v y hy r
  subst he
  cases q : V.eq y x with
  | true => exact @decide_eq_true _ (Classical.propDecidable _) ⟨y, hy, r, q⟩
  | false =>
    refine @decide_eq_false _ (Classical.propDecidable _) ?_
    rintro ⟨z, hz, rz, qz⟩
    have oy := List.all_eq_true.mp hxs y hy
    have oz := List.all_eq_true.mp hxs z hz
    obtain ⟨as, t1⟩ := Rel.reads 3 y v oy r
    obtain ⟨bs, t2⟩ := Rel.reads 3 z v oz rz
    have := SeqAt.Reads.unique _ _ _ _ _ (V.py_canLay 3 y oy) t1 t2
    unfold V.eq at q qz
    rw [this, qz] at q
    cases q
theorem o_in_list {d : Addr} {xs : List V} {x : V} {n : Nat} (hA : AOk n A) (hn : 10 ≤ n) (hd : H d = some (.list xs)) (hx : x.ok = true) (hxs : xs.all V.ok = true) (h : Q (.bool (xs.any fun y => V.eq y x)) H) :
    OpR c A (compareOp .In) x (.ref d) Q H := fun L loc s v w a r1 r2 => by
  have e2 : w = .ref d := r2
  subst e2
  obtain ⟨vs, m, g, q⟩ := a.list hd
  have hL : s.heap.IsList d vs.toArray := ⟨_, g, rfl, m, rfl⟩
  obtain ⟨as, z1⟩ := Rel.reads 3 x v hx r1
  obtain ⟨e, he⟩ : ∃ e : Value → Bool, e = fun v => @decide (∃ y, y ∈ xs ∧ Rel s.heap v y ∧ V.eq y x = true) (Classical.propDecidable _) := ⟨_, rfl⟩
  have hin := in_e hx hxs he
  refine SeqAt.in_listAt e hL (fun y hy => ?_) ?_
  · obtain ⟨z, hz, rz⟩ := q.mem (by simpa using hy)
    rw [hin y z hz rz]
    have oz := List.all_eq_true.mp hxs z hz
    obtain ⟨bs, z2⟩ := Rel.reads 3 z y oz rz
    exact SeqAt.eqAt_reads _ _ _ _ _ _ _ _ z2 z1 (V.py_canLay 3 z oz) (V.py_canLay 3 x hx) (by have h1 := V.py_depth 3 z oz; have := hA.2.2; rw [cLine_is]; show A.units + 1 + _ < _; omega)
  · rw [show vs.toArray.any e = xs.any fun y => V.eq y x from by simpa using any_of_rel q hin]
    exact ⟨_, H, rB _ _, a, Step.refl .., h⟩
theorem o_notin_list {d : Addr} {xs : List V} {x : V} {n : Nat} (hA : AOk n A) (hn : 10 ≤ n) (hd : H d = some (.list xs)) (hx : x.ok = true) (hxs : xs.all V.ok = true) (h : Q (.bool (!xs.any fun y => V.eq y x)) H) :
    OpR c A (compareOp .NotIn) x (.ref d) Q H := fun L loc s v w a r1 r2 => by
  have e2 : w = .ref d := r2
  subst e2
  obtain ⟨vs, m, g, q⟩ := a.list hd
  have hL : s.heap.IsList d vs.toArray := ⟨_, g, rfl, m, rfl⟩
  obtain ⟨as, z1⟩ := Rel.reads 3 x v hx r1
  obtain ⟨e, he⟩ : ∃ e : Value → Bool, e = fun v => @decide (∃ y, y ∈ xs ∧ Rel s.heap v y ∧ V.eq y x = true) (Classical.propDecidable _) := ⟨_, rfl⟩
  have hin := in_e hx hxs he
  refine SeqAt.notIn_listAt e hL (fun y hy => ?_) ?_
  · obtain ⟨z, hz, rz⟩ := q.mem (by simpa using hy)
    rw [hin y z hz rz]
    have oz := List.all_eq_true.mp hxs z hz
    obtain ⟨bs, z2⟩ := Rel.reads 3 z y oz rz
    exact SeqAt.eqAt_reads _ _ _ _ _ _ _ _ z2 z1 (V.py_canLay 3 z oz) (V.py_canLay 3 x hx) (by have h1 := V.py_depth 3 z oz; have := hA.2.2; rw [cLine_is]; show A.units + 1 + _ < _; omega)
  · rw [show vs.toArray.any e = xs.any fun y => V.eq y x from by simpa using any_of_rel q hin]
    exact ⟨_, H, rB _ _, a, Step.refl .., h⟩
theorem o_in_str {x y : String} (h : Q (.bool (Txt.contains (Str.ofString y) (Str.ofString x))) H) : OpR c A (compareOp .In) (.str x) (.str y) Q H := fun L loc s v w a ⟨t, e1⟩ ⟨u, e2⟩ => by
  subst e1 e2; exact P.in_str ⟨_, H, rB _ _, a, Step.refl .., h⟩
theorem o_eq_nil {d e : Addr} {xs : List V} {n : Nat} (hA : AOk n A) (hn : 10 ≤ n) (hd : H d = some (.list xs)) (he : H e = some (.list [])) (hl : xs.length < 100000) (h : Q (.bool xs.isEmpty) H) : OpR c A (compareOp .Eq) (.ref d) (.ref e) Q H := fun L loc s v w a r1 r2 => by
  have e1 : v = .ref d := r1
  have e2 : w = .ref e := r2
  subst e1 e2
  obtain ⟨vs, m, g, q⟩ := a.list hd
  obtain ⟨ws, m', g', q'⟩ := a.list he
  have hL : s.heap.IsList d vs.toArray := ⟨_, g, rfl, m, rfl⟩
  have hL' : s.heap.IsList e ws.toArray := ⟨_, g', rfl, m', rfl⟩
  have hw : ws = [] := q'
  subst hw
  cases xs with
  | nil =>
    have hv : vs = [] := q
    subst hv
    exact SeqAt.eq_listAt (e := fun _ => true) hL hL' rfl hA.units (by simp) ⟨_, H, rB _ _, a, Step.refl .., h⟩
  | cons y ys =>
    obtain ⟨z, zs, rfl, _⟩ := q
    exact SeqAt.eq_list_lengthsAt hL hL' (by simp) hA.units ⟨_, H, rB _ _, a, Step.refl .., h⟩
theorem E_slice_to {value e : Expr} {p pos : Pos} (h : WE c A L loc (eval value env) (fun x H1 => WE c A L loc (eval e env) (fun y H2 => ∃ d l k, x = .ref d ∧ H2 d = some (.list l) ∧ l.length ≤ 100000 ∧ y = .int k ∧ 0 ≤ k ∧ ∀ f, H2 f = none → Q (.ref f) (H2.set f (.list (l.take k.toNat)))) H1) H)
    (ht : ∀ o r, letTemporaryGo value o r = pure ()) :
    WE c A L loc (eval (.Subscript value (.Slice none (some e) none p) pos) env) Q H := fun s a =>
  wpAny_Subscript_list_slice (wpAny_mono (h s a) (fun v s1 r => by
    obtain ⟨x, H1, r1, a1, S1, r⟩ := r
    rw [evalPart_none]
    refine wpAny_pure (wpAny_mono (r s1 a1) (fun w s2 q => ?_) fun _ _ e => e)
    obtain ⟨y, H2, r2, a2, S2, d, l, k, rfl, hd, hl, rfl, h0, q⟩ := q
    have e1 : v = .ref d := r1
    obtain ⟨u, e2⟩ := r2
    subst e1 e2
    obtain ⟨vs, n, g, z⟩ := a2.list hd
    refine ⟨d, vs.toArray, none, some k, rfl, ⟨_, g, rfl, n, rfl⟩, by simp only [List.size_toArray]; rw [z.length, sizeLine_eq]; omega, .none, .int _ _, ?_⟩
    have a3 := a2.push { cls := .type "slice", data := .fields #[.none, .int k u, .none] }
    have hsz : s2.heap.objs.size + 1 = (s2.heap.push { cls := .type "slice", data := .fields #[.none, .int k u, .none] }).objs.size := by simp
    rw [hsz]
    refine ⟨.ref _, _, rR _ _, a3.new _ (.list (l.take k.toNat)) (RelO.list_mk (vs := vs.take k.toNat) (n := 0) ?_ ?_), ((S1.trans S2).trans (Step.push ..)).trans (Step.new ..), q _ a3.fresh⟩
    · rw [Heap.get?_push_size _ rfl, kms_pick_eq]
      have : kms_pick vs none (some k) = vs.take k.toNat := by
        unfold kms_pick kms_lo kms_hi
        simp only [List.drop_zero, Nat.sub_zero]
        rw [if_neg (by omega)]
        rcases Nat.le_total k.toNat vs.length with h1 | h1
        · rw [Nat.min_eq_left h1]
        · rw [Nat.min_eq_right h1, List.take_of_length_le (Nat.le_refl _), List.take_of_length_le h1]
      simp [this]
    · exact RelL.mono (fun b it t => tups_push _ _ _ (tups_push _ _ _ t)) _ _ z.take) fun _ _ e => e) ht
theorem E_slice_from {value e : Expr} {p pos : Pos} (h : WE c A L loc (eval value env) (fun x H1 => WE c A L loc (eval e env) (fun y H2 => ∃ d l k, x = .ref d ∧ H2 d = some (.list l) ∧ l.length ≤ 100000 ∧ y = .int k ∧ 0 ≤ k ∧ ∀ f, H2 f = none → Q (.ref f) (H2.set f (.list (l.drop k.toNat)))) H1) H)
    (ht : ∀ o r, letTemporaryGo value o r = pure ()) :
    WE c A L loc (eval (.Subscript value (.Slice (some e) none none p) pos) env) Q H := fun s a =>
  wpAny_Subscript_list_slice (wpAny_mono (h s a) (fun v s1 r => by
    obtain ⟨x, H1, r1, a1, S1, r⟩ := r
    refine wpAny_mono (r s1 a1) (fun w s2 q => ?_) fun _ _ e => e
    rw [evalPart_none]
    refine wpAny_pure ?_
    obtain ⟨y, H2, r2, a2, S2, d, l, k, rfl, hd, hl, rfl, h0, q⟩ := q
    have e1 : v = .ref d := r1
    obtain ⟨u, e2⟩ := r2
    subst e1 e2
    obtain ⟨vs, n, g, z⟩ := a2.list hd
    refine ⟨d, vs.toArray, some k, none, rfl, ⟨_, g, rfl, n, rfl⟩, by simp only [List.size_toArray]; rw [z.length, sizeLine_eq]; omega, .int _ _, .none, ?_⟩
    have a3 := a2.push { cls := .type "slice", data := .fields #[.int k u, .none, .none] }
    have hsz : s2.heap.objs.size + 1 = (s2.heap.push { cls := .type "slice", data := .fields #[.int k u, .none, .none] }).objs.size := by simp
    rw [hsz]
    refine ⟨.ref _, _, rR _ _, a3.new _ (.list (l.drop k.toNat)) (RelO.list_mk (vs := vs.drop k.toNat) (n := 0) ?_ ?_), ((S1.trans S2).trans (Step.push ..)).trans (Step.new ..), q _ a3.fresh⟩
    · rw [Heap.get?_push_size _ rfl, kms_pick_eq]
      have : kms_pick vs (some k) none = vs.drop k.toNat := by
        unfold kms_pick kms_lo kms_hi
        simp only []
        rw [if_neg (by omega)]
        rcases Nat.le_total k.toNat vs.length with h1 | h1
        · rw [Nat.min_eq_left h1, List.take_of_length_le (by simp)]
        · rw [Nat.min_eq_right h1, List.drop_of_length_le (Nat.le_refl _), List.drop_of_length_le h1, List.take_nil]
      simp [this]
    · exact RelL.mono (fun b it t => tups_push _ _ _ (tups_push _ _ _ t)) _ _ z.drop) fun _ _ e => e) ht
end
end Mine
namespace Mine
noncomputable def WU (c : Cx) (A : Around) (L : Addr) (loc : Loc) (t : Sem Unit) (Q : AH → Prop) (H : AH) (s : Shared) : Prop :=
  wpAny c.M A t (fun _ s' => ∃ H', Abs c L loc H' s' ∧ Step L H s H' s' ∧ Q H') NoE s
noncomputable def SetR (c : Cx) (A : Around) (o i x : V) (Q : AH → Prop) (H : AH) : Prop :=
  ∀ L loc s v w u, Abs c L loc H s → Rel s.heap v o → Rel s.heap w i → Rel s.heap u x → WU c A L loc (setItem v w u) Q H s
section
variable {c : Cx} {A : Around} {L : Addr} {loc : Loc} {H : AH} {Q : Fl → Loc → AH → Prop} {env : Env} {ks : List (Nat × NameKind)}
theorem S_nil (h : Q .next loc H) : WS c A L (execs [] env) Q loc H := fun s a => wpAny_execs_nil ⟨.next, loc, H, rfl, a, Step.refl .., h⟩
theorem S_cons {st : Stmt} {rest : List Stmt} (h : WS c A L (exec st env) (fun f l H1 => match f with | .next => WS c A L (execs rest env) Q l H1 | .brk => Q .brk l H1 | .cont => Q .cont l H1 | .ret v => Q (.ret v) l H1) loc H) :
    WS c A L (execs (st :: rest) env) Q loc H := fun s a =>
  wpAny_execs_cons (wpAny_mono (h s a) (fun f s1 p => by
    obtain ⟨x, l, H1, r, a1, S1, p⟩ := p
    cases x with
    | next =>
      have : f = .next := r
      subst this
      exact wpAny_mono (p s1 a1) (fun _ _ z => z.trans S1) fun _ _ e => e
    | brk =>
      have : f = .brk := r
      subst this
      exact ⟨.brk, l, H1, r, a1, S1, p⟩
    | cont =>
      have : f = .cont := r
      subst this
      exact ⟨.cont, l, H1, r, a1, S1, p⟩
    | ret v =>
      obtain ⟨y, rfl, ry⟩ := r
      exact ⟨.ret v, l, H1, ⟨y, rfl, ry⟩, a1, S1, p⟩) fun _ _ e => e)
theorem S_if {test : Expr} {body orelse : List Stmt} {pos : Pos} (h : WB c A L loc (isTrue test env (eval test env)) (fun b H1 => if b then WS c A L (execs body env) Q loc H1 else WS c A L (execs orelse env) Q loc H1) H) :
    WS c A L (exec (.If test body orelse pos) env) Q loc H := fun s a => wpAny_If (wpAny_mono (h s a) (fun b s1 p => by
    obtain ⟨H1, a1, S1, p⟩ := p
    cases b
    · simp only [Bool.false_eq_true, if_false] at p ⊢
      exact wpAny_mono (p s1 a1) (fun _ _ z => z.trans S1) fun _ _ e => e
    · simp only [if_true] at p ⊢
      exact wpAny_mono (p s1 a1) (fun _ _ z => z.trans S1) fun _ _ e => e) fun _ _ e => e)
theorem S_return {e : Expr} {pos : Pos} (h : WE c A L loc (eval e env) (fun v H1 => Q (.ret v) loc H1) H) : WS c A L (exec (.Return (some e) pos) env) Q loc H := fun s a =>
  wpAny_Return_some (wpAny_mono (h s a) (fun v s1 p => by
    obtain ⟨x, H1, r, a1, S1, p⟩ := p
    exact ⟨.ret x, loc, H1, ⟨v, rfl, r⟩, a1, S1, p⟩) fun _ _ e => e)
theorem S_return0 {pos : Pos} (h : Q (.ret .none) loc H) : WS c A L (exec (.Return none pos) env) Q loc H := fun s a => wpAny_Return_none ⟨.ret .none, loc, H, ⟨.none, rfl, rN _⟩, a, Step.refl .., h⟩
theorem S_expr {e : Expr} {pos : Pos} (h : WE c A L loc (eval e env) (fun v H1 => v = .none ∧ Q .next loc H1) H) (hi : interactive env = false) (hs : swapsWith e none pos.line env = pure false) : WS c A L (exec (.Expr e pos) env) Q loc H := fun s a =>
  wpAny_Expr (wpAny_mono (h s a) (fun v s1 p => by
    obtain ⟨x, H1, r, a1, S1, rfl, p⟩ := p
    have : v = .none := r
    subst this
    exact ⟨.next, loc, H1, rfl, a1, S1, p⟩) fun _ _ e => e) hi hs
theorem store_wp {x : Str} {i : Nat} {v : Value} {V : V} {s : Shared} {E : Value → Shared → Prop} {R : Unit → Shared → Prop} (K : EnvOk env L ks) (hi : nid x = some i) (hk : ks.lookup i = some .local) (a : Abs c L loc H s) (hv : Rel s.heap v V)
    (h : ∀ s', Abs c L ((i, V) :: loc) H s' → Step L H s H s' → R () s') : wpAny c.M A (storeName env x v) R E s := by
  obtain ⟨m, n, q⟩ := a.ns
  refine wpAny_storeName_local (by show env.scope.names.lookup x = _; rw [K.ks x i hi]; exact hk) (K.loc.symm ▸ n) (fun h' n' hs => ?_) (by rw [K.fn]; rfl)
  rw [K.loc] at n' hs
  refine h _ (a.store hi hv (fun m' n2 => ?_) hs) (Step.store hs)
  obtain ⟨o, es, ep, g1, g2, g3, g4⟩ := n
  obtain ⟨o', es', ep', g1', g2', g3', g4'⟩ := n2
  rw [g1] at g1'; cases g1'
  rw [g2] at g2'; cases g2'
  have : m = m' := funext fun y => (g4 y).symm.trans (g4' y)
  exact this ▸ n'
theorem S_assign {x : Str} {i : Nat} {value : Expr} {pos' pos : Pos} (K : EnvOk env L ks) (hi : nid x = some i) (hk : ks.lookup i = some .local)
    (h : WE c A L loc (eval value env) (fun v H1 => Q .next ((i, v) :: loc) H1) H)
    (hs : swapsWith value (some (.Name x pos')) pos.line env = pure false) : WS c A L (exec (.Assign [.Name x pos'] value pos) env) Q loc H := fun s a =>
  wpAny_Assign_Name (wpAny_mono (h s a) (fun v s1 p => by
    obtain ⟨X, H1, r, a1, S1, p⟩ := p
    exact store_wp K hi hk a1 r fun s2 a2 S2 => ⟨.next, _, H1, rfl, a2, S1.trans S2, p⟩) fun _ _ e => e) hs
theorem S_aug {x : Str} {i : Nat} {value : Expr} {op : Operator} {pos' pos : Pos} {X : V} (K : EnvOk env L ks) (hi : nid x = some i) (hk : ks.lookup i = some .local) (hv : loc.lookup i = some X)
    (h : WE c A L loc (eval value env) (fun y H1 => OpR c A (inplaceOp op) X y (fun z H2 => Q .next ((i, z) :: loc) H2) H1) H) :
    WS c A L (exec (.AugAssign (.Name x pos') op value pos) env) Q loc H := fun s a => by
  obtain ⟨m, n, q⟩ := a.ns
  obtain ⟨y, y1, y2⟩ := q x i X hi hv
  refine wpAny_AugAssign_Name (wpAny_loadName_local K.fn (by show env.scope.names.lookup x = _; rw [K.ks x i hi]; exact hk) (K.loc.symm ▸ n) y1 ?_)
  refine wpAny_mono (h s a) (fun w s1 p => ?_) fun _ _ e => e
  obtain ⟨Y, H1, r, a1, S1, p⟩ := p
  refine wpAny_mono (p L loc s1 y w a1 (a.rel S1 y2) r) (fun u s2 q => ?_) fun _ _ e => e
  obtain ⟨Z, H2, r2, a2, S2, q⟩ := q
  exact store_wp K hi hk a2 r2 fun s3 a3 S3 => ⟨.next, _, H2, rfl, a3, (S1.trans S2).trans S3, q⟩
theorem o_iadd {Q : V → AH → Prop} {i j : Int} (h : Q (.int (i + j)) H) : OpR c A (inplaceOp .Add) (.int i) (.int j) Q H := fun L loc s v w a ⟨t, e1⟩ ⟨u, e2⟩ => by
  subst e1 e2; exact iadd_int ⟨_, H, rI _ _ _, a.toks _, Step.toks .., h⟩
theorem o_isub {Q : V → AH → Prop} {i j : Int} (h : Q (.int (i - j)) H) : OpR c A (inplaceOp .Sub) (.int i) (.int j) Q H := fun L loc s v w a ⟨t, e1⟩ ⟨u, e2⟩ => by
  subst e1 e2; exact isub_int ⟨_, H, rI _ _ _, a.toks _, Step.toks .., h⟩
theorem S_assign_sub {o i value : Expr} {pos' pos : Pos} (h : WE c A L loc (eval value env) (fun v H1 => WE c A L loc (eval o env) (fun x H2 => WE c A L loc (eval i env) (fun y H3 => SetR c A x y v (fun H4 => Q .next loc H4) H3) H2) H1) H)
    (hs : swapsWith value (some (.Subscript o i pos')) pos.line env = pure false) : WS c A L (exec (.Assign [.Subscript o i pos'] value pos) env) Q loc H := fun s a =>
  wpAny_Assign_Subscript (wpAny_mono (h s a) (fun v s1 p => by
    obtain ⟨V1, H1, r1, a1, S1, p⟩ := p
    refine wpAny_mono (p s1 a1) (fun x s2 p => ?_) fun _ _ e => e
    obtain ⟨V2, H2, r2, a2, S2, p⟩ := p
    refine wpAny_mono (p s2 a2) (fun y s3 p => ?_) fun _ _ e => e
    obtain ⟨V3, H3, r3, a3, S3, p⟩ := p
    refine wpAny_mono (p L loc s3 x y v a3 (a2.rel S3 r2) r3 (a1.rel (S2.trans S3) r1)) (fun _ s4 q => ?_) fun _ _ e => e
    obtain ⟨H4, a4, S4, q⟩ := q
    exact ⟨.next, loc, H4, rfl, a4, ((S1.trans S2).trans S3).trans S4, q⟩) fun _ _ e => e) hs
noncomputable def GetR (c : Cx) (A : Around) (x y : V) (Q : V → AH → Prop) (H : AH) : Prop := OpR c A PySem.getItem x y Q H
theorem S_aug_sub {o i value : Expr} {op : Operator} {tpos pos : Pos} (h : WE c A L loc (eval o env) (fun x H1 => WE c A L loc (eval i env) (fun y H2 => GetR c A x y (fun old H3 => WE c A L loc (eval value env) (fun v H4 =>
      OpR c A (inplaceOp op) old v (fun new H5 => SetR c A x y new (fun H6 => Q .next loc H6) H5) H4) H3) H2) H1) H)
    (hi : ∀ ov iv new, augStore i ov iv new = (do holding [new, ov, iv] (setItem ov iv new); release [new, ov, iv] []; pure .next)) :
    WS c A L (exec (.AugAssign (.Subscript o i tpos) op value pos) env) Q loc H := fun s a =>
  wpAny_AugAssign_SubscriptAny (wpAny_mono (h s a) (fun x s1 p => by
    obtain ⟨V1, H1, r1, a1, S1, p⟩ := p
    refine wpAny_mono (p s1 a1) (fun y s2 p => ?_) fun _ _ e => e
    obtain ⟨V2, H2, r2, a2, S2, p⟩ := p
    have r1' := a1.rel S2 r1
    refine wpAny_mono (p L loc s2 x y a2 r1' r2) (fun old s3 p => ?_) fun _ _ e => e
    obtain ⟨V3, H3, r3, a3, S3, p⟩ := p
    have r1'' := a2.rel S3 r1'
    have r2'' := a2.rel S3 r2
    refine wpAny_mono (p s3 a3) (fun v s4 p => ?_) fun _ _ e => e
    obtain ⟨V4, H4, r4, a4, S4, p⟩ := p
    refine wpAny_mono (p L loc s4 old v a4 (a3.rel S4 r3) r4) (fun new s5 p => ?_) fun _ _ e => e
    obtain ⟨V5, H5, r5, a5, S5, p⟩ := p
    refine wpAny_mono (p L loc s5 x y new a5 (a3.rel (S4.trans S5) r1'') (a3.rel (S4.trans S5) r2'') r5) (fun _ s6 p => ?_) fun _ _ e => e
    obtain ⟨H6, a6, S6, q⟩ := p
    exact ⟨.next, loc, H6, rfl, a6, ((((S1.trans S2).trans S3).trans S4).trans S5).trans S6, q⟩) fun _ _ e => e) hi
theorem g_list {Q : V → AH → Prop} {d : Addr} {l : List V} {k : Int} {x : V} (hd : H d = some (.list l)) (h0 : 0 ≤ k) (h1 : k < 100000) (hx : l[k.toNat]? = some x) (h : Q x H) : GetR c A (.ref d) (.int k) Q H := fun L loc s v w a r1 ⟨u, e2⟩ => by
  have e1 : v = .ref d := r1
  subst e1 e2
  obtain ⟨vs, n, g, q⟩ := a.list hd
  obtain ⟨y, hy, ry⟩ := q.get hx
  have hL : s.heap.IsList d vs.toArray := ⟨_, g, rfl, n, rfl⟩
  exact wpAny_getItem_list hL h0 (by omega) (by simpa using hy) ⟨x, H, ry, a, Step.refl .., h⟩
theorem s_list {Q : AH → Prop} {d : Addr} {l : List V} {k : Int} {x : V} (hd : H d = some (.list l)) (h0 : 0 ≤ k) (h1 : k < 100000) (hl : k.toNat < l.length) (h : Q (H.set d (.list (l.set k.toNat x)))) : SetR c A (.ref d) (.int k) x Q H := fun L loc s v w z a r1 ⟨u, e2⟩ r3 => by
  have e1 : v = .ref d := r1
  subst e1 e2
  obtain ⟨vs, n, g, q⟩ := a.list hd
  have hlen := q.length
  refine ki_setAt g h0 (by omega) (by simp only [List.size_toArray]; omega) ⟨_, ?_, Step.upd hd (Heap.SameBut.update ..), h⟩
  refine a.upd hd (Heap.SameBut.update ..) (RelO.list_mk (vs := vs.set k.toNat z) (n := n) ?_ ?_)
  · have hb : ((W.listOf vs.toArray n).mapSeq (·.setIfInBounds k.toNat z)) = W.listOf (vs.set k.toNat z).toArray n := by
      simp [Obj.mapSeq, W.listOf]
    rw [Heap.get?_update_self _ g (by rw [hb]; rfl), hb]
  · exact RelL.mono (a.tups_upd hd (Heap.SameBut.update ..)) _ _ (RelL.set r3 q)
theorem s_dI {Q : AH → Prop} {d : Addr} {ep : Nat} {l : List (Int × V)} {k : Int} {x : V} (hd : H d = some (.dI ep l)) (hl : l.length ≤ 1000) (h : ∀ ep', Q (H.set d (.dI ep' (dput l k x)))) : SetR c A (.ref d) (.int k) x Q H := fun L loc s v w z a r1 ⟨u, e2⟩ r3 => by
  have e1 : v = .ref d := r1
  subst e1 e2
  obtain ⟨kv, g, q1, q2⟩ := (a.obj _ _ hd).2.2
  have hlen : kv.length = l.length := by simpa using congrArg List.length q1
  refine wpAny_setItem_pairs (int_is k u c) g.dictOf (fun h' g' hs => ?_) (by rw [hlen, sizeLine_eq]; omega)
  have tu := a.tups_upd hd hs
  obtain ⟨p1, p2⟩ := dput_rel (k := k) (Rel.mono tu _ _ r3) q1 (RelL.mono tu _ _ q2)
  obtain ⟨ep', g''⟩ := g'.dictAt
  exact ⟨H.set d (.dI ep' (dput l k x)), a.upd (o' := .dI ep' (dput l k x)) hd hs ⟨_, g'', p1, p2⟩, Step.upd hd hs, h ep'⟩
end
end Mine
namespace Mine
section
variable {c : Cx} {A : Around} {L : Addr} {loc : Loc} {H : AH} {Q : Fl → Loc → AH → Prop} {env : Env} {ks : List (Nat × NameKind)}
theorem S_pair {x y : Str} {i j k : Nat} {value : Expr} {px py tpos pos : Pos} {n : Nat} (hA : AOk n A) (K : EnvOk env L ks) (hi : nid x = some i) (hki : ks.lookup i = some .local) (hj : nid y = some j) (hkj : ks.lookup j = some .local)
    (h : WE c A L loc (eval value env) (fun v H1 => PPair v fun a b => Q .next ((j, b) :: (i, a) :: loc) H1) H)
    (hs : swapsWithSole [.Tuple [.Name x px, .Name y py] k tpos] value pos.line env = pure false)
    (hw : swappedStores [.Tuple [.Name x px, .Name y py] k tpos] value env = pure none) :
    WS c A L (exec (.Assign [.Tuple [.Name x px, .Name y py] k tpos] value pos) env) Q loc H := fun s a =>
  PyProof.Rows.Assign_Tuple (wpAny_mono (h s a) (fun v s1 p => by
    obtain ⟨_, H1, r, a1, S1, va, vb, rfl, p⟩ := p
    obtain ⟨d, vs, rfl, ht, q⟩ := r
    obtain ⟨v1, vs, rfl, r1, q⟩ := q
    obtain ⟨v2, vs, rfl, r2, q⟩ := q
    have : vs = [] := q
    subst this
    refine wpAny_assign_Tuple (items := [v1, v2].toArray) hA.1 ht rfl (by rfl) (fun h' hext => ?_)
    have kk : ∀ b o, s1.heap.get? b = some o → h'.get? b = some o := fun b o e => hext b o (Nat.ne_of_lt (Heap.lt_size e)) e
    have a2 := a1.keeps s1.toks kk
    have S2 : Step L H1 s1 H1 { s1 with heap := h', toks := s1.toks } := Step.keeps s1.toks kk
    refine wpAny_assignInOrder_more (PyProof.Rows.assign_Name (store_wp K hi hki a2 (a1.rel S2 r1) fun s3 a3 S3 => ?_))
    refine wpAny_assignInOrder_more (PyProof.Rows.assign_Name (store_wp K hj hkj a3 (a2.rel S3 (a1.rel S2 r2)) fun s4 a4 S4 => ?_))
    exact wpAny_pure ⟨.next, _, H1, rfl, a4, ((S1.trans S2).trans S3).trans S4, p⟩) fun _ _ e => e) hs hw
theorem S_pair_sw {x y : Str} {i j k : Nat} {value : Expr} {px py tpos pos : Pos} {n : Nat} (hA : AOk n A) (K : EnvOk env L ks) (hi : nid x = some i) (hki : ks.lookup i = some .local) (hj : nid y = some j) (hkj : ks.lookup j = some .local)
    (h : WE c A L loc (eval value env) (fun v H1 => PPair v fun a b => Q .next ((i, a) :: (j, b) :: loc) H1) H)
    (hs : swapsWithSole [.Tuple [.Name x px, .Name y py] k tpos] value pos.line env = pure false)
    (hw : swappedStores [.Tuple [.Name x px, .Name y py] k tpos] value env = pure (some [x, y])) :
    WS c A L (exec (.Assign [.Tuple [.Name x px, .Name y py] k tpos] value pos) env) Q loc H := fun s a =>
  PyProof.Rows.Assign_Tuple_swapped (wpAny_mono (h s a) (fun v s1 p => by
    obtain ⟨_, H1, r, a1, S1, va, vb, rfl, p⟩ := p
    obtain ⟨d, vs, rfl, ht, q⟩ := r
    obtain ⟨v1, vs, rfl, r1, q⟩ := q
    obtain ⟨v2, vs, rfl, r2, q⟩ := q
    have : vs = [] := q
    subst this
    refine wpAny_unpackItems_tuple (items := [v1, v2].toArray) hA.1 ht (fun h' hext => ?_)
    have kk : ∀ b o, s1.heap.get? b = some o → h'.get? b = some o := fun b o e => hext b o (Nat.ne_of_lt (Heap.lt_size e)) e
    have a2 := a1.keeps s1.toks kk
    have S2 : Step L H1 s1 H1 { s1 with heap := h', toks := s1.toks } := Step.keeps s1.toks kk
    show wpAny c.M A (assignInOrder [fun v => bindName _ y v, fun v => bindName _ x v] [v2, v1]) _ _ _
    refine wpAny_assignInOrder_more (wpAny_bindName (store_wp K hj hkj a2 (a1.rel S2 r2) fun s3 a3 S3 => ?_))
    refine wpAny_assignInOrder_more (wpAny_bindName (store_wp K hi hki a3 (a2.rel S3 (a1.rel S2 r1)) fun s4 a4 S4 => ?_))
    exact wpAny_pure ⟨.next, _, H1, rfl, a4, ((S1.trans S2).trans S3).trans S4, p⟩) fun _ _ e => e) hs hw
theorem S_while {test : Expr} {body orelse : List Stmt} {pos : Pos} (I : Nat → Loc → AH → Prop) (n : Nat) (h0 : I n loc H)
    (turn : ∀ n loc H, I n loc H → WB c A L loc (isTrue test env (eval test env)) (fun b H1 => if b then WS c A L (execs body env) (fun f l H2 => match f with | .next => ∃ m, m < n ∧ I m l H2 | .cont => ∃ m, m < n ∧ I m l H2 | .brk => Q .next l H2 | .ret v => Q (.ret v) l H2) loc H1
      else WS c A L (execs orelse env) Q loc H1) H) :
    WS c A L (exec (.While test body orelse pos) env) Q loc H := fun s a => by
  refine wpAny_While (codeAny_whileLoop (fun n s' => ∃ loc' H', Abs c L loc' H' s' ∧ Step L H s H' s' ∧ I n loc' H') ?_ n ⟨loc, H, a, Step.refl .., h0⟩)
  rintro n s1 ⟨loc1, H1, a1, S1, hI⟩
  refine wpAny_mono (turn n loc1 H1 hI s1 a1) (fun b s2 p => ?_) fun _ _ e => e.elim
  obtain ⟨H2, a2, S2, p⟩ := p
  cases b with
  | true =>
    simp only [if_true] at p ⊢
    refine wpAny_mono (p s2 a2) (fun f s3 q => ?_) fun _ _ e => e.elim
    obtain ⟨x, l, H3, r, a3, S3, q⟩ := q
    have SS := (S1.trans S2).trans S3
    cases x with
    | next => have : f = .next := r; subst this; obtain ⟨m, hm, q⟩ := q; exact ⟨m, hm, l, H3, a3, SS, q⟩
    | cont => have : f = .cont := r; subst this; obtain ⟨m, hm, q⟩ := q; exact ⟨m, hm, l, H3, a3, SS, q⟩
    | brk => have : f = .brk := r; subst this; exact ⟨.next, l, H3, rfl, a3, SS, q⟩
    | ret v => obtain ⟨y, rfl, ry⟩ := r; exact ⟨.ret v, l, H3, ⟨y, rfl, ry⟩, a3, SS, q⟩
  | false =>
    simp only [Bool.false_eq_true, if_false] at p ⊢
    exact wpAny_mono (p s2 a2) (fun f s3 q => q.trans (S1.trans S2)) fun _ _ e => e.elim
structure Turns (c : Cx) (A : Around) (L : Addr) (env : Env) (body : List Stmt) (i : Nat) (xs : List V) (I : Nat → Loc → AH → Prop) (Q : Fl → Loc → AH → Prop) : Prop where
  turn : ∀ j loc H v, xs[j]? = some v → I j loc H → WS c A L (execs body env) (fun f l H2 => match f with | .next => I (j + 1) l H2 | .cont => I (j + 1) l H2 | .brk => Q .next l H2 | .ret v => Q (.ret v) l H2) ((i, v) :: loc) H
  fin : ∀ loc H, I xs.length loc H → Q .next loc H
theorem Abs.ext {s : Shared} (a : Abs c L loc H s) {it : Addr} {h' : Heap} {t : Nat} (hL : it ≠ L) (hH : H it = none) (hb : c.h₀.get? it = none) (ht : ∀ items, ¬ IsTup s.heap it items) (k : ∀ b o, b ≠ it → s.heap.get? b = some o → h'.get? b = some o) :
    Abs c L loc H { s with heap := h', toks := t } := by
  have tu : ∀ b items, IsTup s.heap b items → IsTup h' b items := fun b items t => by
    have hb : b ≠ it := by rintro rfl; exact ht _ t
    obtain ⟨x, hx, r⟩ := t
    exact ⟨x, k _ _ hb hx, r⟩
  refine ⟨fun b x e => k _ _ ?_ (a.base b x e), a.lo, ?_, fun b x e => ?_⟩
  · rintro rfl; rw [hb] at e; cases e
  · obtain ⟨m, ⟨o, es, ep, g, r⟩, q⟩ := a.ns
    exact ⟨m, ⟨o, es, ep, k _ _ (Ne.symm hL) g, r⟩, fun x i v e e' => by obtain ⟨y, y1, y2⟩ := q x i v e e'; exact ⟨y, y1, Rel.mono tu _ _ y2⟩⟩
  · obtain ⟨p, q, r⟩ := a.obj b x e
    have hne : b ≠ it := by rintro rfl; rw [hH] at e; cases e
    exact ⟨p, q, RelO.mono tu (fun y e => k _ _ hne e) _ r⟩
theorem Step.ext {s0 s : Shared} {H0 : AH} (S : Step L H0 s0 H s) {it : Addr} {h' : Heap} {t : Nat} (h0 : s0.heap.get? it = none) (k : ∀ b o, b ≠ it → s.heap.get? b = some o → h'.get? b = some o) :
    Step L H0 s0 H { s with heap := h', toks := t } := by
  obtain ⟨g, u, e⟩ := S.rest
  refine ⟨fun b o e1 e2 e3 => k b o ?_ (S.keep b o e1 e2 e3), S.dom, ⟨h', t, by rw [e]⟩⟩
  rintro rfl; rw [h0] at e1; cases e1
theorem for_core {x : Str} {i : Nat} {px : Pos} {body : List Stmt} {xs : List V} {I : Nat → Loc → AH → Prop} {it : Addr} (ItAt : Nat → Heap → Prop) {s0 s : Shared} {H0 : AH}
    (K : EnvOk env L ks) (hi : nid x = some i) (hk : ks.lookup i = some .local)
    (stable : ∀ j h h', ItAt j h → (∀ o, h.get? it = some o → h'.get? it = some o) → ItAt j h')
    (live : ∀ j h, ItAt j h → (∃ o, h.get? it = some o) ∧ ∀ items, ¬ IsTup h it items)
    (item : ∀ j v loc H s', xs[j]? = some v → I j loc H → Abs c L loc H s' → (∀ b items, IsTup s.heap b items → IsTup s'.heap b items) → ItAt j s'.heap →
      wpAny c.M A (pyNext (.ref it)) (fun r s2 => ∃ y h' t, r = some y ∧ Rel s'.heap y v ∧ s2 = { s' with heap := h', toks := t } ∧ Heap.SameBut it s'.heap h' ∧ ItAt (j + 1) h') NoE s')
    (stop : ∀ loc H s', I xs.length loc H → Abs c L loc H s' → (∀ b items, IsTup s.heap b items → IsTup s'.heap b items) → ItAt xs.length s'.heap →
      wpAny c.M A (pyNext (.ref it)) (fun r s2 => ∃ h' t, r = none ∧ s2 = { s' with heap := h', toks := t } ∧ Heap.ExtBut it s'.heap h') NoE s')
    (T : Turns c A L env body i xs I Q) (a : Abs c L loc H s) (S : Step L H0 s0 H s) (hL : it ≠ L) (hH : H it = none) (h0 : s0.heap.get? it = none) (hb : c.h₀.get? it = none) (hi0 : ItAt 0 s.heap) (hI : I 0 loc H) :
    codeAny c.M A (.forLoop (.Name x px) (.ref it) body [] env) (fun r s' => match r with | .ok f => SPost c L H0 s0 Q f s' | .error e => cameBackBy c.M A env NoE e s') s := by
  refine codeAny_forLoop (fun n s' => ∃ j loc' H', n = xs.length - j ∧ j ≤ xs.length ∧ Abs c L loc' H' s' ∧ Step L H0 s0 H' s' ∧ H' it = none ∧ ItAt j s'.heap ∧ I j loc' H' ∧ ∀ b items, IsTup s.heap b items → IsTup s'.heap b items) ?_ xs.length
    ⟨0, loc, H, rfl, Nat.zero_le _, a, S, hH, hi0, hI, fun _ _ t => t⟩
  rintro n s1 ⟨j, loc1, H1, rfl, hj, a1, S1, hH1, hi1, hI1, ht1⟩
  rcases Nat.lt_or_ge j xs.length with hlt | hge
  · have hv : xs[j]? = some xs[j] := List.getElem?_eq_getElem hlt
    refine wpAny_mono (item j _ loc1 H1 s1 hv hI1 a1 ht1 hi1) (fun r s2 p => ?_) fun _ _ e => e.elim
    obtain ⟨y, h', t, rfl, ry, rfl, hsb, hi2⟩ := p
    have kk : ∀ b o, b ≠ it → s1.heap.get? b = some o → h'.get? b = some o := fun b o hb e => (hsb.2 b hb).trans e
    have a2 := a1.ext (t := t) hL hH1 hb (live _ _ hi1).2 kk
    have S2 : Step L H0 s0 H1 { s1 with heap := h', toks := t } := S1.ext h0 kk
    have tt : ∀ b items, IsTup s1.heap b items → IsTup h' b items := fun b items t => by
      have hbt : b ≠ it := by rintro rfl; exact (live _ _ hi1).2 _ t
      obtain ⟨o, ho, r⟩ := t; exact ⟨o, kk _ _ hbt ho, r⟩
    have ry2 : Rel h' y xs[j] := Rel.mono tt _ _ ry
    refine PyProof.Rows.assign_Name (store_wp K hi hk a2 ry2 fun s3 a3 S3 => ?_)
    have hi3 : ItAt (j + 1) s3.heap := stable _ _ _ hi2 fun o e => S3.keep it o e hL hH1
    refine wpAny_mono (T.turn j loc1 H1 _ hv hI1 s3 a3) (fun f s4 q => ?_) fun _ _ e => e.elim
    obtain ⟨x', l, H4, r, a4, S4, q⟩ := q
    have SS := (S2.trans S3).trans S4
    obtain ⟨o3, ho3⟩ := (live _ _ hi3).1
    have hH4 : H4 it = none := by
      cases e : H4 it with
      | none => rfl
      | some o =>
        rcases S4.dom it (by rw [e]; exact Option.some_ne_none _) with h | h | h
        · exact absurd hH1 h
        · rw [ho3] at h; cases h
        · exact absurd h hL
    have hi4 : ItAt (j + 1) s4.heap := stable _ _ _ hi3 fun o e => S4.keep it o e hL hH1
    have ht4 : ∀ b items, IsTup s.heap b items → IsTup s4.heap b items := fun b items t => a3.tups S4 _ _ (a2.tups S3 _ _ (tt _ _ (ht1 _ _ t)))
    cases x' with
    | next => have : f = .next := r; subst this; exact ⟨_, by omega, j + 1, l, H4, rfl, hlt, a4, SS, hH4, hi4, q, ht4⟩
    | cont => have : f = .cont := r; subst this; exact ⟨_, by omega, j + 1, l, H4, rfl, hlt, a4, SS, hH4, hi4, q, ht4⟩
    | brk => have : f = .brk := r; subst this; exact ⟨.next, l, H4, rfl, a4, SS, q⟩
    | ret v => obtain ⟨y, rfl, ry⟩ := r; exact ⟨.ret v, l, H4, ⟨y, rfl, ry⟩, a4, SS, q⟩
  · have hje : j = xs.length := Nat.le_antisymm hj hge
    subst hje
    refine wpAny_mono (stop loc1 H1 s1 hI1 a1 ht1 hi1) (fun r s2 p => ?_) fun _ _ e => e.elim
    obtain ⟨h', t, rfl, rfl, hext⟩ := p
    have kk : ∀ b o, b ≠ it → s1.heap.get? b = some o → h'.get? b = some o := fun b o hb e => hext b o hb e
    have a2 := a1.ext (t := t) hL hH1 hb (live _ _ hi1).2 kk
    have S2 : Step L H0 s0 H1 { s1 with heap := h', toks := t } := S1.ext h0 kk
    exact wpAny_execs_nil ⟨.next, loc1, H1, rfl, a2, S2, T.fin _ _ hI1⟩
end
end Mine
namespace Mine
noncomputable def full (c : Cx) (L : Addr) (h : Heap) : List (Addr × Obj) := (List.range h.objs.size).filterMap fun a => if a = L ∨ (c.h₀.get? a).isSome then none else (h.get? a).map fun o => (a, o)
theorem mem_full {c : Cx} {L : Addr} {h : Heap} {a : Addr} {o : Obj} : (a, o) ∈ full c L h ↔ h.get? a = some o ∧ a ≠ L ∧ c.h₀.get? a = none := by
  unfold full
  rw [List.mem_filterMap]
  constructor
  · rintro ⟨b, hb, e⟩
    split at e
    · cases e
    · rename_i hn
      obtain ⟨x, hx, e⟩ := Option.map_eq_some_iff.mp e
      cases e
      refine ⟨hx, fun q => hn (.inl q), ?_⟩
      cases q : c.h₀.get? a with
      | none => rfl
      | some y => exact absurd (.inr (by rw [q]; rfl)) hn
  · rintro ⟨h1, h2, h3⟩
    refine ⟨a, List.mem_range.mpr (Heap.lt_size h1), ?_⟩
    rw [if_neg (by rintro (q | q); exact h2 q; rw [h3] at q; cases q), h1]; rfl
theorem full_nodup (c : Cx) (L : Addr) (h : Heap) : ((full c L h).map (·.1)).Nodup := by
  unfold full
  have : ∀ l : List Nat, l.Nodup → ((l.filterMap fun a => if a = L ∨ (c.h₀.get? a).isSome then none else (h.get? a).map fun o => (a, o)).map (·.1)).Nodup ∧
      ∀ b ∈ (l.filterMap fun a => if a = L ∨ (c.h₀.get? a).isSome then none else (h.get? a).map fun o => (a, o)).map (·.1), b ∈ l := by
    intro l
    induction l with
    | nil => intro _; exact ⟨List.nodup_nil, fun _ h => h⟩
    | cons x l ih =>
      intro hn
      rw [List.nodup_cons] at hn
      obtain ⟨i1, i2⟩ := ih hn.2
      rw [List.filterMap_cons]
      split
      · exact ⟨i1, fun b hb => .tail _ (i2 b hb)⟩
      · rename_i y e
        have hy : y.1 = x := by
          split at e
          · cases e
          · obtain ⟨o, _, e⟩ := Option.map_eq_some_iff.mp e; cases e; rfl
        rw [List.map_cons, List.nodup_cons]
        refine ⟨⟨fun q => hn.1 (hy ▸ i2 _ q), i1⟩, fun b hb => ?_⟩
        rcases List.mem_cons.mp hb with rfl | hb
        · rw [hy]; exact .head _
        · exact .tail _ (i2 b hb)
  exact (this _ List.nodup_range).1
theorem upd_of {d : Addr} {o o' : Obj} : ∀ {l : List (Addr × Obj)}, (l.map (·.1)).Nodup → (d, o) ∈ l → ∃ l', W.Upd d o o' l l' ∧ (d, o') ∈ l' ∧ ∀ b x, b ≠ d → (b, x) ∈ l → (b, x) ∈ l'
  | [], _, h => by cases h
  | (a, y) :: l, hn, h => by
    rw [List.map_cons, List.nodup_cons] at hn
    rcases List.mem_cons.mp h with e | h
    · cases e
      refine ⟨_, .head (fun p hp q => hn.1 (by rw [← q]; exact List.mem_map_of_mem (f := (·.1)) hp)), .head _, fun b x hb hm => ?_⟩
      rcases List.mem_cons.mp hm with e | hm
      · cases e; exact absurd rfl hb
      · exact .tail _ hm
    · obtain ⟨l', u, m, k⟩ := upd_of hn.2 h
      refine ⟨_, .tail (fun q => hn.1 (by rw [show a = d from q]; exact List.mem_map_of_mem (f := (·.1)) h)) u, .tail _ m, fun b x hb hm => ?_⟩
      rcases List.mem_cons.mp hm with e | hm
      · cases e; exact .head _
      · exact .tail _ (k b x hb hm)
section
variable {c : Cx} {A : Around} {L : Addr} {loc : Loc} {H : AH} {s : Shared}
theorem Abs.fr (a : Abs c L loc H s) : ∃ m, Fr c.h₀ L s.heap m := by obtain ⟨m, n, _⟩ := a.ns; exact ⟨m, n, a.base, a.lo⟩
theorem news_full (c : Cx) (L : Addr) (h : Heap) : News c.h₀ L h (full c L h) := fun p hp => by
  obtain ⟨x, y, z⟩ := mem_full.mp (show (p.1, p.2) ∈ _ from hp)
  exact ⟨x, y, z⟩
theorem sameBut_of {h' : Heap} {m : Str → Option Value} {d : Addr} {l' : List (Addr × Obj)} (F' : Fr c.h₀ L h' m) (N' : News c.h₀ L h' l') (k : ∀ b x, b ≠ d → (b, x) ∈ full c L s.heap → (b, x) ∈ l') :
    ∀ b x, b ≠ d → b ≠ L → s.heap.get? b = some x → (c.h₀.get? b = none ∨ c.h₀.get? b = some x) → h'.get? b = some x := by
  intro b x hb hL e hc
  rcases hc with hc | hc
  · exact (N' _ (k b x hb (mem_full.mpr ⟨e, hL, hc⟩))).1
  · exact F'.keep b x hc
theorem Abs.baseOr (a : Abs c L loc H s) {b : Addr} {x : Obj} (e : s.heap.get? b = some x) : c.h₀.get? b = none ∨ c.h₀.get? b = some x := by
  cases q : c.h₀.get? b with
  | none => exact .inl rfl
  | some y => have := a.base b y q; rw [e] at this; cases this; exact .inr rfl
theorem Abs.updF (a : Abs c L loc H s) {d : Addr} {o o' : MObj} {h' : Heap} {t : Nat} {m : Str → Option Value} (F : Fr c.h₀ L s.heap m) (F' : Fr c.h₀ L h' m) (hd : H d = some o) (k : ∀ b x, b ≠ d → b ≠ L → s.heap.get? b = some x → h'.get? b = some x)
    (hr : RelO c h' d o') : Abs c L loc (H.set d o') { s with heap := h', toks := t } ∧ Step L H s (H.set d o') { s with heap := h', toks := t } := by
  have D := a.obj _ _ hd
  have tu : ∀ b items, IsTup s.heap b items → IsTup h' b items := fun b items t => by
    have hb : b ≠ d := by rintro rfl; exact (a.obj _ _ hd).2.2.live.choose_spec.2 _ t
    have hL := (a.tupNotHere t).1
    obtain ⟨x, hx, r⟩ := t
    exact ⟨x, k _ _ hb hL hx, r⟩
  refine ⟨⟨F'.keep, a.lo, ?_, fun b x e => ?_⟩, fun b x e hL hb => k b x ?_ hL e, fun b h => ?_, ⟨_, _, rfl⟩⟩
  · obtain ⟨m', n', q⟩ := a.ns
    have em : m' = m := by
      obtain ⟨o, es, ep, g1, g2, g3, g4⟩ := n'
      obtain ⟨o', es', ep', g1', g2', g3', g4'⟩ := F.ns
      rw [g1] at g1'; cases g1'
      rw [g2] at g2'; cases g2'
      exact funext fun y => (g4 y).symm.trans (g4' y)
    subst em
    exact ⟨m', F'.ns, fun x i v e e' => by obtain ⟨y, y1, y2⟩ := q x i v e e'; exact ⟨y, y1, Rel.mono tu _ _ y2⟩⟩
  · by_cases hb : b = d
    · subst hb; rw [AH.set_same] at e; cases e; exact ⟨D.1, D.2.1, hr⟩
    · rw [AH.set_ne _ _ hb] at e
      obtain ⟨p, q, r⟩ := a.obj b x e
      exact ⟨p, q, RelO.mono tu (fun y e => k b y hb q e) _ r⟩
  · rintro rfl; rw [hd] at hb; cases hb
  · by_cases hb : b = d
    · subst hb; exact .inl (by rw [hd]; exact Option.some_ne_none _)
    · rw [AH.set_ne _ _ hb] at h; exact .inl h
end
structure AttrOk (K : Frag) (C : Addr) (name : Str) : Prop where
  get : plainGet K C name = true
  has : hasDictIn K C = true
  cls : findIn K (.ref C) name = some none
  set : findIn K (.ref C) "__setattr__" = some (some (.builtin "object.__setattr__"))
  over : plainOver K C = true
  taker : takerIn K C name = some none
structure MethOk (K : Frag) (C : Addr) (name : Str) (f : Addr) : Prop where
  get : plainGet K C name = true
  find : findIn K (.ref C) name = some (some (.ref f))
  fn : isFn K (.ref f) = true
  keep : keepIn K (.ref f) = true
theorem handed_rel {h : Heap} {v : Value} {x : V} (r : Rel h v x) : handedIn v = true := by
  cases x with
  | none => cases r; rfl
  | bool b => cases r; rfl
  | int i => obtain ⟨t, rfl⟩ := r; rfl
  | str i => obtain ⟨t, rfl⟩ := r; rfl
  | tup l => obtain ⟨a, vs, rfl, _⟩ := r; rfl
  | ref a => cases r; rfl
  | ty a => cases r; rfl
theorem ns_noRef {h : Heap} : ∀ {kvs : List (Nat × V)} {es : List DictEntry}, NsRel h es kvs → es.any (·.refKey) = false
  | [], es, r => by
    have : es = [] := r
    subst this; rfl
  | (j, y) :: kvs, es, r => by
    obtain ⟨e, es', rfl, ⟨nm, t, hk, hj⟩, p, q⟩ := r
    have hr : e.refKey = false := by unfold DictEntry.refKey; rw [hk]
    rw [List.any_cons, hr, ns_noRef q]; rfl
theorem find_rel {h : Heap} {name : Str} {i : Nat} (hn : nid name = some i) : ∀ {kvs : List (Nat × V)} {es : List DictEntry}, NsRel h es kvs →
    (∀ x, kvs.lookup i = some x → ∃ e, es.find? (·.key.isStr name) = some e ∧ Rel h e.val x) ∧ (kvs.lookup i = none → es.find? (·.key.isStr name) = none)
  | [], es, r => by
    have : es = [] := r
    subst this
    exact ⟨fun x e => by simp at e, fun _ => rfl⟩
  | (j, y) :: kvs, es, r => by
    obtain ⟨e, es', rfl, ⟨nm, t, hk, hj⟩, p, q⟩ := r
    have ih := find_rel hn q
    rw [List.find?_cons]
    have hs : e.key.isStr name = (nm == name) := by rw [hk]; rfl
    by_cases hij : i = j
    · subst hij
      have : nm = name := nid_inj hj hn
      subst this
      rw [hs, beq_self_eq_true]
      exact ⟨fun x z => by rw [List.lookup_cons, beq_self_eq_true] at z; cases z; exact ⟨_, rfl, p⟩, fun z => by rw [List.lookup_cons, beq_self_eq_true] at z; cases z⟩
    · have h1 : (nm == name) = false := by
        cases z : nm == name with
        | false => rfl
        | true => rw [beq_iff_eq.mp z, hn] at hj; cases hj; exact absurd rfl hij
      have h2 : (i == j) = false := by simpa using hij
      rw [hs, h1, List.lookup_cons, h2]
      exact ih
theorem getL_rel {h : Heap} {name : Str} {i : Nat} (hn : nid name = some i) {kvs : List (Nat × V)} {es : List DictEntry} (r : NsRel h es kvs) :
    (∀ x, kvs.lookup i = some x → ∃ v, getL name es = some (some v) ∧ Rel h v x) ∧ (kvs.lookup i = none → getL name es = some none) := by
  have f := find_rel hn r
  unfold getL
  constructor
  · intro x e
    obtain ⟨y, h1, h2⟩ := f.1 x e
    rw [h1]; exact ⟨_, rfl, h2⟩
  · intro e
    rw [f.2 e, ns_noRef r]; rfl
noncomputable def nput (kvs : List (Nat × V)) (i : Nat) (x : V) : List (Nat × V) := match kvs with
  | [] => [(i, x)]
  | (j, y) :: r => if j = i then (j, x) :: r else (j, y) :: nput r i x
theorem putL_rel {h : Heap} {name : Str} {i : Nat} (hn : nid name = some i) {v : Value} {x : V} (rx : Rel h v x) (hsh : Int) (t : Tok) : ∀ {kvs : List (Nat × V)} {es : List DictEntry}, NsRel h es kvs → NsRel h (putL name hsh (.str name t) v es) (nput kvs i x)
  | [], es, r => by
    have : es = [] := r
    subst this
    exact ⟨_, [], rfl, ⟨name, t, rfl, hn⟩, rx, rfl⟩
  | (j, y) :: kvs, es, r => by
    obtain ⟨e, es', rfl, ⟨nm, u, hk, hj⟩, p, q⟩ := r
    have hs : e.key.isStr name = (nm == name) := by rw [hk]; rfl
    unfold putL nput
    by_cases hij : j = i
    · subst hij
      have : nm = name := nid_inj hj hn
      subst this
      rw [hs, beq_self_eq_true, if_pos rfl, if_pos rfl]
      exact ⟨_, _, rfl, ⟨nm, u, hk, hj⟩, rx, q⟩
    · have h1 : (nm == name) = false := by
        cases z : nm == name with
        | false => rfl
        | true => rw [beq_iff_eq.mp z, hn] at hj; cases hj; exact absurd rfl hij
      rw [hs, h1, if_neg (by decide), if_neg hij]
      exact ⟨_, _, rfl, ⟨nm, u, hk, hj⟩, p, putL_rel hn rx hsh t q⟩
theorem NsRel.length {h : Heap} : ∀ {kvs : List (Nat × V)} {es : List DictEntry}, NsRel h es kvs → es.length = kvs.length
  | [], es, r => by
    have : es = [] := r
    subst this; rfl
  | (j, y) :: kvs, es, r => by
    obtain ⟨e, es', rfl, _, p, q⟩ := r
    simp [NsRel.length q]
theorem nput_length : ∀ (kvs : List (Nat × V)) (i : Nat) (x : V), (nput kvs i x).length ≤ kvs.length + 1
  | [], _, _ => Nat.le_refl _
  | (j, y) :: r, i, x => by
    unfold nput
    split
    · simp
    · simp only [List.length_cons]; have := nput_length r i x; omega
section
variable {c : Cx} {A : Around} {L : Addr} {loc : Loc} {H : AH}
theorem Abs.inst {s : Shared} (a : Abs c L loc H s) {x C dx : Addr} {kvs : List (Nat × V)} (h1 : H x = some (.inst C dx)) (h2 : H dx = some (.ns kvs)) :
    ∃ es n, InstAt s.heap x (instObj C dx) C (some (dictOf es n)) ∧ s.heap.get? dx = some (dictOf es n) ∧ NsRel s.heap es kvs := by
  obtain ⟨es, n, g, r⟩ := (a.obj _ _ h2).2.2
  exact ⟨es, n, ⟨(a.obj _ _ h1).2.2, rfl, rfl, g⟩, g, r⟩
theorem get_wp {Q : V → AH → Prop} {s : Shared} {x C dx : Addr} {kvs : List (Nat × V)} {name : Str} {i : Nat} {X : V} {expr : Bool} (a : Abs c L loc H s) (h1 : H x = some (.inst C dx)) (h2 : H dx = some (.ns kvs)) (ok : AttrOk c.K C name) (hi : nid name = some i) (hv : kvs.lookup i = some X) (h : Q X H) :
    wpAny c.M A (getAttr (.ref x) name expr) (EPost c L loc H s Q) NoE s := by
  obtain ⟨es, n, I, g, r⟩ := a.inst h1 h2
  obtain ⟨m, F⟩ := a.fr
  obtain ⟨v, e, rv⟩ := (getL_rel hi r).1 X hv
  exact get_own F c.X I ok.get ok.has ok.cls rfl e (handed_rel rv) ⟨X, H, rv, a.toks _, Step.toks .., h⟩
theorem set_wp {s : Shared} {x C dx : Addr} {kvs : List (Nat × V)} {name : Str} {i : Nat} {v : Value} {X : V} {R : AH → Prop} (a : Abs c L loc H s) (h1 : H x = some (.inst C dx)) (h2 : H dx = some (.ns kvs)) (ok : AttrOk c.K C name) (hi : nid name = some i) (hv : Rel s.heap v X) (hl : kvs.length ≤ 100)
    (h : R (H.set dx (.ns (nput kvs i X)))) :
    wpAny c.M A (setAttr (.ref x) name v) (fun _ s' => ∃ H', Abs c L loc H' s' ∧ Step L H s H' s' ∧ R H') NoE s := by
  obtain ⟨es, n, I, g, r⟩ := a.inst h1 h2
  obtain ⟨m, F⟩ := a.fr
  have D := a.obj _ _ h2
  have hb : c.h₀.get? dx = none := by
    cases e : c.h₀.get? dx with
    | none => rfl
    | some o => exact absurd (Nat.lt_of_lt_of_le (Heap.lt_size e) D.1) (Nat.lt_irrefl _)
  obtain ⟨l', U, hm, k⟩ := upd_of (o' := dictOf (putL name (PyData.keyHash c.w.params name) (.str name (s.toks + 1)) v es) (putN name es n)) (full_nodup c L s.heap) (mem_full.mpr ⟨g, D.2.1, hb⟩)
  refine set_dict F c.X (news_full c L s.heap) I rfl ok.set ok.over ok.taker ok.has ?_ rfl U ?_ fun h' F' N' => ?_
  · unfold getL
    rw [ns_noRef r]
    split <;> rfl
  · have r' := putL_rel hi hv (PyData.keyHash c.w.params name) (s.toks + 1) r
    have := r'.length
    have := nput_length kvs i X
    omega
  · have kk := sameBut_of (s := s) F' N' k
    have kk' : ∀ b x, b ≠ dx → b ≠ L → s.heap.get? b = some x → h'.get? b = some x := fun b x hb hL e => kk b x hb hL e (a.baseOr e)
    have tu : ∀ b items, IsTup s.heap b items → IsTup h' b items := fun b items t => by
      have hb : b ≠ dx := by rintro rfl; exact (a.obj _ _ h2).2.2.live.choose_spec.2 _ t
      have hL := (a.tupNotHere t).1
      obtain ⟨x, hx, r⟩ := t
      exact ⟨x, kk' _ _ hb hL hx, r⟩
    have r' := putL_rel hi (Rel.mono tu _ _ hv) (PyData.keyHash c.w.params name) (s.toks + 1) (NsRel.mono tu _ _ r)
    obtain ⟨p1, p2⟩ := a.updF (t := s.toks + 2) (o' := .ns (nput kvs i X)) F F' h2 kk' ⟨_, _, (N' _ hm).1, r'⟩
    exact ⟨_, p1, p2, h⟩
end
end Mine
namespace Mine
inductive PAttr (c : Cx) (attr : Str) (i : Nat) (v : V) (H : AH) (R : Addr → Addr → Addr → V → Prop) : Prop
  | mk (a C dx : Addr) (kvs : List (Nat × V)) (X : V) (e : v = .ref a) (h1 : H a = some (.inst C dx)) (h2 : H dx = some (.ns kvs)) (ok : AttrOk c.K C attr) (hl : kvs.lookup i = some X) (h : R a C dx X)
inductive PSet (c : Cx) (attr : Str) (v : V) (H : AH) (R : Addr → List (Nat × V) → Prop) : Prop
  | mk (a C dx : Addr) (kvs : List (Nat × V)) (e : v = .ref a) (h1 : H a = some (.inst C dx)) (h2 : H dx = some (.ns kvs)) (ok : AttrOk c.K C attr) (hl : kvs.length ≤ 100) (h : R dx kvs)
inductive PNs (a C dx : Addr) (H : AH) (R : List (Nat × V) → Prop) : Prop
  | mk (kvs : List (Nat × V)) (h1 : H a = some (.inst C dx)) (h2 : H dx = some (.ns kvs)) (hl : kvs.length ≤ 100) (h : R kvs)
inductive PMeth (c : Cx) (name : Str) (i : Nat) (v : V) (H : AH) (R : Addr → Addr → Prop) : Prop
  | mk (b C dx : Addr) (kvs : List (Nat × V)) (f : Addr) (e : v = .ref b) (h1 : H b = some (.inst C dx)) (h2 : H dx = some (.ns kvs)) (hl : kvs.lookup i = none) (ok : MethOk c.K C name f) (h : R b f)
section
variable {c : Cx} {A : Around} {L : Addr} {loc : Loc} {H : AH} {env : Env} {ks : List (Nat × NameKind)}
theorem E_attr {Q : V → AH → Prop} {x attr : Str} {i : Nat} {xp pos : Pos} (hi : nid attr = some i)
    (h : WE c A L loc (eval (.Name x xp) env) (fun v H1 => PAttr c attr i v H1 fun _ _ _ X => Q X H1) H) :
    WE c A L loc (eval (.Attribute (.Name x xp) attr pos) env) Q H := fun s a =>
  Attribute_Name_ (wpAny_mono (h s a) (fun v s1 p => by
    obtain ⟨_, H1, r, a1, S1, b, C, dx, kvs, X, rfl, h1, h2, ok, hv, p⟩ := p
    have : v = .ref b := r
    subst this
    exact wpAny_mono (get_wp a1 h1 h2 ok hi hv p) (fun _ _ z => z.trans S1) fun _ _ e => e) fun _ _ e => e) (by with_unfolding_all rfl)
theorem S_assign_attr {Q : Fl → Loc → AH → Prop} {x attr : Str} {i : Nat} {xp pos' pos : Pos} {value : Expr} (hi : nid attr = some i)
    (h : WE c A L loc (eval value env) (fun X H1 => WE c A L loc (eval (.Name x xp) env) (fun v H2 => PSet c attr v H2 fun dx kvs => Q .next loc (H2.set dx (.ns (nput kvs i X)))) H1) H)
    (hs : swapsWith value (some (.Attribute (.Name x xp) attr pos')) pos.line env = pure false) : WS c A L (exec (.Assign [.Attribute (.Name x xp) attr pos'] value pos) env) Q loc H := fun s a =>
  plainObj_wpAny_Assign_Attribute (wpAny_mono (h s a) (fun v s1 p => by
    obtain ⟨X, H1, r1, a1, S1, p⟩ := p
    refine wpAny_mono (p s1 a1) (fun w s2 p => ?_) fun _ _ e => e
    obtain ⟨_, H2, r2, a2, S2, b, C, dx, kvs, rfl, h1, h2, ok, hl, p⟩ := p
    have : w = .ref b := r2
    subst this
    refine wpAny_mono (set_wp (R := fun H' => Q .next loc H') a2 h1 h2 ok hi (a1.rel S2 r1) hl p) (fun _ s3 q => ?_) fun _ _ e => e
    obtain ⟨H3, a3, S3, q⟩ := q
    exact ⟨.next, loc, H3, rfl, a3, (S1.trans S2).trans S3, q⟩) fun _ _ e => e) hs
theorem S_aug_attr {Q : Fl → Loc → AH → Prop} {x attr : Str} {i : Nat} {xp tpos pos : Pos} {value : Expr} {op : Operator} (hi : nid attr = some i)
    (h : WE c A L loc (eval (.Name x xp) env) (fun v H1 => PAttr c attr i v H1 fun a C dx X =>
      WE c A L loc (eval value env) (fun Y H2 => OpR c A (inplaceOp op) X Y (fun Z H3 => PNs a C dx H3 fun kvs' => Q .next loc (H3.set dx (.ns (nput kvs' i Z)))) H2) H1) H) :
    WS c A L (exec (.AugAssign (.Attribute (.Name x xp) attr tpos) op value pos) env) Q loc H := fun s a =>
  wpAny_AugAssign_AttributeAny (wpAny_mono (h s a) (fun v s1 p => by
    obtain ⟨_, H1, r1, a1, S1, b, C, dx, kvs, X, rfl, h1, h2, ok, hv, p⟩ := p
    have : v = .ref b := r1
    subst this
    refine wpAny_mono (get_wp (Q := fun Y H' => Y = X ∧ H' = H1) a1 h1 h2 ok hi hv ⟨rfl, rfl⟩) (fun old s2 q => ?_) fun _ _ e => e
    obtain ⟨_, _, r2, a2, S2, rfl, rfl⟩ := q
    refine wpAny_mono (p s2 a2) (fun w s3 p => ?_) fun _ _ e => e
    obtain ⟨Y, H3, r3, a3, S3, p⟩ := p
    refine wpAny_mono (p L loc s3 old w a3 (a2.rel S3 r2) r3) (fun new s4 p => ?_) fun _ _ e => e
    obtain ⟨Z, H4, r4, a4, S4, kvs', g1, g2, hl, p⟩ := p
    refine wpAny_mono (set_wp (R := fun H' => Q .next loc H') a4 g1 g2 ok hi r4 hl p) (fun _ s5 q => ?_) fun _ _ e => e
    obtain ⟨H5, a5, S5, q⟩ := q
    exact ⟨.next, loc, H5, rfl, a5, (((S1.trans S2).trans S3).trans S4).trans S5, q⟩) fun _ _ e => e)
structure CStep (H : AH) (s : Shared) (H' : AH) (s' : Shared) : Prop where
  keep : ∀ a o, s.heap.get? a = some o → H a = none → s'.heap.get? a = some o
  dom : ∀ a, H' a ≠ none → H a ≠ none ∨ s.heap.get? a = none
  rest : ∃ h t, s' = { s with heap := h, toks := t }
noncomputable def HOk (c : Cx) (H : AH) (s : Shared) : Prop := ∀ a o, H a = some o → c.h₀.objs.size ≤ a ∧ RelO c s.heap a o
inductive CPost (c : Cx) (H : AH) (s : Shared) (Q : V → AH → Prop) (v : Value) (s' : Shared) : Prop
  | mk (x : V) (H' : AH) (r : Rel s'.heap v x) (ho : HOk c H' s') (st : CStep H s H' s') (q : Q x H')
noncomputable def FnSpec (c : Cx) (n : Nat) (f : Addr) (xs : List V) (Q : V → AH → Prop) (H : AH) : Prop :=
  ∀ A s vs, AOk n A → (∀ b o, c.h₀.get? b = some o → s.heap.get? b = some o) → c.h₀.objs.size ≤ s.heap.objs.size → HOk c H s → RelL s.heap vs xs →
    codeAny c.M A (.call (.ref f) ⟨vs, []⟩) (fun r s' => ∃ v, r = .ok (.ret v) ∧ CPost c H s Q v s') s
theorem CPost.here {Q : V → AH → Prop} {s s' : Shared} {v : Value} (a : Abs c L loc H s) (h : CPost c H s Q v s') : EPost c L loc H s Q v s' := by
  obtain ⟨x, H', r, ho, S, q⟩ := h
  have hLn : H L = none := by
    cases e : H L with
    | none => rfl
    | some o => exact absurd rfl (a.obj _ _ e).2.1
  have hL' : H' L = none := by
    cases e : H' L with
    | none => rfl
    | some o =>
      rcases S.dom L (by rw [e]; exact Option.some_ne_none _) with h | h
      · exact absurd hLn h
      · obtain ⟨m, ⟨o, es, ep, g, _⟩, _⟩ := a.ns
        rw [g] at h; cases h
  have St : Step L H s H' s' := ⟨fun b o e _ hb => S.keep b o e hb, fun b e => (S.dom b e).imp_right .inl, S.rest⟩
  refine ⟨x, H', r, ⟨fun b o e => S.keep b o (a.base b o e) ?_, a.lo, ?_, fun b o e => ⟨(ho b o e).1, ?_, (ho b o e).2⟩⟩, St, q⟩
  · cases e2 : H b with
    | none => rfl
    | some o' => exact absurd (Nat.lt_of_lt_of_le (Heap.lt_size e) (a.obj _ _ e2).1) (Nat.lt_irrefl _)
  · obtain ⟨m, ⟨o, es, ep, g, r⟩, k⟩ := a.ns
    exact ⟨m, ⟨o, es, ep, S.keep _ _ g hLn, r⟩, fun x i v e e' => by obtain ⟨y, y1, y2⟩ := k x i v e e'; exact ⟨y, y1, a.rel St y2⟩⟩
  · rintro rfl; rw [hL'] at e; cases e
theorem Abs.hok {s : Shared} (a : Abs c L loc H s) : HOk c H s := fun b o e => ⟨(a.obj b o e).1, (a.obj b o e).2.2⟩
theorem FnSpec.here {n : Nat} {f : Addr} {xs : List V} {Q : V → AH → Prop} {s : Shared} {vs : List Value} (F : FnSpec c n f xs Q H) (hA : AOk n A) (a : Abs c L loc H s) (r : RelL s.heap vs xs) : wpAny c.M A (call (.ref f) vs) (EPost c L loc H s Q) NoE s := by
  refine wpAny_call (codeAny_mono (F A s vs hA a.base (Nat.le_trans a.lo (Nat.le_of_lt a.L_lt)) a.hok r) fun r s' p => ?_)
  obtain ⟨v, rfl, p⟩ := p
  exact p.here a
theorem E_call {Q : V → AH → Prop} {x : Str} {i : Nat} {p pos : Pos} {e : Expr} {rest : List Expr} {f : Addr} {n : Nat} (hA : AOk n A) (K : EnvOk env L ks) (hi : nid x = some i) (hk : ks.lookup i = some .globalImplicit)
    (hg : nsIn c.K mainGlobals x = some (some (.ref f))) (hf : keepIn c.K (.ref f) = true)
    (h : WL c A L loc (spliced (backTo pos (starEach (e :: rest) env))) (fun xs H1 => FnSpec c n f xs Q H1) H)
    (he : starEach (e :: rest) env = (false, eval e env) :: starEach rest env) (hp : (backTo pos (starEach rest env)).any (·.1) = false) (hd : (i == 6899408724578349023) = false) :
    WE c A L loc (eval (.Call (.Name x p) (e :: rest) [] pos) env) Q H := fun s a =>
  Call_ (Calls.Name_function_global K.fn (by show env.scope.names.lookup x = _; rw [K.ks x i hi]; exact hk)
    (Calls.loadGlobal_global (K.glob.symm ▸ c.G.keeps a.base) (mg_K c hg)
      (callWith_K c.X hf (wpAny_mono (h s a) (fun vs s1 p => by
        obtain ⟨xs, H1, r, a1, S1, p⟩ := p
        exact ⟨c.X.keeps a1.base, wpAny_mono (p.here hA a1 r) (fun _ _ z => z.trans S1) fun _ _ e => e⟩) fun _ _ e => e) he hp)) (not_debug hi hd)) rfl
theorem E_call0 {Q : V → AH → Prop} {x : Str} {i : Nat} {p pos : Pos} {f : Addr} {n : Nat} (hA : AOk n A) (K : EnvOk env L ks) (hi : nid x = some i) (hk : ks.lookup i = some .globalImplicit)
    (hg : nsIn c.K mainGlobals x = some (some (.ref f))) (hf : keepIn c.K (.ref f) = true) (h : FnSpec c n f [] Q H) (hd : (i == 6899408724578349023) = false) :
    WE c A L loc (eval (.Call (.Name x p) [] [] pos) env) Q H := fun s a =>
  Call_ (Calls.Name_function_global K.fn (by show env.scope.names.lookup x = _; rw [K.ks x i hi]; exact hk)
    (Calls.loadGlobal_global (K.glob.symm ▸ c.G.keeps a.base) (mg_K c hg)
      (callWith_K0 (c.X.keeps a.base) hf (h.here (vs := []) hA a rfl))) (not_debug hi hd)) rfl
theorem E_meth {Q : V → AH → Prop} {o : Expr} {name : Str} {i : Nat} {ap pos : Pos} {e : Expr} {rest : List Expr} {pl : Sem Bool} {n : Nat} (hA : AOk n A) (hi : nid name = some i)
    (h : WE c A L loc (eval o env) (fun v H1 => PMeth c name i v H1 fun b f =>
      WL c A L loc (spliced (backTo pos (starEach (e :: rest) env))) (fun xs H2 => FnSpec c n f (.ref b :: xs) Q H2) H1) H)
    (hm : eval (.Call (.Attribute o name ap) (e :: rest) [] pos) env = (do
      let ov ← eval o env
      standAt ap.atName
      let (f, first) ← holding [ov] (getMethod ov name pl)
      callWith pos f first (backTo pos (starEach (e :: rest) env)) []))
    (he : starEach (e :: rest) env = (false, eval e env) :: starEach rest env) (hp : (backTo pos (starEach rest env)).any (·.1) = false) :
    WE c A L loc (eval (.Call (.Attribute o name ap) (e :: rest) [] pos) env) Q H := fun s a =>
  MethodCall_ (wpAny_mono (h s a) (fun v s1 p => by
    obtain ⟨_, H1, r, a1, S1, b, C, dx, kvs, f, rfl, h1, h2, hv, ok, p⟩ := p
    have : v = .ref b := r
    subst this
    obtain ⟨es, n', I, g, r'⟩ := a1.inst h1 h2
    obtain ⟨m, F⟩ := a1.fr
    refine method_inst F c.X I ok.get ok.find ok.fn ((getL_rel hi r').2 hv) ?_
    refine callWith_K c.X ok.keep (wpAny_mono (p s1 a1) (fun vs s2 q => ?_) fun _ _ e => e) he hp
    obtain ⟨xs, H2, r2, a2, S2, q⟩ := q
    exact ⟨c.X.keeps a2.base, wpAny_mono (q.here (vs := .ref b :: vs) hA a2 ⟨_, vs, rfl, rR _ _, r2⟩) (fun _ _ z => z.trans (S1.trans S2)) fun _ _ e => e⟩) fun _ _ e => e) hm
theorem E_meth0 {Q : V → AH → Prop} {o : Expr} {name : Str} {i : Nat} {ap pos : Pos} {pl : Sem Bool} {n : Nat} (hA : AOk n A) (hi : nid name = some i)
    (h : WE c A L loc (eval o env) (fun v H1 => PMeth c name i v H1 fun b f => FnSpec c n f [.ref b] Q H1) H)
    (hm : eval (.Call (.Attribute o name ap) [] [] pos) env = (do
      let ov ← eval o env
      standAt ap.atName
      let (f, first) ← holding [ov] (getMethod ov name pl)
      callWith pos f first (backTo pos (starEach [] env)) [])) :
    WE c A L loc (eval (.Call (.Attribute o name ap) [] [] pos) env) Q H := fun s a =>
  MethodCall_ (wpAny_mono (h s a) (fun v s1 p => by
    obtain ⟨_, H1, r, a1, S1, b, C, dx, kvs, f, rfl, h1, h2, hv, ok, p⟩ := p
    have : v = .ref b := r
    subst this
    obtain ⟨es, n', I, g, r'⟩ := a1.inst h1 h2
    obtain ⟨m, F⟩ := a1.fr
    refine method_inst F c.X I ok.get ok.find ok.fn ((getL_rel hi r').2 hv) ?_
    exact callWith_K0 (c.X.keeps a1.base) ok.keep (wpAny_mono (p.here (vs := [.ref b]) hA a1 ⟨_, [], rfl, rR _ _, rfl⟩) (fun _ _ z => z.trans S1) fun _ _ e => e)) fun _ _ e => e) hm
theorem zip_lookup {h : Heap} {x : Str} {i : Nat} {v : V} (hx : nid x = some i) : ∀ {ps : List Str} {is : List Nat} {vs : List Value} {xs : List V}, ps.map nid = is.map some → is.Nodup → RelL h vs xs → (is.zip xs).lookup i = some v →
    ∃ y, (ps.zip vs).reverse.lookup x = some y ∧ Rel h y v
  | [], [], _, _, _, _, _, e => by simp at e
  | [], _ :: _, _, _, q, _, _, _ => by simp at q
  | _ :: _, [], _, _, q, _, _, _ => by simp at q
  | p :: ps, j :: is, vs, [], q, _, r, e => by simp at e
  | p :: ps, j :: is, vs, w :: xs, q, hn, r, e => by
    obtain ⟨u, vs', rfl, ru, r'⟩ := r
    simp only [List.map_cons, List.cons.injEq] at q
    rw [List.nodup_cons] at hn
    simp only [List.zip_cons_cons, List.lookup_cons] at e
    simp only [List.zip_cons_cons, List.reverse_cons, List.lookup_append]
    by_cases hij : i = j
    · subst hij
      rw [beq_self_eq_true] at e
      cases e
      have hp : x = p := nid_inj hx q.1
      subst hp
      have : (ps.zip vs').reverse.lookup x = none := by
        rw [List.lookup_eq_none_iff]
        intro y hy
        have hy1 : y.1 ∈ ps := (List.of_mem_zip (a := y.1) (b := y.2) (by simpa using hy)).1
        have : nid y.1 ∈ is.map some := q.2 ▸ List.mem_map_of_mem (f := nid) hy1
        obtain ⟨k, hk, e⟩ := List.mem_map.mp this
        refine bne_iff_ne.mpr fun z => ?_
        rw [← z, hx] at e
        cases e
        exact hn.1 hk
      rw [this]
      exact ⟨u, by simp, ru⟩
    · have h2 : (i == j) = false := by simpa using hij
      rw [h2] at e
      obtain ⟨y, y1, y2⟩ := zip_lookup hx q.2 hn.2 r' e
      exact ⟨y, by rw [y1]; rfl, y2⟩
theorem fn_intro {n : Nat} {f : Addr} {oc : Value} {od : Option Addr} {osl : Array (Option Value)} {name qual : Str} {params : Arguments} {body : List Stmt} {scope : Scope} {dV kV doc pm cdv ct : Value} {an : Option Addr} {xs : List V} {Q : V → AH → Prop}
    (ho : c.K.lookup f = some ⟨oc, od, .func (fnX name qual params body scope [] dV kV doc pm an cdv ct), osl⟩) (hcd : codeIn c.K cdv qual = true) (K : KOk scope ks) (ps : List Str) (is : List Nat)
    (hb : ∀ vs : List Value, vs.length = ps.length → bindArgs (fnX name qual params body scope [] dV kV doc pm an cdv ct) ⟨vs, []⟩ = pure (ps.zip vs))
    (hps : ps.map nid = is.map some) (hnd : is.Nodup) (hloc : is.all (fun i => ks.lookup i == some .local) = true) (hcell : ∀ x ∈ scope.names, x.2 ≠ .cell) (hco : scope.isCoroutine = false) (hgen : scope.isGenerator = false) (hx : xs.length = ps.length)
    (h : ∀ A L env, AOk n A → EnvOk env L ks → env.cells = [] → WS c A L (execs body env) (fun fl _ H' => match fl with | .ret v => Q v H' | .next => Q .none H' | .brk => Q .none H' | .cont => Q .none H') (is.zip xs) H) : FnSpec c (n + 1) f xs Q H := by
  intro A s vs hA hbase hsz hH hr
  have hlen : vs.length = ps.length := hr.length.trans hx
  refine codeAny_call_def (fd := fnX name qual params body scope [] dV kV doc pm an cdv ct) (body := body) (binds := ps.zip vs) hA.room (hbase _ _ (c.X _ _ ho)) rfl (c.NL.keeps hbase) (codeRec_of (c.X.keeps hbase) hcd) rfl (BindsTo.of_eq (hb vs hlen)) hcell ?_ (fun h₁ hns hk => ?_) hco hgen K.1
  · intro p hp
    have hp1 : p.1 ∈ ps := (List.of_mem_zip (a := p.1) (b := p.2) hp).1
    have : nid p.1 ∈ is.map some := hps ▸ List.mem_map_of_mem (f := nid) hp1
    obtain ⟨k, hk, e⟩ := List.mem_map.mp this
    show scope.names.lookup p.1 = _
    rw [K.2 p.1 k e.symm]
    exact beq_iff_eq.mp (List.all_eq_true.mp hloc k hk)
  · have tu : ∀ b items, IsTup s.heap b items → IsTup h₁ b items := fun b items t => t.keeps hk
    have hnone : s.heap.get? s.heap.objs.size = none := get?_size _
    have a1 : Abs c s.heap.objs.size (is.zip xs) H { s with heap := h₁, toks := s.toks + (ps.zip vs).length } := by
      refine ⟨fun b o e => hk b o (hbase b o e), ?_, ⟨_, hns, fun x i v e e' => ?_⟩, fun b o e => ⟨(hH b o e).1, ?_, RelO.mono tu (fun y e => hk _ _ e) _ (hH b o e).2⟩⟩
      · exact hsz
      · obtain ⟨y, y1, y2⟩ := zip_lookup e hps hnd hr e'
        exact ⟨y, y1, Rel.mono tu _ _ y2⟩
      · rintro rfl
        obtain ⟨x, hx, _⟩ := (hH _ _ e).2.live
        rw [hnone] at hx; cases hx
    refine wpAny_mono (h (A.deeper (envX qual scope s.heap.objs.size f cdv [])) _ _ (hA.deeper _) (K.env qual s.heap.objs.size f cdv []) rfl _ a1) (fun fl s' p => ?_) fun _ _ e => e.elim
    obtain ⟨x, l, H', r, a2, S2, q⟩ := p
    have fin : ∀ v X, Rel s'.heap v X → Q X H' → CPost c H s Q v s' := fun v X rv q => by
      refine ⟨X, H', rv, a2.hok, ⟨fun b o e hb => S2.keep b o (hk b o e) ?_ hb, fun b e => ?_, ?_⟩, q⟩
      · rintro rfl; rw [hnone] at e; cases e
      · rcases S2.dom b e with h | h | h
        · exact .inl h
        · right
          cases e2 : s.heap.get? b with
          | none => rfl
          | some o => have := hk b o e2; rw [show h₁.get? b = none from h] at this; cases this
        · subst h; exact .inr hnone
      · obtain ⟨g, t, e⟩ := S2.rest; exact ⟨g, t, by rw [e]⟩
    cases x with
    | next => have : fl = .next := r; subst this; exact ⟨_, rfl, fin _ _ (rN _) q⟩
    | brk => have : fl = .brk := r; subst this; exact ⟨_, rfl, fin _ _ (rN _) q⟩
    | cont => have : fl = .cont := r; subst this; exact ⟨_, rfl, fin _ _ (rN _) q⟩
    | ret v => obtain ⟨y, rfl, ry⟩ := r; exact ⟨_, rfl, fin _ _ ry q⟩
end
end Mine
namespace Mine
noncomputable def CallR (c : Cx) (A : Around) (f : Value) (xs : List V) (Q : V → AH → Prop) (H : AH) : Prop :=
  ∀ L loc s vs, Abs c L loc H s → RelL s.heap vs xs → wpAny c.M A (call f vs) (EPost c L loc H s Q) NoE s
section
variable {c : Cx} {A : Around} {L : Addr} {loc : Loc} {H : AH} {env : Env} {ks : List (Nat × NameKind)} {Q : V → AH → Prop}
theorem mg_none (c : Cx) {x : Str} (e : nsIn c.K mainGlobals x = some none) : c.mg x = none := mg_none_of c.X c.G e
theorem name_B_wp {R : Value → Shared → Prop} {s : Shared} {x : Str} {i : Nat} {pos : Pos} {fv : Value} (a : Abs c L loc H s) (K : EnvOk env L ks) (hi : nid x = some i) (hk : ks.lookup i = some .globalImplicit) (hg : nsIn c.K mainGlobals x = some none) (hb : bootBuiltins x = some fv) (hn : x ≠ "__name__") (hd : (i == 6899408724578349023) = false)
    (h : R fv s) : wpAny c.M A (eval (.Name x pos) env) R NoE s :=
  Calls.Name_function_global K.fn (by show env.scope.names.lookup x = _; rw [K.ks x i hi]; exact hk)
    (Calls.loadGlobal_builtin (K.glob.symm ▸ c.G.keeps a.base) (mg_none c hg) (K.blt.symm ▸ c.B.keeps a.base) ((c.BB x hn).trans hb) h) (not_debug hi hd)
theorem E_ty {x : Str} {i : Nat} {pos : Pos} {n : String} (K : EnvOk env L ks) (hi : nid x = some i) (hk : ks.lookup i = some .globalImplicit) (hg : nsIn c.K mainGlobals x = some none) (hb : bootBuiltins x = some (.type n)) (hn : x ≠ "__name__") (hd : (i == 6899408724578349023) = false)
    (h : Q (.ty n) H) : WE c A L loc (eval (.Name x pos) env) Q H := fun s a => name_B_wp a K hi hk hg hb hn hd ⟨.ty n, H, rfl, a, Step.refl .., h⟩
theorem machine_of {fv : Value} (hf : ∀ a, fv ≠ .ref a) (M : Model) (h : Heap) : ∃ k, (k = Keeper.frame ∨ k = Keeper.machine ∨ k = Keeper.boundFrame) ∧ Looks M h (keeperOf fv) k := by
  refine ⟨.machine, .inr (.inl rfl), Looks.of_pure ?_⟩
  cases fv with
  | ref a => exact absurd rfl (hf a)
  | _ => rfl
theorem E_callb {x : Str} {i : Nat} {p pos : Pos} {e : Expr} {rest : List Expr} {fv : Value} (K : EnvOk env L ks) (hi : nid x = some i) (hk : ks.lookup i = some .globalImplicit) (hg : nsIn c.K mainGlobals x = some none) (hb : bootBuiltins x = some fv) (hn : x ≠ "__name__") (hd : (i == 6899408724578349023) = false) (hf : ∀ a, fv ≠ .ref a)
    (h : WL c A L loc (spliced (backTo pos (starEach (e :: rest) env))) (fun xs H1 => CallR c A fv xs Q H1) H)
    (he : starEach (e :: rest) env = (false, eval e env) :: starEach rest env) (hp : (backTo pos (starEach rest env)).any (·.1) = false) :
    WE c A L loc (eval (.Call (.Name x p) (e :: rest) [] pos) env) Q H := fun s a =>
  Call_ (name_B_wp a K hi hk hg hb hn hd (by
    have h' := h s a
    rw [he] at h' ⊢
    refine callWith_of (P := fun _ => True) (by show ((false || (backTo pos (starEach rest _)).any (·.1)) || false) = false; rw [hp]; rfl) (fun h _ => machine_of hf _ h) (Calls.evalArgs_plain (wpAny_mono h' (fun vs s1 q => ?_) fun _ _ e => e))
    obtain ⟨xs, H1, r, a1, S1, q⟩ := q
    exact ⟨trivial, wpAny_mono (q L loc s1 vs a1 r) (fun _ _ z => z.trans S1) fun _ _ e => e⟩)) rfl
theorem b_len_list {d : Addr} {l : List V} (hd : H d = some (.list l)) (hl : l.length < 100000) (h : Q (.int l.length) H) : CallR c A (.builtin "len") [.ref d] Q H := fun L loc s vs a r => by
  obtain ⟨v, vs', rfl, r1, r2⟩ := r
  have e1 : v = .ref d := r1
  have e2 : vs' = [] := r2
  subst e1 e2
  obtain ⟨ws, n, g, q⟩ := a.list hd
  have hL : s.heap.IsList d ws.toArray := ⟨_, g, rfl, n, rfl⟩
  refine Calls.call_len_list hL (by simp only [List.size_toArray]; rw [q.length]; omega) ⟨_, H, ?_, a.toks _, Step.toks .., h⟩
  exact ⟨_, by simp only [List.size_toArray]; rw [q.length]⟩
theorem b_len_tup {l : List V} (hl : l.length < 100000) (h : Q (.int l.length) H) : CallR c A (.builtin "len") [.tup l] Q H := fun L loc s vs a r => by
  obtain ⟨v, vs', rfl, r1, r2⟩ := r
  have e2 : vs' = [] := r2
  subst e2
  obtain ⟨d, ws, rfl, ht, q⟩ := r1
  refine PyProof.Rows.len_tuple ht (by simp only [List.size_toArray]; rw [q.length]; omega) ⟨_, H, ?_, a.toks _, Step.toks .., h⟩
  exact ⟨_, by simp only [List.size_toArray]; rw [q.length]⟩
theorem b_len_str {x : String} (hl : x.toList.length < 100000) (h : Q (.int x.toList.length) H) : CallR c A (.builtin "len") [.str x] Q H := fun L loc s vs a r => by
  obtain ⟨v, vs', rfl, ⟨t, r1⟩, r2⟩ := r
  have e2 : vs' = [] := r2
  subst r1 e2
  have hlen : (Str.ofString x).length = x.toList.length := by rw [Str.ofString_eq_toList]; simp [PySem.Str.length]
  refine P.len_str (by rw [hlen]; omega) ⟨_, H, ?_, a.toks _, Step.toks .., h⟩
  exact ⟨_, by rw [hlen]⟩
theorem b_isi_tup {l : List V} (h : Q (.bool true) H) : CallR c A (.builtin "isinstance") [.tup l, .ty "tuple"] Q H := fun L loc s vs a r => by
  obtain ⟨v, vs', rfl, r1, u, vs'', rfl, r2, r3⟩ := r
  have e2 : u = .type "tuple" := r2
  have e3 : vs'' = [] := r3
  subst e2 e3
  obtain ⟨d, ws, rfl, ht, q⟩ := r1
  exact call_isinstance_yes ht.typeIs PySem.F.isi_meta_tuple PySem.F.isi_sub_tuple ⟨_, H, rB _ _, a, Step.refl .., h⟩
theorem b_isi_int {i : Int} (h : Q (.bool false) H) : CallR c A (.builtin "isinstance") [.int i, .ty "tuple"] Q H := fun L loc s vs a r => by
  obtain ⟨v, vs', rfl, ⟨t, r1⟩, u, vs'', rfl, r2, r3⟩ := r
  have e2 : u = .type "tuple" := r2
  have e3 : vs'' = [] := r3
  subst r1 e2 e3
  exact IsiPair.int_tuple ⟨_, H, rB _ _, a.toks _, Step.toks .., h⟩
theorem b_isi_str {i : String} (h : Q (.bool false) H) : CallR c A (.builtin "isinstance") [.str i, .ty "tuple"] Q H := fun L loc s vs a r => by
  obtain ⟨v, vs', rfl, ⟨t, r1⟩, u, vs'', rfl, r2, r3⟩ := r
  have e2 : u = .type "tuple" := r2
  have e3 : vs'' = [] := r3
  subst r1 e2 e3
  exact IsiPair.str_tuple ⟨_, H, rB _ _, a.toks _, Step.toks .., h⟩
theorem b_tuple {d : Addr} {l : List V} (hd : H d = some (.list l)) (hl : l.length < 100000) (h : Q (.tup l) H) : CallR c A (.type "tuple") [.ref d] Q H := fun L loc s vs a r => by
  obtain ⟨v, vs', rfl, r1, r2⟩ := r
  have e1 : v = .ref d := r1
  have e2 : vs' = [] := r2
  subst e1 e2
  obtain ⟨ws, n, g, q⟩ := a.list hd
  have hL : s.heap.IsList d ws.toArray := ⟨_, g, rfl, n, rfl⟩
  refine call_tuple_list hL (fun h' k => ?_) (by simp only [List.size_toArray]; rw [q.length, sizeLine_eq]; omega)
  have kk : ∀ b o, s.heap.get? b = some o → (h'.push { cls := .type "tuple", data := .seq ws.toArray }).get? b = some o := fun b o e => Heap.get?_push_of_some _ (k b o e)
  refine ⟨.tup l, H, ⟨_, ws, rfl, ⟨_, Heap.get?_push_size _ rfl, rfl, 0, rfl⟩, RelL.mono (fun b it t => t.keeps kk) _ _ q⟩, a.keeps s.toks kk, Step.keeps s.toks kk, h⟩
theorem b_list {l : List V} (hl : l.length < 100000) (h : ∀ d, H d = none → Q (.ref d) (H.set d (.list l))) : CallR c A (.type "list") [.tup l] Q H := fun L loc s vs a r => by
  obtain ⟨v, vs', rfl, r1, r2⟩ := r
  have e2 : vs' = [] := r2
  subst e2
  obtain ⟨d, ws, rfl, ⟨o, ho, hc, n, hd⟩, q⟩ := r1
  refine call_list_seq d (.inr rfl) ho hc hd (fun h' c' k g => ?_) (by simp only [List.size_toArray]; rw [q.length, sizeLine_eq]; omega)
  exact ⟨.ref s.heap.objs.size, _, rR _ _, a.made s.toks k (get?_size _) (Nat.le_refl _) (RelO.list_mk (vs := ws) g (RelL.mono (fun b it t => t.keeps k) _ _ q)), Step.made s.toks k (get?_size _) _, h _ a.fresh⟩
theorem b_range1 {n : Int} (h : ∀ d, H d = none → Q (.ref d) (H.set d (.rng 0 n))) : CallR c A (.type "range") [.int n] Q H := fun L loc s vs a r => by
  obtain ⟨v, vs', rfl, ⟨t, r1⟩, r2⟩ := r
  have e2 : vs' = [] := r2
  subst r1 e2
  obtain ⟨m, F⟩ := a.fr
  exact range1_rows (news := []) F News.nil fun h' tk t1 u1 v1 hr F' N' k => ⟨.ref s.heap.objs.size, _, rR _ _, a.made tk k (get?_size _) (Nat.le_refl _) (x := .rng 0 n) ⟨_, _, _, hr⟩, Step.made tk k (get?_size _) _, h _ a.fresh⟩
theorem b_range2 {b n : Int} (h : ∀ d, H d = none → Q (.ref d) (H.set d (.rng b n))) : CallR c A (.type "range") [.int b, .int n] Q H := fun L loc s vs a r => by
  obtain ⟨v, vs', rfl, ⟨t, r1⟩, u, vs'', rfl, ⟨t2, r2⟩, r3⟩ := r
  have e2 : vs'' = [] := r3
  subst r1 r2 e2
  obtain ⟨m, F⟩ := a.fr
  exact range2_rows (news := []) F News.nil fun h' tk t1 u1 v1 hr F' N' k => ⟨.ref s.heap.objs.size, _, rR _ _, a.made tk k (get?_size _) (Nat.le_refl _) (x := .rng b n) ⟨_, _, _, hr⟩, Step.made tk k (get?_size _) _, h _ a.fresh⟩
theorem E_append {o e : Expr} {ap pos : Pos} {pl : Sem Bool}
    (h : WE c A L loc (eval o env) (fun v H1 => PRef v (fun d => ∃ l, H1 d = some (.list l)) fun d => WE c A L loc (eval e env) (fun x H2 => PList H2 d 100000 fun l => Q .none (H2.set d (.list (l ++ [x])))) H1) H)
    (hm : eval (.Call (.Attribute o (Str.ofString "append") ap) [e] [] pos) env = (do
      let ov ← eval o env
      standAt ap.atName
      let (f, first) ← holding [ov] (getMethod ov (Str.ofString "append") pl)
      callWith pos f first (backTo pos (starEach [e] env)) []))
    (he : starEach [e] env = [(false, eval e env)]) : WE c A L loc (eval (.Call (.Attribute o (Str.ofString "append") ap) [e] [] pos) env) Q H := fun s a =>
  MethodCall_ (wpAny_mono (h s a) (fun v s1 p => by
    obtain ⟨_, H1, r, a1, S1, d, rfl, ⟨l0, h0⟩, p⟩ := p
    have : v = .ref d := r
    subst this
    obtain ⟨ws0, n0, g0, q0⟩ := a1.list h0
    refine getMethod_builtin ⟨_, g0, rfl⟩ PySem.F.plainAttrs_list PySem.F.slot_list_append PySem.F.type_list_append (fun b e => by cases e; exact ⟨_, g0, rfl⟩) ?_
    rw [he]
    refine callWith_of (P := fun _ => True) rfl (fun h _ => machine_of (by intro a e; cases e) _ h) (Calls.evalArgs_plain (Calls.spliced_cons (wpAny_mono (p s1 a1) (fun w s2 q => Calls.spliced_nil ⟨trivial, ?_⟩) fun _ _ e => e)))
    obtain ⟨x, H2, r2, a2, S2, l, h2, hl, q⟩ := q
    obtain ⟨ws, n, g, rl⟩ := a2.list h2
    refine append_at g (fun h' hs ho' => ?_) (by simp only [List.size_toArray]; rw [rl.length, sizeLine_eq]; omega)
    have tu := a2.tups_upd h2 hs
    refine ⟨.none, _, rN _, a2.upd (o' := .list (l ++ [x])) h2 hs (RelO.list_mk (vs := ws ++ [w]) (n := n + 1) (by rw [ho']; simp) ((RelL.mono tu _ _ rl).snoc (Rel.mono tu _ _ r2))), (S1.trans S2).trans (Step.upd h2 hs), q⟩) fun _ _ e => e) hm
theorem E_extend {o e : Expr} {ap pos : Pos} {pl : Sem Bool}
    (h : WE c A L loc (eval o env) (fun v H1 => PRef v (fun d => ∃ l, H1 d = some (.list l)) fun d => WE c A L loc (eval e env) (fun x H2 => ∃ l d' l', H2 d = some (.list l) ∧ l.length < 10000 ∧ x = .ref d' ∧ H2 d' = some (.list l') ∧ l'.length < 10000 ∧ Q .none (H2.set d (.list (l ++ l')))) H1) H)
    (hm : eval (.Call (.Attribute o (Str.ofString "extend") ap) [e] [] pos) env = (do
      let ov ← eval o env
      standAt ap.atName
      let (f, first) ← holding [ov] (getMethod ov (Str.ofString "extend") pl)
      callWith pos f first (backTo pos (starEach [e] env)) []))
    (he : starEach [e] env = [(false, eval e env)]) : WE c A L loc (eval (.Call (.Attribute o (Str.ofString "extend") ap) [e] [] pos) env) Q H := fun s a =>
  MethodCall_ (wpAny_mono (h s a) (fun v s1 p => by
    obtain ⟨_, H1, r, a1, S1, d, rfl, ⟨l0, h0⟩, p⟩ := p
    have : v = .ref d := r
    subst this
    obtain ⟨ws0, n0, g0, q0⟩ := a1.list h0
    refine getMethod_builtin ⟨_, g0, rfl⟩ PySem.F.plainAttrs_list PySem.F.slot_list_extend PySem.F.type_list_extend (fun b e => by cases e; exact ⟨_, g0, rfl⟩) ?_
    rw [he]
    refine seqMethod1_meets PySem.F.slot_list_extend PySem.F.entry_list_extend (wpAny_mono (p s1 a1) (fun w s2 q => ?_) fun _ _ e => e)
    obtain ⟨x, H2, r2, a2, S2, l, d', l', h2, hl, rfl, h2', hl', q⟩ := q
    have : w = .ref d' := r2
    subst this
    obtain ⟨ws, n, g, rl⟩ := a2.list h2
    obtain ⟨ws', n', g', rl'⟩ := a2.list h2'
    have e1 := rl.length
    have e2 := rl'.length
    refine ⟨⟨_, g, rfl⟩, PySem.F.args_list_extend_2 _ _, _, AutoSeq1.list_extend_list_list_0 d ws.toArray n d' ws'.toArray n' ?_ (by simp only [List.size_toArray]; rw [sizeLine_eq]; omega) (by simp only [List.size_toArray]; rw [sizeLine_eq]; omega), g, g', ?_⟩
    · simp only [List.size_toArray, Builtin.List.listTooLong]
      simp
      intro _
      rw [sizeLine_eq]
      omega
    · have hs := Heap.SameBut.update s2.heap d (Obj.mapSeq fun x => x ++ ws'.toArray)
      have tu := a2.tups_upd h2 hs
      have hb : ∃ k, ((W.listOf ws.toArray n).mapSeq fun x => x ++ ws'.toArray) = W.listOf (ws ++ ws').toArray k := ⟨_, by simp only [Obj.mapSeq, List.append_toArray]; rfl⟩
      obtain ⟨k, hb⟩ := hb
      refine ⟨.none, _, rN _, a2.upd (o' := .list (l ++ l')) h2 hs (RelO.list_mk (vs := ws ++ ws') (n := k) ?_ ((RelL.mono tu _ _ rl).append (RelL.mono tu _ _ rl'))), (S1.trans S2).trans (Step.upd h2 hs), q⟩
      rw [Heap.get?_update_self _ g (by rw [hb]; rfl), hb]) fun _ _ e => e) hm
theorem E_get2 {o e e' : Expr} {ap pos : Pos} {pl : Sem Bool}
    (h : WE c A L loc (eval o env) (fun v H1 => PRef v (fun d => ∃ ep l, H1 d = some (.dI ep l)) fun d => WE c A L loc (eval e env) (fun x H2 => WE c A L loc (eval e' env) (fun y H3 => PKey H3 d x fun k l => Q ((dget l k).getD y) H3) H2) H1) H)
    (hm : eval (.Call (.Attribute o (Str.ofString "get") ap) [e, e'] [] pos) env = (do
      let ov ← eval o env
      standAt ap.atName
      let (f, first) ← holding [ov] (getMethod ov (Str.ofString "get") pl)
      callWith pos f first (backTo pos (starEach [e, e'] env)) []))
    (he : starEach [e, e'] env = [(false, eval e env), (false, eval e' env)]) : WE c A L loc (eval (.Call (.Attribute o (Str.ofString "get") ap) [e, e'] [] pos) env) Q H := fun s a =>
  MethodCall_ (wpAny_mono (h s a) (fun v s1 p => by
    obtain ⟨_, H1, r, a1, S1, d, rfl, ⟨ep0, l0, h0⟩, p⟩ := p
    have : v = .ref d := r
    subst this
    obtain ⟨kv0, g0, _⟩ := (a1.obj _ _ h0).2.2
    refine getMethod_builtin g0.dictOf.typeIs PySem.F.plainAttrs_dict PySem.F.slot_dict_get PySem.F.type_dict_get g0.dictOf.mapOf.noDict ?_
    rw [he]
    refine wpAny_dict_get2 (knd := PySem.intKind c.prog c.w) (a1.sm h0) (wpAny_mono (p s1 a1) (fun w s2 p => ?_) fun _ _ e => e)
    obtain ⟨x, H2, r2, a2, S2, p⟩ := p
    refine wpAny_mono (p s2 a2) (fun u s3 p => ?_) fun _ _ e => e
    obtain ⟨y, H3, r3, a3, S3, k, ep, l, rfl, h3, q⟩ := p
    obtain ⟨t, e2⟩ := r2
    subst e2
    obtain ⟨kv, g, q1, q2⟩ := (a3.obj _ _ h3).2.2
    have z := dget_rel (k := k) q1 q2
    refine ⟨k, _, int_is k t c, g.dictOf.mapOf, (dget l k).getD y, H3, ?_, a3.toks _, ((S1.trans S2).trans S3).trans (Step.toks ..), q⟩
    cases e4 : dget l k with
    | none => rw [z.2 e4]; exact r3
    | some X => obtain ⟨Y, hY, rY⟩ := z.1 X e4; rw [hY]; exact rY) fun _ _ e => e) hm
noncomputable def IterOk (xs : List V) (I : Nat → Loc → AH → Prop) (v : V) (H1 : AH) : Prop :=
  v = .tup xs ∨ (∃ d, v = .ref d ∧ ∀ j loc H, I j loc H → H d = some (.list xs)) ∨
  (∃ d a b, v = .ref d ∧ H1 d = some (.rng a b) ∧ -1000 ≤ a ∧ a ≤ 1000 ∧ -1000 ≤ b ∧ b ≤ 1000 ∧ xs = (List.range (b - a).toNat).map fun j => V.int (a + (j : Nat))) ∨
  (∃ d ep kvs, v = .ref d ∧ xs = kvs.map (fun p => V.int p.1) ∧ ∀ j loc H, I j loc H → H d = some (.dI ep kvs))
theorem S_for {Q : Fl → Loc → AH → Prop} {x : Str} {i : Nat} {px pos : Pos} {iter : Expr} {body : List Stmt} {n : Nat} (hA : AOk n A) (K : EnvOk env L ks) (hi : nid x = some i) (hk : ks.lookup i = some .local)
    (h : WE c A L loc (eval iter env) (fun v H1 => ∃ xs I, I 0 loc H1 ∧ Turns c A L env body i xs I Q ∧ IterOk xs I v H1) H)
    (hs : ∀ x, foldedSetIterable iter env x = pure x) :
    WS c A L (exec (.For (.Name x px) iter body [] pos) env) Q loc H := fun s a => by
  refine wpAny_For (wpAny_mono (h s a) (fun v s1 p => ?_) fun _ _ e => e) hs
  obtain ⟨V1, H1, r1, a1, S1, xs, I, hI, T, p⟩ := p
  have hb : c.h₀.get? s1.heap.objs.size = none := by
    cases e : c.h₀.get? s1.heap.objs.size with
    | none => rfl
    | some o => exact absurd (Heap.lt_size (a1.base _ _ e)) (Nat.lt_irrefl _)
  have back : ∀ (s2 : Shared), codeAny c.M A (.forLoop (.Name x px) (.ref s1.heap.objs.size) body [] env) (fun r s' => match r with | .ok f => SPost c L H1 s1 Q f s' | .error e => cameBackBy c.M A env NoE e s') s2 →
      codeAny c.M A (.forLoop (.Name x px) (.ref s1.heap.objs.size) body [] env) (fun r s' => match r with | .ok f => SPost c L H s Q f s' | .error e => cameBackBy c.M A env NoE e s') s2 := fun s2 z =>
    codeAny_mono z fun r s' w => by cases r with | ok f => exact w.trans S1 | error e => exact w
  rcases p with rfl | ⟨d, rfl, hd⟩ | ⟨d, lo, hi', rfl, hd, b1, b2, b3, b4, rfl⟩ | ⟨d, ep, kvs, rfl, rfl, hd⟩
  · obtain ⟨d, ws, rfl, ht, q⟩ := r1
    refine wpAny_pyIter_tuple ht (back _ ?_)
    refine for_core (fun j h => h.IsTupleIter s1.heap.objs.size d j) K hi hk (fun j h h' ⟨o, ho, r⟩ k => ⟨o, k _ ho, r⟩) (fun j h ⟨o, ho, hc, _⟩ => ⟨⟨o, ho⟩, fun items ⟨o', ho', hc', _⟩ => ?_⟩) ?_ ?_ T (a1.push _) (Step.push ..) (Ne.symm (Nat.ne_of_lt a1.L_lt)) a1.fresh (get?_size _) hb ⟨_, Heap.get?_push_size _ rfl, rfl, rfl⟩ hI
    · rw [ho] at ho'; cases ho'; rw [hc] at hc'; exact absurd (Value.type.inj hc') (by decide)
    · intro j v loc2 H2 s2 hv hI2 a2 tt hit
      obtain ⟨y, hy, ry⟩ := q.get hv
      refine wpAny_pyNext_tuple_item hit (tt _ _ (tups_push _ _ _ ht)) (by simpa using hy) fun h' hit' hsb => ⟨y, h', s2.toks, rfl, Rel.mono (fun b it t => tt _ _ (tups_push _ _ _ t)) _ _ ry, rfl, hsb, hit'⟩
    · intro loc2 H2 s2 hI2 a2 tt hit
      refine wpAny_pyNext_tuple_end hA.1 hit (tt _ _ (tups_push _ _ _ ht)) (by simp [q.length]) fun h' hext => ⟨h', s2.toks, rfl, rfl, hext⟩
  · have e1 : v = .ref d := r1
    subst e1
    obtain ⟨ws, n1, g, q⟩ := a1.list (hd _ _ _ hI)
    refine wpAny_pyIter_list ⟨_, g, rfl, n1, rfl⟩ (back _ ?_)
    refine for_core (fun j h => h.IsListIter s1.heap.objs.size d j) K hi hk (fun j h h' ⟨o, ho, r⟩ k => ⟨o, k _ ho, r⟩) (fun j h ⟨o, ho, hc, _⟩ => ⟨⟨o, ho⟩, fun items ⟨o', ho', hc', _⟩ => ?_⟩) ?_ ?_ T (a1.push _) (Step.push ..) (Ne.symm (Nat.ne_of_lt a1.L_lt)) a1.fresh (get?_size _) hb ⟨_, Heap.get?_push_size _ rfl, rfl, rfl⟩ hI
    · rw [ho] at ho'; cases ho'; rw [hc] at hc'; exact absurd (Value.type.inj hc') (by decide)
    · intro j v loc2 H2 s2 hv hI2 a2 tt hit
      obtain ⟨ws2, n2, g2, q2⟩ := a2.list (hd _ _ _ hI2)
      obtain ⟨y, hy, ry⟩ := q2.get hv
      exact wpAny_pyNext_list_item hit ⟨_, g2, rfl, n2, rfl⟩ (by simpa using hy) fun h' hit' hsb => ⟨y, h', s2.toks, rfl, ry, rfl, hsb, hit'⟩
    · intro loc2 H2 s2 hI2 a2 tt hit
      obtain ⟨ws2, n2, g2, q2⟩ := a2.list (hd _ _ _ hI2)
      exact wpAny_pyNext_list_end hA.1 hit ⟨_, g2, rfl, n2, rfl⟩ (by simp [q2.length]) fun h' hext => ⟨h', s2.toks, rfl, rfl, hext⟩
  · have e1 : v = .ref d := r1
    subst e1
    obtain ⟨t1, u1, v1, g⟩ := (a1.obj _ _ hd).2.2
    refine wpAny_pyIter_range g ?_ (back _ ?_)
    · unfold Builtin.Range.small
      rw [rangeSize_nat]
      simp only [Builtin.Range.rangeFitsLong, Bool.and_eq_true, decide_eq_true_eq, Bool.or_eq_true, beq_iff_eq]
      refine ⟨⟨⟨⟨⟨?_, ?_⟩, ⟨?_, ?_⟩⟩, ⟨?_, ?_⟩⟩, ⟨?_, ?_⟩⟩, .inr ?_⟩ <;> first | omega | skip
      rw [if_pos (by decide)]
      simp only [Bool.and_eq_true, decide_eq_true_eq]
      omega
    · rw [rangeSize_nat]
      refine for_core (fun j h => IsRangeIter h s1.heap.objs.size (lo + (j : Nat)) (((hi' - lo).toNat : Int) - (j : Nat)) 1) K hi hk (fun j h h' g k => k _ g) (fun j h g => ⟨⟨_, g⟩, fun items ⟨o', ho', hc', _⟩ => ?_⟩) ?_ ?_ T (a1.push _) (Step.push ..) (Ne.symm (Nat.ne_of_lt a1.L_lt)) a1.fresh (get?_size _) hb ?_ hI
      · rw [g] at ho'; cases ho'; exact absurd (Value.type.inj hc') (by decide)
      · intro j v loc2 H2 s2 hv hI2 a2 tt hit
        have hj := lt_of_get hv
        simp only [List.length_map, List.length_range] at hj
        have hv' : v = .int (lo + (j : Nat)) := by
          rw [List.getElem?_map, List.getElem?_range hj] at hv
          exact (Option.some.inj hv).symm
        subst hv'
        refine wpAny_pyNext_range_item hit (by omega) fun h' hit' hsb => ⟨_, h', s2.toks + 1, rfl, rI _ _ _, rfl, hsb, ?_⟩
        have e1 : lo + ((j + 1 : Nat) : Int) = lo + (j : Nat) + 1 := by omega
        have e2 : ((hi' - lo).toNat : Int) - ((j + 1 : Nat) : Int) = ((hi' - lo).toNat : Int) - (j : Nat) - 1 := by omega
        rw [e1, e2]; exact hit'
      · intro loc2 H2 s2 hI2 a2 tt hit
        refine wpAny_pyNext_range_end hA.1 hit (by simp) fun h' hext => ⟨h', s2.toks, rfl, rfl, hext⟩
      · have := Heap.get?_push_size s1.heap (o := { cls := .type "range_iterator", data := .fields #[rawInt lo, rawInt (((hi' - lo).toNat : Nat) : Int), rawInt 1] }) rfl
        simpa using this
  · have e1 : v = .ref d := r1
    subst e1
    obtain ⟨kv, g, q1, q2⟩ := (a1.obj _ _ (hd _ _ _ hI)).2.2
    have hlen : kv.length = kvs.length := by simpa using congrArg List.length q1
    refine wpAny_pyIter_dict (a1.sm (hd _ _ _ hI)) g (back _ ?_)
    refine for_core (fun j h => h.IsKeyIter s1.heap.objs.size d j kv.length ep) K hi hk (fun j h h' ⟨o, ho, r⟩ k => ⟨o, k _ ho, r⟩) (fun j h ⟨o, ho, hc, _⟩ => ⟨⟨o, ho⟩, fun items ⟨o', ho', hc', _⟩ => ?_⟩) ?_ ?_ T (a1.push _) (Step.push ..) (Ne.symm (Nat.ne_of_lt a1.L_lt)) a1.fresh (get?_size _) hb ⟨_, Heap.get?_push_size _ rfl, rfl, rfl⟩ hI
    · rw [ho] at ho'; cases ho'; rw [hc] at hc'; exact absurd (Value.type.inj hc') (by decide)
    · intro j v loc2 H2 s2 hv hI2 a2 tt hit
      obtain ⟨kv2, g2, p1, p2⟩ := (a2.obj _ _ (hd _ _ _ hI2)).2.2
      have hlen2 : kv2.length = kvs.length := by simpa using congrArg List.length p1
      have hj := lt_of_get hv
      simp only [List.length_map] at hj
      rw [List.getElem?_map, List.getElem?_eq_getElem hj] at hv
      have hv' : v = .int kvs[j].1 := (Option.some.inj hv).symm
      subst hv'
      have hj2 : j < kv2.length := by omega
      have hk2 : kv2[j]? = some (kv2[j].1, kv2[j].2) := List.getElem?_eq_getElem hj2
      have hkey : kv2[j].1 = kvs[j].1 := by
        have e1 : (kv2.map (·.1))[j]? = (kvs.map (·.1))[j]? := by rw [p1]
        simpa [List.getElem?_map, List.getElem?_eq_getElem hj2, List.getElem?_eq_getElem hj] using e1
      rw [hlen, ← hlen2] at hit
      refine wpAny_pyNext_dict_item hit g2 hk2 fun key h' hkey' hit' hsb => ⟨key, h', s2.toks, rfl, ?_, rfl, hsb, ?_⟩
      · obtain ⟨t, e⟩ := Value.isInt_shape (show Value.isInt kv2[j].1 key = true from hkey')
        rw [e, hkey]; exact rI _ _ _
      · rw [hlen2, ← hlen] at hit'; exact hit'
    · intro loc2 H2 s2 hI2 a2 tt hit
      obtain ⟨kv2, g2, p1, p2⟩ := (a2.obj _ _ (hd _ _ _ hI2)).2.2
      have hlen2 : kv2.length = kvs.length := by simpa using congrArg List.length p1
      rw [hlen, ← hlen2] at hit
      refine wpAny_pyNext_dict_end hA.1 hit g2 (by simp [hlen2]) fun h' hext => ⟨h', s2.toks, rfl, rfl, hext⟩
end
end Mine
namespace Mine
noncomputable def After (c : Cx) (A : Around) (L : Addr) (env : Env) (rest : List Stmt) (Q : Fl → Loc → AH → Prop) : Fl → Loc → AH → Prop := fun f l H1 => match f with
  | .next => WS c A L (execs rest env) Q l H1
  | .brk => Q .brk l H1
  | .cont => Q .cont l H1
  | .ret v => Q (.ret v) l H1
noncomputable def Back (Q : V → AH → Prop) : Fl → Loc → AH → Prop := fun f _ H => match f with
  | .ret v => Q v H
  | .next => Q .none H
  | .brk => Q .none H
  | .cont => Q .none H
noncomputable def TurnEnd (I : Loc → AH → Prop) (Q : Fl → Loc → AH → Prop) : Fl → Loc → AH → Prop := fun f l H => match f with
  | .next => I l H
  | .cont => I l H
  | .brk => Q .next l H
  | .ret v => Q (.ret v) l H
section
variable {c : Cx} {A : Around} {L : Addr} {loc : Loc} {H : AH} {env : Env} {ks : List (Nat × NameKind)}
theorem seq {st : Stmt} {rest : List Stmt} {Q : Fl → Loc → AH → Prop} (h : WS c A L (exec st env) (After c A L env rest Q) loc H) : WS c A L (execs (st :: rest) env) Q loc H := S_cons h
theorem After.next {rest : List Stmt} {Q : Fl → Loc → AH → Prop} (h : WS c A L (execs rest env) Q loc H) : After c A L env rest Q .next loc H := h
theorem After.ret {rest : List Stmt} {Q : Fl → Loc → AH → Prop} {v : V} (h : Q (.ret v) loc H) : After c A L env rest Q (.ret v) loc H := h
theorem Back.ret {Q : V → AH → Prop} {v : V} (h : Q v H) : Back Q (.ret v) loc H := h
theorem Back.next {Q : V → AH → Prop} (h : Q .none H) : Back Q .next loc H := h
theorem TurnEnd.next {I : Loc → AH → Prop} {Q : Fl → Loc → AH → Prop} (h : I loc H) : TurnEnd I Q .next loc H := h
theorem TurnEnd.ret {I : Loc → AH → Prop} {Q : Fl → Loc → AH → Prop} {v : V} (h : Q (.ret v) loc H) : TurnEnd I Q (.ret v) loc H := h
theorem ite_b {b : Bool} {P R : Prop} (h1 : b = true → P) (h2 : b = false → R) : if b = true then P else R := by cases b; exact h2 rfl; exact h1 rfl
theorem ite_t {P R : Prop} (h : P) : if true = true then P else R := h
theorem ite_f {P R : Prop} (h : R) : if false = true then P else R := h
theorem WS.sub {t : Sem Flow} {Q : Fl → Loc → AH → Prop} {loc' : Loc} (h : WS c A L t Q loc' H) (kl : loc'.all (fun p => match loc.lookup p.1, p.2 with | some _, _ => true | _, _ => false) = true → ∀ i v, loc'.lookup i = some v → loc.lookup i = some v)
    (hl : loc'.all (fun p => match loc.lookup p.1, p.2 with | some _, _ => true | _, _ => false) = true) : WS c A L t Q loc H := h.weaken (kl hl) fun _ _ e => e
theorem E_cell {Q : V → AH → Prop} {x : Str} {i : Nat} {pos : Pos} {d : Addr} {X : V} (K : EnvOk env L ks) (hi : nid x = some i) (hk : ks.lookup i = some .cell) (hc : env.cells.lookup x = some d) (hd : H d = some (.cell (some X))) (h : Q X H) (hb : (i == 6899408724578349023) = false) :
    WE c A L loc (eval (.Name x pos) env) Q H := fun s a => by
  obtain ⟨o, v', g, g2, k⟩ := (a.obj _ _ hd).2.2
  obtain ⟨y, rfl, ry⟩ := k X rfl
  exact wpAny_Name (wpAny_loadName_cell K.fn (by show env.scope.names.lookup x = _; rw [K.ks x i hi]; exact hk) hc ⟨o, g, g2⟩ ⟨X, H, ry, a, Step.refl .., h⟩) (not_debug hi hb)
theorem S_assign_cell {Q : Fl → Loc → AH → Prop} {x : Str} {i : Nat} {value : Expr} {pos' pos : Pos} {d : Addr} (K : EnvOk env L ks) (hi : nid x = some i) (hk : ks.lookup i = some .cell) (hc : env.cells.lookup x = some d)
    (h : WE c A L loc (eval value env) (fun v H1 => (∃ o, H1 d = some (.cell o)) ∧ Q .next loc (H1.set d (.cell (some v)))) H)
    (hs : swapsWith value (some (.Name x pos')) pos.line env = pure false) : WS c A L (exec (.Assign [.Name x pos'] value pos) env) Q loc H := fun s a =>
  wpAny_Assign_Name (wpAny_mono (h s a) (fun v s1 p => by
    obtain ⟨X, H1, r, a1, S1, ⟨o, hd⟩, p⟩ := p
    obtain ⟨ob, v', g, g2, k⟩ := (a1.obj _ _ hd).2.2
    refine wpAny_storeName_cell K.fn (by show env.scope.names.lookup x = _; rw [K.ks x i hi]; exact hk) hc ⟨ob, g, g2⟩ fun h' hc' hs' => ?_
    have tu := a1.tups_upd hd hs'
    obtain ⟨o', g', g2'⟩ := hc'
    exact ⟨.next, loc, _, rfl, a1.upd (o' := .cell (some X)) (t := s1.toks) hd hs' ⟨o', some v, g', g2', fun x e => by cases e; exact ⟨v, rfl, Rel.mono tu _ _ r⟩⟩, S1.trans (Step.upd hd hs'), p⟩) fun _ _ e => e) hs
theorem E_dict0 {Q : V → AH → Prop} {pos : Pos} (h : ∀ d, H d = none → Q (.ref d) (H.set d (.dI 0 []))) : WE c A L loc (eval (.Dict [] [] pos) env) Q H := fun s a =>
  wpAny_Dict_empty ⟨.ref s.heap.objs.size, _, rR _ _, a.new _ (.dI 0 []) ⟨[], ⟨_, _, Heap.get?_push_size _ rfl, ⟨rfl, rfl, rfl⟩, rfl, fun _ he => by simp at he, Pairs.nil, List.nodup_nil⟩, rfl, rfl⟩, Step.new .., h _ a.fresh⟩
theorem E_new {Q : V → AH → Prop} {x : Str} {i : Nat} {p pos : Pos} {e : Expr} {rest : List Expr} {C fI : Addr} {n : Nat} (hA : AOk (n + 1) A) (K : EnvOk env L ks) (hi : nid x = some i) (hk : ks.lookup i = some .globalImplicit)
    (hg : nsIn c.K mainGlobals x = some (some (.ref C))) (hf : keepIn c.K (.ref C) = true) (hm : makesIn c.K C = true) (hin : findIn c.K (.ref C) "__init__" = some (some (.ref fI))) (hfn : typeIn c.K (.ref fI) = some (.type "function"))
    (h : WL c A L loc (spliced (backTo pos (starEach (e :: rest) env))) (fun xs H1 => ∀ dx, H1 dx = none → H1 (dx + 1) = none → FnSpec c n fI (.ref (dx + 1) :: xs) (fun v H2 => v = .none ∧ Q (.ref (dx + 1)) H2) ((H1.set dx (.ns [])).set (dx + 1) (.inst C dx))) H)
    (he : starEach (e :: rest) env = (false, eval e env) :: starEach rest env) (hp : (backTo pos (starEach rest env)).any (·.1) = false) (hd : (i == 6899408724578349023) = false) :
    WE c A L loc (eval (.Call (.Name x p) (e :: rest) [] pos) env) Q H := fun s a =>
  Call_ (Calls.Name_function_global K.fn (by show env.scope.names.lookup x = _; rw [K.ks x i hi]; exact hk)
    (Calls.loadGlobal_global (K.glob.symm ▸ c.G.keeps a.base) (mg_K c hg)
      (callWith_K c.X hf (wpAny_mono (h s a) (fun vs s1 p => by
        obtain ⟨xs, H1, r, a1, S1, p⟩ := p
        refine ⟨c.X.keeps a1.base, ?_⟩
        have hX := c.X.keeps a1.base
        have sz1 : (s1.heap.push emptyDict).objs.size = s1.heap.objs.size + 1 := by simp
        have f1 : s1.heap.get? s1.heap.objs.size = none := get?_size _
        have f2 : s1.heap.get? (s1.heap.objs.size + 1) = none := by
          cases e : s1.heap.get? (s1.heap.objs.size + 1) with
          | none => rfl
          | some o => exact absurd (Heap.lt_size e) (Nat.not_lt.mpr (Nat.le_succ _))
        have a2 : Abs c L loc (H1.set s1.heap.objs.size (.ns [])) { s1 with heap := s1.heap.push emptyDict } := a1.new _ (.ns []) ⟨[], 0, Heap.get?_push_size _ rfl, rfl⟩
        have a3 : Abs c L loc ((H1.set s1.heap.objs.size (.ns [])).set (s1.heap.objs.size + 1) (.inst C s1.heap.objs.size)) { s1 with heap := (s1.heap.push emptyDict).push (instObj C s1.heap.objs.size) } := by
          have := a2.new (instObj C s1.heap.objs.size) (.inst C s1.heap.objs.size) (Heap.get?_push_size _ rfl)
          rw [show ({ s1 with heap := s1.heap.push emptyDict } : Shared).heap.objs.size = s1.heap.objs.size + 1 from sz1] at this
          exact this
        have S2 : Step L H1 s1 (H1.set s1.heap.objs.size (.ns [])) { s1 with heap := s1.heap.push emptyDict } := Step.new ..
        have S3 : Step L (H1.set s1.heap.objs.size (.ns [])) { s1 with heap := s1.heap.push emptyDict } ((H1.set s1.heap.objs.size (.ns [])).set (s1.heap.objs.size + 1) (.inst C s1.heap.objs.size)) { s1 with heap := (s1.heap.push emptyDict).push (instObj C s1.heap.objs.size) } := by
          have := Step.new L (H1.set s1.heap.objs.size (.ns [])) { s1 with heap := s1.heap.push emptyDict } (instObj C s1.heap.objs.size) (.inst C s1.heap.objs.size)
          rw [show ({ s1 with heap := s1.heap.push emptyDict } : Shared).heap.objs.size = s1.heap.objs.size + 1 from sz1] at this
          exact this
        have F := p s1.heap.objs.size a1.fresh (a1.none_of f2)
        refine wpAny_call (make_core (init := .ref fI) (makes_of hX hm) (looks_findIn hX hin) (fun self => bind_fn hX self hfn) (.inl (by rfl)) ?_)
        have hA' : AOk n (A.under (.builtin "type.__call__" ⟨.ref C :: vs, []⟩)) := ⟨hA.1, by rw [depth_under_make]; have := hA.2.1; omega, by rw [units_under_make]; have := hA.2.2; omega⟩
        refine codeAny_mono (F _ _ (.ref (s1.heap.objs.size + 1) :: vs) hA' a3.base (Nat.le_trans a3.lo (Nat.le_of_lt a3.L_lt)) a3.hok ⟨_, vs, rfl, rR _ _, a2.relL S3 (a1.relL S2 r)⟩) fun r s' q => ?_
        obtain ⟨v, rfl, q⟩ := q
        obtain ⟨y, H2, ry, a4, S4, hy, qq⟩ := q.here a3
        subst hy
        have : v = .none := ry
        subst this
        exact ⟨rfl, .ref (s1.heap.objs.size + 1), H2, rR _ _, a4, ((S1.trans S2).trans S3).trans S4, qq⟩) fun _ _ e => e) he hp)) (not_debug hi hd)) rfl
end
end Mine
namespace Mine
noncomputable def Sub (H' H : AH) : Prop := ∀ a o, H' a = some o → H a = some o
noncomputable def LSub (l' l : Loc) : Prop := ∀ i v, l'.lookup i = some v → l.lookup i = some v
inductive Up (Q : V → AH → Prop) (v : V) (H1 : AH) : Prop
  | mk (H2 : AH) (s : Sub H2 H1) (h : Q v H2)
inductive PTurn {σ : Type} (J : σ → Prop) (Lf : σ → Loc) (Hf : σ → AH) (l : Loc) (H2 : AH) : Prop
  | mk (s' : σ) (j : J s') (hl : LSub (Lf s') l) (hh : Sub (Hf s') H2)
inductive PLess {σ : Type} (n : Nat) (J : Nat → σ → Prop) (Lf : σ → Loc) (Hf : σ → AH) (l : Loc) (H2 : AH) : Prop
  | mk (m : Nat) (s' : σ) (hm : m < n) (j : J m s') (hl : LSub (Lf s') l) (hh : Sub (Hf s') H2)
theorem Sub.refl (H : AH) : Sub H H := fun _ _ e => e
theorem Sub.trans {a b d : AH} (p : Sub a b) (q : Sub b d) : Sub a d := fun x o e => q x o (p x o e)
theorem Sub.fresh {a b : AH} {d : Addr} {o : MObj} (p : Sub a b) (h : b d = none) : Sub a (b.set d o) := fun x y e => by
  by_cases hx : x = d
  · subst hx; rw [p x y e] at h; cases h
  · rw [AH.set_ne _ _ hx]; exact p x y e
theorem Sub.set {a b : AH} {d : Addr} {o : MObj} (p : Sub a b) : Sub (a.set d o) (b.set d o) := fun x y e => by
  by_cases hx : x = d
  · subst hx; rw [AH.set_same] at e ⊢; exact e
  · rw [AH.set_ne _ _ hx] at e ⊢; exact p x y e
theorem Sub.set' {a b : AH} {d : Addr} {o : MObj} (p : Sub a b) (h : b d = some o) : Sub (a.set d o) b := fun x y e => by
  by_cases hx : x = d
  · subst hx; rw [AH.set_same] at e; rw [h]; exact e
  · rw [AH.set_ne _ _ hx] at e; exact p x y e
theorem LSub.nil {l : Loc} : LSub [] l := fun _ _ e => by simp at e
theorem LSub.cons {r l : Loc} {i : Nat} {v : V} (h : l.lookup i = some v) (p : LSub r l) : LSub ((i, v) :: r) l := fun j w e => by
  by_cases hj : j = i
  · subst hj; rw [List.lookup_cons, beq_self_eq_true] at e; cases e; exact h
  · have : (j == i) = false := by simpa using hj
    rw [List.lookup_cons, this] at e; exact p j w e
theorem LSub.refl (l : Loc) : LSub l l := fun _ _ e => e
theorem ne_none {H : AH} {a b : Addr} {o : MObj} (h1 : H a = none) (h2 : H b = some o) : b ≠ a := by rintro rfl; rw [h1] at h2; cases h2
theorem ne_kind {H : AH} {a b : Addr} {o p : MObj} (h1 : H a = some o) (h2 : H b = some p) (h : o ≠ p) : a ≠ b := by rintro rfl; rw [h1] at h2; cases h2; exact h rfl
theorem set_set {H : AH} {d : Addr} {o p : MObj} : (H.set d o).set d p = H.set d p := by
  funext x; unfold AH.set; split <;> rfl
theorem set_comm {H : AH} {d e : Addr} {o p : MObj} (h : d ≠ e) : (H.set d o).set e p = (H.set e p).set d o := by
  funext x; unfold AH.set; by_cases h1 : x = d <;> by_cases h2 : x = e <;> simp [h1, h2, h] <;> simp_all
theorem set_same_fun {H : AH} {d : Addr} {o : MObj} (h : H d = some o) : H.set d o = H := by
  funext x; unfold AH.set; split
  · rename_i e; rw [e, h]
  · rfl
section
variable {c : Cx} {A : Around} {L : Addr} {loc : Loc} {H : AH} {env : Env} {ks : List (Nat × NameKind)}
theorem WS.less {t : Sem Flow} {Q : Fl → Loc → AH → Prop} {loc' : Loc} {H' : AH} (h : WS c A L t Q loc' H') (kl : LSub loc' loc) (kh : Sub H' H) : WS c A L t Q loc H := h.weaken kl kh
theorem FnSpec.mono {n : Nat} {f : Addr} {xs : List V} {Q Q' : V → AH → Prop} (h : FnSpec c n f xs Q H) (k : ∀ v H', Q v H' → Q' v H') : FnSpec c n f xs Q' H := fun A s vs hA hb hs ho hr =>
  codeAny_mono (h A s vs hA hb hs ho hr) fun r s' p => by
    obtain ⟨v, e, x, H', r1, r2, r3, r4⟩ := p
    exact ⟨v, e, x, H', r1, r2, r3, k _ _ r4⟩
theorem FnSpec.drop {n : Nat} {f : Addr} {xs : List V} {Q : V → AH → Prop} (h : FnSpec c n f xs (Up Q) H) : FnSpec c n f xs Q H := fun A s vs hA hb hs ho hr =>
  codeAny_mono (h A s vs hA hb hs ho hr) fun r s' p => by
    obtain ⟨v, e, x, H', r1, r2, r3, H2, k, r4⟩ := p
    exact ⟨v, e, x, H2, r1, fun b o z => r2 b o (k b o z), ⟨r3.keep, fun b z => by
      refine r3.dom b ?_
      cases q : H2 b with
      | none => exact absurd q z
      | some o => rw [k b o q]; exact Option.some_ne_none _, r3.rest⟩, r4⟩
theorem FnSpec.less {n m : Nat} {f : Addr} {xs : List V} {Q : V → AH → Prop} (h : FnSpec c n f xs Q H) (k : n ≤ m) : FnSpec c m f xs Q H := fun A s vs hA hb hs ho hr => h A s vs (hA.mono k) hb hs ho hr
theorem FnSpec.weak {n : Nat} {f : Addr} {xs : List V} {Q : V → AH → Prop} {H' : AH} (h : FnSpec c n f xs Q H') (k : Sub H' H) : FnSpec c n f xs Q H := fun A s vs hA hb hs ho hr =>
  codeAny_mono (h A s vs hA hb hs (fun b o e => ho b o (k b o e)) hr) fun r s' p => by
    obtain ⟨v, e, x, H2, r1, r2, r3, r4⟩ := p
    refine ⟨v, e, x, H2, r1, r2, ⟨fun b o e1 e2 => r3.keep b o e1 ?_, fun b z => ?_, r3.rest⟩, r4⟩
    · cases q : H' b with
      | none => rfl
      | some o => rw [k b o q] at e2; cases e2
    · rcases r3.dom b z with z | z
      · left
        cases q : H' b with
        | none => exact absurd q z
        | some o => rw [k b o q]; exact Option.some_ne_none _
      · exact .inr z
theorem S_for' {Q : Fl → Loc → AH → Prop} {σ : Type} {x : Str} {i : Nat} {px pos : Pos} {iter : Expr} {body : List Stmt} {n : Nat} (J : Nat → σ → Prop) (Lf : Nat → σ → Loc) (Hf : Nat → σ → AH) (hA : AOk n A) (K : EnvOk env L ks) (hi : nid x = some i) (hk : ks.lookup i = some .local)
    (h : WE c A L loc (eval iter env) (fun v H1 => ∃ xs s0, J 0 s0 ∧ LSub (Lf 0 s0) loc ∧ Sub (Hf 0 s0) H1 ∧
      (v = .tup xs ∨ (∃ d, v = .ref d ∧ ∀ j s, J j s → Hf j s d = some (.list xs)) ∨
        (∃ d a b, v = .ref d ∧ H1 d = some (.rng a b) ∧ -1000 ≤ a ∧ a ≤ 1000 ∧ -1000 ≤ b ∧ b ≤ 1000 ∧ xs = (List.range (b - a).toNat).map fun j => V.int (a + (j : Nat))) ∨
        (∃ d ep kvs, v = .ref d ∧ xs = kvs.map (fun p => V.int p.1) ∧ ∀ j s, J j s → Hf j s d = some (.dI ep kvs))) ∧
      (∀ j s v, xs[j]? = some v → J j s → WS c A L (execs body env) (TurnEnd (PTurn (J (j + 1)) (Lf (j + 1)) (Hf (j + 1))) Q) ((i, v) :: Lf j s) (Hf j s)) ∧
      (∀ s l H2, J xs.length s → LSub (Lf xs.length s) l → Sub (Hf xs.length s) H2 → Q .next l H2)) H)
    (hs : ∀ x, foldedSetIterable iter env x = pure x) :
    WS c A L (exec (.For (.Name x px) iter body [] pos) env) Q loc H := by
  refine S_for hA K hi hk (h.mono fun v H1 p => ?_) hs
  obtain ⟨xs, s0, h1, h2, h3, h4, h5, h6⟩ := p
  refine ⟨xs, fun j => PTurn (J j) (Lf j) (Hf j), ⟨s0, h1, h2, h3⟩, ⟨?_, ?_⟩, ?_⟩
  · rintro j l H2 v hv ⟨s, a1, a2, a3⟩
    exact ((h5 j s v hv a1).less (loc := (i, v) :: l) (H := H2) (fun k w e => by
      by_cases hk : k = i
      · subst hk; rw [List.lookup_cons, beq_self_eq_true] at e ⊢; exact e
      · have : (k == i) = false := by simpa using hk
        rw [List.lookup_cons, this] at e ⊢; exact a2 k w e) a3).mono fun f l' H3 q => by cases f <;> exact q
  · rintro l H2 ⟨s, a1, a2, a3⟩; exact h6 s l H2 a1 a2 a3
  · rcases h4 with h | ⟨d, h, k⟩ | h | ⟨d, ep, kvs, e1, e2, k⟩
    · exact .inl h
    · exact .inr (.inl ⟨d, h, fun j l H2 ⟨s, a1, a2, a3⟩ => a3 _ _ (k j s a1)⟩)
    · exact .inr (.inr (.inl h))
    · exact .inr (.inr (.inr ⟨d, ep, kvs, e1, e2, fun j l H2 ⟨s, a1, a2, a3⟩ => a3 _ _ (k j s a1)⟩))
theorem S_while' {Q : Fl → Loc → AH → Prop} {σ : Type} {test : Expr} {body orelse : List Stmt} {pos : Pos} (J : Nat → σ → Prop) (Lf : σ → Loc) (Hf : σ → AH) (n : Nat) (s0 : σ) (h0 : J n s0) (hl : LSub (Lf s0) loc) (hh : Sub (Hf s0) H)
    (turn : ∀ n s, J n s → WB c A L (Lf s) (isTrue test env (eval test env)) (fun b H1 => if b then WS c A L (execs body env) (TurnEnd (PLess n J Lf Hf) Q) (Lf s) H1
      else WS c A L (execs orelse env) Q (Lf s) H1) (Hf s)) :
    WS c A L (exec (.While test body orelse pos) env) Q loc H := by
  refine WS.less (loc' := Lf s0) (H' := Hf s0) ?_ hl hh
  intro s a
  refine wpAny_While (codeAny_whileLoop (fun n s' => ∃ st loc' H', Abs c L loc' H' s' ∧ Step L (Hf s0) s H' s' ∧ J n st ∧ LSub (Lf st) loc' ∧ Sub (Hf st) H') ?_ n ⟨s0, _, _, a, Step.refl .., h0, LSub.refl _, Sub.refl _⟩)
  rintro n s1 ⟨st, loc1, H1, a1, S1, hI, l1, k1⟩
  have a1' : Abs c L (Lf st) (Hf st) s1 := ⟨a1.base, a1.lo, by obtain ⟨m, p, q⟩ := a1.ns; exact ⟨m, p, fun x i v n e => q x i v n (l1 i v e)⟩, fun b o e => a1.obj b o (k1 b o e)⟩
  have down : ∀ {H2 : AH} {s2 : Shared}, Step L (Hf st) s1 H2 s2 → Step L H1 s1 H2 s2 := fun {H2 s2} p3 => ⟨fun b o e1 e2 e3 => p3.keep b o e1 e2 (by
      cases e4 : Hf st b with
      | none => rfl
      | some o' => rw [k1 b o' e4] at e3; cases e3), fun b e => by
    rcases p3.dom b e with e | e
    · left
      cases e4 : Hf st b with
      | none => exact absurd e4 e
      | some o' => rw [k1 b o' e4]; exact Option.some_ne_none _
    · exact .inr e, p3.rest⟩
  refine wpAny_mono (turn n st hI s1 a1') (fun b s2 p => ?_) fun _ _ e => e.elim
  obtain ⟨H2, a2, S2, p⟩ := p
  have S2 := S1.trans (down S2)
  cases b with
  | true =>
    simp only [if_true] at p ⊢
    refine wpAny_mono (p s2 a2) (fun f s3 q => ?_) fun _ _ e => e.elim
    obtain ⟨x, l, H3, r, a3, S3, q⟩ := q
    have SS := S2.trans S3
    cases x with
    | next => have : f = .next := r; subst this; obtain ⟨m, s', hm, j, q1, q2⟩ := q; exact ⟨m, hm, s', l, H3, a3, SS, j, q1, q2⟩
    | cont => have : f = .cont := r; subst this; obtain ⟨m, s', hm, j, q1, q2⟩ := q; exact ⟨m, hm, s', l, H3, a3, SS, j, q1, q2⟩
    | brk => have : f = .brk := r; subst this; exact ⟨.next, l, H3, rfl, a3, SS, q⟩
    | ret v => obtain ⟨y, rfl, ry⟩ := r; exact ⟨.ret v, l, H3, ⟨y, rfl, ry⟩, a3, SS, q⟩
  | false =>
    simp only [Bool.false_eq_true, if_false] at p ⊢
    exact wpAny_mono (p s2 a2) (fun f s3 q => q.trans S2) fun _ _ e => e.elim
theorem all1 {f : FuncData} {p1 : Str} (h : ∀ v1, bindArgs f ⟨[v1], []⟩ = pure ([p1].zip [v1])) (vs : List Value) (hv : vs.length = [p1].length) : bindArgs f ⟨vs, []⟩ = pure ([p1].zip vs) := by
  obtain ⟨v1, rfl⟩ := len1 hv
  exact h v1
theorem all2 {f : FuncData} {p1 p2 : Str} (h : ∀ v1 v2, bindArgs f ⟨[v1, v2], []⟩ = pure ([p1, p2].zip [v1, v2])) (vs : List Value) (hv : vs.length = [p1, p2].length) : bindArgs f ⟨vs, []⟩ = pure ([p1, p2].zip vs) := by
  obtain ⟨v1, v2, rfl⟩ := len2 hv
  exact h v1 v2
theorem all3 {f : FuncData} {p1 p2 p3 : Str} (h : ∀ v1 v2 v3, bindArgs f ⟨[v1, v2, v3], []⟩ = pure ([p1, p2, p3].zip [v1, v2, v3])) (vs : List Value) (hv : vs.length = [p1, p2, p3].length) : bindArgs f ⟨vs, []⟩ = pure ([p1, p2, p3].zip vs) := by
  obtain ⟨v1, v2, v3, rfl⟩ := len3 hv
  exact h v1 v2 v3
theorem all4 {f : FuncData} {p1 p2 p3 p4 : Str} (h : ∀ v1 v2 v3 v4, bindArgs f ⟨[v1, v2, v3, v4], []⟩ = pure ([p1, p2, p3, p4].zip [v1, v2, v3, v4])) (vs : List Value) (hv : vs.length = [p1, p2, p3, p4].length) : bindArgs f ⟨vs, []⟩ = pure ([p1, p2, p3, p4].zip vs) := by
  obtain ⟨v1, v2, v3, v4, rfl⟩ := len4 hv
  exact h v1 v2 v3 v4
theorem all5 {f : FuncData} {p1 p2 p3 p4 p5 : Str} (h : ∀ v1 v2 v3 v4 v5, bindArgs f ⟨[v1, v2, v3, v4, v5], []⟩ = pure ([p1, p2, p3, p4, p5].zip [v1, v2, v3, v4, v5])) (vs : List Value) (hv : vs.length = [p1, p2, p3, p4, p5].length) : bindArgs f ⟨vs, []⟩ = pure ([p1, p2, p3, p4, p5].zip vs) := by
  obtain ⟨v1, v2, v3, v4, v5, rfl⟩ := len5 hv
  exact h v1 v2 v3 v4 v5
theorem all6 {f : FuncData} {p1 p2 p3 p4 p5 p6 : Str} (h : ∀ v1 v2 v3 v4 v5 v6, bindArgs f ⟨[v1, v2, v3, v4, v5, v6], []⟩ = pure ([p1, p2, p3, p4, p5, p6].zip [v1, v2, v3, v4, v5, v6])) (vs : List Value) (hv : vs.length = [p1, p2, p3, p4, p5, p6].length) : bindArgs f ⟨vs, []⟩ = pure ([p1, p2, p3, p4, p5, p6].zip vs) := by
  obtain ⟨v1, v2, v3, v4, v5, v6, rfl⟩ := len6 hv
  exact h v1 v2 v3 v4 v5 v6
theorem fn_enter {n : Nat} {f : Addr} {oc : Value} {od : Option Addr} {osl : Array (Option Value)} {name qual : Str} {params : Arguments} {body : List Stmt} {scope : Scope} {dV kV doc pm cdv ct : Value} {an : Option Addr} {xs : List V} {Q : V → AH → Prop}
    (ho : c.K.lookup f = some ⟨oc, od, .func (fnX name qual params body scope [] dV kV doc pm an cdv ct), osl⟩) (hcd : codeIn c.K cdv qual = true) (K : KOk scope ks) (ps : List Str) (is : List Nat)
    (hb : ∀ vs : List Value, vs.length = ps.length → bindArgs (fnX name qual params body scope [] dV kV doc pm an cdv ct) ⟨vs, []⟩ = pure (ps.zip vs))
    (hps : ps.map nid = is.map some) (hnd : is.Nodup) (hloc : is.all (fun i => ks.lookup i == some .local) = true) (hcell : ∀ x ∈ scope.names, x.2 ≠ .cell) (hco : scope.isCoroutine = false) (hgen : scope.isGenerator = false) (hx : xs.length = ps.length)
    (h : ∀ A L env, AOk n A → EnvOk env L ks → WS c A L (execs body env) (Back (Up Q)) (is.zip xs) H) : FnSpec c (n + 1) f xs Q H :=
  FnSpec.drop (fn_intro ho hcd K ps is hb hps hnd hloc hcell hco hgen hx fun A L env hA KE _ => (h A L env hA KE).mono fun fl l H1 p => by cases fl <;> exact p)
end
end Mine
namespace Mine
section
variable {c : Cx} {A : Around} {L : Addr} {loc : Loc} {H : AH} {env : Env} {ks : List (Nat × NameKind)}
theorem B_pure (b0 : Bool) {t : Sem Bool} {Q : Bool → AH → Prop} (h : WB c A L loc t (fun b H1 => b = b0 ∧ H1 = H) H) (q : Q b0 H) : WB c A L loc t Q H := fun s a =>
  wpAny_mono (h s a) (fun b s1 ⟨H1, a1, S1, e1, e2⟩ => ⟨H1, a1, S1, by subst e1 e2; exact q⟩) fun _ _ e => e
theorem E_pure (v0 : V) {t : Sem Value} {Q : V → AH → Prop} (h : WE c A L loc t (fun b H1 => b = v0 ∧ H1 = H) H) (q : Q v0 H) : WE c A L loc t Q H := h.mono fun v H1 ⟨e1, e2⟩ => by subst e1 e2; exact q
end
noncomputable def intL (l : List Int) : List V := l.map V.int
theorem ofString_beq (a b : String) : (Str.ofString a == Str.ofString b) = (a == b) := by
  rw [Str.ofString_eq_toList, Str.ofString_eq_toList]
  by_cases h : a = b
  · subst h; simp
  · have h2 : (a == b) = false := by simpa using h
    rw [h2]
    apply beq_eq_false_iff_ne.mpr
    intro e
    apply h
    have e2 : a.toList.map (fun ch => ch.toNat) = b.toList.map (fun ch => ch.toNat) := by
      injection e with e
      simpa using e
    have e3 : a.toList = b.toList := by
      have inj : ∀ x y : Char, x.toNat = y.toNat → x = y := fun x y h => by
        have : x.val = y.val := UInt32.toNat_inj.mp h
        exact Char.ext this
      clear e h h2
      generalize a.toList = l at e2
      generalize b.toList = m at e2
      induction l generalizing m with
      | nil => cases m with | nil => rfl | cons _ _ => simp at e2
      | cons x l ih =>
        cases m with
        | nil => simp at e2
        | cons y m =>
          simp only [List.map_cons, List.cons.injEq] at e2
          rw [inj _ _ e2.1, ih _ e2.2]
    exact String.toList_inj.mp e3
@[simp] theorem V.eq_int (i j : Int) : V.eq (.int i) (.int j) = decide (i = j) := by
  unfold V.eq V.py PyData.eqv
  by_cases h : i = j <;> simp [h]
@[simp] theorem V.eq_str (a b : String) : V.eq (.str a) (.str b) = (a == b) := by
  unfold V.eq V.py PyData.eqv
  exact ofString_beq a b
@[simp] theorem V.eq_str_tup (a : String) (l : List V) : V.eq (.str a) (.tup l) = false := by unfold V.eq V.py PyData.eqv; rfl
@[simp] theorem V.eq_tup_str (a : String) (l : List V) : V.eq (.tup l) (.str a) = false := by unfold V.eq V.py PyData.eqv; rfl
@[simp] theorem V.eq_int_tup (a : Int) (l : List V) : V.eq (.int a) (.tup l) = false := by unfold V.eq V.py PyData.eqv; rfl
@[simp] theorem V.eq_tup_int (a : Int) (l : List V) : V.eq (.tup l) (.int a) = false := by unfold V.eq V.py PyData.eqv; rfl
@[simp] theorem V.eq_int_str (a : Int) (l : String) : V.eq (.int a) (.str l) = false := by unfold V.eq V.py PyData.eqv; rfl
@[simp] theorem V.eq_str_int (a : Int) (l : String) : V.eq (.str l) (.int a) = false := by unfold V.eq V.py PyData.eqv; rfl
noncomputable def V.eqs : List V → List V → Bool
  | [], [] => true
  | x :: xs, y :: ys => V.eq x y && V.eqs xs ys
  | _, _ => false
@[simp] theorem V.eq_tup (l m : List V) : V.eq (.tup l) (.tup m) = V.eqs l m := by
  show PyData.eqv (.tuple (V.pys l)) (.tuple (V.pys m)) = _
  have hh : PyData.eqv (.tuple (V.pys l)) (.tuple (V.pys m)) = PyData.eqvAll (V.pys l) (V.pys m) := by unfold PyData.eqv; rfl
  rw [hh]
  clear hh
  induction l generalizing m with
  | nil => cases m <;> simp [V.pys, V.eqs, PyData.eqvAll]
  | cons x l ih =>
    cases m with
    | nil => simp [V.pys, V.eqs, PyData.eqvAll]
    | cons y m =>
      simp only [V.pys, V.eqs]
      rw [← ih m, PyData.eqvAll]; rfl
theorem nn_len : (Str.ofString "len") ≠ "__name__" := by decide
theorem nn_isinstance : (Str.ofString "isinstance") ≠ "__name__" := by decide
theorem nn_tuple : (Str.ofString "tuple") ≠ "__name__" := by decide
theorem nn_list : (Str.ofString "list") ≠ "__name__" := by decide
theorem nn_range : (Str.ofString "range") ≠ "__name__" := by decide
theorem lookup_lt {α : Type} {l : List α} {i : Nat} (h : i < l.length) : l[i]? = some l[i] := List.getElem?_eq_getElem h
end Mine
namespace Mine
section
variable {c : Cx} {A : Around} {L : Addr} {loc : Loc} {H : AH} {env : Env} {ks : List (Nat × NameKind)}
theorem Abs.less {s : Shared} {loc' : Loc} {H' : AH} (a : Abs c L loc H s) (kl : LSub loc' loc) (kh : Sub H' H) : Abs c L loc' H' s :=
  ⟨a.base, a.lo, by obtain ⟨m, p, q⟩ := a.ns; exact ⟨m, p, fun x i v n e => q x i v n (kl i v e)⟩, fun b o e => a.obj b o (kh b o e)⟩
theorem Step.less {s s2 : Shared} {H' H2 : AH} (p3 : Step L H' s H2 s2) (k1 : Sub H' H) : Step L H s H2 s2 :=
  ⟨fun b o e1 e2 e3 => p3.keep b o e1 e2 (by
      cases e4 : H' b with
      | none => rfl
      | some o' => rw [k1 b o' e4] at e3; cases e3), fun b e => by
    rcases p3.dom b e with e | e
    · left
      cases e4 : H' b with
      | none => exact absurd e4 e
      | some o' => rw [k1 b o' e4]; exact Option.some_ne_none _
    · exact .inr e, p3.rest⟩
noncomputable def testsOf (ifs : List Expr) (env : Env) : Sem Bool := forIn ifs true fun c r => if r = true then do let ok ← isTrue c env (eval c env); pure (ForInStep.yield ok) else pure (ForInStep.yield r)
theorem T_nil {Q : Bool → AH → Prop} (h : Q true H) : WB c A L loc (testsOf [] env) Q H := fun s a => wpAny_tests_nil ⟨H, a, Step.refl .., h⟩
theorem T_one {t : Expr} {Q : Bool → AH → Prop} (h : WB c A L loc (isTrue t env (eval t env)) Q H) : WB c A L loc (testsOf [t] env) Q H := fun s a => wpAny_tests_one (h s a)
inductive CInv (c : Cx) (C : Addr) (H1 : AH) (s1 : Shared) (It : Addr) (lo : Int) (N : Nat) {σ : Type} (J : Nat → σ → Prop) (Hf : Nat → σ → AH) (k : Nat) (s' : Shared) : Prop
  | mk (j : Nat) (st : σ) (loc' : Loc) (H' : AH) (e : k = N + 1 - j) (hj : j ≤ N) (a : Abs c C loc' H' s') (S : Step C H1 s1 H' s') (hI : H' It = none) (hit : IsRangeIter s'.heap It (lo + (j : Nat)) ((N : Int) - (j : Nat)) 1) (hJ : J j st) (hS : Sub (Hf j st) H')
theorem Sub.no {a b : AH} {d : Addr} (h : Sub a b) (hd : b d = none) : a d = none := by
  cases z : a d with
  | none => rfl
  | some o => rw [h _ _ z] at hd; cases hd
theorem Abs.noL {s : Shared} (a : Abs c L loc H s) : H L = none := by
  cases e : H L with
  | none => rfl
  | some o => exact absurd rfl (a.obj _ _ e).2.1
theorem noTupR {h : Heap} {It : Addr} {x n st : Int} (hit : IsRangeIter h It x n st) : ∀ items, ¬ IsTup h It items := fun items ⟨o', ho', hc', _⟩ => by
  unfold IsRangeIter at hit
  rw [hit] at ho'; cases ho'; exact absurd (Value.type.inj hc') (by decide)
theorem CInv.close {C : Addr} {H1 : AH} {s1 : Shared} {It : Addr} {lo : Int} {N : Nat} {σ : Type} {J : Nat → σ → Prop} {Hf : Nat → σ → AH} {j : Nat} {st s' : σ} {H3 : AH} {s4 : Shared} (hIC : It ≠ C) (hlt : j < N) (S34 : Step C H1 s1 H3 s4) (hSub : Sub (Hf j st) H3) (hI3 : H3 It = none)
    (hit4 : IsRangeIter s4.heap It (lo + (j : Nat) + 1) ((N : Int) - (j : Nat) - 1) 1) {loc5 : Loc} {H5 : AH} {s5 : Shared} (a5 : Abs c C loc5 H5 s5) (S5 : Step C (Hf j st) s4 H5 s5) (j1 : J (j + 1) s') (j2 : Sub (Hf (j + 1) s') H5) :
    ∃ m, m < N + 1 - j ∧ CInv c C H1 s1 It lo N J Hf m s5 := by
  have hfI : Hf j st It = none := hSub.no hI3
  refine ⟨N + 1 - (j + 1), by omega, j + 1, s', loc5, H5, rfl, hlt, a5, S34.trans (Step.less S5 hSub), ?_, ?_, j1, j2⟩
  · cases e : H5 It with
    | none => rfl
    | some o =>
      rcases S5.dom It (by rw [e]; exact Option.some_ne_none _) with h | h | h
      · exact absurd hfI h
      · have z : s4.heap.get? It = some _ := hit4
        rw [z] at h; cases h
      · exact absurd h hIC
  · have z := S5.keep It _ hit4 hIC hfI
    have e1 : lo + ((j + 1 : Nat) : Int) = lo + (j : Nat) + 1 := by omega
    have e2 : (N : Int) - ((j + 1 : Nat) : Int) = (N : Int) - (j : Nat) - 1 := by omega
    rw [e1, e2]; exact z
inductive CEnd {σ : Type} (J : σ → Prop) (Hf : σ → AH) (H : AH) : Prop
  | mk (s' : σ) (j : J s') (h : Sub (Hf s') H)
inductive CYield (D : Addr) (y : V) (H3 : AH) (R : AH → Prop) : Prop
  | mk (ys : List V) (e : H3 D = some (.list ys)) (hl : ys.length < 1000) (h : R (H3.set D (.list (ys ++ [y]))))
noncomputable def CTurn (c : Cx) (A : Around) (env : Env) (elt : Expr) (ifs : List Expr) (i : Nat) (lo : Int) (D C : Addr) {σ : Type} (J : Nat → σ → Prop) (Hf : Nat → σ → AH) (j : Nat) (s : σ) : Prop :=
  WB c A C [(i, .int (lo + (j : Nat)))] (testsOf ifs env) (fun b H2 =>
    if b then WE c A C [(i, .int (lo + (j : Nat)))] (eval elt env) (fun y H3 => CYield D y H3 (CEnd (J (j + 1)) (Hf (j + 1)))) H2
    else CEnd (J (j + 1)) (Hf (j + 1)) H2) (Hf j s)
theorem comp_loop {R : Result → Shared → Prop} {elt iter : Expr} {ifs : List Expr} {x : Str} {i : Nat} {px pos : Pos} {scope : Scope} {ksC : List (Nat × NameKind)} {n : Nat} (hA : AOk n A) {C It D : Addr} (KC : EnvOk env C ksC) (hi : nid x = some i) (hk : ksC.lookup i = some .local)
    {s1 : Shared} {H1 H0 : AH} (hIC : It ≠ C) (hbI : c.h₀.get? It = none) (nI : s1.heap.get? It = none) {N : Nat} {lo : Int} {σ : Type} {J : Nat → σ → Prop} {Hf : Nat → σ → AH} {s0 : σ}
    (turn : ∀ j s, j < N → J j s → Hf j s C = none → CTurn c A env elt ifs i lo D C J Hf j s)
    (out : ∀ st loc2 H2 s2, J N st → Sub (Hf N st) H2 → Abs c C loc2 H2 s2 → Step C H1 s1 H2 s2 → R (.ok .next) s2)
    {s₃ : Shared} (a4 : Abs c C [] H0 s₃) (S4 : Step C H1 s1 H0 s₃) (hHI : H0 It = none) (hit₁ : IsRangeIter s₃.heap It lo ((N : Nat) : Int) 1) (hJ0 : J 0 s0) (hS0 : Sub (Hf 0 s0) H0) :
    codeAny c.M A (.compLoop (.ListComp elt [⟨.Name x px, iter, ifs, 0⟩] scope pos) 0 (.ref It) (.ref D) env) R s₃ := by
  refine codeAny_compLoop_tests (fun k s' => CInv c C H1 s1 It lo N J Hf k s') (fun k s2 h => ?_) (N + 1) ⟨0, s0, [], _, rfl, Nat.zero_le _, a4, S4, hHI, by simpa using hit₁, hJ0, hS0⟩
  clear a4 S4 hHI hit₁ hJ0 hS0
  obtain ⟨j, st, loc2, H2', rfl, hj, a2, S2, hHI2, hit2, hJ, hSub⟩ := h
  rcases Nat.lt_or_ge j N with hlt | hge
  · clear out
    refine wpAny_pyNext_range_item hit2 (by omega) fun h' hit' hsb => ?_
    have kk : ∀ b o, b ≠ It → s2.heap.get? b = some o → h'.get? b = some o := fun b o hb e => (hsb.2 b hb).trans e
    refine PyProof.Rows.assign_Name (store_wp KC hi hk (a2.ext (t := s2.toks + 1) hIC hHI2 hbI (noTupR hit2) kk) (rI _ (lo + (j : Nat)) _) fun s4 a4 S4 => ?_)
    have hit4 : IsRangeIter s4.heap It (lo + (j : Nat) + 1) ((N : Int) - (j : Nat) - 1) 1 := S4.keep It _ hit' hIC hHI2
    have a4' := a4.less (loc' := [(i, .int (lo + (j : Nat)))]) (H' := Hf j st) (LSub.cons (by rw [List.lookup_cons, beq_self_eq_true]) LSub.nil) hSub
    have S34 := (S2.ext nI kk).trans S4
    clear S4 kk hsb hit' a2 S2 hit2 a4
    refine wpAny_mono (turn j st hlt hJ a4'.noL s4 a4') (fun b s5 q => ?_) fun _ _ e => e.elim
    clear turn hJ
    obtain ⟨H5, a5, S5, q⟩ := q
    cases b with
    | false =>
      obtain ⟨s', j1, j2⟩ := (show CEnd _ _ _ from q)
      exact CInv.close hIC hlt S34 hSub hHI2 hit4 a5 S5 j1 j2
    | true =>
      refine wpAny_mono ((show WE _ _ _ _ _ _ _ from q) s5 a5) (fun y s6 q => ?_) fun _ _ e => e.elim
      obtain ⟨Y, H6, r6, a6, S6, ys, hys, hyl, s', j1, j2⟩ := q
      obtain ⟨ws, m, g6, rl⟩ := a6.list hys
      refine append_at g6 (fun h7 hs7 ho7 => ?_) (by simp only [List.size_toArray]; rw [rl.length, sizeLine_eq]; omega)
      have tu := a6.tups_upd hys hs7
      have a7 := a6.upd (o' := .list (ys ++ [Y])) (t := s6.toks) hys hs7 (RelO.list_mk (vs := ws ++ [y]) (n := m + 1) (by rw [ho7]; simp) ((RelL.mono tu _ _ rl).snoc (Rel.mono tu _ _ r6)))
      exact CInv.close hIC hlt S34 hSub hHI2 hit4 a7 ((S5.trans S6).trans (Step.upd (L := C) (o' := .list (ys ++ [Y])) (t := s6.toks) hys hs7)) j1 j2
  · obtain rfl : j = N := Nat.le_antisymm hj hge
    refine wpAny_pyNext_range_end hA.1 hit2 (by simp) fun h' hext => ?_
    have kk : ∀ b o, b ≠ It → s2.heap.get? b = some o → h'.get? b = some o := fun b o hb e => hext b o hb e
    exact out st loc2 H2' _ hJ hSub (a2.ext (t := s2.toks) hIC hHI2 hbI (noTupR hit2) kk) (S2.ext nI kk)
inductive CRun (c : Cx) (A : Around) (env : Env) (scope : Scope) (cl : List (Str × Addr)) (elt : Expr) (ifs : List Expr) (i : Nat) (lo hi : Int) (H1 : AH) (D : Addr) (Fin : AH → Prop) : Prop
  | mk (σ : Type) (J : Nat → σ → Prop) (Hf : Nat → σ → AH) (s0 : σ) (hJ0 : J 0 s0) (hS0 : Sub (Hf 0 s0) (H1.set D (.list [])))
    (turn : ∀ C j s, j < (hi - lo).toNat → J j s → Hf j s C = none → CTurn c A (compEnvC scope cl C env) elt ifs i lo D C J Hf j s)
    (fin : ∀ s H', J (hi - lo).toNat s → Sub (Hf (hi - lo).toNat s) H' → Fin H')
theorem CRun.of {scope : Scope} {cl : List (Str × Addr)} {elt : Expr} {ifs : List Expr} {i : Nat} {lo hi : Int} {H1 : AH} {D : Addr} {Fin : AH → Prop} {N : Nat} (hN : (hi - lo).toNat = N) (σ : Type) (J : Nat → σ → Prop) (Hf : Nat → σ → AH) (s0 : σ) (hJ0 : J 0 s0) (hS0 : Sub (Hf 0 s0) (H1.set D (.list [])))
    (turn : ∀ C j s, j < N → J j s → Hf j s C = none → CTurn c A (compEnvC scope cl C env) elt ifs i lo D C J Hf j s) (fin : ∀ s H', J N s → Sub (Hf N s) H' → Fin H') : CRun c A env scope cl elt ifs i lo hi H1 D Fin := by
  subst hN; exact ⟨σ, J, Hf, s0, hJ0, hS0, turn, fin⟩
inductive CIter (c : Cx) (A : Around) (env : Env) (scope : Scope) (cl : List (Str × Addr)) (elt : Expr) (ifs : List Expr) (i : Nat) (Fin : Addr → AH → Prop) (v : V) (H1 : AH) : Prop
  | mk (d : Addr) (lo hi : Int) (e : v = .ref d) (hd : H1 d = some (.rng lo hi)) (b1 : -1000 ≤ lo) (b2 : lo ≤ 1000) (b3 : -1000 ≤ hi) (b4 : hi ≤ 1000) (h : ∀ D, H1 D = none → CRun c A env scope cl elt ifs i lo hi H1 D (Fin D))
theorem comp_set {R' : Result → Shared → Prop} {Fin : Addr → AH → Prop} {elt iter : Expr} {ifs : List Expr} {x : Str} {i : Nat} {px pos : Pos} {scope : Scope} {cl : List (Str × Addr)} {ksC : List (Nat × NameKind)} {n : Nat} {s1 : Shared} {H1 : AH} {lo hi' : Int} {oI oF : Obj} {h₁ : Heap} {m₁ : Str → Option Value} (hA : AOk n A)
    (hi : nid x = some i) (hk : ksC.lookup i = some .local) (KC : ∀ C, EnvOk (compEnvC scope cl C env) C ksC)
    (p : ∀ D, H1 D = none → CRun c A env scope cl elt ifs i lo hi' H1 D (Fin D)) (a1 : Abs c L loc H1 s1) (eI : oI = { cls := .type "range_iterator", data := .fields #[rawInt lo, rawInt (((hi' - lo).toNat : Nat) : Int), rawInt 1] })
    (hns : h₁.Ns ((s1.heap.push oI).push { cls := .type "list", data := .seq #[] }).objs.size m₁) (hsb : Heap.SameBut ((s1.heap.push oI).push { cls := .type "list", data := .seq #[] }).objs.size (((s1.heap.push oI).push { cls := .type "list", data := .seq #[] }).push oF) h₁)
    (out : ∀ loc2 H2 s2, Abs c ((s1.heap.push oI).push { cls := .type "list", data := .seq #[] }).objs.size loc2 H2 s2 → Step ((s1.heap.push oI).push { cls := .type "list", data := .seq #[] }).objs.size H1 s1 H2 s2 → L ≠ ((s1.heap.push oI).push { cls := .type "list", data := .seq #[] }).objs.size →
      s1.heap.get? ((s1.heap.push oI).push { cls := .type "list", data := .seq #[] }).objs.size = none → Fin (s1.heap.push oI).objs.size H2 → R' (.ok .next) s2) :
    codeAny c.M A (.compStart (.ListComp elt [⟨.Name x px, iter, ifs, 0⟩] scope pos) 0 (.ref s1.heap.objs.size) (.ref (s1.heap.push oI).objs.size) (compEnvC scope cl ((s1.heap.push oI).push { cls := .type "list", data := .seq #[] }).objs.size env)) R' { s1 with heap := h₁, toks := s1.toks + ([] : List (Str × Value)).length } := by
  have none1 : ∀ (b : Addr), @LE.le Nat _ s1.heap.objs.size b → s1.heap.get? b = none := fun b hb => by
    cases e : s1.heap.get? b with
    | none => rfl
    | some o => exact absurd (Heap.lt_size e) (Nat.not_lt.mpr hb)
  have hD' : (s1.heap.push oI).objs.size = s1.heap.objs.size + 1 := Heap.size_push ..
  have hC' : ((s1.heap.push oI).push { cls := .type "list", data := .seq #[] }).objs.size = s1.heap.objs.size + 2 := by rw [Heap.size_push, hD']
  have gD : ((s1.heap.push oI).push { cls := .type "list", data := .seq #[] }).get? (s1.heap.push oI).objs.size = some (W.listOf ([] : List Value).toArray 0) := Heap.get?_push_size _ rfl
  have gI : ((s1.heap.push oI).push { cls := .type "list", data := .seq #[] }).get? s1.heap.objs.size = some oI := Heap.get?_push_of_some _ (Heap.get?_push_size _ (by rw [eI]; rfl))
  have gO : ∀ b o, s1.heap.get? b = some o → ((s1.heap.push oI).push { cls := .type "list", data := .seq #[] }).get? b = some o := fun b o e => Heap.get?_push_of_some _ (Heap.get?_push_of_some _ e)
  generalize ((s1.heap.push oI).push { cls := .type "list", data := .seq #[] }) = H2 at hC' gD gI gO hns hsb out ⊢
  generalize H2.objs.size = C at hC' hns hsb out ⊢
  generalize (s1.heap.push oI).objs.size = D at hD' gD out ⊢
  have eIC : s1.heap.objs.size ≠ C := by omega
  have eDC : D ≠ C := by omega
  have lt1 : ∀ (b : Addr) o, s1.heap.get? b = some o → b ≠ C := fun b o e => by
    have : @LT.lt Nat _ b s1.heap.objs.size := Heap.lt_size e
    show @Ne Nat b C; omega
  have old : ∀ b o, s1.heap.get? b = some o → h₁.get? b = some o := fun b o e => hsb.extBut b o (lt1 b o e) (Heap.get?_push_of_some _ (gO b o e))
  have hit₁ : IsRangeIter h₁ s1.heap.objs.size lo (((hi' - lo).toNat : Nat) : Int) 1 := by
    have := hsb.extBut _ oI eIC (Heap.get?_push_of_some _ gI)
    rw [eI] at this; exact this
  have hacc : h₁.get? D = some (W.listOf ([] : List Value).toArray 0) := hsb.extBut D _ eDC (Heap.get?_push_of_some _ gD)
  clear hsb gD gI gO eI
  have hD0 : H1 D = none := a1.none_of (none1 D (by omega))
  obtain ⟨σ, J, Hf, s0, hJ0, hS0, turn, fin⟩ := p D hD0
  clear p
  have hbI : c.h₀.get? s1.heap.objs.size = none := by
    cases e : c.h₀.get? s1.heap.objs.size with
    | none => rfl
    | some o => exact absurd (Heap.lt_size (a1.base _ _ e)) (Nat.lt_irrefl _)
  have hLlt : @LT.lt Nat _ L s1.heap.objs.size := a1.L_lt
  have hlo : @LE.le Nat _ c.h₀.objs.size L := a1.lo
  have a4 : Abs c C [] (H1.set D (.list [])) { s1 with heap := h₁, toks := s1.toks + ([] : List (Str × Value)).length } := by
    refine ⟨fun b o e => old b o (a1.base b o e), (by show @LE.le Nat _ _ C; omega), ⟨_, hns, fun x i v e e' => by simp at e'⟩, fun b o e => ?_⟩
    by_cases hb : b = D
    · rw [hb, AH.set_same] at e; cases e
      rw [hb]
      exact ⟨(by show @LE.le Nat _ _ D; omega), eDC, [], 0, hacc, rfl⟩
    · rw [AH.set_ne _ _ hb] at e
      obtain ⟨p1, p2, p3⟩ := a1.obj b o e
      refine ⟨p1, ?_, RelO.mono (fun b items t => t.keeps old) (fun y e => old _ _ e) _ p3⟩
      rintro rfl; rw [a1.none_of (none1 _ (by omega))] at e; cases e
  have S4 : Step C H1 s1 (H1.set D (.list [])) { s1 with heap := h₁, toks := s1.toks + ([] : List (Str × Value)).length } := Step.made _ old (none1 D (by omega)) _
  have fin' : ∀ st loc2 H2 s2, J (hi' - lo).toNat st → Sub (Hf (hi' - lo).toNat st) H2 → Abs c C loc2 H2 s2 → Step C H1 s1 H2 s2 → R' (.ok .next) s2 := fun st loc2 H2 s2 hJ hS a S => out loc2 H2 s2 a S (by show @Ne Nat L C; omega) (none1 C (by omega)) (fin st H2 hJ hS)
  have hHI : (H1.set D (.list [])) s1.heap.objs.size = none := by rw [AH.set_ne _ _ (by show @Ne Nat _ D; omega)]; exact a1.none_of (none1 _ (Nat.le_refl _))
  have loop := comp_loop (R := R') (iter := iter) (px := px) (pos := pos) (scope := scope) hA (KC C) hi hk eIC hbI (none1 _ (Nat.le_refl _)) (turn C) fin' a4 S4 hHI hit₁ hJ0 hS0
  exact codeAny_compStart_list loop (wpAny_pyIter_rangeiter (s := { s1 with heap := h₁, toks := s1.toks + ([] : List (Str × Value)).length }) hit₁ loop)
theorem comp_core {Fin : Addr → AH → Prop} {use : Option (Value → Sem Unit)} {R : Value → Shared → Prop} {elt iter : Expr} {ifs : List Expr} {x : Str} {i : Nat} {px pos pos' : Pos} {scope : Scope} {cl : List (Str × Addr)} {ksC : List (Nat × NameKind)} {n : Nat} {s : Shared} (hA : AOk n A)
    (hclos : closureFor scope env = pure cl) (hcell : ∀ y ∈ scope.names, y.2 ≠ .cell) (hkind : scope.kind = .function) (hnames : ∀ y ∈ scope.names, y.2 = .local → scope.names.lookup y.1 = some .local)
    (hi : nid x = some i) (hk : ksC.lookup i = some .local) (KC : ∀ C, EnvOk (compEnvC scope cl C env) C ksC)
    (h : WE c A L loc (eval iter env) (CIter c A env scope cl elt ifs i Fin) H) (hs : ∀ x, foldedSetIterable iter env x = pure x) (a : Abs c L loc H s)
    (out : ∀ H1 s1 s2 loc2 H2 C D, Abs c L loc H1 s1 → Step L H s H1 s1 → Abs c C loc2 H2 s2 → Step C H1 s1 H2 s2 → L ≠ C → s1.heap.get? C = none → Fin D H2 → compPost c.M A NoE use R (.ref D) C (.ok .next) s2) :
    wpAny c.M A (comprehension (.ListComp elt [⟨.Name x px, iter, ifs, 0⟩] scope pos) scope env pos' (newList []) false (eval iter env) use) R NoE s := by
  refine wpAny_comprehension_free rfl hs hclos hkind hnames (wpAny_mono (h s a) (fun v s1 p => ?_) fun _ _ e => e)
  obtain ⟨V1, H1, r1, a1, S1, d, lo, hi', rfl, hd, b1, b2, b3, b4, p⟩ := p
  have e1 : v = .ref d := r1
  subst e1
  obtain ⟨t1, u1, v1, g⟩ := (a1.obj _ _ hd).2.2
  clear h
  refine wpAny_pyIter_range g ?_ ?_
  · unfold Builtin.Range.small
    rw [rangeSize_nat]
    simp only [Builtin.Range.rangeFitsLong, Bool.and_eq_true, decide_eq_true_eq, Bool.or_eq_true, beq_iff_eq]
    refine ⟨⟨⟨⟨⟨?_, ?_⟩, ⟨?_, ?_⟩⟩, ⟨?_, ?_⟩⟩, ⟨?_, ?_⟩⟩, .inr ?_⟩ <;> first | omega | skip
    rw [if_pos (by decide)]
    simp only [Bool.and_eq_true, decide_eq_true_eq]
    omega
  rw [rangeSize_nat]
  refine wpAny_newObj_type (wpAny_newFunctionEnv hcell (by intro y hy; simp at hy) (fun h₁ hns₁ hsb₁ => ?_) hkind)
  exact comp_set hA hi hk KC p a1 rfl hns₁ hsb₁ fun loc2 H2 s2 a2 S2 e1 e2 f => out _ _ _ _ _ _ _ a1 S1 a2 S2 e1 e2 f
theorem comp_leave {C : Addr} {loc2 : Loc} {H1 H2 : AH} {s1 s2 : Shared} (a1 : Abs c L loc H1 s1) (a3 : Abs c C loc2 H2 s2) (S3 : Step C H1 s1 H2 s2) (hLC : L ≠ C) (nC : s1.heap.get? C = none) : Abs c L loc H2 s2 ∧ Step L H1 s1 H2 s2 := by
  have ne : ∀ b o, s1.heap.get? b = some o → b ≠ C := fun b o e h => by rw [h, nC] at e; cases e
  have hH2L : H2 L = none := by
    cases e : H2 L with
    | none => rfl
    | some o =>
      rcases S3.dom L (by rw [e]; exact Option.some_ne_none _) with h | h | h
      · exact absurd a1.noL h
      · obtain ⟨m', ⟨o', es, ep, g', _⟩, _⟩ := a1.ns
        rw [g'] at h; cases h
      · exact absurd h hLC
  refine ⟨⟨a3.base, a1.lo, ?_, fun b o e => ?_⟩, fun b o e1 e2 e3 => S3.keep _ _ e1 (ne _ _ e1) e3, fun b e => ?_, S3.rest⟩
  · obtain ⟨m', ⟨o', es, ep, g', r'⟩, q⟩ := a1.ns
    exact ⟨m', ⟨o', es, ep, S3.keep _ _ g' hLC a1.noL, r'⟩, fun x i v e e' => by
      obtain ⟨y, y1, y2⟩ := q x i v e e'
      exact ⟨y, y1, Rel.mono (fun b items t => by
        have hb := a1.tupNotHere t
        obtain ⟨o, ho, r⟩ := t
        exact ⟨o, S3.keep _ _ ho (ne _ _ ho) hb.2, r⟩) _ _ y2⟩⟩
  · obtain ⟨q1, q2, q3⟩ := a3.obj b o e
    refine ⟨q1, ?_, q3⟩
    rintro rfl; rw [hH2L] at e; cases e
  · rcases S3.dom b e with h | h | h
    · exact .inl h
    · exact .inr (.inl h)
    · exact .inr (.inl (h ▸ nC))
theorem comp_gone {C : Addr} {H1 H2 : AH} {s1 s2 : Shared} {m : Str → Option Value} {h' : Heap} (a : Abs c L loc H2 s2) (S : Step L H1 s1 H2 s2) (hLC : L ≠ C) (nC : s1.heap.get? C = none) (hb : c.h₀.get? C = none) (hH : H2 C = none) (hm : s2.heap.Ns C m) (hs : Heap.SameBut C s2.heap h') : Abs c L loc H2 { s2 with heap := h' } ∧ Step L H1 s1 H2 { s2 with heap := h' } := by
  obtain ⟨oC, esC, epC, gC, rC⟩ := hm
  have kC : ∀ b o, b ≠ C → s2.heap.get? b = some o → h'.get? b = some o := fun b o hb e => (hs.2 b hb).trans e
  have ntC : ∀ items, ¬ IsTup s2.heap C items := fun items ⟨o', ho', hc', n', hd'⟩ => by
    rw [gC] at ho'; cases ho'; rw [rC.1] at hd'; cases hd'
  exact ⟨a.ext (t := s2.toks) hLC.symm hH hb ntC kC, S.ext (it := C) (t := s2.toks) nC kC⟩
theorem Abs.noBase {C : Addr} {s1 : Shared} {H1 : AH} (a1 : Abs c L loc H1 s1) (nC : s1.heap.get? C = none) : c.h₀.get? C = none := by
  cases e : c.h₀.get? C with
  | none => rfl
  | some o => rw [a1.base _ _ e] at nC; cases nC
theorem E_comp {Q : V → AH → Prop} {elt iter : Expr} {ifs : List Expr} {x : Str} {i : Nat} {px pos : Pos} {scope : Scope} {cl : List (Str × Addr)} {ksC : List (Nat × NameKind)} {n : Nat} (hA : AOk n A)
    (hclos : closureFor scope env = pure cl) (hcell : ∀ y ∈ scope.names, y.2 ≠ .cell) (hkind : scope.kind = .function) (hnames : ∀ y ∈ scope.names, y.2 = .local → scope.names.lookup y.1 = some .local)
    (hi : nid x = some i) (hk : ksC.lookup i = some .local) (KC : ∀ C, EnvOk (compEnvC scope cl C env) C ksC)
    (h : WE c A L loc (eval iter env) (CIter c A env scope cl elt ifs i fun D => Q (.ref D)) H)
    (hs : ∀ x, foldedSetIterable iter env x = pure x) :
    WE c A L loc (eval (.ListComp elt [⟨.Name x px, iter, ifs, 0⟩] scope pos) env) Q H := fun s a => by
  rw [eval_ListComp]
  refine comp_core hA hclos hcell hkind hnames hi hk KC h hs a fun H1 s1 s2 loc2 H2 C D a1 S1 a2 S2 hLC nC f => ?_
  obtain ⟨aO, SO⟩ := comp_leave a1 a2 S2 hLC nC
  obtain ⟨m, hm, _⟩ := a2.ns
  refine ⟨m, hm, fun h' hs' => ?_⟩
  obtain ⟨a5, S5⟩ := comp_gone aO SO hLC nC (a1.noBase nC) a2.noL hm hs'
  exact ⟨.ref D, H2, rR _ _, a5, S1.trans S5, f⟩
end
end Mine
namespace Mine
section
variable {c : Cx} {A : Around} {L : Addr} {loc : Loc} {H : AH} {env : Env} {ks : List (Nat × NameKind)}
theorem isCell_relO {h : Heap} {d : Addr} {v : Value} {x : V} (g : h.IsCell d (some v)) (r : Rel h v x) : RelO c h d (.cell (some x)) := by
  obtain ⟨o, e, e'⟩ := g
  exact ⟨o, some v, e, e', fun y hy => by cases hy; exact ⟨v, rfl, r⟩⟩
theorem fn_enter_c3 {n : Nat} {f : Addr} {oc : Value} {od : Option Addr} {osl : Array (Option Value)} {name qual : Str} {params : Arguments} {body : List Stmt} {scope : Scope} {dV kV doc pm cdv ct : Value} {an : Option Addr} {x1 x2 x3 : V} {Q : V → AH → Prop}
    (ho : c.K.lookup f = some ⟨oc, od, .func (fnX name qual params body scope [] dV kV doc pm an cdv ct), osl⟩) (hcd : codeIn c.K cdv qual = true) (K : KOk scope ks) (p1 p2 p3 : Str)
    (hb : ∀ v1 v2 v3 : Value, bindArgs (fnX name qual params body scope [] dV kV doc pm an cdv ct) ⟨[v1, v2, v3], []⟩ = pure [(p1, v1), (p2, v2), (p3, v3)])
    (hcf : ∀ m, cellsFrom m scope.names [] = [(p3, m + 2), (p2, m + 1), (p1, m)]) (k1 : scope.names.lookup p1 = some .cell) (k2 : scope.names.lookup p2 = some .cell) (k3 : scope.names.lookup p3 = some .cell)
    (n12 : p1 ≠ p2) (n13 : p1 ≠ p3) (n23 : p2 ≠ p3) (hco : scope.isCoroutine = false) (hgen : scope.isGenerator = false)
    (h : ∀ A L env d1 d2 d3, AOk n A → EnvOk env L ks → env.scope = scope → env.cells = [(p3, d3), (p2, d2), (p1, d1)] → H d1 = none → H d2 = none → H d3 = none → d1 ≠ d2 → d1 ≠ d3 → d2 ≠ d3 →
      WS c A L (execs body env) (Back (Up Q)) [] (((H.set d1 (.cell (some x1))).set d2 (.cell (some x2))).set d3 (.cell (some x3)))) : FnSpec c (n + 1) f [x1, x2, x3] Q H := by
  refine FnSpec.drop ?_
  intro A s vs hA hbase hsz hH hr
  obtain ⟨v1, vs1, rfl, r1, hr⟩ := hr
  obtain ⟨v2, vs2, rfl, r2, hr⟩ := hr
  obtain ⟨v3, vs3, rfl, r3, hr⟩ := hr
  have : vs3 = [] := hr
  subst this
  have hcf' := hcf (s.heap.objs.size + 1)
  have b21 : (p2 == p1) = false := by simpa using Ne.symm n12
  have b31 : (p3 == p1) = false := by simpa using Ne.symm n13
  have b32 : (p3 == p2) = false := by simpa using Ne.symm n23
  have b12 : (p1 == p2) = false := by simpa using n12
  have b13 : (p1 == p3) = false := by simpa using n13
  have b23 : (p2 == p3) = false := by simpa using n23
  refine codeAny_call_cells (fd := fnX name qual params body scope [] dV kV doc pm an cdv ct) (body := body) (binds := [(p1, v1), (p2, v2), (p3, v3)]) hA.room (hbase _ _ (c.X _ _ ho)) rfl (c.NL.keeps hbase) (codeRec_of (c.X.keeps hbase) hcd) rfl (hb v1 v2 v3) rfl ?_ (fun s₁ X => ?_) hco hgen K.1
  · intro x hx
    right
    show scope.names.lookup x.1 = _ ∧ ((cellsFrom (s.heap.objs.size + 1) scope.names []).lookup x.1).isSome = true
    rw [hcf']
    simp only [List.mem_cons, List.not_mem_nil, or_false] at hx
    rcases hx with rfl | rfl | rfl
    · exact ⟨k1, by simp [List.lookup_cons, b13, b12]⟩
    · exact ⟨k2, by simp [List.lookup_cons, b23]⟩
    · exact ⟨k3, by simp [List.lookup_cons]⟩
  · generalize hE : callEnvC (fnX name qual params body scope [] dV kV doc pm an cdv ct) s.heap.objs.size f = env at X ⊢
    have eL : env.locals = s.heap.objs.size := by rw [← hE]; rfl
    have eS : env.scope = scope := by rw [← hE]; rfl
    have eC : env.cells = [(p3, s.heap.objs.size + 1 + 2), (p2, s.heap.objs.size + 1 + 1), (p1, s.heap.objs.size + 1)] := by rw [← hcf', ← hE]; rfl
    have KE : EnvOk env s.heap.objs.size ks := by rw [← hE]; exact ⟨K.1, rfl, rfl, rfl, K.2⟩
    have kd : ∀ x, env.kindOf x = scope.names.lookup x := fun x => by unfold Env.kindOf; rw [eS]
    obtain ⟨hh, tk, hs1⟩ := X.toInCall.same
    have hk := X.toInCall.keep
    have tu : ∀ b items, IsTup s.heap b items → IsTup s₁.heap b items := fun b items t => t.keeps hk
    have cc : ∀ x d v, env.cells.lookup x = some d → bindC env.kindOf [(p1, v1), (p2, v2), (p3, v3)] (fun _ => none) x = some v → s₁.heap.IsCell d (some v) := fun x d v e1 e2 => by
      have := X.cell x d e1
      rwa [e2] at this
    have q1 : bindC env.kindOf [(p1, v1), (p2, v2), (p3, v3)] (fun _ => none) = fun y => if y = p3 then some v3 else if y = p2 then some v2 else if y = p1 then some v1 else none := by
      simp only [bindC, kd, k1, k2, k3]
      rfl
    have c1 := cc p1 (s.heap.objs.size + 1) v1 (by rw [eC]; simp [List.lookup_cons, b13, b12]) (by rw [q1]; simp [n13, n12])
    have c2 := cc p2 (s.heap.objs.size + 1 + 1) v2 (by rw [eC]; simp [List.lookup_cons, b23]) (by rw [q1]; simp [n23])
    have c3 := cc p3 (s.heap.objs.size + 1 + 2) v3 (by rw [eC]; simp [List.lookup_cons]) (by rw [q1]; simp)
    have hn : ∀ k : Nat, H (s.heap.objs.size + k) = none := fun k => by
      cases e : H (s.heap.objs.size + k) with
      | none => rfl
      | some o =>
        obtain ⟨x, hx, _⟩ := (hH _ _ e).2.live
        exact absurd (Heap.lt_size hx) (Nat.not_lt.mpr (Nat.le_add_right _ _))
    have hne : ∀ j k : Nat, j ≠ k → (s.heap.objs.size + j : Nat) ≠ s.heap.objs.size + k := fun j k h e => h (Nat.add_left_cancel e)
    have a1 : Abs c s.heap.objs.size [] (((H.set (s.heap.objs.size + 1) (.cell (some x1))).set (s.heap.objs.size + 1 + 1) (.cell (some x2))).set (s.heap.objs.size + 1 + 2) (.cell (some x3))) s₁ := by
      refine ⟨fun b o e => hk b o (hbase b o e), hsz, ⟨_, eL ▸ X.toInCall.ns, fun x i v e e' => by simp at e'⟩, fun b o e => ?_⟩
      by_cases h3 : b = s.heap.objs.size + 1 + 2
      · subst h3; rw [AH.set_same] at e; cases e
        exact ⟨Nat.le_trans hsz (Nat.le_trans (Nat.le_add_right _ _) (Nat.le_add_right _ _)), hne 3 0 (by decide), isCell_relO c3 (Rel.mono tu _ _ r3)⟩
      · rw [AH.set_ne _ _ h3] at e
        by_cases h2 : b = s.heap.objs.size + 1 + 1
        · subst h2; rw [AH.set_same] at e; cases e
          exact ⟨Nat.le_trans hsz (Nat.le_trans (Nat.le_add_right _ _) (Nat.le_add_right _ _)), hne 2 0 (by decide), isCell_relO c2 (Rel.mono tu _ _ r2)⟩
        · rw [AH.set_ne _ _ h2] at e
          by_cases h1 : b = s.heap.objs.size + 1
          · subst h1; rw [AH.set_same] at e; cases e
            exact ⟨Nat.le_trans hsz (Nat.le_add_right _ _), hne 1 0 (by decide), isCell_relO c1 (Rel.mono tu _ _ r1)⟩
          · rw [AH.set_ne _ _ h1] at e
            refine ⟨(hH b o e).1, ?_, RelO.mono tu (fun y e => hk _ _ e) _ (hH b o e).2⟩
            rintro rfl
            have := hn 0
            rw [Nat.add_zero] at this
            rw [this] at e; cases e
    have W := h (A.deeper env) s.heap.objs.size env _ _ _ (hA.deeper _) KE eS eC (hn 1) (hn 2) (hn 3) (hne 1 2 (by decide)) (hne 1 3 (by decide)) (hne 2 3 (by decide)) _ a1
    refine wpAny_mono W (fun fl s' p => ?_) fun _ _ e => e.elim
    obtain ⟨x, l, H', r, a2, S2, q⟩ := p
    have hnone : s.heap.get? s.heap.objs.size = none := get?_size _
    have none1 : ∀ k : Nat, s.heap.get? (s.heap.objs.size + k) = none := fun k => by
      cases e : s.heap.get? (s.heap.objs.size + k) with
      | none => rfl
      | some o => exact absurd (Heap.lt_size e) (Nat.not_lt.mpr (Nat.le_add_right _ _))
    have fin : ∀ v X, Rel s'.heap v X → Up Q X H' → CPost c H s (Up Q) v s' := fun v X rv q => by
      refine ⟨X, H', rv, a2.hok, ⟨fun b o e hb => S2.keep b o (hk b o e) ?_ ?_, fun b e => ?_, ?_⟩, q⟩
      · rintro rfl; rw [hnone] at e; cases e
      · have lt : ∀ k : Nat, b ≠ s.heap.objs.size + k := fun k z => by subst z; rw [none1 k] at e; cases e
        rw [AH.set_ne _ _ (lt 3), AH.set_ne _ _ (lt 2), AH.set_ne _ _ (lt 1)]; exact hb
      · rcases S2.dom b e with h | h | h
        · by_cases h3 : b = s.heap.objs.size + 1 + 2
          · subst h3; exact .inr (none1 3)
          · rw [AH.set_ne _ _ h3] at h
            by_cases h2 : b = s.heap.objs.size + 1 + 1
            · subst h2; exact .inr (none1 2)
            · rw [AH.set_ne _ _ h2] at h
              by_cases h1 : b = s.heap.objs.size + 1
              · subst h1; exact .inr (none1 1)
              · rw [AH.set_ne _ _ h1] at h; exact .inl h
        · right
          cases e2 : s.heap.get? b with
          | none => rfl
          | some o => have := hk b o e2; rw [show s₁.heap.get? b = none from h] at this; cases this
        · subst h; exact .inr hnone
      · obtain ⟨g, t, e⟩ := S2.rest; exact ⟨g, t, by rw [e, hs1]⟩
    cases x with
    | next => have : fl = .next := r; subst this; exact ⟨_, rfl, fin _ _ (rN _) q⟩
    | brk => have : fl = .brk := r; subst this; exact ⟨_, rfl, fin _ _ (rN _) q⟩
    | cont => have : fl = .cont := r; subst this; exact ⟨_, rfl, fin _ _ (rN _) q⟩
    | ret v => obtain ⟨y, rfl, ry⟩ := r; exact ⟨_, rfl, fin _ _ ry q⟩
end
end Mine
namespace Mine
section
variable {prog : Program} {w : World} {K : Type} [DecidableEq K] {knd : KeyKind prog w K} {A : Around} {E : Value → Shared → Prop} {s : Shared}
theorem dictPut_new {d : Addr} {kvs : List (K × Value)} {k : K} {key v : Value} {Q : Unit → Shared → Prop} (hkey : knd.is k key = true) (hm : s.heap.DictOf knd d kvs) (hnot : k ∉ kvs.map (·.1))
    (hQ : ∀ h', h'.DictOf knd d (kvs ++ [(k, v)]) → Heap.SameBut d s.heap h' → Q () { s with heap := h' })
    (hsz : kvs.length ≤ sizeLine) : wpAny (model prog w) A (dictPut d (knd.hash k) key v) Q E s := by
  obtain ⟨o, es, ep, ho, hc, hd, hk, hp, hn⟩ := hm
  have hes : es.size ≤ sizeLine := by
    have e1 := hp.length
    have e2 : es.toList.length = es.size := by simp
    omega
  unfold dictPut
  refine wpAny_bind (wpAny_dictFind_of hkey ho hd hk ?_)
  have hidx : (es.findIdx? fun e => knd.is k e.key) = kvs.findIdx? fun kv => decide (kv.1 = k) := by
    rw [← hp.findIdx k]; obtain ⟨l⟩ := es; simp
  cases hi : es.findIdx? fun e => knd.is k e.key with
  | some i =>
    exfalso
    rw [hidx] at hi
    obtain ⟨h1, h2, _⟩ := List.findIdx?_eq_some_iff_getElem.mp hi
    exact hnot (List.mem_map.mpr ⟨kvs[i], List.getElem_mem h1, of_decide_eq_true h2⟩)
  | none =>
    refine wpAny_updateDictKeys (hz := hes) ho hd (hQ _ ⟨_, _, ep + 1, Heap.get?_update_self _ ho (Obj.isFreed_of_dict (Obj.data_mapDictKeys hd _)),
      hc.mapDictKeys _, Obj.data_mapDictKeys hd _, hk.push hkey _, ?_, ?_⟩ (Heap.SameBut.update ..))
    · have := hp.append hkey (knd.hash k) v
      obtain ⟨l⟩ := es
      simpa using this
    · rw [List.map_append, List.nodup_append]
      refine ⟨hn, by simp, ?_⟩
      intro a ha b hb
      simp only [List.map_cons, List.map_nil, List.mem_singleton] at hb
      subst hb
      exact fun e => hnot (e ▸ ha)
theorem merge_new {d a : Addr} {kvs more : List (K × Value)} {Q : Unit → Shared → Prop} (hda : d ≠ a) (hoS : (a == sysModules) = false)
    (hd : s.heap.DictOf knd d kvs) (ho : s.heap.DictOf knd a more) (hne : kvs ≠ []) (hnd : ((kvs ++ more).map (·.1)).Nodup)
    (hQ : ∀ h', h'.DictOf knd d (kvs ++ more) → Heap.SameBut d s.heap h' → Q () { s with heap := h' })
    (hsz : kvs.length + more.length ≤ sizeLine) :
    wpAny (model prog w) A (mergeMapping d (.ref a) false) Q E s := by
  obtain ⟨od, esd, epd, hod, hcd, hdd, hkd, hpd, hnd1⟩ := id hd
  obtain ⟨oo, eso, epo, hoo, hco, hdo', hko, hpo, hno⟩ := id ho
  have hlen : more.length = eso.size := by rw [← hpo.length]; simp
  unfold mergeMapping
  refine wpAny_bind (wpAny_isInstance ho.typeIs isSubtype_dict_dict ?_)
  simp only [if_true]
  refine wpAny_bind (wpAny_specialOf ho.typeIs PySem.F.slot_dict_iter.lookup (wpAny_bind (wpAny_pure ?_)))
  simp only [beq_self_eq_true]
  rw [if_neg (by rw [hoS]; exact Bool.false_ne_true)]
  refine wpAny_bind (wpAny_dictEntries hod hdd ?_)
  have hem : esd.isEmpty = false := by
    cases e : esd.isEmpty with
    | false => rfl
    | true =>
      have h0 : esd = #[] := Array.isEmpty_iff.mp e
      have := hpd.length; rw [h0] at this
      exact absurd (List.length_eq_zero_iff.mp (by simpa using this.symm)) hne
  rw [hem]
  simp only [Bool.false_eq_true, if_false]
  refine wpAny_bind (wpAny_dictEntries hoo hdo' ?_)
  refine wpAny_bind (wpAny_dictEpoch hoo hdo' ?_)
  refine wpAny_bind ?_
  rw [List.range_eq_range']
  refine wpAny_forIn_list _
    (fun rest _ s' => ∃ h' i, s' = { s with heap := h' } ∧ rest = List.range' i (eso.size - i) ∧ i ≤ eso.size ∧ h'.DictOf knd d (kvs ++ more.take i) ∧ h'.get? a = some oo ∧ Heap.SameBut d s.heap h')
    _ ?_ ?_ _ _ ⟨s.heap, 0, rfl, by simp, Nat.zero_le _, by simpa using hd, hoo, Heap.SameBut.refl _ _⟩
  · rintro x rest b s' ⟨h', i, rfl, hr, hi, hd', hoo', hs'⟩
    have hlt : i < eso.size := by
      rcases Nat.lt_or_ge i eso.size with h | h
      · exact h
      · rw [Nat.sub_eq_zero_of_le h] at hr; simp at hr
    obtain ⟨rfl, hrest⟩ : x = i ∧ rest = List.range' (i + 1) (eso.size - (i + 1)) := by
      have e : eso.size - i = (eso.size - (i + 1)) + 1 := by omega
      rw [e, List.range'_succ] at hr
      injection hr with h1 h2
      exact ⟨h1, h2⟩
    refine wpAny_bind (wpAny_dictEntries hoo' hdo' ?_)
    rw [Array.getElem?_eq_getElem hlt]
    obtain ⟨kv, hkv⟩ : ∃ kv, more[x]? = some kv := ⟨more[x]'(by rw [hlen]; exact hlt), List.getElem?_eq_getElem _⟩
    obtain ⟨k, v⟩ := kv
    obtain ⟨hkey, hval⟩ := hpo.get? (e := eso[x]) (by simp [hlt]) hkv
    obtain ⟨k', hkey', hhash⟩ := hko eso[x] (Array.getElem_mem hlt)
    obtain rfl : k' = k := knd.inj _ _ _ hkey' hkey
    have htake : more.take (x + 1) = more.take x ++ [(k', v)] := by rw [List.take_add_one, hkv]; rfl
    have hnot : k' ∉ (kvs ++ more.take x).map (·.1) := by
      have e1 : kvs ++ more = (kvs ++ more.take x) ++ ((k', v) :: more.drop (x + 1)) := by
        have := List.take_append_drop x more
        rw [List.drop_eq_getElem_cons (by rw [hlen]; exact hlt)] at this
        have e2 : more[x]'(by rw [hlen]; exact hlt) = (k', v) := by
          have := List.getElem?_eq_getElem (l := more) (i := x) (by rw [hlen]; exact hlt)
          rw [hkv] at this; exact (Option.some.inj this).symm
        rw [e2] at this
        rw [List.append_assoc, this]
      rw [e1, List.map_append, List.nodup_append] at hnd
      intro hm
      exact hnd.2.2 _ hm _ (by simp) rfl
    refine wpAny_bind (wpAny_holding ?_)
    rw [hhash, hval]
    refine dictPut_new (s := { s with heap := h' }) hkey hd' hnot (fun h'' hd'' hs'' => ?_) (by rw [List.length_append, List.length_take]; omega)
    have hoo'' : h''.get? a = some oo := (hs''.2 a (Ne.symm hda)).trans hoo'
    refine wpAny_bind (wpAny_dictEpoch hoo'' hdo' ?_)
    rw [if_neg (by simp)]
    exact wpAny_pure ⟨h'', x + 1, rfl, hrest, hlt, by rw [htake, ← List.append_assoc]; exact hd'', hoo'', hs'.trans hs''⟩
  · rintro b s' ⟨h', i, rfl, hr, hi, hd', hoo', hs'⟩
    have hin : i = eso.size := by
      rcases Nat.lt_or_ge i eso.size with h | h
      · have e : eso.size - i = (eso.size - (i + 1)) + 1 := by omega
        rw [e, List.range'_succ] at hr; exact nomatch hr
      · exact Nat.le_antisymm hi h
    refine wpAny_pure (hQ h' ?_ hs')
    rw [hin, ← hlen, List.take_length] at hd'; exact hd'
theorem gather2 (f : (Option (Sem Value) × Sem Value) → (Option Addr × List (Sem Value × Sem Value)) → Sem (ForInStep (Option Addr × List (Sem Value × Sem Value))))
    (hf : ∀ (m : Option Addr) (p : Sem Value × Sem Value) (run : List (Sem Value × Sem Value)), run.length + 1 < 17 → f (some p.1, p.2) (m, run) = pure (.yield (m, run ++ [p]))) (m : Option Addr) (rest : List (Option (Sem Value) × Sem Value)) :
    ∀ (items run : List (Sem Value × Sem Value)), run.length + items.length < 17 → forIn (items.map (fun p => (some p.1, p.2)) ++ rest) (m, run) f = forIn rest (m, run ++ items) f
  | [], run, _ => by simp
  | p :: r, run, h => by
    rw [List.map_cons, List.cons_append, List.forIn_cons, hf m p run (by simp at h; omega), pure_bind]
    have := gather2 f hf m rest r (run ++ [p]) (by simp at h ⊢; omega)
    simpa using this
theorem display_long {as : List (Sem Value × Sem Value)} {p : Sem Value × Sem Value} {bs : List (Sem Value × Sem Value)} (ha : as.length = 16) (hb : bs.length < 16) (hb0 : bs ≠ []) {Q : Value → Shared → Prop}
    (h : wpAny (model prog w) A (subDict (as ++ [p])) (fun d s1 => wpAny (model prog w) A (subDict bs) (fun e s2 => wpAny (model prog w) A (mergeMapping d (.ref e) false) (fun _ s3 => Q (.ref d) s3) (fun _ _ => False) s2) E s1) E s) :
    wpAny (model prog w) A (dictDisplay (as.map (fun p => (some p.1, p.2)) ++ (some p.1, p.2) :: bs.map (fun p => (some p.1, p.2)))) Q E s := by
  unfold dictDisplay
  dsimp only
  have hf : ∀ (m : Option Addr) (p : Sem Value × Sem Value) (run : List (Sem Value × Sem Value)), run.length + 1 < 17 → ((run ++ [(p.1, p.2)]).length == 17) = false := fun m p run h => by simp; omega
  rw [gather2 _ (fun m p run h => by simp only [hf m p run h, Bool.false_eq_true, if_false]) none _ as [] (by simp [ha])]
  rw [List.forIn_cons]
  have h17 : (([] ++ as ++ [(p.1, p.2)]).length == 17) = true := by simp [ha]
  simp only [h17, if_true]
  have hne : ([] ++ as ++ [(p.1, p.2)]).isEmpty = false := by simp
  simp only [hne, Bool.false_eq_true, if_false]
  refine wpAny_bind (wpAny_bind (wpAny_bind (wpAny_bind (wpAny_mono h (fun d s1 h1 => ?_) fun _ _ e => e))))
  refine wpAny_pure (wpAny_pure ?_)
  dsimp only
  rw [← List.append_nil (List.map _ bs)]
  rw [gather2 _ (fun m p run h => by simp only [hf m p run h, Bool.false_eq_true, if_false]) (some d) [] bs [] (by simp; omega), List.forIn_nil]
  refine wpAny_pure ?_
  have hbe : ([] ++ bs).isEmpty = false := by cases bs with | nil => exact absurd rfl hb0 | cons _ _ => rfl
  simp only [hbe, Bool.false_eq_true, if_false]
  refine wpAny_bind (wpAny_bind (wpAny_holding (wpAny_mono h1 (fun e s2 h2 => ?_) fun _ _ e => e)))
  refine wpAny_bind (wpAny_onRaise (wpAny_holding (wpAny_mono h2 (fun _ s3 h3 => ?_) fun _ _ e => e.elim)))
  exact wpAny_pure (wpAny_pure h3)
end
end Mine
namespace Mine
noncomputable def GivesStr (prog : Program) (w : World) (A : Around) (m : Sem Value) (a : String) : Prop := ∀ (Q : Value → Shared → Prop) (E : Value → Shared → Prop) (s : Shared), Q (.str (Str.ofString a) s.toks) { s with toks := s.toks + 1 } → wpAny (model prog w) A m Q E s
theorem gives_const {prog : Program} {w : World} {A : Around} {a : String} {k : Nat} {p : Pos} {env : Env} : GivesStr prog w A (eval (.Constant (.str (Str.ofString a)) k p) env) a := fun Q E s h => wpAny_Constant_str h
theorem gives_const' {prog : Program} {w : World} {A : Around} {a : String} {k : Nat} {p pos : Pos} {env : Env} : GivesStr prog w A (do let x ← eval (.Constant (.str (Str.ofString a)) k p) env; standAt pos; pure x) a := fun Q E s h =>
  wpAny_bind (wpAny_Constant_str (wpAny_bind (wpAny_standAt (wpAny_pure h))))
inductive AllGive (prog : Program) (w : World) (A : Around) : List (Sem Value × Sem Value) → List (String × String) → Prop
  | nil : AllGive prog w A [] []
  | cons {k v : Sem Value} {r : List (Sem Value × Sem Value)} {a b : String} {l : List (String × String)} : GivesStr prog w A k a → GivesStr prog w A v b → AllGive prog w A r l → AllGive prog w A ((k, v) :: r) ((a, b) :: l)
inductive Gave : List (String × String) → List (Str × Value) → Prop
  | nil : Gave [] []
  | cons {a b : String} {t : Tok} {l : List (String × String)} {kv : List (Str × Value)} : Gave l kv → Gave ((a, b) :: l) ((Str.ofString a, .str (Str.ofString b) t) :: kv)
theorem Gave.keys {l : List (String × String)} {kv : List (Str × Value)} (h : Gave l kv) : kv.map (·.1) = l.map fun x => Str.ofString x.1 := by
  induction h with
  | nil => rfl
  | cons _ ih => simp [ih]
theorem Gave.length {l : List (String × String)} {kv : List (Str × Value)} (h : Gave l kv) : kv.length = l.length := by
  induction h with
  | nil => rfl
  | cons _ ih => simp [ih]
theorem Gave.append {l m : List (String × String)} {kv kw : List (Str × Value)} (h : Gave l kv) (g : Gave m kw) : Gave (l ++ m) (kv ++ kw) := by
  induction h with
  | nil => exact g
  | cons _ ih => exact .cons ih
theorem Gave.rel {l : List (String × String)} {kv : List (Str × Value)} (h : Gave l kv) (hp : Heap) : RelL hp (kv.map (·.2)) (l.map fun x => V.str x.2) := by
  induction h with
  | nil => rfl
  | cons _ ih => exact ⟨_, _, rfl, rS _ _ _, ih⟩
section
variable {prog : Program} {w : World} {A : Around} {E : Value → Shared → Prop} {s : Shared}
noncomputable abbrev sk (prog : Program) (w : World) := PySem.strKind prog w
theorem stored_new {acc : List (Str × Value)} {k : Str} {v : Value} (h : k ∉ acc.map (·.1)) : stored acc k v = acc ++ [(k, v)] := by
  unfold stored
  rw [if_neg]
  rw [List.any_eq_true]; rintro ⟨kv, hkv, he⟩
  exact h (List.mem_map.mpr ⟨kv, hkv, of_decide_eq_true he⟩)
theorem long_loop {d : Addr} (f : Sem Value × Sem Value → PUnit → Sem (ForInStep PUnit)) (hf : ∀ k v r, f (k, v) r = (do let kv ← k; let vv ← holding [kv] v; holding [kv, vv] (dictSet d kv vv); pure (.yield PUnit.unit))) :
    ∀ {pairs : List (Sem Value × Sem Value)} {l : List (String × String)}, AllGive prog w A pairs l → ∀ {acc : List (Str × Value)} {s : Shared} {Q : PUnit → Shared → Prop}, s.heap.DictOf (sk prog w) d acc → (acc.map (·.1) ++ l.map fun x => Str.ofString x.1).Nodup → acc.length + l.length ≤ 1000 →
      (∀ kv h' tk, Gave l kv → h'.DictOf (sk prog w) d (acc ++ kv) → Heap.SameBut d s.heap h' → Q PUnit.unit { s with heap := h', toks := tk }) → wpAny (model prog w) A (forIn pairs PUnit.unit f) Q E s
  | _, _, .nil, acc, s, Q, hd, hn, hl, hQ => by
    rw [List.forIn_nil]
    exact wpAny_pure (hQ [] s.heap s.toks .nil (by simpa using hd) (Heap.SameBut.refl _ _))
  | _, _, .cons (a := a) (b := b) (l := l) hk hv r, acc, s, Q, hd, hn, hl, hQ => by
    rw [List.forIn_cons, hf]
    have hnot : Str.ofString a ∉ acc.map (·.1) := by
      intro hm
      rw [List.nodup_append] at hn
      exact hn.2.2 _ hm _ (by simp) rfl
    refine wpAny_bind (wpAny_bind (hk _ _ _ (wpAny_bind (wpAny_holding (hv _ _ _ ?_)))))
    refine wpAny_bind (wpAny_holding (wpAny_dictSet_pairs (knd := sk prog w) (k := Str.ofString a) (kvs := acc) (strKind_is prog w _ _) hd (fun h' hd' hs' => ?_) (by rw [sizeLine_eq]; simp at hl; omega)))
    refine wpAny_pure ?_
    rw [stored_new hnot] at hd'
    refine long_loop f hf r (acc := acc ++ [_]) hd' ?_ (by simp at hl ⊢; omega) fun kv h'' tk g hd'' hs'' => ?_
    · simpa using hn
    · exact hQ (_ :: kv) h'' tk (.cons g) (by simpa using hd'') (hs'.trans hs'')
theorem subDict_long {pairs : List (Sem Value × Sem Value)} {l : List (String × String)} {Q : Addr → Shared → Prop} (hlen : ¬ pairs.length ≤ 15) (hp : AllGive prog w A pairs l) (hn : (l.map fun x => Str.ofString x.1).Nodup) (hl : l.length ≤ 1000)
    (h : ∀ kv h' tk, Gave l kv → h'.DictOf (sk prog w) s.heap.objs.size kv → Heap.SameBut s.heap.objs.size (s.heap.push { cls := .type "dict", data := .dict #[] }) h' → Q s.heap.objs.size { s with heap := h', toks := tk }) :
    wpAny (model prog w) A (subDict pairs) Q E s := by
  unfold subDict
  refine wpAny_bind (wpAny_alloc ?_)
  refine wpAny_bind (wpAny_holding ?_)
  rw [if_neg hlen]
  refine wpAny_bind (wpAny_rule (wpAny_bind ?_))
  refine long_loop _ (fun k v r => rfl) hp (acc := []) (Heap.DictOf.new _) (by simpa using hn) (by simpa using hl) fun kv h' tk g hd hs => ?_
  exact wpAny_pure (wpAny_pure (h kv h' tk g (by simpa using hd) hs))
theorem evalPairs_gives : ∀ {pairs : List (Sem Value × Sem Value)} {l : List (String × String)}, AllGive prog w A pairs l → ∀ {s : Shared} {Q : List (Value × Value) → Shared → Prop},
      (∀ vs kv tk, Gave l kv → Carries (sk prog w) vs kv → Q vs { s with toks := tk }) → wpAny (model prog w) A (evalPairs pairs) Q E s
  | _, _, .nil, s, Q, hQ => evalPairs_nil (hQ [] [] s.toks .nil trivial)
  | _, _, .cons (a := a) (b := b) hk hv r, s, Q, hQ => evalPairs_cons (hk _ _ _ (hv _ _ _ (evalPairs_gives r fun vs kv tk g c => hQ _ _ tk (.cons g) ⟨strKind_is prog w _ _, rfl, c⟩)))
theorem subDict_short {pairs : List (Sem Value × Sem Value)} {l : List (String × String)} {Q : Addr → Shared → Prop} (hlen : pairs.length ≤ 15) (hp : AllGive prog w A pairs l) (hn : (l.map fun x => Str.ofString x.1).Nodup)
    (h : ∀ kv h' tk, Gave l kv → h'.DictOf (sk prog w) s.heap.objs.size kv → Heap.SameBut s.heap.objs.size (s.heap.push { cls := .type "dict", data := .dict #[] }) h' → Q s.heap.objs.size { s with heap := h', toks := tk }) :
    wpAny (model prog w) A (subDict pairs) Q E s := by
  refine wpAny_subDict (knd := sk prog w) hlen (evalPairs_gives hp fun vs kv tk g c => ⟨kv, c, Heap.DictOf.new _, fun h' hd hs => ?_⟩)
  rw [merged_nil_of_nodup kv (by rw [g.keys]; exact hn)] at hd
  exact h kv h' _ g hd hs
end
section
variable {c : Cx} {A : Around} {L : Addr} {loc : Loc} {H : AH} {env : Env} {ks : List (Nat × NameKind)} {Q : V → AH → Prop}
theorem E_dictS {keys : List (Option Expr)} {values : List Expr} {pos : Pos} {as : List (Sem Value × Sem Value)} {p : Sem Value × Sem Value} {bs : List (Sem Value × Sem Value)} {la lb : List (String × String)} {q : String × String}
    (hz : (evalEachOpt keys env).zip ((evalEach values env).map fun v => do let x ← v; standAt pos; pure x) = as.map (fun p => (some p.1, p.2)) ++ (some p.1, p.2) :: bs.map (fun p => (some p.1, p.2)))
    (ha : as.length = 16) (hb : bs.length < 15) (hb0 : bs ≠ []) (ga : AllGive c.prog c.w A (as ++ [p]) (la ++ [q])) (gb : AllGive c.prog c.w A bs lb) (hn : ((la ++ [q] ++ lb).map fun x => Str.ofString x.1).Nodup) (hl : la.length ≤ 100) (hl2 : lb.length ≤ 100)
    (h : ∀ d, H d = none → Q (.ref d) (H.set d (.dS ((la ++ [q] ++ lb).map fun x => (Str.ofString x.1, V.str x.2))))) :
    WE c A L loc (eval (.Dict keys values pos) env) Q H := fun s a => by
  rw [arm_eval_Dict, hz]
  refine wpAny_bind (wpAny_standAt (display_long ha (by omega) hb0 ?_))
  have n1 : ((la ++ [q]).map fun x => Str.ofString x.1).Nodup := by rw [List.map_append, List.nodup_append] at hn; exact hn.1
  have n2 : (lb.map fun x => Str.ofString x.1).Nodup := by rw [List.map_append, List.nodup_append] at hn; exact hn.2.1
  refine subDict_long (by simp [ha]) ga n1 (by simp; omega) fun kv h1 t1 g1 d1 s1 => ?_
  refine subDict_short (by omega) gb n2 fun kw h2 t2 g2 d2 s2 => ?_
  generalize hd : s.heap.objs.size = d at *
  have sz1 : h1.objs.size = d + 1 := by rw [s1.1, Heap.size_push, hd]
  dsimp only at d2 s2 ⊢
  have hne : d ≠ h1.objs.size := by rw [sz1]; exact Nat.ne_of_lt (Nat.lt_succ_self _)
  have old : ∀ b o, s.heap.get? b = some o → h2.get? b = some o := fun b o e => by
    have hb : @LT.lt Nat _ b d := by rw [← hd]; exact Heap.lt_size e
    have b1 : b ≠ d := Nat.ne_of_lt hb
    have b2 : b ≠ h1.objs.size := by rw [sz1]; exact Nat.ne_of_lt (Nat.lt_succ_of_lt hb)
    exact (s2.2 b b2).trans (Heap.get?_push_of_some _ ((s1.2 b b1).trans (Heap.get?_push_of_some _ e)))
  have d1' : h2.DictOf (sk c.prog c.w) d kv := by
    obtain ⟨o, es, ep, ho, r⟩ := d1
    exact ⟨o, es, ep, (s2.2 d hne).trans (Heap.get?_push_of_some _ ho), r⟩
  have hmain : @LT.lt Nat _ mainGlobals d := by
    have := (c.G.keeps a.base).lt
    rw [hd] at this; exact this
  have hsm : (h1.objs.size == sysModules) = false := by
    have h3 : @LT.lt Nat _ sysModules mainGlobals := by decide
    have : h1.objs.size ≠ sysModules := by
      rw [sz1]; intro e
      have e' : @Eq Nat (d + 1) sysModules := e
      omega
    simpa using this
  refine merge_new (knd := sk c.prog c.w) hne hsm d1' d2 ?_ ?_ (fun h3 d3 s3 => ?_) ?_
  · intro e
    have := g1.length
    rw [e] at this
    simp at this
  · rw [List.map_append, g1.keys, g2.keys, ← List.map_append]; exact hn
  · have g := g1.append g2
    have kk : ∀ b o, s.heap.get? b = some o → h3.get? b = some o := fun b o e => by
      have hb : @LT.lt Nat _ b d := by rw [← hd]; exact Heap.lt_size e
      exact (s3.2 b (Nat.ne_of_lt hb)).trans (old b o e)
    have hfr : s.heap.get? d = none := by rw [← hd]; exact get?_size _
    refine ⟨.ref d, H.set d (.dS ((la ++ [q] ++ lb).map fun x => (Str.ofString x.1, V.str x.2))), rR _ _, a.made t2 kk hfr (by rw [hd]; exact Nat.le_refl _) ⟨kv ++ kw, d3, ?_, ?_⟩, Step.made t2 kk hfr _, h d (a.none_of hfr)⟩
    · rw [g.keys, List.map_map]; rfl
    · have := g.rel h3
      rw [List.map_map]; exact this
  · have e1 := g1.length
    have e2 := g2.length
    rw [e1, e2, sizeLine_eq]; simp; omega
theorem E_dict0T {pos : Pos} (h : ∀ d, H d = none → Q (.ref d) (H.set d (.dT []))) : WE c A L loc (eval (.Dict [] [] pos) env) Q H := fun s a =>
  wpAny_Dict_empty ⟨.ref s.heap.objs.size, _, rR _ _, a.new _ (.dT []) ⟨[], Heap.DictOfH.new _, rfl, rfl⟩, Step.new .., h _ a.fresh⟩
theorem getH_rel {h : Heap} {k : Int} : ∀ {xs : List (Int × Addr × Value)} {kvs : List (Int × V)}, xs.map (·.1) = kvs.map (·.1) → RelL h (xs.map (·.2.2)) (kvs.map (·.2)) →
    (∀ x, dget kvs k = some x → ∃ p, atKey xs k = some p ∧ Rel h p.2 x) ∧ (dget kvs k = none → atKey xs k = none)
  | [], [], _, _ => ⟨fun x e => by simp [dget] at e, fun _ => rfl⟩
  | [], _ :: _, e, _ => by simp at e
  | _ :: _, [], e, _ => by simp at e
  | (k1, v1) :: kv, (k2, x2) :: kvs, e, r => by
    simp only [List.map_cons, List.cons.injEq] at e
    obtain ⟨e1, e2⟩ := e
    subst e1
    obtain ⟨v, r', ev, p, q⟩ := r
    simp only [List.map_cons, List.cons.injEq] at ev
    obtain ⟨rfl, rfl⟩ := ev
    have ih := getH_rel (k := k) e2 q
    by_cases hk : k1 = k
    · subst hk
      exact ⟨fun x z => by simp [dget] at z; subst z; exact ⟨v1, by simp [atKey], p⟩, fun z => by simp [dget] at z⟩
    · simpa [dget, atKey, List.find?_cons, hk] using ih
theorem putH_rel {h : Heap} {k : Int} {a : Addr} {v : Value} {x : V} (r : Rel h v x) {xs : List (Int × Addr × Value)} {kvs : List (Int × V)} (e : xs.map (·.1) = kvs.map (·.1)) (q : RelL h (xs.map (·.2.2)) (kvs.map (·.2))) :
    (storedH xs k a v).map (·.1) = (dput kvs k x).map (·.1) ∧ RelL h ((storedH xs k a v).map (·.2.2)) ((dput kvs k x).map (·.2)) := by
  have hany : ∀ {xs : List (Int × Addr × Value)} {kvs : List (Int × V)}, xs.map (·.1) = kvs.map (·.1) → (atKey xs k).isSome = kvs.any fun p => p.1 = k := by
    intro xs
    induction xs with
    | nil => intro kvs e; cases kvs with | nil => rfl | cons _ _ => simp at e
    | cons p kv ih =>
      intro kvs e
      cases kvs with
      | nil => simp at e
      | cons p' kvs =>
        simp only [List.map_cons, List.cons.injEq] at e
        have := ih e.2
        by_cases hk : p.1 = k
        · have hk' : p'.1 = k := e.1 ▸ hk
          simp [atKey, hk, hk']
        · have hk' : ¬ p'.1 = k := e.1 ▸ hk
          simpa [atKey, hk, hk'] using this
  unfold storedH dput
  rw [hany e]
  split
  · clear hany
    rename_i z
    clear z
    induction xs generalizing kvs with
    | nil => cases kvs with | nil => exact ⟨rfl, q⟩ | cons _ _ => simp at e
    | cons p kv ih =>
      cases kvs with
      | nil => simp at e
      | cons p' kvs =>
        obtain ⟨k1, a1, v1⟩ := p
        obtain ⟨k2, x2⟩ := p'
        simp only [List.map_cons, List.cons.injEq] at e
        obtain ⟨e1, e2⟩ := e
        subst e1
        obtain ⟨w, r', ev, p1, q1⟩ := q
        simp only [List.map_cons, List.cons.injEq] at ev
        obtain ⟨rfl, rfl⟩ := ev
        obtain ⟨i1, i2⟩ := ih e2 q1
        simp only [List.map_cons, putAt]
        by_cases hk : k1 = k
        · simp only [hk, if_true]
          exact ⟨by rw [← i1], _, _, rfl, r, i2⟩
        · simp only [hk, if_false]
          exact ⟨by rw [← i1], _, _, rfl, p1, i2⟩
  · simp only [List.map_append]
    exact ⟨by rw [e]; rfl, q.append ⟨v, [], rfl, r, rfl⟩⟩
theorem isX_rel {h : Heap} {n : Int} {v : Value} (r : Rel h v (.tup [.str "x", .int n])) : ∃ a, v = .ref a ∧ IsX h n a := by
  obtain ⟨a, vs, rfl, ht, q⟩ := r
  obtain ⟨v1, vs1, rfl, ⟨t, rfl⟩, q⟩ := q
  obtain ⟨v2, vs2, rfl, ⟨u, rfl⟩, q⟩ := q
  have : vs2 = [] := q
  subst this
  exact ⟨a, rfl, t, u, ht⟩
theorem E_get2T {n : Nat} (hA : AOk (n + 2) A) {o e e' : Expr} {ap pos : Pos} {pl : Sem Bool}
    (h : WE c A L loc (eval o env) (fun v H1 => PRef v (fun d => ∃ l, H1 d = some (.dT l)) fun d => WE c A L loc (eval e env) (fun x H2 => WE c A L loc (eval e' env) (fun y H3 => ∃ k l, x = .tup [.str "x", .int k] ∧ H3 d = some (.dT l) ∧ Q ((dget l k).getD y) H3) H2) H1) H)
    (hm : eval (.Call (.Attribute o (Str.ofString "get") ap) [e, e'] [] pos) env = (do
      let ov ← eval o env
      standAt ap.atName
      let (f, first) ← holding [ov] (getMethod ov (Str.ofString "get") pl)
      callWith pos f first (backTo pos (starEach [e, e'] env)) []))
    (he : starEach [e, e'] env = [(false, eval e env), (false, eval e' env)]) : WE c A L loc (eval (.Call (.Attribute o (Str.ofString "get") ap) [e, e'] [] pos) env) Q H := fun s a =>
  MethodCall_ (wpAny_mono (h s a) (fun v s1 p => by
    obtain ⟨_, H1, r, a1, S1, d, rfl, ⟨l0, h0⟩, p⟩ := p
    have : v = .ref d := r
    subst this
    obtain ⟨xs0, g0, _⟩ := (a1.obj _ _ h0).2.2
    refine getMethod_builtin g0.typeIs PySem.F.plainAttrs_dict PySem.F.slot_dict_get PySem.F.type_dict_get (fun b hb => by cases hb; obtain ⟨o, es, ep, ho, hc, hr⟩ := g0; exact ⟨o, ho, hc.2.1⟩) ?_
    rw [he]
    refine wpAny_dict_get2_heap (knd := xKind c.prog c.w) ?_ (a1.sm h0) (wpAny_mono (p s1 a1) (fun w s2 p => ?_) fun _ _ e => e)
    · have := (hA.in1).2.2
      show A.in1.units + 1 < cLine
      rw [cLine_is]; omega
    obtain ⟨x, H2, r2, a2, S2, p⟩ := p
    refine wpAny_mono (p s2 a2) (fun u s3 p => ?_) fun _ _ e => e
    obtain ⟨y, H3, r3, a3, S3, k, l, rfl, h3, q⟩ := p
    obtain ⟨ka, rfl, kx⟩ := isX_rel (a2.rel S3 r2)
    obtain ⟨xs, g, q1, q2⟩ := (a3.obj _ _ h3).2.2
    have z := getH_rel (k := k) q1 q2
    refine ⟨ka, k, xs, rfl, kx, g, (dget l k).getD y, H3, ?_, a3.toks _, ((S1.trans S2).trans S3).trans (Step.toks ..), q⟩
    cases e4 : dget l k with
    | none => rw [z.2 e4]; exact r3
    | some X => obtain ⟨Y, hY, rY⟩ := z.1 X e4; rw [hY]; exact rY) fun _ _ e => e) hm
theorem s_dT {Q : AH → Prop} {n : Nat} (hA : AOk (n + 2) A) {d : Addr} {l : List (Int × V)} {k : Int} {x : V} (hd : H d = some (.dT l)) (hl : l.length ≤ 1000) (h : Q (H.set d (.dT (dput l k x)))) : SetR c A (.ref d) (.tup [.str "x", .int k]) x Q H := fun L loc s v w z a r1 r2 r3 => by
  have e1 : v = .ref d := r1
  subst e1
  obtain ⟨ka, rfl, kx⟩ := isX_rel r2
  obtain ⟨xs, g, q1, q2⟩ := (a.obj _ _ hd).2.2
  have hlen : xs.length = l.length := by simpa using congrArg List.length q1
  refine wpAny_setItem_heap (knd := xKind c.prog c.w) ?_ kx g (fun h' g' hs => ?_) (by rw [hlen, sizeLine_eq]; omega)
  · have := (hA.in1).2.2
    show A.in1.units + 1 < cLine
    rw [cLine_is]; omega
  have tu := a.tups_upd hd hs
  obtain ⟨p1, p2⟩ := putH_rel (k := k) (a := ka) (Rel.mono tu _ _ r3) q1 (RelL.mono tu _ _ q2)
  exact ⟨H.set d (.dT (dput l k x)), a.upd (o' := .dT (dput l k x)) hd hs ⟨_, g', p1, p2⟩, Step.upd hd hs, h⟩
theorem sw2 {L : Addr} {x y : Str} {i j k : Nat} {px py tpos : Pos} {a1 b1 a2 b2 : Expr} {p1 p2 : Pos} {k' : Nat} {p' : Pos} (K : EnvOk env L ks) (hi : nid x = some i) (hki : ks.lookup i = some .local) (hj : nid y = some j) (hkj : ks.lookup j = some .local)
    (hij : (i == j) = false) (hl : px.line = py.line) (hf : [Expr.Subscript a1 b1 p1, .Subscript a2 b2 p2].all (foldedForSure 8) = false) (hc : [Expr.Subscript a1 b1 p1, .Subscript a2 b2 p2].all (constantsAlone 8) = false) :
    swappedStores [.Tuple [.Name x px, .Name y py] k tpos] (.Tuple [.Subscript a1 b1 p1, .Subscript a2 b2 p2] k' p') env = (pure (some [x, y]) : Sem _) := by
  have kx : env.kindOf x = some .local := (K.ks x i hi).trans hki
  have ky : env.kindOf y = some .local := (K.ks y j hj).trans hkj
  have hne : ¬ y = x := by rintro rfl; rw [hi] at hj; cases hj; simp at hij
  have hb : (y == x) = false := by simpa using hne
  have hk : env.blockKind = .function := by
    unfold Env.blockKind
    rw [K.fn]; rfl
  unfold swappedStores
  simp only [hf, hc]
  simp [hk, kx, ky, hl, hb, Expr.pos, List.eraseDups_cons]
end
end Mine
namespace Mine
theorem n_AllocationCheck : nid (Str.ofString "AllocationCheck") = some 34156735104166061543729435194945 := by kernel_rfl
theorem n_READS : nid (Str.ofString "READS") = some 22423823058 := by kernel_rfl
theorem n_UPDATES : nid (Str.ofString "UPDATES") = some 367431368386645 := by kernel_rfl
theorem n_WRITES : nid (Str.ofString "WRITES") = some 2870557698391 := by kernel_rfl
theorem n___init__ : nid (Str.ofString "__init__") = some 53902074141372383 := by kernel_rfl
theorem n__law_altered : nid (Str.ofString "_law_altered") = some 15231871306885064767862367 := by kernel_rfl
theorem n__law_arguments_right : nid (Str.ofString "_law_arguments_right") = some 1272044492638204123856791581678874081654367 := by kernel_rfl
theorem n__law_digit : nid (Str.ofString "_law_digit") = some 1077535652750948857439 := by kernel_rfl
theorem n__law_head : nid (Str.ofString "_law_head") = some 7260813351137605215 := by kernel_rfl
theorem n__law_keeps : nid (Str.ofString "_law_keeps") = some 1068815540620784858719 := by kernel_rfl
theorem n__law_origin : nid (Str.ofString "_law_origin") = some 130841013889932996408927 := by kernel_rfl
theorem n__law_read_right : nid (Str.ofString "_law_read_right") = some 37021367247163045010452071872095 := by kernel_rfl
theorem n__law_real : nid (Str.ofString "_law_real") = some 7837274447038412383 := by kernel_rfl
theorem n__law_row_right : nid (Str.ofString "_law_row_right") = some 289229431618472047207549269599 := by kernel_rfl
theorem n__law_rows : nid (Str.ofString "_law_rows") = some 8354106484744287839 := by kernel_rfl
theorem n__law_sorts : nid (Str.ofString "_law_sorts") = some 1069111133601674065503 := by kernel_rfl
theorem n__law_stretch : nid (Str.ofString "_law_stretch") = some 15833991479104921182697055 := by kernel_rfl
theorem n__law_touched : nid (Str.ofString "_law_touched") = some 15231778929626305072232031 := by kernel_rfl
theorem n__law_use : nid (Str.ofString "_law_use") = some 57367766486251103 := by kernel_rfl
theorem n_abstract : nid (Str.ofString "abstract") = some 65740964942901601 := by kernel_rfl
theorem n_advance : nid (Str.ofString "advance") = some 447634044990049 := by kernel_rfl
theorem n_alter : nid (Str.ofString "alter") = some 30815368801 := by kernel_rfl
theorem n_append : nid (Str.ofString "append") = some 3465715398753 := by kernel_rfl
theorem n_arguments_stand : nid (Str.ofString "arguments_stand") = some 31965505733297554153294983199073 := by kernel_rfl
theorem n_arity : nid (Str.ofString "arity") = some 32725694817 := by kernel_rfl
theorem n_at : nid (Str.ofString "at") = some 14945 := by kernel_rfl
theorem n_begin : nid (Str.ofString "begin") = some 29749801698 := by kernel_rfl
theorem n_cell : nid (Str.ofString "cell") = some 228274915 := by kernel_rfl
theorem n_check : nid (Str.ofString "check") = some 28931880035 := by kernel_rfl
theorem n_check_allocation : nid (Str.ofString "check_allocation") = some 4497569642910407764792553894409315 := by kernel_rfl
theorem n_code : nid (Str.ofString "code") = some 213465059 := by kernel_rfl
theorem n_copied_value : nid (Str.ofString "copied_value") = some 15401820872874604678100963 := by kernel_rfl
theorem n_deed : nid (Str.ofString "deed") = some 211383012 := by kernel_rfl
theorem n_due : nid (Str.ofString "due") = some 1669860 := by kernel_rfl
theorem n_ends_arguments : nid (Str.ofString "ends_arguments") = some 286986718340452387685498697573 := by kernel_rfl
theorem n_expected : nid (Str.ofString "expected") = some 56743210558176357 := by kernel_rfl
theorem n_extend : nid (Str.ofString "extend") = some 3465715465317 := by kernel_rfl
theorem n_figure : nid (Str.ofString "figure") = some 3501182285030 := by kernel_rfl
theorem n_get : nid (Str.ofString "get") = some 1913575 := by kernel_rfl
theorem n_held : nid (Str.ofString "held") = some 211497704 := by kernel_rfl
theorem n_homes : nid (Str.ofString "homes") = some 31083689960 := by kernel_rfl
theorem n_incoming : nid (Str.ofString "incoming") = some 58471267585029993 := by kernel_rfl
theorem n_instruction : nid (Str.ofString "instruction") = some 130896504364032243595113 := by kernel_rfl
theorem n_isinstance : nid (Str.ofString "isinstance") = some 938756632654307293673 := by kernel_rfl
theorem n_lap : nid (Str.ofString "lap") = some 1847532 := by kernel_rfl
theorem n_law : nid (Str.ofString "law") = some 1962220 := by kernel_rfl
theorem n_left_out : nid (Str.ofString "left_out") = some 65820605715952364 := by kernel_rfl
theorem n_len : nid (Str.ofString "len") = some 1815276 := by kernel_rfl
theorem n_limit : nid (Str.ofString "limit") = some 31360513260 := by kernel_rfl
theorem n_list : nid (Str.ofString "list") = some 245167340 := by kernel_rfl
theorem n_made : nid (Str.ofString "made") = some 213463277 := by kernel_rfl
theorem n_matches : nid (Str.ofString "matches") = some 509273809170669 := by kernel_rfl
theorem n_met : nid (Str.ofString "met") = some 1913581 := by kernel_rfl
theorem n_name : nid (Str.ofString "name") = some 213610734 := by kernel_rfl
theorem n_new_value : nid (Str.ofString "new_value") = some 7344160496175411950 := by kernel_rfl
theorem n_next_value : nid (Str.ofString "next_value") = some 940052543510446748398 := by kernel_rfl
theorem n_number : nid (Str.ofString "number") = some 3944329476846 := by kernel_rfl
theorem n_operand : nid (Str.ofString "operand") = some 443610501314671 := by kernel_rfl
theorem n_operand_roles : nid (Str.ofString "operand_roles") = some 2239814732521375522491037807 := by kernel_rfl
theorem n_operand_twice : nid (Str.ofString "operand_twice") = some 1968709649629024260743329903 := by kernel_rfl
theorem n_other : nid (Str.ofString "other") = some 30815173231 := by kernel_rfl
theorem n_others : nid (Str.ofString "others") = some 3982185085551 := by kernel_rfl
theorem n_outgoing : nid (Str.ofString "outgoing") = some 58471268105403119 := by kernel_rfl
theorem n_own : nid (Str.ofString "own") = some 1817583 := by kernel_rfl
theorem n_pairs : nid (Str.ofString "pairs") = some 31110885616 := by kernel_rfl
theorem n_part : nid (Str.ofString "part") = some 245149936 := by kernel_rfl
theorem n_place : nid (Str.ofString "place") = some 27321202288 := by kernel_rfl
theorem n_range : nid (Str.ofString "range") = some 27329802482 := by kernel_rfl
theorem n_real : nid (Str.ofString "real") = some 228094706 := by kernel_rfl
theorem n_rest : nid (Str.ofString "rest") = some 245166834 := by kernel_rfl
theorem n_role : nid (Str.ofString "role") = some 213596146 := by kernel_rfl
theorem n_row : nid (Str.ofString "row") = some 1964018 := by kernel_rfl
theorem n_rows : nid (Str.ofString "rows") = some 243136498 := by kernel_rfl
theorem n_same_read : nid (Str.ofString "same_read") = some 7260813694697435379 := by kernel_rfl
theorem n_same_shape : nid (Str.ofString "same_shape") = some 939686093773984198899 := by kernel_rfl
theorem n_same_write : nid (Str.ofString "same_write") = some 939978871867667345651 := by kernel_rfl
theorem n_script : nid (Str.ofString "script") = some 4016016503283 := by kernel_rfl
theorem n_self : nid (Str.ofString "self") = some 215692019 := by kernel_rfl
theorem n_sorts : nid (Str.ofString "sorts") = some 31115229171 := by kernel_rfl
theorem n_source : nid (Str.ofString "source") = some 3497149691891 := by kernel_rfl
theorem n_spot : nid (Str.ofString "spot") = some 245102707 := by kernel_rfl
theorem n_stretches : nid (Str.ofString "stretches") = some 8343942089460726387 := by kernel_rfl
theorem n_takers : nid (Str.ofString "takers") = some 3982185132276 := by kernel_rfl
theorem n_tape : nid (Str.ofString "tape") = some 213659892 := by kernel_rfl
theorem n_target : nid (Str.ofString "target") = some 4013059518708 := by kernel_rfl
theorem n_tuple : nid (Str.ofString "tuple") = some 27340323572 := by kernel_rfl
theorem n_use : nid (Str.ofString "use") = some 1669621 := by kernel_rfl
theorem n_value : nid (Str.ofString "value") = some 27359129846 := by kernel_rfl
theorem n_value_of : nid (Str.ofString "value_of") = some 57912369945981174 := by kernel_rfl
theorem n_wanted : nid (Str.ofString "wanted") = some 3463330902263 := by kernel_rfl
theorem n_way : nid (Str.ofString "way") = some 1994999 := by kernel_rfl
theorem n_write : nid (Str.ofString "write") = some 27356985719 := by kernel_rfl
theorem n_written : nid (Str.ofString "written") = some 487286833314167 := by kernel_rfl
section
variable {c : Cx} (hK : c.K = hd.heap_1 c.w.params)
include hK
theorem gl_operand_roles : nsIn c.K mainGlobals (Str.ofString "operand_roles") = some (some (.ref 21)) := by rw [hK]; kernel_rfl
theorem keep_operand_roles : keepIn c.K (.ref 21) = true := by rw [hK]; kernel_rfl
theorem gl_ends_arguments : nsIn c.K mainGlobals (Str.ofString "ends_arguments") = some (some (.ref 28)) := by rw [hK]; kernel_rfl
theorem keep_ends_arguments : keepIn c.K (.ref 28) = true := by rw [hK]; kernel_rfl
theorem gl_operand_twice : nsIn c.K mainGlobals (Str.ofString "operand_twice") = some (some (.ref 126)) := by rw [hK]; kernel_rfl
theorem keep_operand_twice : keepIn c.K (.ref 126) = true := by rw [hK]; kernel_rfl
theorem gl_check_allocation : nsIn c.K mainGlobals (Str.ofString "check_allocation") = some (some (.ref 133)) := by rw [hK]; kernel_rfl
theorem keep_check_allocation : keepIn c.K (.ref 133) = true := by rw [hK]; kernel_rfl
theorem gl__law_digit : nsIn c.K mainGlobals (Str.ofString "_law_digit") = some (some (.ref 140)) := by rw [hK]; kernel_rfl
theorem keep__law_digit : keepIn c.K (.ref 140) = true := by rw [hK]; kernel_rfl
theorem gl__law_sorts : nsIn c.K mainGlobals (Str.ofString "_law_sorts") = some (some (.ref 147)) := by rw [hK]; kernel_rfl
theorem keep__law_sorts : keepIn c.K (.ref 147) = true := by rw [hK]; kernel_rfl
theorem gl__law_use : nsIn c.K mainGlobals (Str.ofString "_law_use") = some (some (.ref 154)) := by rw [hK]; kernel_rfl
theorem keep__law_use : keepIn c.K (.ref 154) = true := by rw [hK]; kernel_rfl
theorem gl__law_head : nsIn c.K mainGlobals (Str.ofString "_law_head") = some (some (.ref 161)) := by rw [hK]; kernel_rfl
theorem keep__law_head : keepIn c.K (.ref 161) = true := by rw [hK]; kernel_rfl
theorem gl__law_rows : nsIn c.K mainGlobals (Str.ofString "_law_rows") = some (some (.ref 168)) := by rw [hK]; kernel_rfl
theorem keep__law_rows : keepIn c.K (.ref 168) = true := by rw [hK]; kernel_rfl
theorem gl__law_stretch : nsIn c.K mainGlobals (Str.ofString "_law_stretch") = some (some (.ref 175)) := by rw [hK]; kernel_rfl
theorem keep__law_stretch : keepIn c.K (.ref 175) = true := by rw [hK]; kernel_rfl
theorem gl__law_real : nsIn c.K mainGlobals (Str.ofString "_law_real") = some (some (.ref 182)) := by rw [hK]; kernel_rfl
theorem keep__law_real : keepIn c.K (.ref 182) = true := by rw [hK]; kernel_rfl
theorem gl__law_altered : nsIn c.K mainGlobals (Str.ofString "_law_altered") = some (some (.ref 189)) := by rw [hK]; kernel_rfl
theorem keep__law_altered : keepIn c.K (.ref 189) = true := by rw [hK]; kernel_rfl
theorem gl__law_touched : nsIn c.K mainGlobals (Str.ofString "_law_touched") = some (some (.ref 194)) := by rw [hK]; kernel_rfl
theorem keep__law_touched : keepIn c.K (.ref 194) = true := by rw [hK]; kernel_rfl
theorem gl__law_origin : nsIn c.K mainGlobals (Str.ofString "_law_origin") = some (some (.ref 201)) := by rw [hK]; kernel_rfl
theorem keep__law_origin : keepIn c.K (.ref 201) = true := by rw [hK]; kernel_rfl
theorem gl__law_read_right : nsIn c.K mainGlobals (Str.ofString "_law_read_right") = some (some (.ref 208)) := by rw [hK]; kernel_rfl
theorem keep__law_read_right : keepIn c.K (.ref 208) = true := by rw [hK]; kernel_rfl
theorem gl__law_row_right : nsIn c.K mainGlobals (Str.ofString "_law_row_right") = some (some (.ref 215)) := by rw [hK]; kernel_rfl
theorem keep__law_row_right : keepIn c.K (.ref 215) = true := by rw [hK]; kernel_rfl
theorem gl__law_arguments_right : nsIn c.K mainGlobals (Str.ofString "_law_arguments_right") = some (some (.ref 222)) := by rw [hK]; kernel_rfl
theorem keep__law_arguments_right : keepIn c.K (.ref 222) = true := by rw [hK]; kernel_rfl
theorem gl__law_keeps : nsIn c.K mainGlobals (Str.ofString "_law_keeps") = some (some (.ref 229)) := by rw [hK]; kernel_rfl
theorem keep__law_keeps : keepIn c.K (.ref 229) = true := by rw [hK]; kernel_rfl
theorem gl_AllocationCheck : nsIn c.K mainGlobals (Str.ofString "AllocationCheck") = some (some (.ref 115)) := by rw [hK]; kernel_rfl
theorem keep_AllocationCheck : keepIn c.K (.ref 115) = true := by rw [hK]; kernel_rfl
theorem gl_READS : nsIn c.K mainGlobals (Str.ofString "READS") = some (some (.int 1 189)) := by rw [hK]; kernel_rfl
theorem gl_WRITES : nsIn c.K mainGlobals (Str.ofString "WRITES") = some (some (.int 2 191)) := by rw [hK]; kernel_rfl
theorem gl_UPDATES : nsIn c.K mainGlobals (Str.ofString "UPDATES") = some (some (.int 3 193)) := by rw [hK]; kernel_rfl
theorem gl_len : nsIn c.K mainGlobals (Str.ofString "len") = some none := by rw [hK]; kernel_rfl
theorem gl_isinstance : nsIn c.K mainGlobals (Str.ofString "isinstance") = some none := by rw [hK]; kernel_rfl
theorem gl_tuple : nsIn c.K mainGlobals (Str.ofString "tuple") = some none := by rw [hK]; kernel_rfl
theorem gl_list : nsIn c.K mainGlobals (Str.ofString "list") = some none := by rw [hK]; kernel_rfl
theorem gl_range : nsIn c.K mainGlobals (Str.ofString "range") = some none := by rw [hK]; kernel_rfl
theorem at_next_value : AttrOk c.K 115 (Str.ofString "next_value") := by rw [hK]; exact ⟨by kernel_rfl, by kernel_rfl, by kernel_rfl, by kernel_rfl, by kernel_rfl, by kernel_rfl⟩
theorem at_value_of : AttrOk c.K 115 (Str.ofString "value_of") := by rw [hK]; exact ⟨by kernel_rfl, by kernel_rfl, by kernel_rfl, by kernel_rfl, by kernel_rfl, by kernel_rfl⟩
theorem at_held : AttrOk c.K 115 (Str.ofString "held") := by rw [hK]; exact ⟨by kernel_rfl, by kernel_rfl, by kernel_rfl, by kernel_rfl, by kernel_rfl, by kernel_rfl⟩
theorem at_incoming : AttrOk c.K 115 (Str.ofString "incoming") := by rw [hK]; exact ⟨by kernel_rfl, by kernel_rfl, by kernel_rfl, by kernel_rfl, by kernel_rfl, by kernel_rfl⟩
theorem at_outgoing : AttrOk c.K 115 (Str.ofString "outgoing") := by rw [hK]; exact ⟨by kernel_rfl, by kernel_rfl, by kernel_rfl, by kernel_rfl, by kernel_rfl, by kernel_rfl⟩
theorem m_new_value : MethOk c.K 115 (Str.ofString "new_value") 49 := by rw [hK]; exact ⟨by kernel_rfl, by kernel_rfl, by kernel_rfl, by kernel_rfl⟩
theorem m_same_read : MethOk c.K 115 (Str.ofString "same_read") 56 := by rw [hK]; exact ⟨by kernel_rfl, by kernel_rfl, by kernel_rfl, by kernel_rfl⟩
theorem m_same_write : MethOk c.K 115 (Str.ofString "same_write") 63 := by rw [hK]; exact ⟨by kernel_rfl, by kernel_rfl, by kernel_rfl, by kernel_rfl⟩
theorem m_write : MethOk c.K 115 (Str.ofString "write") 70 := by rw [hK]; exact ⟨by kernel_rfl, by kernel_rfl, by kernel_rfl, by kernel_rfl⟩
theorem m_copied_value : MethOk c.K 115 (Str.ofString "copied_value") 77 := by rw [hK]; exact ⟨by kernel_rfl, by kernel_rfl, by kernel_rfl, by kernel_rfl⟩
theorem m_same_shape : MethOk c.K 115 (Str.ofString "same_shape") 84 := by rw [hK]; exact ⟨by kernel_rfl, by kernel_rfl, by kernel_rfl, by kernel_rfl⟩
theorem m_matches : MethOk c.K 115 (Str.ofString "matches") 91 := by rw [hK]; exact ⟨by kernel_rfl, by kernel_rfl, by kernel_rfl, by kernel_rfl⟩
theorem m_arguments_stand : MethOk c.K 115 (Str.ofString "arguments_stand") 98 := by rw [hK]; exact ⟨by kernel_rfl, by kernel_rfl, by kernel_rfl, by kernel_rfl⟩
theorem m_advance : MethOk c.K 115 (Str.ofString "advance") 105 := by rw [hK]; exact ⟨by kernel_rfl, by kernel_rfl, by kernel_rfl, by kernel_rfl⟩
theorem m_left_out : MethOk c.K 115 (Str.ofString "left_out") 112 := by rw [hK]; exact ⟨by kernel_rfl, by kernel_rfl, by kernel_rfl, by kernel_rfl⟩
end
noncomputable abbrev ks_operand_roles : List (Nat × NameKind) := [(130896504364032243595113, .local), (213610734, .local), (22423823058, .globalImplicit), (2870557698391, .globalImplicit), (367431368386645, .globalImplicit)]
noncomputable abbrev ks_ends_arguments : List (Nat × NameKind) := [(130896504364032243595113, .local), (213610734, .local)]
noncomputable abbrev ks___init__ : List (Nat × NameKind) := [(215692019, .local), (32725694817, .local), (3944329476846, .local), (27359129846, .local)]
noncomputable abbrev ks_new_value : List (Nat × NameKind) := [(215692019, .local)]
noncomputable abbrev ks_same_read : List (Nat × NameKind) := [(215692019, .local), (443610501314671, .local), (228094706, .local), (56743210558176357, .local)]
noncomputable abbrev ks_same_write : List (Nat × NameKind) := [(215692019, .local), (443610501314671, .local), (228094706, .local)]
noncomputable abbrev ks_write : List (Nat × NameKind) := [(215692019, .local), (443610501314671, .local), (228094706, .local), (27359129846, .local)]
noncomputable abbrev ks_copied_value : List (Nat × NameKind) := [(215692019, .local), (130896504364032243595113, .local), (213610734, .local), (3497149691891, .local)]
noncomputable abbrev ks_same_shape : List (Nat × NameKind) := [(215692019, .local), (130896504364032243595113, .local), (228094706, .local), (14945, .local), (245149936, .local), (30815173231, .local), (1815276, .globalImplicit), (938756632654307293673, .globalImplicit), (27340323572, .globalImplicit)]
noncomputable abbrev ks_matches : List (Nat × NameKind) := [(215692019, .local), (130896504364032243595113, .local), (228094706, .local), (487286833314167, .local), (31110885616, .local), (3982185085551, .local), (14945, .local), (213596146, .local), (443610501314671, .local), (30815173231, .local), (2239814732521375522491037807, .globalImplicit), (1815276, .globalImplicit), (2870557698391, .globalImplicit), (1968709649629024260743329903, .globalImplicit)]
noncomputable abbrev ks_arguments_stand : List (Nat × NameKind) := [(215692019, .local), (130896504364032243595113, .local), (3944329476846, .local), (286986718340452387685498697573, .globalImplicit)]
noncomputable abbrev ks_advance : List (Nat × NameKind) := [(215692019, .local), (130896504364032243595113, .local), (228094706, .local), (27359129846, .local), (31110885616, .local), (3982185085551, .local), (14945, .local), (213596146, .local), (443610501314671, .local), (2239814732521375522491037807, .globalImplicit), (1815276, .globalImplicit), (22423823058, .globalImplicit), (286986718340452387685498697573, .globalImplicit)]
noncomputable abbrev ks_left_out : List (Nat × NameKind) := [(215692019, .local), (130896504364032243595113, .local), (27359129846, .local), (4013059518708, .local)]
noncomputable abbrev ks_operand_twice : List (Nat × NameKind) := [(130896504364032243595113, .local), (1815276, .globalImplicit)]
noncomputable abbrev ks_check_allocation : List (Nat × NameKind) := [(65740964942901601, .local), (228094706, .local), (32725694817, .local), (28931880035, .local), (14945, .local), (130896504364032243595113, .local), (34156735104166061543729435194945, .globalImplicit), (1815276, .globalImplicit)]
noncomputable abbrev ks__law_digit : List (Nat × NameKind) := [(213659892, .local), (31360513260, .local), (228274915, .local), (3501182285030, .local), (245166834, .local), (1815276, .globalImplicit)]
noncomputable abbrev ks__law_sorts : List (Nat × NameKind) := []
noncomputable abbrev ks__law_use : List (Nat × NameKind) := [(213659892, .local), (1913581, .local), (3501182285030, .local), (1077535652750948857439, .globalImplicit), (1815276, .globalImplicit)]
noncomputable abbrev ks__law_head : List (Nat × NameKind) := [(213659892, .local), (32725694817, .local), (1913581, .local), (213465059, .local), (3944329476846, .local), (1994999, .local), (1817583, .local), (1669621, .local), (27329802482, .globalImplicit), (1077535652750948857439, .globalImplicit), (57367766486251103, .globalImplicit)]
noncomputable abbrev ks__law_rows : List (Nat × NameKind) := [(1994999, .local), (245102707, .local), (1817583, .local), (1669621, .local), (243136498, .local)]
noncomputable abbrev ks__law_stretch : List (Nat × NameKind) := [(213659892, .local), (1913581, .local), (213465059, .local), (1847532, .local), (1994999, .local), (245102707, .local), (1817583, .local), (1669621, .local), (27329802482, .globalImplicit), (1077535652750948857439, .globalImplicit), (57367766486251103, .globalImplicit), (8354106484744287839, .globalImplicit)]
noncomputable abbrev ks__law_real : List (Nat × NameKind) := [(213465059, .local), (31083689960, .local), (228094706, .local), (1964018, .local), (213463277, .local), (245149936, .local), (938756632654307293673, .globalImplicit), (27340323572, .globalImplicit)]
noncomputable abbrev ks__law_altered : List (Nat × NameKind) := [(213659892, .local), (228094706, .local), (14945, .local), (213463277, .local), (1077535652750948857439, .globalImplicit), (1815276, .globalImplicit), (245167340, .globalImplicit), (27340323572, .globalImplicit)]
noncomputable abbrev ks__law_origin : List (Nat × NameKind) := [(31115229171, .local), (243136498, .local), (14945, .local), (32725694817, .local), (443610501314671, .local), (1964018, .local), (15231778929626305072232031, .globalImplicit)]
noncomputable abbrev ks__law_read_right : List (Nat × NameKind) := [(31115229171, .local), (213465059, .local), (228094706, .local), (14945, .local), (32725694817, .local), (245102707, .local), (245149936, .local), (30815173231, .local), (1669860, .local), (130841013889932996408927, .globalImplicit)]
noncomputable abbrev ks__law_row_right : List (Nat × NameKind) := [(31115229171, .local), (213465059, .local), (228094706, .local), (14945, .local), (32725694817, .local), (487286833314167, .local), (245102707, .local), (245149936, .local), (30815173231, .local), (211383012, .local), (27329802482, .globalImplicit), (1815276, .globalImplicit), (37021367247163045010452071872095, .globalImplicit)]
noncomputable abbrev ks__law_arguments_right : List (Nat × NameKind) := [(31115229171, .local), (213465059, .local), (228094706, .local), (14945, .local), (32725694817, .local), (3982185132276, .local), (29749801698, .local), (27321202288, .local), (245149936, .local), (1669860, .local), (27329802482, .globalImplicit), (15231778929626305072232031, .globalImplicit), (130841013889932996408927, .globalImplicit)]
noncomputable abbrev ks__law_keeps : List (Nat × NameKind) := [(31115229171, .local), (213465059, .local), (228094706, .local), (32725694817, .local), (14945, .local), (27329802482, .globalImplicit), (1815276, .globalImplicit), (289229431618472047207549269599, .globalImplicit), (1272044492638204123856791581678874081654367, .globalImplicit)]
end Mine
namespace Mine
inductive Ch where | t | a | y | x | g
deriving DecidableEq
noncomputable def Ch.s : Ch → String | .t => "t" | .a => "a" | .y => "y" | .x => "x" | .g => "given"
inductive Pt where
  | op (c : Ch) (n : Int)
  | num (i : Int)
  | pr (i j : Int)
deriving DecidableEq
noncomputable def Pt.v : Pt → V
  | .op c n => .tup [.str c.s, .int n]
  | .num i => .int i
  | .pr i j => .tup [.int i, .int j]
inductive Nm where
  | get_variable | get_value | get_constant | get_structure | get_list | unify_variable | unify_value | unify_local_value | set_value | set_local_value | put_variable | put_value | put_unsafe_value | put_constant | put_structure | put_list | get_level | mark | cut_to | builtin | execute | call
deriving DecidableEq
noncomputable def Nm.s : Nm → String
  | .get_variable => "get_variable" | .get_value => "get_value" | .get_constant => "get_constant" | .get_structure => "get_structure" | .get_list => "get_list" | .unify_variable => "unify_variable" | .unify_value => "unify_value" | .unify_local_value => "unify_local_value" | .set_value => "set_value" | .set_local_value => "set_local_value" | .put_variable => "put_variable" | .put_value => "put_value" | .put_unsafe_value => "put_unsafe_value" | .put_constant => "put_constant" | .put_structure => "put_structure" | .put_list => "put_list" | .get_level => "get_level" | .mark => "mark" | .cut_to => "cut_to" | .builtin => "builtin" | .execute => "execute" | .call => "call"
inductive Dd where | dot | r | w | u
deriving DecidableEq
noncomputable def Dd.ch : Dd → Char | .dot => '.' | .r => 'r' | .w => 'w' | .u => 'u'
noncomputable def Nm.sort : Nm → List Dd
  | .get_variable => [.w, .r] | .get_value => [.r, .r] | .get_constant => [.dot, .r] | .get_structure => [.dot, .r] | .get_list => [.r] | .unify_variable => [.w] | .unify_value => [.r] | .unify_local_value => [.u] | .set_value => [.r] | .set_local_value => [.u] | .put_variable => [.w, .w] | .put_value => [.r, .w] | .put_unsafe_value => [.r, .w] | .put_constant => [.dot, .w] | .put_structure => [.dot, .w] | .put_list => [.w] | .get_level => [.w] | .mark => [.w] | .cut_to => [.r] | .builtin => [.dot] | .execute => [.dot] | .call => [.dot, .dot]
noncomputable def Nm.sortS : Nm → String
  | .get_variable => "wr" | .get_value => "rr" | .get_constant => ".r" | .get_structure => ".r" | .get_list => "r" | .unify_variable => "w" | .unify_value => "r" | .unify_local_value => "u" | .set_value => "r" | .set_local_value => "u" | .put_variable => "ww" | .put_value => "rw" | .put_unsafe_value => "rw" | .put_constant => ".w" | .put_structure => ".w" | .put_list => "w" | .get_level => "w" | .mark => "w" | .cut_to => "r" | .builtin => "." | .execute => "." | .call => ".."
noncomputable def sortsL : List (String × String) := [("get_variable", "wr"), ("get_value", "rr"), ("get_constant", ".r"), ("get_structure", ".r"), ("get_list", "r"), ("unify_variable", "w"), ("unify_value", "r"), ("unify_local_value", "u"), ("set_value", "r"), ("set_local_value", "u"), ("put_variable", "ww"), ("put_value", "rw"), ("put_unsafe_value", "rw"), ("put_constant", ".w"), ("put_structure", ".w"), ("put_list", "w"), ("get_level", "w"), ("mark", "w"), ("cut_to", "r"), ("builtin", "."), ("execute", "."), ("call", "..")]
noncomputable def sortsV : List (Str × V) := sortsL.map fun x => (Str.ofString x.1, V.str x.2)
structure Rw where
  nm : Nm
  ps : List Pt
noncomputable def Rw.v (r : Rw) : V := .tup (.str r.nm.s :: r.ps.map Pt.v)
noncomputable def Nm.all : List Nm := [.get_variable, .get_value, .get_constant, .get_structure, .get_list, .unify_variable, .unify_value, .unify_local_value, .set_value, .set_local_value, .put_variable, .put_value, .put_unsafe_value, .put_constant, .put_structure, .put_list, .get_level, .mark, .cut_to, .builtin, .execute, .call]
noncomputable def Nm.of (s : String) : Option Nm := Nm.all.find? fun x => x.s == s
theorem Nm.of_s (a : Nm) : Nm.of a.s = some a := by cases a <;> kernel_rfl
theorem Nm.s_inj {a b : Nm} (h : a.s = b.s) : a = b := Option.some.inj ((Nm.of_s a).symm.trans ((congrArg Nm.of h).trans (Nm.of_s b)))
theorem Ch.s_inj {a b : Ch} (h : a.s = b.s) : a = b := by
  cases a <;> cases b <;> first | rfl | exact absurd h (by decide)
theorem sort_get (r : Nm) : dget sortsV (Str.ofString r.s) = some (.str r.sortS) := by
  cases r <;> kernel_rfl
theorem sortS_list (r : Nm) : r.sortS.toList = r.sort.map Dd.ch := by cases r <;> decide
@[simp] theorem nm_eq (a b : Nm) : V.eq (.str a.s) (.str b.s) = decide (a = b) := by
  rw [V.eq_str]
  by_cases h : a = b
  · subst h; simp
  · rw [decide_eq_false h]
    exact beq_eq_false_iff_ne.mpr fun e => h (Nm.s_inj e)
theorem ch_eq (a b : Ch) : V.eq (.str a.s) (.str b.s) = decide (a = b) := by
  rw [V.eq_str]
  by_cases h : a = b
  · subst h; simp
  · rw [decide_eq_false h]
    exact beq_eq_false_iff_ne.mpr fun e => h (Ch.s_inj e)
theorem pt_eq (p q : Pt) : V.eq p.v q.v = decide (p = q) := by
  cases p <;> cases q <;> simp [Pt.v, V.eqs, ch_eq]
  · rename_i c n c' n'
    have := ch_eq c c'
    rw [V.eq_str] at this
    by_cases h : c = c'
    · subst h; simp
    · rw [decide_eq_false h] at this
      have h2 : ¬ c.s = c'.s := by simpa using this
      simp [h, h2]
theorem Pt.ok (p : Pt) : p.v.ok = true := by cases p <;> rfl
theorem Pt.ok2 (p : Pt) : V.okN 2 p.v = true := by cases p <;> rfl
theorem Rw.ok (r : Rw) : r.v.ok = true := by
  show (V.str r.nm.s :: r.ps.map Pt.v).all (V.okN 2) = true
  rw [List.all_cons, List.all_map, Bool.and_eq_true]
  exact ⟨rfl, List.all_eq_true.mpr fun p _ => Pt.ok2 p⟩
theorem pts_eq : ∀ (p q : List Pt), V.eqs (p.map Pt.v) (q.map Pt.v) = decide (p = q)
  | [], [] => rfl
  | [], _ :: _ => rfl
  | _ :: _, [] => rfl
  | x :: p, y :: q => by
    simp only [List.map_cons, V.eqs, pt_eq, pts_eq p q]
    by_cases h1 : x = y <;> by_cases h2 : p = q <;> simp [h1, h2]
inductive Og where | none | at (k : Nat) | given (n : Int)
deriving DecidableEq
noncomputable def Og.v : Og → V | .none => .str "none" | .at k => .int k | .given n => .tup [.str "given", .int n]
theorem Og.ok (o : Og) : o.v.ok = true := by cases o <;> rfl
theorem og_eq (p q : Og) : V.eq p.v q.v = decide (p = q) := by
  cases p <;> cases q <;> simp [Og.v, V.eqs, Int.ofNat_inj]
noncomputable def Pt.isOp : Pt → Bool | .op _ _ => true | _ => false
noncomputable def Pt.is (c : Ch) : Pt → Bool | .op d _ => d == c | _ => false
noncomputable def fin (ar : Int) : Pt → Og
  | .op c n => if c ≠ .t ∧ n ≤ ar then .given n else .none
  | _ => .none
noncomputable def giv : Pt → Pt
  | .op .a n => .op .g n
  | p => p
noncomputable def wu (d : Dd) : Bool := d == .w || d == .u
noncomputable def onlyw (d : Dd) : Bool := d == .w
noncomputable def touched (r : Rw) (f : Dd → Bool) : List Pt := ((r.nm.sort.zip r.ps).filter fun x => f x.1).map (·.2)
noncomputable def origin (ar : Int) (rows : List Rw) : Nat → Pt → Og
  | 0, o => fin ar o
  | k + 1, o => match rows[k]? with
    | .none => .none
    | some row =>
      if row.nm = .call ∨ row.nm = .execute then .none
      else if o ∈ touched row wu then
        match row.nm, row.ps with
        | .get_variable, [_, .op c n] => if c ≠ .y then origin ar rows k (giv (.op c n)) else .at k
        | .put_value, [.op c n, _] => if c ≠ .y then origin ar rows k (giv (.op c n)) else .at k
        | _, _ => .at k
      else origin ar rows k o
noncomputable def isA : Pt → Option Int | .op .a n => some n | _ => none
noncomputable def badA (p q : Pt) : Bool := match isA p with | some n => !decide (q = Pt.op .x n) | none => false
noncomputable def readRight (ar : Int) (code real : List Rw) (at' : Nat) (p q : Pt) : Bool :=
  if badA p q then false
  else !decide (origin ar code at' (giv p) = Og.none) && decide (origin ar real at' q = origin ar code at' (giv p))
noncomputable def iget (l : List (Int × Int)) (k d : Int) : Int := ((l.find? fun p => p.1 = k).map (·.2)).getD d
noncomputable def ihas (l : List (Int × Int)) (k : Int) : Bool := l.any fun p => p.1 = k
noncomputable def iput (l : List (Int × Int)) (k v : Int) : List (Int × Int) := if l.any (fun p => p.1 = k) then l.map (fun p => if p.1 = k then (p.1, v) else p) else l ++ [(k, v)]
noncomputable def pget (l : List (Int × Pt)) (k : Int) (d : Pt) : Pt := ((l.find? fun p => p.1 = k).map (·.2)).getD d
noncomputable def pput (l : List (Int × Pt)) (k : Int) (v : Pt) : List (Int × Pt) := if l.any (fun p => p.1 = k) then l.map (fun p => if p.1 = k then (p.1, v) else p) else l ++ [(k, v)]
noncomputable def Pt.n : Pt → Int | .op _ n => n | _ => 0
noncomputable def spots (ar : Int) (code real : List Rw) (at' : Nat) : List Dd → List Pt → List Pt → List (Int × Pt) → Bool
  | d :: ds, p :: ps, q :: qs, wr =>
    if d = .dot ∨ p.is .y then (if p ≠ q then false else spots ar code real at' ds ps qs wr)
    else if d = .w then
      if badA p q then false
      else if pget wr q.n p ≠ p then false
      else spots ar code real at' ds ps qs (pput wr q.n p)
    else if readRight ar code real at' p q then spots ar code real at' ds ps qs wr else false
  | _, _, _, _ => true
noncomputable def rowRight (ar : Int) (code real : List Rw) (at' : Nat) : Bool := match code[at']?, real[at']? with
  | some r, some q => spots ar code real at' r.nm.sort r.ps q.ps []
  | _, _ => true
noncomputable def Nm.takes (n : Nm) : Bool := n == .call || n == .execute || n == .builtin
noncomputable def beginOf (code : List Rw) : Nat → Nat
  | 0 => 0
  | k + 1 => match code[k]? with
    | some r => if r.nm.takes then k + 1 else beginOf code k
    | none => 0
noncomputable def argRight (ar : Int) (code real : List Rw) (at' : Nat) (p : Pt) : Bool := match isA p with
  | some n => decide (origin ar real at' (Pt.op .x n) = origin ar code at' p)
  | none => true
noncomputable def argsRight (ar : Int) (code real : List Rw) (at' : Nat) : Bool := match code[at']? with
  | some r => if r.nm.takes then ((code.take at').drop (beginOf code at')).all fun r => (touched r onlyw).all (argRight ar code real at') else true
  | none => true
noncomputable def keeps (ar : Int) (code real : List Rw) : Bool := (List.range code.length).all fun k => rowRight ar code real k && argsRight ar code real k
structure Ck where
  nv : Int
  vo : List (Int × Int)
  held : List (Int × Int)
  inc : List (Int × Int)
  out : List (Int × Int)
noncomputable def Nm.rl : Nm → List (Int × Nat)
  | .get_variable => [(1, 1), (2, 0)] | .get_value => [(1, 0), (1, 1)] | .get_constant => [(1, 1)] | .get_structure => [(1, 1)] | .get_list => [(1, 0)] | .unify_variable => [(2, 0)] | .unify_value => [(1, 0)] | .set_value => [(1, 0)] | .unify_local_value => [(3, 0)] | .set_local_value => [(3, 0)] | .put_variable => [(2, 0), (2, 1)] | .put_value => [(1, 0), (2, 1)] | .put_unsafe_value => [(1, 0), (2, 1)] | .put_constant => [(2, 1)] | .put_structure => [(2, 1)] | .put_list => [(2, 0)] | .get_level => [(2, 0)] | .mark => [(2, 0)] | .cut_to => [(1, 0)] | .builtin => [] | .execute => [] | .call => []
noncomputable def roles (nm : Nm) (ps : List Pt) : List (Int × Pt) := nm.rl.map fun x => (x.1, ps.getD x.2 (.num 0))
noncomputable def sameRead (k : Ck) (p q : Pt) : Bool :=
  if p.is .y then decide (q = p)
  else if ¬ q.is .x ∨ ihas k.held q.n = false then false
  else match p with
    | .op .t n => decide (iget k.held q.n 0 = iget k.vo n 0)
    | .op _ n => if n = q.n then decide (iget k.held q.n 0 = iget k.inc n 0) else false
    | _ => false
noncomputable def sameWrite (p q : Pt) : Bool := match p with
  | .op .y _ => decide (q = p)
  | .op .a n => decide (q = Pt.op .x n)
  | _ => q.is .x
noncomputable def samePt (p q : Pt) : Bool := if p.is .t ∨ p.is .a then q.is .x else decide (p = q)
noncomputable def sameShape (r q : Rw) : Bool := decide (r.ps.length = q.ps.length) && (decide (r.nm = q.nm) && (r.ps.zip q.ps).all fun x => samePt x.1 x.2)
noncomputable def argsStand (k : Ck) (nm : Nm) : Bool := if nm.takes then k.out.all fun x => decide (iget k.held x.1 0 = iget k.out x.1 0) else true
noncomputable def twice (r : Rw) : Bool := match r.ps with | [p, q] => decide (p = q) | _ => false
noncomputable def goM (k : Ck) (r : Rw) : List (Int × Pt) → List (Int × Pt) → List Pt → Bool
  | (role, p) :: ps, (_, q) :: qs, wr =>
    if role ≠ 2 ∧ sameRead k p q = false then false
    else if role = 2 ∧ sameWrite p q = false then false
    else if role = 2 ∧ q.is .x then (if q ∈ wr then twice r else goM k r ps qs (wr ++ [q]))
    else goM k r ps qs wr
  | _, _, _ => argsStand k r.nm
noncomputable def matchP (k : Ck) (r q : Rw) : Bool := if sameShape r q then goM k r (roles r.nm r.ps) (roles q.nm q.ps) [] else false
noncomputable def source : Nm → List Pt → Option Pt
  | .get_variable, [_, q] => some q
  | .put_value, [p, _] => some p
  | _, _ => none
noncomputable def copied (k : Ck) (r : Rw) : Int := match source r.nm r.ps with
  | some (.op .t n) => iget k.vo n 0
  | some (.op .a n) => iget k.inc n 0
  | _ => 0
noncomputable def writeP (k : Ck) (p q : Pt) (v : Int) : Ck := match p with
  | .op .y _ => k
  | .op .t n => { k with held := iput k.held q.n v, vo := iput k.vo n v }
  | .op _ n => { k with held := iput k.held q.n v, out := iput k.out n v }
  | _ => k
noncomputable def goA (v : Int) : Ck → List (Int × Pt) → List (Int × Pt) → Ck
  | k, (role, p) :: ps, (_, q) :: qs => goA v (if role ≠ 1 then writeP k p q v else k) ps qs
  | k, _, _ => k
noncomputable def ended (k : Ck) (nm : Nm) : Ck :=
  let k1 := if nm.takes then { k with out := [] } else k
  if nm = .call ∨ nm = .execute then { k1 with held := [], vo := [], inc := [] } else k1
noncomputable def advP (k : Ck) (r q : Rw) : Ck :=
  let v := copied k r
  let k1 := if v = 0 then { k with nv := k.nv + 1 } else k
  ended (goA (if v = 0 then k.nv + 1 else v) k1 (roles r.nm r.ps) (roles q.nm q.ps)) r.nm
noncomputable def targetOf (r : Rw) : Pt := if r.nm = .get_variable then r.ps.getD 0 (.num 0) else r.ps.getD 1 (.num 0)
noncomputable def leftP (k : Ck) (r : Rw) : Option Ck :=
  let v := copied k r
  if v = 0 then none
  else match targetOf r with
    | .op .t n => some { k with vo := iput k.vo n v }
    | .op .a n => if iget k.held n 0 = v then some { k with out := iput k.out n v } else none
    | _ => none
noncomputable def initC : Nat → Ck
  | 0 => ⟨0, [], [], [], []⟩
  | n + 1 => { initC n with nv := (initC n).nv + 1, inc := iput (initC n).inc (n + 1) ((initC n).nv + 1), held := iput (initC n).held (n + 1) ((initC n).nv + 1) }
noncomputable def runC (real : List Rw) : Ck → Nat → List Rw → Bool
  | k, j, [] => decide (j = real.length)
  | k, j, r :: rs => match real[j]? with
    | some q => if matchP k r q then runC real (advP k r q) (j + 1) rs else match leftP k r with
      | some k' => runC real k' j rs
      | none => false
    | none => match leftP k r with
      | some k' => runC real k' j rs
      | none => false
noncomputable def checkP (code real : List Rw) (ar : Nat) : Bool := runC real (initC ar) 0 code
noncomputable def Pt.isCst : Pt → Bool | .op _ _ => false | _ => true
noncomputable def dOk (d : Dd) (p : Pt) : Bool := match d, p with
  | .dot, .op _ _ => false
  | .dot, _ => true
  | .u, .op c _ => c == .t || c == .y
  | _, .op c _ => c == .t || c == .a || c == .y
  | _, _ => false
noncomputable def rowOk (r : Rw) : Bool := decide (r.nm.sort.length = r.ps.length) && (r.nm.sort.zip r.ps).all fun x => dOk x.1 x.2
noncomputable def ptR (p q : Pt) : Bool := (q.is .x && decide (1 ≤ q.n)) || (!(p.is .t) && !(p.is .a) && decide (q = p))
noncomputable def rowR (r q : Rw) : Bool := decide (r.nm = q.nm) && (decide (r.ps.length = q.ps.length) && (r.ps.zip q.ps).all fun x => ptR x.1 x.2)
end Mine
namespace Mine
noncomputable def TapeH (H : AH) (d e : Addr) (l : List Int) (p q : Int) : AH := (H.set e (.list (intL l))).set d (.list [.ref e, .int p, .int q])
theorem TapeH_same {H : AH} {d e : Addr} {l : List Int} {p q : Int} (hd : H d = some (.list [.ref e, .int p, .int q])) (he : H e = some (.list (intL l))) : TapeH H d e l p q = H := by
  unfold TapeH; rw [set_same_fun he, set_same_fun hd]
theorem TapeH_twice {H : AH} {d e : Addr} {l l' : List Int} {p q p' q' : Int} (hde : d ≠ e) : TapeH (TapeH H d e l p q) d e l' p' q' = TapeH H d e l' p' q' := by
  funext x; simp only [TapeH, AH.set]; by_cases h1 : x = d <;> by_cases h2 : x = e <;> simp [h1, h2]
theorem TapeH_d {H : AH} {d e : Addr} {l : List Int} {p q : Int} : TapeH H d e l p q d = some (.list [.ref e, .int p, .int q]) := AH.set_same _ _ _
theorem TapeH_e {H : AH} {d e : Addr} {l : List Int} {p q : Int} (hde : d ≠ e) : TapeH H d e l p q e = some (.list (intL l)) := (AH.set_ne _ _ (Ne.symm hde)).trans (AH.set_same _ _ _)
theorem TapeH_ne {H : AH} {d e x : Addr} {l : List Int} {p q : Int} (h1 : x ≠ d) (h2 : x ≠ e) : TapeH H d e l p q x = H x := (AH.set_ne _ _ h1).trans (AH.set_ne _ _ h2)
theorem Sub.of_eq {H H' : AH} (h : H = H') : Sub H H' := h ▸ Sub.refl H
theorem intL_get {l : List Int} {k : Nat} (h : k < l.length) : (intL l)[k]? = some (.int l[k]) := by simp [intL, h]
theorem intL_set {l : List Int} {k : Nat} {x : Int} : (intL l).set k (.int x) = intL (l.set k x) := by simp [intL, List.map_set]
section
variable {c : Cx} (hK : c.K = hd.heap_1 c.w.params)
include hK
theorem sp_digit {n : Nat} {H : AH} {d e : Addr} {l : List Int} {p q lim : Int} {Q : V → AH → Prop} (hde : d ≠ e) (hd : H d = some (.list [.ref e, .int p, .int q])) (he : H e = some (.list (intL l))) (h0 : 0 ≤ p) (hl : l.length ≤ 60) (hlim : 0 < lim) (hlim2 : lim < 1000)
    (h : ∀ r p' q' l', 0 ≤ r → r < lim → 0 ≤ p' → l'.length = l.length → Q (.int r) (TapeH H d e l' p' q')) : FnSpec c (n + 12) 140 [.ref d, .int lim] Q H := by
  refine fn_enter (ks := ks__law_digit) (by rw [hK]; rfl) (by rw [hK]; kernel_rfl) (KOk.of rfl (by kernel_rfl)) [Str.ofString "tape", Str.ofString "limit"] [213659892, 31360513260] (all2 fun v0 v1 => rfl) (by kernel_rfl) (by decide) (by rfl) (by decide) rfl rfl rfl (fun A L env hA K => ?_)
  refine seq ?_
  refine S_if ?_
  refine B_cmp ?_ (by rfl)
  refine E_sub ?_
  refine E_local K n_tape (by rfl) (by first | rfl | assumption) ?_ (by rfl)
  refine E_int ?_
  refine o_item_list (by first | assumption | exact AH.set_same _ _ _ | exact (AH.set_ne _ _ (by first | assumption | exact Ne.symm (by assumption) | exact ne_none (by assumption) (by assumption) | exact Ne.symm (ne_none (by assumption) (by assumption)))).trans (by first | assumption | exact AH.set_same _ _ _ | exact (AH.set_ne _ _ (by first | assumption | exact Ne.symm (by assumption) | exact ne_none (by assumption) (by assumption) | exact Ne.symm (ne_none (by assumption) (by assumption)))).trans (by first | assumption | exact AH.set_same _ _ _ | exact (AH.set_ne _ _ (by first | assumption | exact Ne.symm (by assumption) | exact ne_none (by assumption) (by assumption) | exact Ne.symm (ne_none (by assumption) (by assumption)))).trans (by first | assumption | exact AH.set_same _ _ _ | exact (AH.set_ne _ _ (by first | assumption | exact Ne.symm (by assumption) | exact ne_none (by assumption) (by assumption) | exact Ne.symm (ne_none (by assumption) (by assumption)))).trans (by first | assumption | exact AH.set_same _ _ _ | exact (AH.set_ne _ _ (by first | assumption | exact Ne.symm (by assumption) | exact ne_none (by assumption) (by assumption) | exact Ne.symm (ne_none (by assumption) (by assumption)))).trans (by first | assumption | exact AH.set_same _ _ _ | exact (AH.set_ne _ _ (by first | assumption | exact Ne.symm (by assumption) | exact ne_none (by assumption) (by assumption) | exact Ne.symm (ne_none (by assumption) (by assumption)))).trans (by assumption))))))) (by first | decide | omega) (by first | decide | omega) (by first | rfl | assumption) ?_ (fun _ _ => rfl)
  refine E_callb K n_len (by rfl) (gl_len hK) boot_len nn_len (by rfl) (fun _ h => nomatch h) ?_ (by rfl) (by rfl)
  refine L_cons ?_ (by rfl)
  refine E_sub ?_
  refine E_local K n_tape (by rfl) (by first | rfl | assumption) ?_ (by rfl)
  refine E_int ?_
  refine o_item_list (by first | assumption | exact AH.set_same _ _ _ | exact (AH.set_ne _ _ (by first | assumption | exact Ne.symm (by assumption) | exact ne_none (by assumption) (by assumption) | exact Ne.symm (ne_none (by assumption) (by assumption)))).trans (by first | assumption | exact AH.set_same _ _ _ | exact (AH.set_ne _ _ (by first | assumption | exact Ne.symm (by assumption) | exact ne_none (by assumption) (by assumption) | exact Ne.symm (ne_none (by assumption) (by assumption)))).trans (by first | assumption | exact AH.set_same _ _ _ | exact (AH.set_ne _ _ (by first | assumption | exact Ne.symm (by assumption) | exact ne_none (by assumption) (by assumption) | exact Ne.symm (ne_none (by assumption) (by assumption)))).trans (by first | assumption | exact AH.set_same _ _ _ | exact (AH.set_ne _ _ (by first | assumption | exact Ne.symm (by assumption) | exact ne_none (by assumption) (by assumption) | exact Ne.symm (ne_none (by assumption) (by assumption)))).trans (by first | assumption | exact AH.set_same _ _ _ | exact (AH.set_ne _ _ (by first | assumption | exact Ne.symm (by assumption) | exact ne_none (by assumption) (by assumption) | exact Ne.symm (ne_none (by assumption) (by assumption)))).trans (by first | assumption | exact AH.set_same _ _ _ | exact (AH.set_ne _ _ (by first | assumption | exact Ne.symm (by assumption) | exact ne_none (by assumption) (by assumption) | exact Ne.symm (ne_none (by assumption) (by assumption)))).trans (by assumption))))))) (by first | decide | omega) (by first | decide | omega) (by first | rfl | assumption) ?_ (fun _ _ => rfl)
  refine L_nil ?_
  first | refine b_len_tup (by first | decide | (simp only [List.length_cons, List.length_nil, List.length_map] <;> omega)) ?_ | refine b_len_list (by first | assumption | exact AH.set_same _ _ _ | exact (AH.set_ne _ _ (by first | assumption | exact Ne.symm (by assumption) | exact ne_none (by assumption) (by assumption) | exact Ne.symm (ne_none (by assumption) (by assumption)))).trans (by first | assumption | exact AH.set_same _ _ _ | exact (AH.set_ne _ _ (by first | assumption | exact Ne.symm (by assumption) | exact ne_none (by assumption) (by assumption) | exact Ne.symm (ne_none (by assumption) (by assumption)))).trans (by first | assumption | exact AH.set_same _ _ _ | exact (AH.set_ne _ _ (by first | assumption | exact Ne.symm (by assumption) | exact ne_none (by assumption) (by assumption) | exact Ne.symm (ne_none (by assumption) (by assumption)))).trans (by first | assumption | exact AH.set_same _ _ _ | exact (AH.set_ne _ _ (by first | assumption | exact Ne.symm (by assumption) | exact ne_none (by assumption) (by assumption) | exact Ne.symm (ne_none (by assumption) (by assumption)))).trans (by first | assumption | exact AH.set_same _ _ _ | exact (AH.set_ne _ _ (by first | assumption | exact Ne.symm (by assumption) | exact ne_none (by assumption) (by assumption) | exact Ne.symm (ne_none (by assumption) (by assumption)))).trans (by first | assumption | exact AH.set_same _ _ _ | exact (AH.set_ne _ _ (by first | assumption | exact Ne.symm (by assumption) | exact ne_none (by assumption) (by assumption) | exact Ne.symm (ne_none (by assumption) (by assumption)))).trans (by assumption))))))) (by first | decide | (simp only [List.length_cons, List.length_nil, List.length_map, intL] <;> omega)) ?_
  refine o_ge ?_
  refine ⟨_, rfl, ?_⟩
  refine ite_b (fun c1 => ?_) (fun c1 => ?_)
  · skip
    have c1' := of_decide_eq_true c1
    refine seq ?_
    refine S_return ?_
    refine E_int ?_
    refine After.ret ?_
    refine After.ret ?_
    refine Back.ret ?_
    exact ⟨H, Sub.refl _, by have := h 0 p q l (Int.le_refl _) hlim h0 rfl; rwa [TapeH_same hd he] at this⟩
  · skip
    have c1' := of_decide_eq_false c1
    have hp : p.toNat < l.length := by simp only [intL, List.length_map] at c1'; omega
    have hmod1 := Int.fmod_nonneg_of_pos l[p.toNat] hlim
    have hmod2 := Int.fmod_lt_of_pos l[p.toNat] hlim
    refine S_nil ?_
    refine After.next ?_
    refine seq ?_
    refine S_assign K n_cell (by rfl) ?_ (by rfl)
    refine E_sub ?_
    refine E_sub ?_
    refine E_local K n_tape (by rfl) (by first | rfl | assumption) ?_ (by rfl)
    refine E_int ?_
    refine o_item_list (by first | assumption | exact AH.set_same _ _ _ | exact (AH.set_ne _ _ (by first | assumption | exact Ne.symm (by assumption) | exact ne_none (by assumption) (by assumption) | exact Ne.symm (ne_none (by assumption) (by assumption)))).trans (by first | assumption | exact AH.set_same _ _ _ | exact (AH.set_ne _ _ (by first | assumption | exact Ne.symm (by assumption) | exact ne_none (by assumption) (by assumption) | exact Ne.symm (ne_none (by assumption) (by assumption)))).trans (by first | assumption | exact AH.set_same _ _ _ | exact (AH.set_ne _ _ (by first | assumption | exact Ne.symm (by assumption) | exact ne_none (by assumption) (by assumption) | exact Ne.symm (ne_none (by assumption) (by assumption)))).trans (by first | assumption | exact AH.set_same _ _ _ | exact (AH.set_ne _ _ (by first | assumption | exact Ne.symm (by assumption) | exact ne_none (by assumption) (by assumption) | exact Ne.symm (ne_none (by assumption) (by assumption)))).trans (by first | assumption | exact AH.set_same _ _ _ | exact (AH.set_ne _ _ (by first | assumption | exact Ne.symm (by assumption) | exact ne_none (by assumption) (by assumption) | exact Ne.symm (ne_none (by assumption) (by assumption)))).trans (by first | assumption | exact AH.set_same _ _ _ | exact (AH.set_ne _ _ (by first | assumption | exact Ne.symm (by assumption) | exact ne_none (by assumption) (by assumption) | exact Ne.symm (ne_none (by assumption) (by assumption)))).trans (by assumption))))))) (by first | decide | omega) (by first | decide | omega) (by first | rfl | assumption) ?_ (fun _ _ => rfl)
    refine E_sub ?_
    refine E_local K n_tape (by rfl) (by first | rfl | assumption) ?_ (by rfl)
    refine E_int ?_
    refine o_item_list (by first | assumption | exact AH.set_same _ _ _ | exact (AH.set_ne _ _ (by first | assumption | exact Ne.symm (by assumption) | exact ne_none (by assumption) (by assumption) | exact Ne.symm (ne_none (by assumption) (by assumption)))).trans (by first | assumption | exact AH.set_same _ _ _ | exact (AH.set_ne _ _ (by first | assumption | exact Ne.symm (by assumption) | exact ne_none (by assumption) (by assumption) | exact Ne.symm (ne_none (by assumption) (by assumption)))).trans (by first | assumption | exact AH.set_same _ _ _ | exact (AH.set_ne _ _ (by first | assumption | exact Ne.symm (by assumption) | exact ne_none (by assumption) (by assumption) | exact Ne.symm (ne_none (by assumption) (by assumption)))).trans (by first | assumption | exact AH.set_same _ _ _ | exact (AH.set_ne _ _ (by first | assumption | exact Ne.symm (by assumption) | exact ne_none (by assumption) (by assumption) | exact Ne.symm (ne_none (by assumption) (by assumption)))).trans (by first | assumption | exact AH.set_same _ _ _ | exact (AH.set_ne _ _ (by first | assumption | exact Ne.symm (by assumption) | exact ne_none (by assumption) (by assumption) | exact Ne.symm (ne_none (by assumption) (by assumption)))).trans (by first | assumption | exact AH.set_same _ _ _ | exact (AH.set_ne _ _ (by first | assumption | exact Ne.symm (by assumption) | exact ne_none (by assumption) (by assumption) | exact Ne.symm (ne_none (by assumption) (by assumption)))).trans (by assumption))))))) (by first | decide | omega) (by first | decide | omega) (by first | rfl | assumption) ?_ (fun _ _ => rfl)
    refine o_item_list (by first | assumption | exact AH.set_same _ _ _ | exact (AH.set_ne _ _ (by first | assumption | exact Ne.symm (by assumption) | exact ne_none (by assumption) (by assumption) | exact Ne.symm (ne_none (by assumption) (by assumption)))).trans (by first | assumption | exact AH.set_same _ _ _ | exact (AH.set_ne _ _ (by first | assumption | exact Ne.symm (by assumption) | exact ne_none (by assumption) (by assumption) | exact Ne.symm (ne_none (by assumption) (by assumption)))).trans (by first | assumption | exact AH.set_same _ _ _ | exact (AH.set_ne _ _ (by first | assumption | exact Ne.symm (by assumption) | exact ne_none (by assumption) (by assumption) | exact Ne.symm (ne_none (by assumption) (by assumption)))).trans (by first | assumption | exact AH.set_same _ _ _ | exact (AH.set_ne _ _ (by first | assumption | exact Ne.symm (by assumption) | exact ne_none (by assumption) (by assumption) | exact Ne.symm (ne_none (by assumption) (by assumption)))).trans (by first | assumption | exact AH.set_same _ _ _ | exact (AH.set_ne _ _ (by first | assumption | exact Ne.symm (by assumption) | exact ne_none (by assumption) (by assumption) | exact Ne.symm (ne_none (by assumption) (by assumption)))).trans (by first | assumption | exact AH.set_same _ _ _ | exact (AH.set_ne _ _ (by first | assumption | exact Ne.symm (by assumption) | exact ne_none (by assumption) (by assumption) | exact Ne.symm (ne_none (by assumption) (by assumption)))).trans (by assumption))))))) h0 (by omega) (intL_get hp) ?_ (fun _ _ => rfl)
    refine After.next ?_
    refine seq ?_
    refine S_assign K n_figure (by rfl) ?_ (by rfl)
    refine E_binop ?_
    refine E_local K n_cell (by rfl) (by first | rfl | assumption) ?_ (by rfl)
    refine E_local K n_limit (by rfl) (by first | rfl | assumption) ?_ (by rfl)
    refine o_mod (by first | decide | omega) ?_
    refine After.next ?_
    refine seq ?_
    refine S_assign K n_rest (by rfl) ?_ (by rfl)
    refine E_binop ?_
    refine E_local K n_cell (by rfl) (by first | rfl | assumption) ?_ (by rfl)
    refine E_local K n_limit (by rfl) (by first | rfl | assumption) ?_ (by rfl)
    refine o_div (by first | decide | omega) (by first | decide | omega) ?_
    refine After.next ?_
    refine seq ?_
    refine S_aug_sub ?_ (fun _ _ _ => rfl)
    refine E_local K n_tape (by rfl) (by first | rfl | assumption) ?_ (by rfl)
    refine E_int ?_
    refine g_list (by first | assumption | exact AH.set_same _ _ _ | exact (AH.set_ne _ _ (by first | assumption | exact Ne.symm (by assumption) | exact ne_none (by assumption) (by assumption) | exact Ne.symm (ne_none (by assumption) (by assumption)))).trans (by first | assumption | exact AH.set_same _ _ _ | exact (AH.set_ne _ _ (by first | assumption | exact Ne.symm (by assumption) | exact ne_none (by assumption) (by assumption) | exact Ne.symm (ne_none (by assumption) (by assumption)))).trans (by first | assumption | exact AH.set_same _ _ _ | exact (AH.set_ne _ _ (by first | assumption | exact Ne.symm (by assumption) | exact ne_none (by assumption) (by assumption) | exact Ne.symm (ne_none (by assumption) (by assumption)))).trans (by first | assumption | exact AH.set_same _ _ _ | exact (AH.set_ne _ _ (by first | assumption | exact Ne.symm (by assumption) | exact ne_none (by assumption) (by assumption) | exact Ne.symm (ne_none (by assumption) (by assumption)))).trans (by first | assumption | exact AH.set_same _ _ _ | exact (AH.set_ne _ _ (by first | assumption | exact Ne.symm (by assumption) | exact ne_none (by assumption) (by assumption) | exact Ne.symm (ne_none (by assumption) (by assumption)))).trans (by first | assumption | exact AH.set_same _ _ _ | exact (AH.set_ne _ _ (by first | assumption | exact Ne.symm (by assumption) | exact ne_none (by assumption) (by assumption) | exact Ne.symm (ne_none (by assumption) (by assumption)))).trans (by assumption))))))) (by decide) (by decide) (by first | rfl | assumption) ?_
    refine E_int ?_
    refine o_iadd ?_
    refine s_list (by first | assumption | exact AH.set_same _ _ _ | exact (AH.set_ne _ _ (by first | assumption | exact Ne.symm (by assumption) | exact ne_none (by assumption) (by assumption) | exact Ne.symm (ne_none (by assumption) (by assumption)))).trans (by first | assumption | exact AH.set_same _ _ _ | exact (AH.set_ne _ _ (by first | assumption | exact Ne.symm (by assumption) | exact ne_none (by assumption) (by assumption) | exact Ne.symm (ne_none (by assumption) (by assumption)))).trans (by first | assumption | exact AH.set_same _ _ _ | exact (AH.set_ne _ _ (by first | assumption | exact Ne.symm (by assumption) | exact ne_none (by assumption) (by assumption) | exact Ne.symm (ne_none (by assumption) (by assumption)))).trans (by first | assumption | exact AH.set_same _ _ _ | exact (AH.set_ne _ _ (by first | assumption | exact Ne.symm (by assumption) | exact ne_none (by assumption) (by assumption) | exact Ne.symm (ne_none (by assumption) (by assumption)))).trans (by first | assumption | exact AH.set_same _ _ _ | exact (AH.set_ne _ _ (by first | assumption | exact Ne.symm (by assumption) | exact ne_none (by assumption) (by assumption) | exact Ne.symm (ne_none (by assumption) (by assumption)))).trans (by first | assumption | exact AH.set_same _ _ _ | exact (AH.set_ne _ _ (by first | assumption | exact Ne.symm (by assumption) | exact ne_none (by assumption) (by assumption) | exact Ne.symm (ne_none (by assumption) (by assumption)))).trans (by assumption))))))) (by decide) (by decide) (by simp) ?_
    refine After.next ?_
    refine seq ?_
    refine S_if ?_
    refine B_pure (decide (l[p.toNat].fdiv lim = 0) || (decide (l[p.toNat].fdiv lim = -1) || decide (q + 1 = 30))) ?_ ?_
    · skip
      refine B_or ?_
      refine A_or_cons ?_
      refine B_cmp ?_ (by rfl)
      refine E_local K n_rest (by rfl) (by first | rfl | assumption) ?_ (by rfl)
      refine E_int ?_
      refine o_eq hA (by omega) (by first | rfl | assumption) (by first | rfl | assumption) ?_
      refine ⟨_, rfl, ?_⟩
      refine ite_b (fun b2 => ?_) (fun b2 => ?_)
      · skip
        exact ⟨by simp_all, rfl⟩
      · skip
        refine A_or_cons ?_
        refine B_cmp ?_ (by rfl)
        refine E_local K n_rest (by rfl) (by first | rfl | assumption) ?_ (by rfl)
        refine E_usub ?_
        refine E_int ?_
        refine ⟨_, rfl, ?_⟩
        refine o_eq hA (by omega) (by first | rfl | assumption) (by first | rfl | assumption) ?_
        refine ⟨_, rfl, ?_⟩
        refine ite_b (fun b3 => ?_) (fun b3 => ?_)
        · skip
          exact ⟨by simp_all, rfl⟩
        · skip
          refine A_or_cons ?_
          refine B_cmp ?_ (by rfl)
          refine E_sub ?_
          refine E_local K n_tape (by rfl) (by first | rfl | assumption) ?_ (by rfl)
          refine E_int ?_
          refine o_item_list (by first | assumption | exact AH.set_same _ _ _ | exact (AH.set_ne _ _ (by first | assumption | exact Ne.symm (by assumption) | exact ne_none (by assumption) (by assumption) | exact Ne.symm (ne_none (by assumption) (by assumption)))).trans (by first | assumption | exact AH.set_same _ _ _ | exact (AH.set_ne _ _ (by first | assumption | exact Ne.symm (by assumption) | exact ne_none (by assumption) (by assumption) | exact Ne.symm (ne_none (by assumption) (by assumption)))).trans (by first | assumption | exact AH.set_same _ _ _ | exact (AH.set_ne _ _ (by first | assumption | exact Ne.symm (by assumption) | exact ne_none (by assumption) (by assumption) | exact Ne.symm (ne_none (by assumption) (by assumption)))).trans (by first | assumption | exact AH.set_same _ _ _ | exact (AH.set_ne _ _ (by first | assumption | exact Ne.symm (by assumption) | exact ne_none (by assumption) (by assumption) | exact Ne.symm (ne_none (by assumption) (by assumption)))).trans (by first | assumption | exact AH.set_same _ _ _ | exact (AH.set_ne _ _ (by first | assumption | exact Ne.symm (by assumption) | exact ne_none (by assumption) (by assumption) | exact Ne.symm (ne_none (by assumption) (by assumption)))).trans (by first | assumption | exact AH.set_same _ _ _ | exact (AH.set_ne _ _ (by first | assumption | exact Ne.symm (by assumption) | exact ne_none (by assumption) (by assumption) | exact Ne.symm (ne_none (by assumption) (by assumption)))).trans (by assumption))))))) (by first | decide | omega) (by first | decide | omega) (by first | rfl | assumption) ?_ (fun _ _ => rfl)
          refine E_int ?_
          refine o_eq hA (by omega) (by first | rfl | assumption) (by first | rfl | assumption) ?_
          refine ⟨_, rfl, ?_⟩
          refine ite_b (fun b4 => ?_) (fun b4 => ?_)
          · skip
            exact ⟨by simp_all, rfl⟩
          · skip
            refine A_or_nil ?_
            exact ⟨by simp_all, rfl⟩
    refine ite_b (fun c5 => ?_) (fun c5 => ?_)
    · skip
      refine seq ?_
      refine S_aug_sub ?_ (fun _ _ _ => rfl)
      refine E_local K n_tape (by rfl) (by first | rfl | assumption) ?_ (by rfl)
      refine E_int ?_
      refine g_list (by first | assumption | exact AH.set_same _ _ _ | exact (AH.set_ne _ _ (by first | assumption | exact Ne.symm (by assumption) | exact ne_none (by assumption) (by assumption) | exact Ne.symm (ne_none (by assumption) (by assumption)))).trans (by first | assumption | exact AH.set_same _ _ _ | exact (AH.set_ne _ _ (by first | assumption | exact Ne.symm (by assumption) | exact ne_none (by assumption) (by assumption) | exact Ne.symm (ne_none (by assumption) (by assumption)))).trans (by first | assumption | exact AH.set_same _ _ _ | exact (AH.set_ne _ _ (by first | assumption | exact Ne.symm (by assumption) | exact ne_none (by assumption) (by assumption) | exact Ne.symm (ne_none (by assumption) (by assumption)))).trans (by first | assumption | exact AH.set_same _ _ _ | exact (AH.set_ne _ _ (by first | assumption | exact Ne.symm (by assumption) | exact ne_none (by assumption) (by assumption) | exact Ne.symm (ne_none (by assumption) (by assumption)))).trans (by first | assumption | exact AH.set_same _ _ _ | exact (AH.set_ne _ _ (by first | assumption | exact Ne.symm (by assumption) | exact ne_none (by assumption) (by assumption) | exact Ne.symm (ne_none (by assumption) (by assumption)))).trans (by first | assumption | exact AH.set_same _ _ _ | exact (AH.set_ne _ _ (by first | assumption | exact Ne.symm (by assumption) | exact ne_none (by assumption) (by assumption) | exact Ne.symm (ne_none (by assumption) (by assumption)))).trans (by assumption))))))) (by decide) (by decide) (by first | rfl | assumption) ?_
      refine E_int ?_
      refine o_iadd ?_
      refine s_list (by first | assumption | exact AH.set_same _ _ _ | exact (AH.set_ne _ _ (by first | assumption | exact Ne.symm (by assumption) | exact ne_none (by assumption) (by assumption) | exact Ne.symm (ne_none (by assumption) (by assumption)))).trans (by first | assumption | exact AH.set_same _ _ _ | exact (AH.set_ne _ _ (by first | assumption | exact Ne.symm (by assumption) | exact ne_none (by assumption) (by assumption) | exact Ne.symm (ne_none (by assumption) (by assumption)))).trans (by first | assumption | exact AH.set_same _ _ _ | exact (AH.set_ne _ _ (by first | assumption | exact Ne.symm (by assumption) | exact ne_none (by assumption) (by assumption) | exact Ne.symm (ne_none (by assumption) (by assumption)))).trans (by first | assumption | exact AH.set_same _ _ _ | exact (AH.set_ne _ _ (by first | assumption | exact Ne.symm (by assumption) | exact ne_none (by assumption) (by assumption) | exact Ne.symm (ne_none (by assumption) (by assumption)))).trans (by first | assumption | exact AH.set_same _ _ _ | exact (AH.set_ne _ _ (by first | assumption | exact Ne.symm (by assumption) | exact ne_none (by assumption) (by assumption) | exact Ne.symm (ne_none (by assumption) (by assumption)))).trans (by first | assumption | exact AH.set_same _ _ _ | exact (AH.set_ne _ _ (by first | assumption | exact Ne.symm (by assumption) | exact ne_none (by assumption) (by assumption) | exact Ne.symm (ne_none (by assumption) (by assumption)))).trans (by assumption))))))) (by decide) (by decide) (by simp) ?_
      refine After.next ?_
      refine seq ?_
      refine S_assign_sub ?_ (by rfl)
      refine E_int ?_
      refine E_local K n_tape (by rfl) (by first | rfl | assumption) ?_ (by rfl)
      refine E_int ?_
      refine s_list (by first | assumption | exact AH.set_same _ _ _ | exact (AH.set_ne _ _ (by first | assumption | exact Ne.symm (by assumption) | exact ne_none (by assumption) (by assumption) | exact Ne.symm (ne_none (by assumption) (by assumption)))).trans (by first | assumption | exact AH.set_same _ _ _ | exact (AH.set_ne _ _ (by first | assumption | exact Ne.symm (by assumption) | exact ne_none (by assumption) (by assumption) | exact Ne.symm (ne_none (by assumption) (by assumption)))).trans (by first | assumption | exact AH.set_same _ _ _ | exact (AH.set_ne _ _ (by first | assumption | exact Ne.symm (by assumption) | exact ne_none (by assumption) (by assumption) | exact Ne.symm (ne_none (by assumption) (by assumption)))).trans (by first | assumption | exact AH.set_same _ _ _ | exact (AH.set_ne _ _ (by first | assumption | exact Ne.symm (by assumption) | exact ne_none (by assumption) (by assumption) | exact Ne.symm (ne_none (by assumption) (by assumption)))).trans (by first | assumption | exact AH.set_same _ _ _ | exact (AH.set_ne _ _ (by first | assumption | exact Ne.symm (by assumption) | exact ne_none (by assumption) (by assumption) | exact Ne.symm (ne_none (by assumption) (by assumption)))).trans (by first | assumption | exact AH.set_same _ _ _ | exact (AH.set_ne _ _ (by first | assumption | exact Ne.symm (by assumption) | exact ne_none (by assumption) (by assumption) | exact Ne.symm (ne_none (by assumption) (by assumption)))).trans (by assumption))))))) (by decide) (by decide) (by simp) ?_
      refine After.next ?_
      refine S_nil ?_
      refine After.next ?_
      refine seq ?_
      refine S_return ?_
      refine E_local K n_figure (by rfl) (by first | rfl | assumption) ?_ (by rfl)
      refine After.ret ?_
      refine Back.ret ?_
      refine ⟨_, Sub.of_eq ?_, h _ (p + 1) 0 l hmod1 hmod2 (by omega) rfl⟩
      funext x; simp only [TapeH, AH.set]; by_cases h1 : x = d <;> by_cases h2 : x = e <;> simp_all
    · skip
      refine seq ?_
      refine S_assign_sub ?_ (by rfl)
      refine E_local K n_rest (by rfl) (by first | rfl | assumption) ?_ (by rfl)
      refine E_sub ?_
      refine E_local K n_tape (by rfl) (by first | rfl | assumption) ?_ (by rfl)
      refine E_int ?_
      refine o_item_list (by first | assumption | exact AH.set_same _ _ _ | exact (AH.set_ne _ _ (by first | assumption | exact Ne.symm (by assumption) | exact ne_none (by assumption) (by assumption) | exact Ne.symm (ne_none (by assumption) (by assumption)))).trans (by first | assumption | exact AH.set_same _ _ _ | exact (AH.set_ne _ _ (by first | assumption | exact Ne.symm (by assumption) | exact ne_none (by assumption) (by assumption) | exact Ne.symm (ne_none (by assumption) (by assumption)))).trans (by first | assumption | exact AH.set_same _ _ _ | exact (AH.set_ne _ _ (by first | assumption | exact Ne.symm (by assumption) | exact ne_none (by assumption) (by assumption) | exact Ne.symm (ne_none (by assumption) (by assumption)))).trans (by first | assumption | exact AH.set_same _ _ _ | exact (AH.set_ne _ _ (by first | assumption | exact Ne.symm (by assumption) | exact ne_none (by assumption) (by assumption) | exact Ne.symm (ne_none (by assumption) (by assumption)))).trans (by first | assumption | exact AH.set_same _ _ _ | exact (AH.set_ne _ _ (by first | assumption | exact Ne.symm (by assumption) | exact ne_none (by assumption) (by assumption) | exact Ne.symm (ne_none (by assumption) (by assumption)))).trans (by first | assumption | exact AH.set_same _ _ _ | exact (AH.set_ne _ _ (by first | assumption | exact Ne.symm (by assumption) | exact ne_none (by assumption) (by assumption) | exact Ne.symm (ne_none (by assumption) (by assumption)))).trans (by assumption))))))) (by first | decide | omega) (by first | decide | omega) (by first | rfl | assumption) ?_ (fun _ _ => rfl)
      refine E_sub ?_
      refine E_local K n_tape (by rfl) (by first | rfl | assumption) ?_ (by rfl)
      refine E_int ?_
      refine o_item_list (by first | assumption | exact AH.set_same _ _ _ | exact (AH.set_ne _ _ (by first | assumption | exact Ne.symm (by assumption) | exact ne_none (by assumption) (by assumption) | exact Ne.symm (ne_none (by assumption) (by assumption)))).trans (by first | assumption | exact AH.set_same _ _ _ | exact (AH.set_ne _ _ (by first | assumption | exact Ne.symm (by assumption) | exact ne_none (by assumption) (by assumption) | exact Ne.symm (ne_none (by assumption) (by assumption)))).trans (by first | assumption | exact AH.set_same _ _ _ | exact (AH.set_ne _ _ (by first | assumption | exact Ne.symm (by assumption) | exact ne_none (by assumption) (by assumption) | exact Ne.symm (ne_none (by assumption) (by assumption)))).trans (by first | assumption | exact AH.set_same _ _ _ | exact (AH.set_ne _ _ (by first | assumption | exact Ne.symm (by assumption) | exact ne_none (by assumption) (by assumption) | exact Ne.symm (ne_none (by assumption) (by assumption)))).trans (by first | assumption | exact AH.set_same _ _ _ | exact (AH.set_ne _ _ (by first | assumption | exact Ne.symm (by assumption) | exact ne_none (by assumption) (by assumption) | exact Ne.symm (ne_none (by assumption) (by assumption)))).trans (by first | assumption | exact AH.set_same _ _ _ | exact (AH.set_ne _ _ (by first | assumption | exact Ne.symm (by assumption) | exact ne_none (by assumption) (by assumption) | exact Ne.symm (ne_none (by assumption) (by assumption)))).trans (by assumption))))))) (by first | decide | omega) (by first | decide | omega) (by first | rfl | assumption) ?_ (fun _ _ => rfl)
      refine s_list (by first | assumption | exact AH.set_same _ _ _ | exact (AH.set_ne _ _ (by first | assumption | exact Ne.symm (by assumption) | exact ne_none (by assumption) (by assumption) | exact Ne.symm (ne_none (by assumption) (by assumption)))).trans (by first | assumption | exact AH.set_same _ _ _ | exact (AH.set_ne _ _ (by first | assumption | exact Ne.symm (by assumption) | exact ne_none (by assumption) (by assumption) | exact Ne.symm (ne_none (by assumption) (by assumption)))).trans (by first | assumption | exact AH.set_same _ _ _ | exact (AH.set_ne _ _ (by first | assumption | exact Ne.symm (by assumption) | exact ne_none (by assumption) (by assumption) | exact Ne.symm (ne_none (by assumption) (by assumption)))).trans (by first | assumption | exact AH.set_same _ _ _ | exact (AH.set_ne _ _ (by first | assumption | exact Ne.symm (by assumption) | exact ne_none (by assumption) (by assumption) | exact Ne.symm (ne_none (by assumption) (by assumption)))).trans (by first | assumption | exact AH.set_same _ _ _ | exact (AH.set_ne _ _ (by first | assumption | exact Ne.symm (by assumption) | exact ne_none (by assumption) (by assumption) | exact Ne.symm (ne_none (by assumption) (by assumption)))).trans (by first | assumption | exact AH.set_same _ _ _ | exact (AH.set_ne _ _ (by first | assumption | exact Ne.symm (by assumption) | exact ne_none (by assumption) (by assumption) | exact Ne.symm (ne_none (by assumption) (by assumption)))).trans (by assumption))))))) h0 (by omega) (by simpa [intL] using hp) ?_
      refine After.next ?_
      refine S_nil ?_
      refine After.next ?_
      refine seq ?_
      refine S_return ?_
      refine E_local K n_figure (by rfl) (by first | rfl | assumption) ?_ (by rfl)
      refine After.ret ?_
      refine Back.ret ?_
      refine ⟨_, Sub.of_eq ?_, h _ p (q + 1) (l.set p.toNat (l[p.toNat].fdiv lim)) hmod1 hmod2 h0 (by simp)⟩
      funext x; simp only [TapeH, AH.set, intL_set]; by_cases h1 : x = d <;> by_cases h2 : x = e <;> simp_all
end
end Mine
namespace Mine
theorem n_dot0 : nid (Str.ofString ".0") = some 6190 := by kernel_rfl
theorem KOk.lookup {names : List (Str × NameKind)} {ks : List (Nat × NameKind)} (h : names.map (fun p => (nid p.1, p.2)) = ks.map fun p => (some p.1, p.2)) : ∀ x i, nid x = some i → names.lookup x = ks.lookup i :=
  (KOk.of (cs := { kind := .function, names := names, isGenerator := false, isCoroutine := false }) rfl h).2
theorem relabel_one {env : Env} {n : Str} {k : NameKind} : (if (k == NameKind.free && env.scope.kind == ScopeKind.function && env.kindOf n == some .cell) = true then (n, NameKind.cell) else (n, k)) = (n, if (k == NameKind.free && env.scope.kind == ScopeKind.function && env.kindOf n == some .cell) = true then NameKind.cell else k) := by split <;> rfl
theorem relabel_of {env : Env} {L : Addr} {ks : List (Nat × NameKind)} {scope : Scope} {ksC : List (Nat × NameKind)} {cl : List (Str × Addr)} {C : Addr} (K : EnvOk env L ks) (hk : scope.kind = .function)
    (h : scope.names.map (fun p => (nid p.1, if (p.2 == .free && ((nid p.1).bind fun i => ks.lookup i) == some .cell) = true then NameKind.cell else p.2)) = ksC.map fun p => (some p.1, p.2)) : EnvOk (compEnvC scope cl C env) C ksC := by
  refine ⟨hk, rfl, K.glob, K.blt, KOk.lookup (names := (relabel scope env).names) ?_⟩
  rw [← h]
  unfold relabel
  simp only [List.map_map]
  refine List.map_congr_left fun p hp => ?_
  have hp' : (nid p.1).isSome = true := by
    have : (nid p.1, if (p.2 == .free && ((nid p.1).bind fun i => ks.lookup i) == some .cell) = true then NameKind.cell else p.2) ∈ ksC.map fun p => (some p.1, p.2) := h ▸ List.mem_map_of_mem (f := fun p : Str × NameKind => (nid p.1, if (p.2 == .free && ((nid p.1).bind fun i => ks.lookup i) == some .cell) = true then NameKind.cell else p.2)) hp
    obtain ⟨q, _, e⟩ := List.mem_map.mp this
    have := congrArg Prod.fst e
    simp only at this
    rw [← this]; rfl
  obtain ⟨i, hi⟩ := Option.isSome_iff_exists.mp hp'
  have kd : env.kindOf p.1 = ks.lookup i := K.ks _ _ hi
  obtain ⟨n, k⟩ := p
  simp only [Function.comp] at *
  rw [relabel_one]
  simp only [kd, hi, K.fn, Option.bind_some, beq_self_eq_true, Bool.and_true]
theorem sort_len (n : Nm) : n.sort.length ≤ 2 ∧ 1 ≤ n.sort.length := by cases n <;> decide
theorem touched_take (r : Rw) (f : Dd → Bool) (j : Nat) (d : Dd) (p : Pt) (hd : r.nm.sort[j]? = some d) (hp : r.ps[j]? = some p) :
    (((r.nm.sort.zip r.ps).take (j + 1)).filter fun x => f x.1).map (·.2) = (((r.nm.sort.zip r.ps).take j).filter fun x => f x.1).map (·.2) ++ if f d then [p] else [] := by
  have : (r.nm.sort.zip r.ps)[j]? = some (d, p) := List.getElem?_zip_eq_some.mpr ⟨hd, hp⟩
  rw [List.take_add_one, this]
  simp only [Option.toList_some, List.filter_append, List.map_append]
  congr 1
  cases h : f d <;> simp [List.filter_cons, h]
noncomputable abbrev ks__law_touched : List (Nat × NameKind) := [(31115229171, .cell), (1964018, .cell), (3463330902263, .cell), (27329802482, .globalImplicit), (1815276, .globalImplicit)]
noncomputable abbrev ks_comp : List (Nat × NameKind) := [(6190, .local), (245102707, .local), (1964018, .cell), (31115229171, .cell), (3463330902263, .cell)]
section
variable {c : Cx} (hK : c.K = hd.heap_1 c.w.params)
include hK
set_option maxHeartbeats 2000000 in
theorem sp_touched {n : Nat} {H : AH} {srt : Addr} {r : Rw} {ws : String} {wf : Dd → Bool} {Q : V → AH → Prop} (hs : H srt = some (.dS sortsV)) (hr : r.nm.sort.length = r.ps.length)
    (hw : ∀ d : Dd, Txt.contains (Str.ofString ws) (Str.ofString (String.singleton d.ch)) = wf d) (h : ∀ D, H D = none → Q (.ref D) (H.set D (.list ((touched r wf).map Pt.v)))) : FnSpec c (n + 12) 194 [.ref srt, r.v, .str ws] Q H := by
  refine fn_enter_c3 (ks := ks__law_touched) (by rw [hK]; rfl) (by rw [hK]; kernel_rfl) (KOk.of rfl (by kernel_rfl)) (Str.ofString "sorts") (Str.ofString "row") (Str.ofString "wanted") (fun v1 v2 v3 => rfl) (fun m => rfl) (by kernel_rfl) (by kernel_rfl) (by kernel_rfl) (by decide) (by decide) (by decide) rfl rfl (fun A L env d1 d2 d3 hA K hsc hce f1 f2 f3 n12 n13 n23 => ?_)
  refine seq ?_
  refine S_return ?_
  refine E_comp (ksC := ks_comp) (cl := [(Str.ofString "wanted", d3), (Str.ofString "sorts", d1), (Str.ofString "row", d2)]) hA ?_ (by decide) rfl (by decide) n_spot (by rfl) (fun C => relabel_of K rfl (by kernel_rfl)) ?_ (fun _ => rfl)
  · unfold closureFor
    simp only [List.forIn_cons, List.forIn_nil, cellOf, hce, List.lookup_cons]
    rfl
  have hsl := sort_len r.nm
  refine E_callb K n_range (by rfl) (gl_range hK) boot_range nn_range (by rfl) (fun _ h => nomatch h) ?_ (by rfl) (by rfl)
  refine L_cons ?_ (by rfl)
  refine E_callb K n_len (by rfl) (gl_len hK) boot_len nn_len (by rfl) (fun _ h => nomatch h) ?_ (by rfl) (by rfl)
  refine L_cons ?_ (by rfl)
  refine E_sub ?_
  refine E_cell K n_sorts (by rfl) (by rw [hce]; rfl) (by first | assumption | exact AH.set_same _ _ _ | exact (AH.set_ne _ _ (by first | assumption | exact Ne.symm (by assumption) | exact ne_none (by assumption) (by assumption) | exact Ne.symm (ne_none (by assumption) (by assumption)))).trans (by first | assumption | exact AH.set_same _ _ _ | exact (AH.set_ne _ _ (by first | assumption | exact Ne.symm (by assumption) | exact ne_none (by assumption) (by assumption) | exact Ne.symm (ne_none (by assumption) (by assumption)))).trans (by first | assumption | exact AH.set_same _ _ _ | exact (AH.set_ne _ _ (by first | assumption | exact Ne.symm (by assumption) | exact ne_none (by assumption) (by assumption) | exact Ne.symm (ne_none (by assumption) (by assumption)))).trans (by first | assumption | exact AH.set_same _ _ _ | exact (AH.set_ne _ _ (by first | assumption | exact Ne.symm (by assumption) | exact ne_none (by assumption) (by assumption) | exact Ne.symm (ne_none (by assumption) (by assumption)))).trans (by first | assumption | exact AH.set_same _ _ _ | exact (AH.set_ne _ _ (by first | assumption | exact Ne.symm (by assumption) | exact ne_none (by assumption) (by assumption) | exact Ne.symm (ne_none (by assumption) (by assumption)))).trans (by first | assumption | exact AH.set_same _ _ _ | exact (AH.set_ne _ _ (by first | assumption | exact Ne.symm (by assumption) | exact ne_none (by assumption) (by assumption) | exact Ne.symm (ne_none (by assumption) (by assumption)))).trans (by assumption))))))) ?_ (by rfl)
  refine E_sub ?_
  refine E_cell K n_row (by rfl) (by rw [hce]; rfl) (by first | assumption | exact AH.set_same _ _ _ | exact (AH.set_ne _ _ (by first | assumption | exact Ne.symm (by assumption) | exact ne_none (by assumption) (by assumption) | exact Ne.symm (ne_none (by assumption) (by assumption)))).trans (by first | assumption | exact AH.set_same _ _ _ | exact (AH.set_ne _ _ (by first | assumption | exact Ne.symm (by assumption) | exact ne_none (by assumption) (by assumption) | exact Ne.symm (ne_none (by assumption) (by assumption)))).trans (by first | assumption | exact AH.set_same _ _ _ | exact (AH.set_ne _ _ (by first | assumption | exact Ne.symm (by assumption) | exact ne_none (by assumption) (by assumption) | exact Ne.symm (ne_none (by assumption) (by assumption)))).trans (by first | assumption | exact AH.set_same _ _ _ | exact (AH.set_ne _ _ (by first | assumption | exact Ne.symm (by assumption) | exact ne_none (by assumption) (by assumption) | exact Ne.symm (ne_none (by assumption) (by assumption)))).trans (by first | assumption | exact AH.set_same _ _ _ | exact (AH.set_ne _ _ (by first | assumption | exact Ne.symm (by assumption) | exact ne_none (by assumption) (by assumption) | exact Ne.symm (ne_none (by assumption) (by assumption)))).trans (by first | assumption | exact AH.set_same _ _ _ | exact (AH.set_ne _ _ (by first | assumption | exact Ne.symm (by assumption) | exact ne_none (by assumption) (by assumption) | exact Ne.symm (ne_none (by assumption) (by assumption)))).trans (by assumption))))))) ?_ (by rfl)
  refine E_int ?_
  refine o_item_tup (by decide) (by decide) (by rfl) ?_ (fun _ _ => rfl)
  refine o_item_dS (by first | assumption | exact AH.set_same _ _ _ | exact (AH.set_ne _ _ (by first | assumption | exact Ne.symm (by assumption) | exact ne_none (by assumption) (by assumption) | exact Ne.symm (ne_none (by assumption) (by assumption)))).trans (by first | assumption | exact AH.set_same _ _ _ | exact (AH.set_ne _ _ (by first | assumption | exact Ne.symm (by assumption) | exact ne_none (by assumption) (by assumption) | exact Ne.symm (ne_none (by assumption) (by assumption)))).trans (by first | assumption | exact AH.set_same _ _ _ | exact (AH.set_ne _ _ (by first | assumption | exact Ne.symm (by assumption) | exact ne_none (by assumption) (by assumption) | exact Ne.symm (ne_none (by assumption) (by assumption)))).trans (by first | assumption | exact AH.set_same _ _ _ | exact (AH.set_ne _ _ (by first | assumption | exact Ne.symm (by assumption) | exact ne_none (by assumption) (by assumption) | exact Ne.symm (ne_none (by assumption) (by assumption)))).trans (by first | assumption | exact AH.set_same _ _ _ | exact (AH.set_ne _ _ (by first | assumption | exact Ne.symm (by assumption) | exact ne_none (by assumption) (by assumption) | exact Ne.symm (ne_none (by assumption) (by assumption)))).trans (by first | assumption | exact AH.set_same _ _ _ | exact (AH.set_ne _ _ (by first | assumption | exact Ne.symm (by assumption) | exact ne_none (by assumption) (by assumption) | exact Ne.symm (ne_none (by assumption) (by assumption)))).trans (by assumption))))))) (sort_get r.nm) ?_ (fun _ _ => rfl)
  refine L_nil ?_
  refine b_len_str (by rw [sortS_list, List.length_map]; omega) ?_
  refine L_nil ?_
  refine b_range1 (fun d hd => ?_)
  rw [show (r.nm.sortS.toList.length : Int) = (r.ps.length : Nat) by rw [sortS_list, List.length_map, hr]]
  refine ⟨d, 0, r.ps.length, rfl, AH.set_same _ _ _, by decide, by decide, by omega, by omega, fun D hD => ?_⟩
  have hT : ∀ j, (((r.nm.sort.zip r.ps).take j).filter fun x => wf x.1).length ≤ 2 := fun j => by
    refine Nat.le_trans (List.length_filter_le _ _) ?_
    rw [List.length_take, List.length_zip]; omega
  have hDH : (((H.set d1 (.cell (some (.ref srt)))).set d2 (.cell (some r.v))).set d3 (.cell (some (.str ws)))) D = none := by
    cases e : (((H.set d1 (.cell (some (.ref srt)))).set d2 (.cell (some r.v))).set d3 (.cell (some (.str ws)))) D with
    | none => rfl
    | some o =>
      by_cases hx : D = d
      · subst hx; rw [AH.set_same] at hD; cases hD
      · rw [AH.set_ne _ _ hx, e] at hD; cases hD
  generalize hHc : (((H.set d1 (.cell (some (.ref srt)))).set d2 (.cell (some r.v))).set d3 (.cell (some (.str ws)))) = Hc at *
  have c1 : Hc d1 = some (.cell (some (.ref srt))) := by rw [← hHc, AH.set_ne _ _ n13, AH.set_ne _ _ n12, AH.set_same]
  have c2 : Hc d2 = some (.cell (some r.v)) := by rw [← hHc, AH.set_ne _ _ n23, AH.set_same]
  have c3 : Hc d3 = some (.cell (some (.str ws))) := by rw [← hHc, AH.set_same]
  have cs : Hc srt = some (.dS sortsV) := by rw [← hHc, AH.set_ne _ _ (ne_none f3 hs), AH.set_ne _ _ (ne_none f2 hs), AH.set_ne _ _ (ne_none f1 hs)]; exact hs
  have hN : ((r.ps.length : Int) - 0).toNat = r.ps.length := by omega
  refine CRun.of hN Unit (fun j _ => True) (fun j _ => Hc.set D (.list (((((r.nm.sort.zip r.ps).take j).filter fun x => wf x.1).map (·.2)).map Pt.v))) () trivial ?_ ?_ ?_
  · exact Sub.set ((Sub.refl _).fresh hd)
  · intro C j _ hj _ hC
    show WB _ _ _ _ _ _ _
    have KC := relabel_of (C := C) (scope := { kind := .function, names := [(Str.ofString ".0", .local), (Str.ofString "spot", .local), (Str.ofString "row", .free), (Str.ofString "sorts", .free), (Str.ofString "wanted", .free)], isGenerator := false, isCoroutine := false }) (cl := [(Str.ofString "wanted", d3), (Str.ofString "sorts", d1), (Str.ofString "row", d2)]) (ksC := ks_comp) K rfl (by kernel_rfl)
    have hj' : j < r.nm.sort.length := by omega
    have hd' : r.nm.sort[j]? = some r.nm.sort[j] := List.getElem?_eq_getElem hj'
    have hp' : r.ps[j]? = some r.ps[j] := List.getElem?_eq_getElem hj
    have hne1 : d1 ≠ D := ne_none hDH c1
    have hne2 : d2 ≠ D := ne_none hDH c2
    have hne3 : d3 ≠ D := ne_none hDH c3
    have hnes : srt ≠ D := ne_none hDH cs
    refine T_one ?_
    refine B_cmp ?_ (by rfl)
    refine E_sub ?_
    refine E_sub ?_
    refine E_cell KC n_sorts (by rfl) (by rfl) (by first | assumption | exact AH.set_same _ _ _ | exact (AH.set_ne _ _ (by first | assumption | exact Ne.symm (by assumption) | exact ne_none (by assumption) (by assumption) | exact Ne.symm (ne_none (by assumption) (by assumption)))).trans (by first | assumption | exact AH.set_same _ _ _ | exact (AH.set_ne _ _ (by first | assumption | exact Ne.symm (by assumption) | exact ne_none (by assumption) (by assumption) | exact Ne.symm (ne_none (by assumption) (by assumption)))).trans (by first | assumption | exact AH.set_same _ _ _ | exact (AH.set_ne _ _ (by first | assumption | exact Ne.symm (by assumption) | exact ne_none (by assumption) (by assumption) | exact Ne.symm (ne_none (by assumption) (by assumption)))).trans (by first | assumption | exact AH.set_same _ _ _ | exact (AH.set_ne _ _ (by first | assumption | exact Ne.symm (by assumption) | exact ne_none (by assumption) (by assumption) | exact Ne.symm (ne_none (by assumption) (by assumption)))).trans (by first | assumption | exact AH.set_same _ _ _ | exact (AH.set_ne _ _ (by first | assumption | exact Ne.symm (by assumption) | exact ne_none (by assumption) (by assumption) | exact Ne.symm (ne_none (by assumption) (by assumption)))).trans (by first | assumption | exact AH.set_same _ _ _ | exact (AH.set_ne _ _ (by first | assumption | exact Ne.symm (by assumption) | exact ne_none (by assumption) (by assumption) | exact Ne.symm (ne_none (by assumption) (by assumption)))).trans (by assumption))))))) ?_ (by rfl)
    refine E_sub ?_
    refine E_cell KC n_row (by rfl) (by rfl) (by first | assumption | exact AH.set_same _ _ _ | exact (AH.set_ne _ _ (by first | assumption | exact Ne.symm (by assumption) | exact ne_none (by assumption) (by assumption) | exact Ne.symm (ne_none (by assumption) (by assumption)))).trans (by first | assumption | exact AH.set_same _ _ _ | exact (AH.set_ne _ _ (by first | assumption | exact Ne.symm (by assumption) | exact ne_none (by assumption) (by assumption) | exact Ne.symm (ne_none (by assumption) (by assumption)))).trans (by first | assumption | exact AH.set_same _ _ _ | exact (AH.set_ne _ _ (by first | assumption | exact Ne.symm (by assumption) | exact ne_none (by assumption) (by assumption) | exact Ne.symm (ne_none (by assumption) (by assumption)))).trans (by first | assumption | exact AH.set_same _ _ _ | exact (AH.set_ne _ _ (by first | assumption | exact Ne.symm (by assumption) | exact ne_none (by assumption) (by assumption) | exact Ne.symm (ne_none (by assumption) (by assumption)))).trans (by first | assumption | exact AH.set_same _ _ _ | exact (AH.set_ne _ _ (by first | assumption | exact Ne.symm (by assumption) | exact ne_none (by assumption) (by assumption) | exact Ne.symm (ne_none (by assumption) (by assumption)))).trans (by first | assumption | exact AH.set_same _ _ _ | exact (AH.set_ne _ _ (by first | assumption | exact Ne.symm (by assumption) | exact ne_none (by assumption) (by assumption) | exact Ne.symm (ne_none (by assumption) (by assumption)))).trans (by assumption))))))) ?_ (by rfl)
    refine E_int ?_
    refine o_item_tup (by decide) (by decide) (by rfl) ?_ (fun _ _ => rfl)
    refine o_item_dS (by first | assumption | exact AH.set_same _ _ _ | exact (AH.set_ne _ _ (by first | assumption | exact Ne.symm (by assumption) | exact ne_none (by assumption) (by assumption) | exact Ne.symm (ne_none (by assumption) (by assumption)))).trans (by first | assumption | exact AH.set_same _ _ _ | exact (AH.set_ne _ _ (by first | assumption | exact Ne.symm (by assumption) | exact ne_none (by assumption) (by assumption) | exact Ne.symm (ne_none (by assumption) (by assumption)))).trans (by first | assumption | exact AH.set_same _ _ _ | exact (AH.set_ne _ _ (by first | assumption | exact Ne.symm (by assumption) | exact ne_none (by assumption) (by assumption) | exact Ne.symm (ne_none (by assumption) (by assumption)))).trans (by first | assumption | exact AH.set_same _ _ _ | exact (AH.set_ne _ _ (by first | assumption | exact Ne.symm (by assumption) | exact ne_none (by assumption) (by assumption) | exact Ne.symm (ne_none (by assumption) (by assumption)))).trans (by first | assumption | exact AH.set_same _ _ _ | exact (AH.set_ne _ _ (by first | assumption | exact Ne.symm (by assumption) | exact ne_none (by assumption) (by assumption) | exact Ne.symm (ne_none (by assumption) (by assumption)))).trans (by first | assumption | exact AH.set_same _ _ _ | exact (AH.set_ne _ _ (by first | assumption | exact Ne.symm (by assumption) | exact ne_none (by assumption) (by assumption) | exact Ne.symm (ne_none (by assumption) (by assumption)))).trans (by assumption))))))) (sort_get r.nm) ?_ (fun _ _ => rfl)
    refine E_local KC n_spot (by rfl) (by first | rfl | assumption) ?_ (by rfl)
    refine o_item_str (ch := r.nm.sort[j].ch) (by omega) (by omega) (by rw [sortS_list, List.getElem?_map, show ((0 : Int) + (j : Nat)).toNat = j by omega, hd']; rfl) ?_ (fun _ _ => rfl)
    refine E_cell KC n_wanted (by rfl) (by rfl) (by first | assumption | exact AH.set_same _ _ _ | exact (AH.set_ne _ _ (by first | assumption | exact Ne.symm (by assumption) | exact ne_none (by assumption) (by assumption) | exact Ne.symm (ne_none (by assumption) (by assumption)))).trans (by first | assumption | exact AH.set_same _ _ _ | exact (AH.set_ne _ _ (by first | assumption | exact Ne.symm (by assumption) | exact ne_none (by assumption) (by assumption) | exact Ne.symm (ne_none (by assumption) (by assumption)))).trans (by first | assumption | exact AH.set_same _ _ _ | exact (AH.set_ne _ _ (by first | assumption | exact Ne.symm (by assumption) | exact ne_none (by assumption) (by assumption) | exact Ne.symm (ne_none (by assumption) (by assumption)))).trans (by first | assumption | exact AH.set_same _ _ _ | exact (AH.set_ne _ _ (by first | assumption | exact Ne.symm (by assumption) | exact ne_none (by assumption) (by assumption) | exact Ne.symm (ne_none (by assumption) (by assumption)))).trans (by first | assumption | exact AH.set_same _ _ _ | exact (AH.set_ne _ _ (by first | assumption | exact Ne.symm (by assumption) | exact ne_none (by assumption) (by assumption) | exact Ne.symm (ne_none (by assumption) (by assumption)))).trans (by first | assumption | exact AH.set_same _ _ _ | exact (AH.set_ne _ _ (by first | assumption | exact Ne.symm (by assumption) | exact ne_none (by assumption) (by assumption) | exact Ne.symm (ne_none (by assumption) (by assumption)))).trans (by assumption))))))) ?_ (by rfl)
    refine o_in_str ?_
    refine ⟨_, rfl, ?_⟩
    rw [hw]
    refine ite_b (fun hf => ?_) (fun hf => ?_)
    · skip
      refine E_sub ?_
      refine E_cell KC n_row (by rfl) (by rfl) (by first | assumption | exact AH.set_same _ _ _ | exact (AH.set_ne _ _ (by first | assumption | exact Ne.symm (by assumption) | exact ne_none (by assumption) (by assumption) | exact Ne.symm (ne_none (by assumption) (by assumption)))).trans (by first | assumption | exact AH.set_same _ _ _ | exact (AH.set_ne _ _ (by first | assumption | exact Ne.symm (by assumption) | exact ne_none (by assumption) (by assumption) | exact Ne.symm (ne_none (by assumption) (by assumption)))).trans (by first | assumption | exact AH.set_same _ _ _ | exact (AH.set_ne _ _ (by first | assumption | exact Ne.symm (by assumption) | exact ne_none (by assumption) (by assumption) | exact Ne.symm (ne_none (by assumption) (by assumption)))).trans (by first | assumption | exact AH.set_same _ _ _ | exact (AH.set_ne _ _ (by first | assumption | exact Ne.symm (by assumption) | exact ne_none (by assumption) (by assumption) | exact Ne.symm (ne_none (by assumption) (by assumption)))).trans (by first | assumption | exact AH.set_same _ _ _ | exact (AH.set_ne _ _ (by first | assumption | exact Ne.symm (by assumption) | exact ne_none (by assumption) (by assumption) | exact Ne.symm (ne_none (by assumption) (by assumption)))).trans (by first | assumption | exact AH.set_same _ _ _ | exact (AH.set_ne _ _ (by first | assumption | exact Ne.symm (by assumption) | exact ne_none (by assumption) (by assumption) | exact Ne.symm (ne_none (by assumption) (by assumption)))).trans (by assumption))))))) ?_ (by rfl)
      refine E_binop ?_
      refine E_local KC n_spot (by rfl) (by first | rfl | assumption) ?_ (by rfl)
      refine E_int ?_
      refine o_add ?_
      refine o_item_tup (x := r.ps[j].v) (by omega) (by omega) (by rw [show ((0 : Int) + (j : Nat) + 1).toNat = j + 1 by omega]; show (r.ps.map Pt.v)[j]? = _; rw [List.getElem?_map, hp']; rfl) ?_ (fun _ _ => rfl)
      refine ⟨_, AH.set_same _ _ _, by rw [List.length_map, List.length_map]; have := hT j; omega, (), trivial, Sub.of_eq ?_⟩
      dsimp only; rw [set_set, touched_take r wf j _ _ hd' hp', hf, if_pos rfl, List.map_append]; rfl
    · refine ⟨(), trivial, Sub.of_eq ?_⟩
      dsimp only; rw [touched_take r wf j _ _ hd' hp', hf, if_neg (by decide), List.append_nil]
  · intro _ H' _ hS
    refine After.ret (Back.ret ?_)
    have hHH : Sub H Hc := by
      rw [← hHc]
      exact (((Sub.refl H).fresh f1).fresh (by rw [AH.set_ne _ _ (Ne.symm n12)]; exact f2)).fresh (by rw [AH.set_ne _ _ (Ne.symm n23), AH.set_ne _ _ (Ne.symm n13)]; exact f3)
    have hDn : H D = none := by
      cases e : H D with
      | none => rfl
      | some o => rw [hHH _ _ e] at hDH; cases hDH
    refine ⟨H.set D (.list ((touched r wf).map Pt.v)), Sub.trans (Sub.set hHH) ?_, h D hDn⟩
    try dsimp only at hS
    rw [List.take_of_length_le (by rw [List.length_zip]; omega)] at hS
    exact hS
end
end Mine
namespace Mine
noncomputable def opsOk (r : Rw) : Prop := r.nm.sort.length = r.ps.length ∧ ∀ d p, (d, p) ∈ r.nm.sort.zip r.ps → d ≠ .dot → p.isOp = true
noncomputable def isGV (r : Rw) : Bool := match r.nm, r.ps with | .get_variable, [_, .op c _] => !decide (c = Ch.y) | _, _ => false
noncomputable def isPV (r : Rw) : Bool := match r.nm, r.ps with | .put_value, [.op c _, _] => !decide (c = Ch.y) | _, _ => false
theorem isOp_of {p : Pt} (h : p.isOp = true) : ∃ c n, p = .op c n := by cases p <;> first | exact ⟨_, _, rfl⟩ | cases h
theorem gv_shape {r : Rw} (h : opsOk r) (hn : r.nm = .get_variable) : ∃ c1 n1 c2 n2, r = ⟨.get_variable, [.op c1 n1, .op c2 n2]⟩ := by
  obtain ⟨nm, ps⟩ := r
  obtain ⟨h1, h2⟩ := h
  replace hn : nm = _ := hn; subst hn
  obtain ⟨p, q, e⟩ := len2 (l := ps) h1.symm
  subst e
  obtain ⟨c1, n1, rfl⟩ := isOp_of (h2 .w p (.head _) (by decide))
  obtain ⟨c2, n2, rfl⟩ := isOp_of (h2 .r q (.tail _ (.head _)) (by decide))
  exact ⟨_, _, _, _, rfl⟩
theorem pv_shape {r : Rw} (h : opsOk r) (hn : r.nm = .put_value) : ∃ c1 n1 c2 n2, r = ⟨.put_value, [.op c1 n1, .op c2 n2]⟩ := by
  obtain ⟨nm, ps⟩ := r
  obtain ⟨h1, h2⟩ := h
  replace hn : nm = _ := hn; subst hn
  obtain ⟨p, q, e⟩ := len2 (l := ps) h1.symm
  subst e
  obtain ⟨c1, n1, rfl⟩ := isOp_of (h2 .r p (.head _) (by decide))
  obtain ⟨c2, n2, rfl⟩ := isOp_of (h2 .w q (.tail _ (.head _)) (by decide))
  exact ⟨_, _, _, _, rfl⟩
theorem gv_of {r : Rw} (h : isGV r = true) : ∃ p c n, r = ⟨.get_variable, [p, .op c n]⟩ ∧ c ≠ .y := by
  obtain ⟨nm, ps⟩ := r
  unfold isGV at h
  split at h
  · rename_i e1 e2
    simp only at e1 e2; subst e1 e2
    exact ⟨_, _, _, rfl, by simpa using h⟩
  · cases h
theorem pv_of {r : Rw} (h : isPV r = true) : ∃ p c n, r = ⟨.put_value, [.op c n, p]⟩ ∧ c ≠ .y := by
  obtain ⟨nm, ps⟩ := r
  unfold isPV at h
  split at h
  · rename_i e1 e2
    simp only at e1 e2; subst e1 e2
    exact ⟨_, _, _, rfl, by simpa using h⟩
  · cases h
theorem any_pt (l : List Pt) (o : Pt) : (l.map Pt.v).any (fun y => V.eq y o.v) = decide (o ∈ l) := by
  induction l with
  | nil => rfl
  | cons p l ih =>
    rw [List.map_cons, List.any_cons, ih, pt_eq]
    by_cases h : p = o
    · subst h; simp
    · have h' : ¬ o = p := fun e => h e.symm
      simp [h, h']
theorem all_pt (l : List Pt) : (l.map Pt.v).all V.ok = true := by rw [List.all_map]; exact List.all_eq_true.mpr fun p _ => Pt.ok p
theorem cont_wu (d : Dd) : Txt.contains (Str.ofString "wu") (Str.ofString (String.singleton d.ch)) = wu d := by cases d <;> kernel_rfl
theorem cont_w (d : Dd) : Txt.contains (Str.ofString "w") (Str.ofString (String.singleton d.ch)) = onlyw d := by cases d <;> kernel_rfl
theorem origin_end {ar : Int} {rows : List Rw} {j : Nat} {o : Pt} {r : Rw} (h : rows[j]? = some r) (hn : r.nm = .call ∨ r.nm = .execute) : origin ar rows (j + 1) o = .none := by
  simp only [origin, h, if_pos hn]
theorem origin_on {ar : Int} {rows : List Rw} {j : Nat} {o : Pt} {r : Rw} (h : rows[j]? = some r) (hn : ¬ (r.nm = .call ∨ r.nm = .execute)) (ht : o ∉ touched r wu) : origin ar rows (j + 1) o = origin ar rows j o := by
  simp only [origin, h, if_neg hn, if_neg ht]
theorem origin_gv {ar : Int} {rows : List Rw} {j : Nat} {o p : Pt} {ch : Ch} {n : Int} (h : rows[j]? = some ⟨.get_variable, [p, .op ch n]⟩) (hc : ch ≠ .y) (ht : o ∈ touched ⟨.get_variable, [p, .op ch n]⟩ wu) : origin ar rows (j + 1) o = origin ar rows j (giv (.op ch n)) := by
  simp only [origin, h, if_pos ht]; simp [hc]
theorem origin_pv {ar : Int} {rows : List Rw} {j : Nat} {o p : Pt} {ch : Ch} {n : Int} (h : rows[j]? = some ⟨.put_value, [.op ch n, p]⟩) (hc : ch ≠ .y) (ht : o ∈ touched ⟨.put_value, [.op ch n, p]⟩ wu) : origin ar rows (j + 1) o = origin ar rows j (giv (.op ch n)) := by
  simp only [origin, h, if_pos ht]; simp [hc]
theorem origin_at {ar : Int} {rows : List Rw} {j : Nat} {o : Pt} {r : Rw} (h : rows[j]? = some r) (hn : ¬ (r.nm = .call ∨ r.nm = .execute)) (ht : o ∈ touched r wu) (h1 : isGV r = false) (h2 : isPV r = false) : origin ar rows (j + 1) o = .at j := by
  obtain ⟨nm, ps⟩ := r
  simp only [origin, h, if_neg hn, if_pos ht]
  split
  · simp only [isGV] at h1
    split
    · rename_i hc; simp [hc] at h1
    · rfl
  · simp only [isPV] at h2
    split
    · rename_i hc; simp [hc] at h2
    · rfl
  · rfl
theorem giv_isOp {c : Ch} {n : Int} : (giv (.op c n)).isOp = true := by cases c <;> rfl
theorem giv_a {n : Int} : giv (.op .a n) = .op .g n := rfl
theorem giv_ne {c : Ch} {n : Int} (h : c ≠ .a) : giv (.op c n) = .op c n := by cases c <;> first | rfl | exact absurd rfl h
section
variable {c : Cx} (hK : c.K = hd.heap_1 c.w.params)
include hK
set_option maxHeartbeats 2000000 in
theorem sp_origin {n : Nat} {H : AH} {srt rws : Addr} {rows : List Rw} {at0 : Nat} {ar : Int} {o : Pt} {Q : V → AH → Prop} (hs : H srt = some (.dS sortsV)) (hrw : H rws = some (.list (rows.map Rw.v))) (hWF : ∀ r ∈ rows, opsOk r) (ho : o.isOp = true) (hat : at0 ≤ rows.length) (hl : rows.length ≤ 1000)
    (h : Q (origin ar rows at0 o).v H) : FnSpec c (n + 13) 201 [.ref srt, .ref rws, .int at0, .int ar, o.v] Q H := by
  refine fn_enter (ks := ks__law_origin) (by rw [hK]; rfl) (by rw [hK]; kernel_rfl) (KOk.of rfl (by kernel_rfl)) [Str.ofString "sorts", Str.ofString "rows", Str.ofString "at", Str.ofString "arity", Str.ofString "operand"] [31115229171, 243136498, 14945, 32725694817, 443610501314671] (all5 fun v0 v1 v2 v3 v4 => rfl) (by kernel_rfl) (by decide) (by rfl) (by decide) rfl rfl rfl (fun A L env hA K => ?_)
  refine seq ?_
  refine S_while' (σ := Nat × Pt) (fun m s => m = s.1 ∧ s.1 ≤ rows.length ∧ s.2.isOp = true ∧ origin ar rows s.1 s.2 = origin ar rows at0 o) (fun s => [(31115229171, .ref srt), (243136498, .ref rws), (14945, .int s.1), (32725694817, .int ar), (443610501314671, s.2.v)]) (fun _ => H) at0 (at0, o) ⟨rfl, hat, ho, rfl⟩ (LSub.refl _) (Sub.refl _) (fun m s hJ => ?_)
  obtain ⟨k, o'⟩ := s
  obtain ⟨rfl, hk, ho', he⟩ := hJ
  dsimp only at hk ho' he ⊢
  refine B_cmp ?_ (by rfl)
  refine E_local K n_at (by rfl) (by first | rfl | assumption) ?_ (by rfl)
  refine E_int ?_
  refine o_gt ?_
  refine ⟨_, rfl, ?_⟩
  refine ite_b (fun hpos => ?_) (fun hpos => ?_)
  · skip
    obtain ⟨j, rfl⟩ : ∃ j, m = j + 1 := ⟨m - 1, by have := of_decide_eq_true hpos; omega⟩
    have hj : j < rows.length := by omega
    obtain ⟨row, hrow⟩ : ∃ row, rows[j]? = some row := ⟨_, List.getElem?_eq_getElem hj⟩
    have hwf := hWF row (List.mem_of_getElem? hrow)
    refine WS.gen fun Qg1 hg1 => ?_
    refine seq ?_
    refine S_aug K n_at (by rfl) (by first | rfl | assumption) ?_
    refine E_int ?_
    refine o_isub ?_
    refine After.next ?_
    rw [show (((j + 1 : Nat) : Int) - 1) = (j : Int) by omega]
    refine seq ?_
    refine S_assign K n_row (by rfl) ?_ (by rfl)
    refine E_sub ?_
    refine E_local K n_rows (by rfl) (by first | rfl | assumption) ?_ (by rfl)
    refine E_local K n_at (by rfl) (by first | rfl | assumption) ?_ (by rfl)
    refine o_item_list (x := row.v) (by first | assumption | exact AH.set_same _ _ _ | exact (AH.set_ne _ _ (by first | assumption | exact Ne.symm (by assumption) | exact ne_none (by assumption) (by assumption) | exact Ne.symm (ne_none (by assumption) (by assumption)))).trans (by first | assumption | exact AH.set_same _ _ _ | exact (AH.set_ne _ _ (by first | assumption | exact Ne.symm (by assumption) | exact ne_none (by assumption) (by assumption) | exact Ne.symm (ne_none (by assumption) (by assumption)))).trans (by first | assumption | exact AH.set_same _ _ _ | exact (AH.set_ne _ _ (by first | assumption | exact Ne.symm (by assumption) | exact ne_none (by assumption) (by assumption) | exact Ne.symm (ne_none (by assumption) (by assumption)))).trans (by first | assumption | exact AH.set_same _ _ _ | exact (AH.set_ne _ _ (by first | assumption | exact Ne.symm (by assumption) | exact ne_none (by assumption) (by assumption) | exact Ne.symm (ne_none (by assumption) (by assumption)))).trans (by first | assumption | exact AH.set_same _ _ _ | exact (AH.set_ne _ _ (by first | assumption | exact Ne.symm (by assumption) | exact ne_none (by assumption) (by assumption) | exact Ne.symm (ne_none (by assumption) (by assumption)))).trans (by first | assumption | exact AH.set_same _ _ _ | exact (AH.set_ne _ _ (by first | assumption | exact Ne.symm (by assumption) | exact ne_none (by assumption) (by assumption) | exact Ne.symm (ne_none (by assumption) (by assumption)))).trans (by assumption))))))) (by omega) (by omega) (by rw [Int.toNat_natCast, List.getElem?_map, hrow]; rfl) ?_ (fun _ _ => rfl)
    refine After.next ?_
    refine seq ?_
    refine S_if ?_
    refine B_pure (decide (row.nm = .call) || decide (row.nm = .execute)) ?_ ?_
    · skip
      refine B_or ?_
      refine A_or_cons ?_
      refine B_cmp ?_ (by rfl)
      refine E_sub ?_
      refine E_local K n_row (by rfl) (by first | rfl | assumption) ?_ (by rfl)
      refine E_int ?_
      refine o_item_tup (by decide) (by decide) (by first | rfl | assumption) ?_ (fun _ _ => rfl)
      refine E_str ?_
      refine o_eq hA (by omega) (by rfl) (by rfl) ?_
      rw [show ("call" : String) = Nm.call.s from rfl, nm_eq]
      refine ⟨_, rfl, ?_⟩
      refine ite_b (fun q0 => ?_) (fun q0 => ?_)
      · skip
        exact ⟨by simp_all, rfl⟩
      · skip
        refine A_or_cons ?_
        refine B_cmp ?_ (by rfl)
        refine E_sub ?_
        refine E_local K n_row (by rfl) (by first | rfl | assumption) ?_ (by rfl)
        refine E_int ?_
        refine o_item_tup (by decide) (by decide) (by first | rfl | assumption) ?_ (fun _ _ => rfl)
        refine E_str ?_
        refine o_eq hA (by omega) (by rfl) (by rfl) ?_
        rw [show ("execute" : String) = Nm.execute.s from rfl, nm_eq]
        refine ⟨_, rfl, ?_⟩
        refine ite_b (fun q1 => ?_) (fun q1 => ?_)
        · skip
          exact ⟨by simp_all, rfl⟩
        · skip
          refine A_or_nil ?_
          exact ⟨by simp_all, rfl⟩
    refine ite_b (fun hce => ?_) (fun hce => ?_)
    · skip
      have hce' : row.nm = .call ∨ row.nm = .execute := by simpa using hce
      refine seq ?_
      refine S_return ?_
      refine E_str ?_
      refine After.ret ?_
      refine After.ret ?_
      refine hg1 _ _ _ (TurnEnd.ret ?_)
      refine After.ret ?_
      refine Back.ret ?_
      exact ⟨H, Sub.refl _, by rw [← he, origin_end hrow hce'] at h; exact h⟩
    · skip
      have hce' : ¬ (row.nm = .call ∨ row.nm = .execute) := by simpa using hce
      refine S_nil ?_
      refine After.next ?_
      refine seq ?_
      refine S_if ?_
      refine B_cmp ?_ (by rfl)
      refine E_local K n_operand (by rfl) (by first | rfl | assumption) ?_ (by rfl)
      refine E_call hA K n__law_touched (by rfl) (gl__law_touched hK) (keep__law_touched hK) ?_ (by rfl) (by rfl) (by rfl)
      refine L_cons ?_ (by rfl)
      refine E_local K n_sorts (by rfl) (by first | rfl | assumption) ?_ (by rfl)
      refine L_cons ?_ (by rfl)
      refine E_local K n_row (by rfl) (by first | rfl | assumption) ?_ (by rfl)
      refine L_cons ?_ (by rfl)
      refine E_str ?_
      refine L_nil ?_
      refine sp_touched hK (n := n) (wf := wu) hs hwf.1 cont_wu (fun D hD => ?_)
      refine o_in_list hA (by omega) (AH.set_same _ _ _) (Pt.ok _) (all_pt _) ?_
      rw [any_pt]
      refine ⟨_, rfl, ?_⟩
      refine ite_b (fun hin => ?_) (fun hin => ?_)
      · skip
        have hmem := of_decide_eq_true hin
        refine seq ?_
        refine S_if ?_
        refine B_pure (isGV row) ?_ ?_
        · skip
          refine B_and ?_
          refine A_and_cons ?_
          refine B_cmp ?_ (by rfl)
          refine E_sub ?_
          refine E_local K n_row (by rfl) (by first | rfl | assumption) ?_ (by rfl)
          refine E_int ?_
          refine o_item_tup (by decide) (by decide) (by first | rfl | assumption) ?_ (fun _ _ => rfl)
          refine E_str ?_
          refine o_eq hA (by omega) (by rfl) (by rfl) ?_
          rw [show ("get_variable" : String) = Nm.get_variable.s from rfl, nm_eq]
          refine ⟨_, rfl, ?_⟩
          refine ite_b (fun b1 => ?_) (fun b1 => ?_)
          · skip
            obtain ⟨c1, n1, c2, n2, rfl⟩ := gv_shape hwf (of_decide_eq_true b1)
            refine A_and_cons ?_
            refine B_cmp ?_ (by rfl)
            refine E_sub ?_
            refine E_sub ?_
            refine E_local K n_row (by rfl) (by first | rfl | assumption) ?_ (by rfl)
            refine E_int ?_
            refine o_item_tup (x := Pt.v (.op c2 n2)) (by decide) (by decide) (by rfl) ?_ (fun _ _ => rfl)
            refine E_int ?_
            refine o_item_tup (x := .str c2.s) (by decide) (by decide) (by rfl) ?_ (fun _ _ => rfl)
            refine E_str ?_
            refine o_ne hA (by omega) (by rfl) (by rfl) ?_
            rw [show ("y" : String) = Ch.y.s from rfl, ch_eq]
            refine ⟨_, rfl, ?_⟩
            refine ite_b (fun b2 => ?_) (fun b2 => ?_)
            · refine A_and_nil ⟨?_, rfl⟩
              exact b2.symm
            · exact ⟨b2.symm, rfl⟩
          · refine ⟨?_, rfl⟩
            obtain ⟨nm, ps⟩ := row
            have b1' := of_decide_eq_false b1
            unfold isGV
            split
            · exact absurd (by assumption) b1'
            · rfl
        refine ite_b (fun hgv => ?_) (fun hgv => ?_)
        · skip
          obtain ⟨p1, ch, nn, rfl, hcy⟩ := gv_of hgv
          refine seq ?_
          refine S_assign K n_operand (by rfl) ?_ (by rfl)
          refine E_sub ?_
          refine E_local K n_row (by rfl) (by first | rfl | assumption) ?_ (by rfl)
          refine E_int ?_
          refine o_item_tup (x := Pt.v (.op ch nn)) (by decide) (by decide) (by rfl) ?_ (fun _ _ => rfl)
          refine After.next ?_
          refine S_nil ?_
          refine After.next ?_
          refine seq ?_
          refine S_if ?_
          refine B_cmp ?_ (by rfl)
          refine E_sub ?_
          refine E_local K n_operand (by rfl) (by first | rfl | assumption) ?_ (by rfl)
          refine E_int ?_
          refine o_item_tup (by decide) (by decide) (by first | rfl | assumption) ?_ (fun _ _ => rfl)
          refine E_str ?_
          refine o_eq hA (by omega) (by rfl) (by rfl) ?_
          rw [show ("a" : String) = Ch.a.s from rfl, ch_eq]
          refine ⟨_, rfl, ?_⟩
          refine ite_b (fun ca => ?_) (fun ca => ?_)
          · skip
            have ca := of_decide_eq_true ca
            refine seq ?_
            refine S_assign K n_operand (by rfl) ?_ (by rfl)
            refine E_tuple ?_
            refine L_cons ?_ (by rfl)
            refine E_str ?_
            refine L_cons ?_ (by rfl)
            refine E_sub ?_
            refine E_local K n_operand (by rfl) (by first | rfl | assumption) ?_ (by rfl)
            refine E_int ?_
            refine o_item_tup (by decide) (by decide) (by first | rfl | assumption) ?_ (fun _ _ => rfl)
            refine L_nil ?_
            refine ⟨Nat.le_of_ble_eq_true rfl, ?_⟩
            refine After.next ?_
            refine S_nil ?_
            refine After.next ?_
            refine S_nil ?_
            refine After.next ?_
            refine S_nil ?_
            refine hg1 _ _ _ (TurnEnd.next ?_)
            refine ⟨j, (j, giv (.op ch nn)), by omega, ⟨rfl, by omega, giv_isOp, ?_⟩, ?_, ?_⟩
            · rw [← he]; exact (origin_gv hrow hcy hmem).symm
            · exact LSub.cons rfl (LSub.cons rfl (LSub.cons rfl (LSub.cons rfl (LSub.cons (by show _ = some (Pt.v (giv (.op ch nn))); rw [ca]; rfl) LSub.nil))))
            · exact (Sub.refl H).fresh hD
          · skip
            have ca := of_decide_eq_false ca
            refine S_nil ?_
            refine After.next ?_
            refine S_nil ?_
            refine After.next ?_
            refine S_nil ?_
            refine hg1 _ _ _ (TurnEnd.next ?_)
            refine ⟨j, (j, giv (.op ch nn)), by omega, ⟨rfl, by omega, giv_isOp, ?_⟩, ?_, ?_⟩
            · rw [← he]; exact (origin_gv hrow hcy hmem).symm
            · exact LSub.cons rfl (LSub.cons rfl (LSub.cons rfl (LSub.cons rfl (LSub.cons (by show _ = some (Pt.v (giv (.op ch nn))); rw [giv_ne ca]; rfl) LSub.nil))))
            · exact (Sub.refl H).fresh hD
        · skip
          refine seq ?_
          refine S_if ?_
          refine B_pure (isPV row) ?_ ?_
          · skip
            refine B_and ?_
            refine A_and_cons ?_
            refine B_cmp ?_ (by rfl)
            refine E_sub ?_
            refine E_local K n_row (by rfl) (by first | rfl | assumption) ?_ (by rfl)
            refine E_int ?_
            refine o_item_tup (by decide) (by decide) (by first | rfl | assumption) ?_ (fun _ _ => rfl)
            refine E_str ?_
            refine o_eq hA (by omega) (by rfl) (by rfl) ?_
            rw [show ("put_value" : String) = Nm.put_value.s from rfl, nm_eq]
            refine ⟨_, rfl, ?_⟩
            refine ite_b (fun b1 => ?_) (fun b1 => ?_)
            · skip
              obtain ⟨c1, n1, c2, n2, rfl⟩ := pv_shape hwf (of_decide_eq_true b1)
              refine A_and_cons ?_
              refine B_cmp ?_ (by rfl)
              refine E_sub ?_
              refine E_sub ?_
              refine E_local K n_row (by rfl) (by first | rfl | assumption) ?_ (by rfl)
              refine E_int ?_
              refine o_item_tup (x := Pt.v (.op c1 n1)) (by decide) (by decide) (by rfl) ?_ (fun _ _ => rfl)
              refine E_int ?_
              refine o_item_tup (x := .str c1.s) (by decide) (by decide) (by rfl) ?_ (fun _ _ => rfl)
              refine E_str ?_
              refine o_ne hA (by omega) (by rfl) (by rfl) ?_
              rw [show ("y" : String) = Ch.y.s from rfl, ch_eq]
              refine ⟨_, rfl, ?_⟩
              refine ite_b (fun b2 => ?_) (fun b2 => ?_)
              · refine A_and_nil ⟨?_, rfl⟩
                exact b2.symm
              · exact ⟨b2.symm, rfl⟩
            · refine ⟨?_, rfl⟩
              obtain ⟨nm, ps⟩ := row
              have b1' := of_decide_eq_false b1
              unfold isPV
              split
              · exact absurd (by assumption) b1'
              · rfl
          refine ite_b (fun hpv => ?_) (fun hpv => ?_)
          · skip
            obtain ⟨p1, ch, nn, rfl, hcy⟩ := pv_of hpv
            refine seq ?_
            refine S_assign K n_operand (by rfl) ?_ (by rfl)
            refine E_sub ?_
            refine E_local K n_row (by rfl) (by first | rfl | assumption) ?_ (by rfl)
            refine E_int ?_
            refine o_item_tup (x := Pt.v (.op ch nn)) (by decide) (by decide) (by rfl) ?_ (fun _ _ => rfl)
            refine After.next ?_
            refine S_nil ?_
            refine After.next ?_
            refine S_nil ?_
            refine After.next ?_
            refine seq ?_
            refine S_if ?_
            refine B_cmp ?_ (by rfl)
            refine E_sub ?_
            refine E_local K n_operand (by rfl) (by first | rfl | assumption) ?_ (by rfl)
            refine E_int ?_
            refine o_item_tup (by decide) (by decide) (by first | rfl | assumption) ?_ (fun _ _ => rfl)
            refine E_str ?_
            refine o_eq hA (by omega) (by rfl) (by rfl) ?_
            rw [show ("a" : String) = Ch.a.s from rfl, ch_eq]
            refine ⟨_, rfl, ?_⟩
            refine ite_b (fun ca => ?_) (fun ca => ?_)
            · skip
              have ca := of_decide_eq_true ca
              refine seq ?_
              refine S_assign K n_operand (by rfl) ?_ (by rfl)
              refine E_tuple ?_
              refine L_cons ?_ (by rfl)
              refine E_str ?_
              refine L_cons ?_ (by rfl)
              refine E_sub ?_
              refine E_local K n_operand (by rfl) (by first | rfl | assumption) ?_ (by rfl)
              refine E_int ?_
              refine o_item_tup (by decide) (by decide) (by first | rfl | assumption) ?_ (fun _ _ => rfl)
              refine L_nil ?_
              refine ⟨Nat.le_of_ble_eq_true rfl, ?_⟩
              refine After.next ?_
              refine S_nil ?_
              refine After.next ?_
              refine S_nil ?_
              refine After.next ?_
              refine S_nil ?_
              refine hg1 _ _ _ (TurnEnd.next ?_)
              refine ⟨j, (j, giv (.op ch nn)), by omega, ⟨rfl, by omega, giv_isOp, ?_⟩, ?_, ?_⟩
              · rw [← he]; exact (origin_pv hrow hcy hmem).symm
              · exact LSub.cons rfl (LSub.cons rfl (LSub.cons rfl (LSub.cons rfl (LSub.cons (by show _ = some (Pt.v (giv (.op ch nn))); rw [ca]; rfl) LSub.nil))))
              · exact (Sub.refl H).fresh hD
            · skip
              have ca := of_decide_eq_false ca
              refine S_nil ?_
              refine After.next ?_
              refine S_nil ?_
              refine After.next ?_
              refine S_nil ?_
              refine hg1 _ _ _ (TurnEnd.next ?_)
              refine ⟨j, (j, giv (.op ch nn)), by omega, ⟨rfl, by omega, giv_isOp, ?_⟩, ?_, ?_⟩
              · rw [← he]; exact (origin_pv hrow hcy hmem).symm
              · exact LSub.cons rfl (LSub.cons rfl (LSub.cons rfl (LSub.cons rfl (LSub.cons (by show _ = some (Pt.v (giv (.op ch nn))); rw [giv_ne ca]; rfl) LSub.nil))))
              · exact (Sub.refl H).fresh hD
          · skip
            refine seq ?_
            refine S_return ?_
            refine E_local K n_at (by rfl) (by first | rfl | assumption) ?_ (by rfl)
            refine After.ret ?_
            refine After.ret ?_
            refine After.ret ?_
            refine After.ret ?_
            refine hg1 _ _ _ (TurnEnd.ret ?_)
            refine After.ret ?_
            refine Back.ret ?_
            exact ⟨H, (Sub.refl H).fresh hD, by rw [← he, origin_at hrow hce' hmem hgv hpv] at h; exact h⟩
      · skip
        have hmem := of_decide_eq_false hin
        refine S_nil ?_
        refine After.next ?_
        refine S_nil ?_
        refine hg1 _ _ _ (TurnEnd.next ?_)
        refine ⟨j, (j, o'), by omega, ⟨rfl, by omega, ho', ?_⟩, ?_, ?_⟩
        · rw [← he]; exact (origin_on hrow hce' hmem).symm
        · exact LSub.cons rfl (LSub.cons rfl (LSub.cons rfl (LSub.cons rfl (LSub.cons rfl LSub.nil))))
        · exact (Sub.refl H).fresh hD
  · skip
    obtain rfl : m = 0 := by have := of_decide_eq_false hpos; omega
    obtain ⟨ch, nn, rfl⟩ := isOp_of ho'
    have hHs := Sub.refl H
    refine S_nil ?_
    refine After.next ?_
    refine seq ?_
    refine S_if ?_
    refine B_pure (!decide (ch = Ch.t) && decide (nn ≤ ar)) ?_ ?_
    · skip
      refine B_and ?_
      refine A_and_cons ?_
      refine B_cmp ?_ (by rfl)
      refine E_sub ?_
      refine E_local K n_operand (by rfl) (by first | rfl | assumption) ?_ (by rfl)
      refine E_int ?_
      refine o_item_tup (by decide) (by decide) (by first | rfl | assumption) ?_ (fun _ _ => rfl)
      refine E_str ?_
      refine o_ne hA (by omega) (by rfl) (by rfl) ?_
      rw [show ("t" : String) = Ch.t.s from rfl, ch_eq]
      refine ⟨_, rfl, ?_⟩
      refine ite_b (fun q0 => ?_) (fun q0 => ?_)
      · skip
        refine A_and_cons ?_
        refine B_cmp ?_ (by rfl)
        refine E_sub ?_
        refine E_local K n_operand (by rfl) (by first | rfl | assumption) ?_ (by rfl)
        refine E_int ?_
        refine o_item_tup (by decide) (by decide) (by first | rfl | assumption) ?_ (fun _ _ => rfl)
        refine E_local K n_arity (by rfl) (by first | rfl | assumption) ?_ (by rfl)
        refine o_le ?_
        refine ⟨_, rfl, ?_⟩
        refine ite_b (fun q1 => ?_) (fun q1 => ?_)
        · skip
          refine A_and_nil ?_
          exact ⟨by simp_all, rfl⟩
        · skip
          exact ⟨by simp_all, rfl⟩
      · skip
        exact ⟨by simp_all, rfl⟩
    refine ite_b (fun hfin => ?_) (fun hfin => ?_)
    · skip
      have hfin : ¬ ch = .t ∧ nn ≤ ar := by simpa using hfin
      refine seq ?_
      refine S_return ?_
      refine E_tuple ?_
      refine L_cons ?_ (by rfl)
      refine E_str ?_
      refine L_cons ?_ (by rfl)
      refine E_sub ?_
      refine E_local K n_operand (by rfl) (by first | rfl | assumption) ?_ (by rfl)
      refine E_int ?_
      refine o_item_tup (by decide) (by decide) (by first | rfl | assumption) ?_ (fun _ _ => rfl)
      refine L_nil ?_
      refine ⟨Nat.le_of_ble_eq_true rfl, ?_⟩
      refine After.ret ?_
      refine After.ret ?_
      refine Back.ret ?_
      exact ⟨H, hHs, by rw [← he] at h; simpa [origin, fin, hfin, Og.v] using h⟩
    · skip
      have hfin : ¬ (¬ ch = .t ∧ nn ≤ ar) := by simpa using hfin
      refine S_nil ?_
      refine After.next ?_
      refine seq ?_
      refine S_return ?_
      refine E_str ?_
      refine After.ret ?_
      refine Back.ret ?_
      exact ⟨H, hHs, by rw [← he] at h; simpa [origin, fin, hfin, Og.v] using h⟩
end
end Mine
namespace Mine
theorem lit_ch (c : Ch) (t : String) (d : Ch) (h : t = d.s) : V.eq (.str c.s) (.str t) = decide (c = d) := by subst h; exact ch_eq c d
theorem lit_nm (c : Nm) (t : String) (d : Nm) (h : t = d.s) : V.eq (.str c.s) (.str t) = decide (c = d) := by subst h; exact nm_eq c d
theorem lit_dd (c d : Dd) (t : String) (h : t = String.singleton d.ch) : V.eq (.str (String.singleton c.ch)) (.str t) = decide (c = d) := by
  subst h; rw [V.eq_str]; cases c <;> cases d <;> rfl
theorem og_none (g : Og) : V.eq g.v (.str "none") = decide (g = .none) := og_eq g .none
theorem pt_lit (p : Pt) (n : Int) : V.eq p.v (.tup [.str "x", .int n]) = decide (p = .op .x n) := pt_eq p (.op .x n)
structure Env3 (H : AH) (srt cde rl : Addr) (code real : List Rw) : Prop where
  hs : H srt = some (.dS sortsV)
  hc : H cde = some (.list (code.map Rw.v))
  hr : H rl = some (.list (real.map Rw.v))
  wc : ∀ r ∈ code, opsOk r
  wr : ∀ r ∈ real, opsOk r
  len : real.length = code.length
  big : code.length ≤ 900
theorem row_part {r : Rw} {j : Nat} {p : Pt} (h : r.ps[j]? = some p) : (V.str r.nm.s :: r.ps.map Pt.v)[(((j + 1 : Nat) : Int)).toNat]? = some p.v := by
  rw [Int.toNat_natCast, List.getElem?_cons_succ, List.getElem?_map, h]; rfl
theorem rows_get {l : List Rw} {k : Nat} {r : Rw} (h : l[k]? = some r) : (l.map Rw.v)[((k : Nat) : Int).toNat]? = some r.v := by
  rw [Int.toNat_natCast, List.getElem?_map, h]; rfl
section
variable {c : Cx} (hK : c.K = hd.heap_1 c.w.params)
include hK
set_option maxHeartbeats 2000000 in
theorem sp_read_right {n : Nat} {H : AH} {srt cde rl : Addr} {code real : List Rw} {at0 j : Nat} {ar : Int} {r q : Rw} {p o : Pt} {Q : V → AH → Prop} (E : Env3 H srt cde rl code real) (hcr : code[at0]? = some r) (hrr : real[at0]? = some q) (hp : r.ps[j]? = some p) (hq : q.ps[j]? = some o) (hpo : p.isOp = true) (ho : o.isOp = true)
    (h : Q (.bool (readRight ar code real at0 p o)) H) : FnSpec c (n + 14) 208 [.ref srt, .ref cde, .ref rl, .int at0, .int ar, .int ((j + 1 : Nat) : Int)] Q H := by
  obtain ⟨cp, np, rfl⟩ := isOp_of hpo
  have hat : at0 < code.length := lt_of_get hcr
  have hjl : j < r.ps.length := lt_of_get hp
  have hj2 : j < 2 := by have := (E.wc r (List.mem_of_getElem? hcr)).1; have := (sort_len r.nm).1; omega
  have hbig := E.big
  have hhc := E.hc
  have hhr := E.hr
  refine fn_enter (ks := ks__law_read_right) (by rw [hK]; rfl) (by rw [hK]; kernel_rfl) (KOk.of rfl (by kernel_rfl)) [Str.ofString "sorts", Str.ofString "code", Str.ofString "real", Str.ofString "at", Str.ofString "arity", Str.ofString "spot"] [31115229171, 213465059, 228094706, 14945, 32725694817, 245102707] (all6 fun v0 v1 v2 v3 v4 v5 => rfl) (by kernel_rfl) (by decide) (by rfl) (by decide) rfl rfl rfl (fun A L env hA K => ?_)
  refine seq ?_
  refine S_pair_sw hA K n_part (by rfl) n_other (by rfl) ?_ (by rfl) (sw2 K n_part (by rfl) n_other (by rfl) (by rfl) rfl (by rfl) (by rfl))
  refine E_tuple ?_
  refine L_cons ?_ (by rfl)
  refine E_sub ?_
  refine E_sub ?_
  refine E_local K n_code (by rfl) (by first | rfl | assumption) ?_ (by rfl)
  refine E_local K n_at (by rfl) (by first | rfl | assumption) ?_ (by rfl)
  refine o_item_list (by first | assumption | exact AH.set_same _ _ _ | exact (AH.set_ne _ _ (by first | assumption | exact Ne.symm (by assumption) | exact ne_none (by assumption) (by assumption) | exact Ne.symm (ne_none (by assumption) (by assumption)))).trans (by first | assumption | exact AH.set_same _ _ _ | exact (AH.set_ne _ _ (by first | assumption | exact Ne.symm (by assumption) | exact ne_none (by assumption) (by assumption) | exact Ne.symm (ne_none (by assumption) (by assumption)))).trans (by first | assumption | exact AH.set_same _ _ _ | exact (AH.set_ne _ _ (by first | assumption | exact Ne.symm (by assumption) | exact ne_none (by assumption) (by assumption) | exact Ne.symm (ne_none (by assumption) (by assumption)))).trans (by first | assumption | exact AH.set_same _ _ _ | exact (AH.set_ne _ _ (by first | assumption | exact Ne.symm (by assumption) | exact ne_none (by assumption) (by assumption) | exact Ne.symm (ne_none (by assumption) (by assumption)))).trans (by first | assumption | exact AH.set_same _ _ _ | exact (AH.set_ne _ _ (by first | assumption | exact Ne.symm (by assumption) | exact ne_none (by assumption) (by assumption) | exact Ne.symm (ne_none (by assumption) (by assumption)))).trans (by first | assumption | exact AH.set_same _ _ _ | exact (AH.set_ne _ _ (by first | assumption | exact Ne.symm (by assumption) | exact ne_none (by assumption) (by assumption) | exact Ne.symm (ne_none (by assumption) (by assumption)))).trans (by assumption))))))) (by omega) (by omega) (rows_get hcr) ?_ (fun _ _ => rfl)
  refine E_local K n_spot (by rfl) (by first | rfl | assumption) ?_ (by rfl)
  refine o_item_tup (by omega) (by omega) (row_part hp) ?_ (fun _ _ => rfl)
  refine L_cons ?_ (by rfl)
  refine E_sub ?_
  refine E_sub ?_
  refine E_local K n_real (by rfl) (by first | rfl | assumption) ?_ (by rfl)
  refine E_local K n_at (by rfl) (by first | rfl | assumption) ?_ (by rfl)
  refine o_item_list (by first | assumption | exact AH.set_same _ _ _ | exact (AH.set_ne _ _ (by first | assumption | exact Ne.symm (by assumption) | exact ne_none (by assumption) (by assumption) | exact Ne.symm (ne_none (by assumption) (by assumption)))).trans (by first | assumption | exact AH.set_same _ _ _ | exact (AH.set_ne _ _ (by first | assumption | exact Ne.symm (by assumption) | exact ne_none (by assumption) (by assumption) | exact Ne.symm (ne_none (by assumption) (by assumption)))).trans (by first | assumption | exact AH.set_same _ _ _ | exact (AH.set_ne _ _ (by first | assumption | exact Ne.symm (by assumption) | exact ne_none (by assumption) (by assumption) | exact Ne.symm (ne_none (by assumption) (by assumption)))).trans (by first | assumption | exact AH.set_same _ _ _ | exact (AH.set_ne _ _ (by first | assumption | exact Ne.symm (by assumption) | exact ne_none (by assumption) (by assumption) | exact Ne.symm (ne_none (by assumption) (by assumption)))).trans (by first | assumption | exact AH.set_same _ _ _ | exact (AH.set_ne _ _ (by first | assumption | exact Ne.symm (by assumption) | exact ne_none (by assumption) (by assumption) | exact Ne.symm (ne_none (by assumption) (by assumption)))).trans (by first | assumption | exact AH.set_same _ _ _ | exact (AH.set_ne _ _ (by first | assumption | exact Ne.symm (by assumption) | exact ne_none (by assumption) (by assumption) | exact Ne.symm (ne_none (by assumption) (by assumption)))).trans (by assumption))))))) (by omega) (by omega) (rows_get hrr) ?_ (fun _ _ => rfl)
  refine E_local K n_spot (by rfl) (by first | rfl | assumption) ?_ (by rfl)
  refine o_item_tup (by omega) (by omega) (row_part hq) ?_ (fun _ _ => rfl)
  refine L_nil ?_
  refine ⟨Nat.le_of_ble_eq_true rfl, ?_⟩
  refine ⟨_, _, rfl, ?_⟩
  refine After.next ?_
  refine seq ?_
  refine S_if ?_
  refine B_cmp ?_ (by rfl)
  refine E_sub ?_
  refine E_local K n_part (by rfl) (by first | rfl | assumption) ?_ (by rfl)
  refine E_int ?_
  refine o_item_tup (by decide) (by decide) (by first | rfl | assumption) ?_ (fun _ _ => rfl)
  refine E_str ?_
  refine o_eq hA (by omega) (by rfl) (by rfl) ?_
  rw [lit_ch cp "a" .a rfl]
  refine ⟨_, rfl, ?_⟩
  refine ite_b (fun ca => ?_) (fun ca => ?_)
  · skip
    have ca := of_decide_eq_true ca
    subst ca
    refine seq ?_
    refine S_if ?_
    refine B_cmp ?_ (by rfl)
    refine E_local K n_other (by rfl) (by first | rfl | assumption) ?_ (by rfl)
    refine E_tuple ?_
    refine L_cons ?_ (by rfl)
    refine E_str ?_
    refine L_cons ?_ (by rfl)
    refine E_sub ?_
    refine E_local K n_part (by rfl) (by first | rfl | assumption) ?_ (by rfl)
    refine E_int ?_
    refine o_item_tup (by decide) (by decide) (by first | rfl | assumption) ?_ (fun _ _ => rfl)
    refine L_nil ?_
    refine ⟨Nat.le_of_ble_eq_true rfl, ?_⟩
    refine o_ne hA (by omega) (Pt.ok _) (by rfl) ?_
    rw [pt_lit]
    refine ⟨_, rfl, ?_⟩
    refine ite_b (fun cx => ?_) (fun cx => ?_)
    · skip
      have cx : ¬ o = .op .x np := by simpa using cx
      refine seq ?_
      refine S_return ?_
      refine E_bool ?_
      refine After.ret ?_
      refine After.ret ?_
      refine After.ret ?_
      refine Back.ret ?_
      exact ⟨H, Sub.refl _, by have e : readRight ar code real at0 (.op .a np) o = false := by simp [readRight, badA, isA, cx]
                               rw [e] at h; exact h⟩
    · skip
      have cx : o = .op .x np := by simpa using cx
      refine S_nil ?_
      refine After.next ?_
      refine seq ?_
      refine S_assign K n_part (by rfl) ?_ (by rfl)
      refine E_tuple ?_
      refine L_cons ?_ (by rfl)
      refine E_str ?_
      refine L_cons ?_ (by rfl)
      refine E_sub ?_
      refine E_local K n_part (by rfl) (by first | rfl | assumption) ?_ (by rfl)
      refine E_int ?_
      refine o_item_tup (by decide) (by decide) (by first | rfl | assumption) ?_ (fun _ _ => rfl)
      refine L_nil ?_
      refine ⟨Nat.le_of_ble_eq_true rfl, ?_⟩
      refine After.next ?_
      refine S_nil ?_
      refine After.next ?_
      refine seq ?_
      refine S_assign K n_due (by rfl) ?_ (by rfl)
      refine E_call hA K n__law_origin (by rfl) (gl__law_origin hK) (keep__law_origin hK) ?_ (by rfl) (by rfl) (by rfl)
      refine L_cons ?_ (by rfl)
      refine E_local K n_sorts (by rfl) (by first | rfl | assumption) ?_ (by rfl)
      refine L_cons ?_ (by rfl)
      refine E_local K n_code (by rfl) (by first | rfl | assumption) ?_ (by rfl)
      refine L_cons ?_ (by rfl)
      refine E_local K n_at (by rfl) (by first | rfl | assumption) ?_ (by rfl)
      refine L_cons ?_ (by rfl)
      refine E_local K n_arity (by rfl) (by first | rfl | assumption) ?_ (by rfl)
      refine L_cons ?_ (by rfl)
      refine E_local K n_part (by rfl) (by first | rfl | assumption) ?_ (by rfl)
      refine L_nil ?_
      refine sp_origin hK (n := n) (rows := code) (at0 := at0) (o := giv (.op .a np)) E.hs E.hc E.wc giv_isOp (by omega) (by have := E.big; omega) ?_
      refine After.next ?_
      refine seq ?_
      refine S_return ?_
      refine E_pure (V.bool (!decide (origin ar code at0 (giv (.op .a np)) = Og.none) && decide (origin ar real at0 o = origin ar code at0 (giv (.op .a np))))) ?_ ?_
      · skip
        refine E_boolop ?_
        refine E_and_cons ?_
        refine E_cmp ?_ (by rfl)
        refine E_local K n_due (by rfl) (by first | rfl | assumption) ?_ (by rfl)
        refine E_str ?_
        refine o_ne hA (by omega) (Og.ok _) (by rfl) ?_
        rw [og_none]
        refine ⟨_, rfl, ?_⟩
        refine ite_b (fun b1 => ?_) (fun b1 => ?_)
        · skip
          refine E_and_last ?_
          refine E_cmp ?_ (by rfl)
          refine E_call hA K n__law_origin (by rfl) (gl__law_origin hK) (keep__law_origin hK) ?_ (by rfl) (by rfl) (by rfl)
          refine L_cons ?_ (by rfl)
          refine E_local K n_sorts (by rfl) (by first | rfl | assumption) ?_ (by rfl)
          refine L_cons ?_ (by rfl)
          refine E_local K n_real (by rfl) (by first | rfl | assumption) ?_ (by rfl)
          refine L_cons ?_ (by rfl)
          refine E_local K n_at (by rfl) (by first | rfl | assumption) ?_ (by rfl)
          refine L_cons ?_ (by rfl)
          refine E_local K n_arity (by rfl) (by first | rfl | assumption) ?_ (by rfl)
          refine L_cons ?_ (by rfl)
          refine E_local K n_other (by rfl) (by first | rfl | assumption) ?_ (by rfl)
          refine L_nil ?_
          refine sp_origin hK (n := n) (rows := real) (at0 := at0) (o := o) E.hs E.hr E.wr ho (by have := E.len; omega) (by have := E.len; have := E.big; omega) ?_
          refine E_local K n_due (by rfl) (by first | rfl | assumption) ?_ (by rfl)
          refine o_eq hA (by omega) (Og.ok _) (Og.ok _) ?_
          rw [og_eq]
          exact ⟨by simp_all, rfl⟩
        · skip
          exact ⟨by simp_all, rfl⟩
      refine After.ret ?_
      refine Back.ret ?_
      exact ⟨H, Sub.refl _, by simpa [readRight, badA, isA, cx] using h⟩
  · skip
    have ca := of_decide_eq_false ca
    have hg : giv (.op cp np) = .op cp np := giv_ne ca
    have hia : isA (.op cp np) = none := by cases cp <;> first | rfl | exact absurd rfl ca
    refine S_nil ?_
    refine After.next ?_
    refine seq ?_
    refine S_assign K n_due (by rfl) ?_ (by rfl)
    refine E_call hA K n__law_origin (by rfl) (gl__law_origin hK) (keep__law_origin hK) ?_ (by rfl) (by rfl) (by rfl)
    refine L_cons ?_ (by rfl)
    refine E_local K n_sorts (by rfl) (by first | rfl | assumption) ?_ (by rfl)
    refine L_cons ?_ (by rfl)
    refine E_local K n_code (by rfl) (by first | rfl | assumption) ?_ (by rfl)
    refine L_cons ?_ (by rfl)
    refine E_local K n_at (by rfl) (by first | rfl | assumption) ?_ (by rfl)
    refine L_cons ?_ (by rfl)
    refine E_local K n_arity (by rfl) (by first | rfl | assumption) ?_ (by rfl)
    refine L_cons ?_ (by rfl)
    refine E_local K n_part (by rfl) (by first | rfl | assumption) ?_ (by rfl)
    refine L_nil ?_
    refine sp_origin hK (n := n) (rows := code) (at0 := at0) (o := .op cp np) E.hs E.hc E.wc rfl (by omega) (by have := E.big; omega) ?_
    refine After.next ?_
    refine seq ?_
    refine S_return ?_
    refine E_pure (V.bool (!decide (origin ar code at0 (.op cp np) = Og.none) && decide (origin ar real at0 o = origin ar code at0 (.op cp np)))) ?_ ?_
    · skip
      refine E_boolop ?_
      refine E_and_cons ?_
      refine E_cmp ?_ (by rfl)
      refine E_local K n_due (by rfl) (by first | rfl | assumption) ?_ (by rfl)
      refine E_str ?_
      refine o_ne hA (by omega) (Og.ok _) (by rfl) ?_
      rw [og_none]
      refine ⟨_, rfl, ?_⟩
      refine ite_b (fun b2 => ?_) (fun b2 => ?_)
      · skip
        refine E_and_last ?_
        refine E_cmp ?_ (by rfl)
        refine E_call hA K n__law_origin (by rfl) (gl__law_origin hK) (keep__law_origin hK) ?_ (by rfl) (by rfl) (by rfl)
        refine L_cons ?_ (by rfl)
        refine E_local K n_sorts (by rfl) (by first | rfl | assumption) ?_ (by rfl)
        refine L_cons ?_ (by rfl)
        refine E_local K n_real (by rfl) (by first | rfl | assumption) ?_ (by rfl)
        refine L_cons ?_ (by rfl)
        refine E_local K n_at (by rfl) (by first | rfl | assumption) ?_ (by rfl)
        refine L_cons ?_ (by rfl)
        refine E_local K n_arity (by rfl) (by first | rfl | assumption) ?_ (by rfl)
        refine L_cons ?_ (by rfl)
        refine E_local K n_other (by rfl) (by first | rfl | assumption) ?_ (by rfl)
        refine L_nil ?_
        refine sp_origin hK (n := n) (rows := real) (at0 := at0) (o := o) E.hs E.hr E.wr ho (by have := E.len; omega) (by have := E.len; have := E.big; omega) ?_
        refine E_local K n_due (by rfl) (by first | rfl | assumption) ?_ (by rfl)
        refine o_eq hA (by omega) (Og.ok _) (Og.ok _) ?_
        rw [og_eq]
        exact ⟨by simp_all, rfl⟩
      · skip
        exact ⟨by simp_all, rfl⟩
    refine After.ret ?_
    refine Back.ret ?_
    exact ⟨H, Sub.refl _, by simpa [readRight, badA, hia, hg] using h⟩
end
end Mine
namespace Mine
theorem Env3.sub {H H' : AH} {srt cde rl : Addr} {code real : List Rw} (E : Env3 H srt cde rl code real) (h : Sub H H') : Env3 H' srt cde rl code real := ⟨h _ _ E.hs, h _ _ E.hc, h _ _ E.hr, E.wc, E.wr, E.len, E.big⟩
noncomputable def wdT (wr : List (Int × Pt)) : List (Int × V) := wr.map fun x => (x.1, x.2.v)
theorem pget_rel (wr : List (Int × Pt)) (k : Int) (p : Pt) : (dget (wdT wr) k).getD p.v = (pget wr k p).v := by
  unfold dget pget wdT
  induction wr with
  | nil => rfl
  | cons x wr ih =>
    simp only [List.map_cons, List.find?_cons]
    by_cases h : x.1 = k
    · simp [h]
    · simpa [h] using ih
theorem pput_rel (wr : List (Int × Pt)) (k : Int) (p : Pt) : dput (wdT wr) k p.v = wdT (pput wr k p) := by
  have ha : (wdT wr).any (fun x => x.1 = k) = wr.any fun x => x.1 = k := by unfold wdT; rw [List.any_map]; rfl
  unfold dput pput
  rw [ha]
  split
  · unfold wdT
    rw [List.map_map, List.map_map]
    refine List.map_congr_left fun x _ => ?_
    simp only [Function.comp]
    split <;> rfl
  · unfold wdT; rw [List.map_append]; rfl
theorem pput_len (wr : List (Int × Pt)) (k : Int) (p : Pt) : (pput wr k p).length ≤ wr.length + 1 := by
  unfold pput; split <;> simp
theorem spots_dot {ar : Int} {code real : List Rw} {k : Nat} {d : Dd} {ds : List Dd} {p q : Pt} {ps qs : List Pt} {wr : List (Int × Pt)} (h : d = .dot ∨ p.is .y = true) : spots ar code real k (d :: ds) (p :: ps) (q :: qs) wr = if p ≠ q then false else spots ar code real k ds ps qs wr := by
  rw [spots, if_pos h]
theorem spots_w {ar : Int} {code real : List Rw} {k : Nat} {d : Dd} {ds : List Dd} {p q : Pt} {ps qs : List Pt} {wr : List (Int × Pt)} (h : ¬ d = .dot ∧ p.is .y = false) (hw : d = .w) : spots ar code real k (d :: ds) (p :: ps) (q :: qs) wr =
    if badA p q then false else if pget wr q.n p ≠ p then false else spots ar code real k ds ps qs (pput wr q.n p) := by
  rw [spots, if_neg (by simp [h]), if_pos hw]
theorem spots_r {ar : Int} {code real : List Rw} {k : Nat} {d : Dd} {ds : List Dd} {p q : Pt} {ps qs : List Pt} {wr : List (Int × Pt)} (h : ¬ d = .dot ∧ p.is .y = false) (hw : ¬ d = .w) : spots ar code real k (d :: ds) (p :: ps) (q :: qs) wr = if readRight ar code real k p q then spots ar code real k ds ps qs wr else false := by
  rw [spots, if_neg (by simp [h]), if_neg hw]
theorem drop_one {α : Type} {l : List α} {j : Nat} {x : α} (h : l[j]? = some x) : l.drop j = x :: l.drop (j + 1) := by
  have hj := lt_of_get h
  rw [List.drop_eq_getElem_cons hj]
  rw [List.getElem?_eq_getElem hj] at h
  rw [Option.some.inj h]
noncomputable def fit (r q : Rw) : Prop := r.nm = q.nm ∧ r.ps.length = q.ps.length ∧ ∀ (j : Nat) (d : Dd) (p o : Pt), r.nm.sort[j]? = some d → r.ps[j]? = some p → q.ps[j]? = some o → d ≠ .dot → p.is .y = false → ∃ m, o = .op .x m
section
variable {c : Cx} (hK : c.K = hd.heap_1 c.w.params)
include hK
set_option maxHeartbeats 4000000 in
theorem sp_row_right {n : Nat} {H : AH} {srt cde rl : Addr} {code real : List Rw} {at0 : Nat} {ar : Int} {r q : Rw} {Q : V → AH → Prop} (E : Env3 H srt cde rl code real) (hcr : code[at0]? = some r) (hrr : real[at0]? = some q) (hft : fit r q)
    (h : Q (.bool (rowRight ar code real at0)) H) : FnSpec c (n + 15) 215 [.ref srt, .ref cde, .ref rl, .int at0, .int ar] Q H := by
  have hat : at0 < code.length := lt_of_get hcr
  have hwc := E.wc r (List.mem_of_getElem? hcr)
  have hlen := hwc.1
  have hlq := hft.2.1
  have hj2 : r.ps.length ≤ 2 := by have := (sort_len r.nm).1; omega
  have hbig := E.big
  have hhc := E.hc
  have hhr := E.hr
  have hhs := E.hs
  refine fn_enter (ks := ks__law_row_right) (by rw [hK]; rfl) (by rw [hK]; kernel_rfl) (KOk.of rfl (by kernel_rfl)) [Str.ofString "sorts", Str.ofString "code", Str.ofString "real", Str.ofString "at", Str.ofString "arity"] [31115229171, 213465059, 228094706, 14945, 32725694817] (all5 fun v0 v1 v2 v3 v4 => rfl) (by kernel_rfl) (by decide) (by rfl) (by decide) rfl rfl rfl (fun A L env hA K => ?_)
  refine seq ?_
  refine S_assign K n_written (by rfl) ?_ (by rfl)
  refine E_dict0T fun d1 hd1 => ?_
  refine After.next ?_
  refine seq ?_
  refine S_for' (fun j wr => spots ar code real at0 (r.nm.sort.drop j) (r.ps.drop j) (q.ps.drop j) wr = rowRight ar code real at0 ∧ wr.length ≤ j) (fun _ _ => [(487286833314167, .ref d1), (31115229171, .ref srt), (213465059, .ref cde), (228094706, .ref rl), (14945, .int at0), (32725694817, .int ar)]) (fun _ wr => H.set d1 (.dT (wdT wr))) hA K n_spot (by rfl) ?_ (fun _ => rfl)
  refine E_callb K n_range (by rfl) (gl_range hK) boot_range nn_range (by rfl) (fun _ h => nomatch h) ?_ (by rfl) (by rfl)
  refine L_cons ?_ (by rfl)
  refine E_int ?_
  refine L_cons ?_ (by rfl)
  refine E_callb K n_len (by rfl) (gl_len hK) boot_len nn_len (by rfl) (fun _ h => nomatch h) ?_ (by rfl) (by rfl)
  refine L_cons ?_ (by rfl)
  refine E_sub ?_
  refine E_local K n_code (by rfl) (by first | rfl | assumption) ?_ (by rfl)
  refine E_local K n_at (by rfl) (by first | rfl | assumption) ?_ (by rfl)
  refine o_item_list (by first | assumption | exact AH.set_same _ _ _ | exact (AH.set_ne _ _ (by first | assumption | exact Ne.symm (by assumption) | exact ne_none (by assumption) (by assumption) | exact Ne.symm (ne_none (by assumption) (by assumption)))).trans (by first | assumption | exact AH.set_same _ _ _ | exact (AH.set_ne _ _ (by first | assumption | exact Ne.symm (by assumption) | exact ne_none (by assumption) (by assumption) | exact Ne.symm (ne_none (by assumption) (by assumption)))).trans (by first | assumption | exact AH.set_same _ _ _ | exact (AH.set_ne _ _ (by first | assumption | exact Ne.symm (by assumption) | exact ne_none (by assumption) (by assumption) | exact Ne.symm (ne_none (by assumption) (by assumption)))).trans (by first | assumption | exact AH.set_same _ _ _ | exact (AH.set_ne _ _ (by first | assumption | exact Ne.symm (by assumption) | exact ne_none (by assumption) (by assumption) | exact Ne.symm (ne_none (by assumption) (by assumption)))).trans (by first | assumption | exact AH.set_same _ _ _ | exact (AH.set_ne _ _ (by first | assumption | exact Ne.symm (by assumption) | exact ne_none (by assumption) (by assumption) | exact Ne.symm (ne_none (by assumption) (by assumption)))).trans (by first | assumption | exact AH.set_same _ _ _ | exact (AH.set_ne _ _ (by first | assumption | exact Ne.symm (by assumption) | exact ne_none (by assumption) (by assumption) | exact Ne.symm (ne_none (by assumption) (by assumption)))).trans (by assumption))))))) (by omega) (by omega) (rows_get hcr) ?_ (fun _ _ => rfl)
  refine L_nil ?_
  refine b_len_tup (l := V.str r.nm.s :: r.ps.map Pt.v) (by simp only [List.length_cons, List.length_map]; omega) ?_
  rw [show ((V.str r.nm.s :: r.ps.map Pt.v).length : Int) = (r.ps.length : Int) + 1 by simp]
  refine L_nil ?_
  refine b_range2 (fun d hd => ?_)
  have hR : rowRight ar code real at0 = spots ar code real at0 r.nm.sort r.ps q.ps [] := by simp only [rowRight, hcr, hrr]
  have hN : ((r.ps.length : Int) + 1 - 1).toNat = r.ps.length := by omega
  refine ⟨_, [], ⟨hR.symm, Nat.le_refl _⟩, LSub.refl _, (Sub.refl _).fresh hd, .inr (.inr (.inl ⟨d, 1, (r.ps.length : Int) + 1, rfl, AH.set_same _ _ _, by decide, by decide, by omega, by omega, rfl⟩)), ?_, ?_⟩
  · skip
    intro j wr v hv hJ
    obtain ⟨hJ, hwl⟩ := hJ
    have hj : j < r.ps.length := by have := lt_of_get hv; rw [List.length_map, List.length_range, hN] at this; exact this
    have hv' : v = .int ((j + 1 : Nat) : Int) := by
      rw [List.getElem?_map, List.getElem?_range (by rw [hN]; exact hj)] at hv
      have := Option.some.inj hv
      rw [← this]; show V.int _ = V.int _; congr 1; omega
    subst hv'
    obtain ⟨d, hds⟩ : ∃ d, r.nm.sort[j]? = some d := ⟨_, List.getElem?_eq_getElem (by omega)⟩
    obtain ⟨p, hp⟩ : ∃ p, r.ps[j]? = some p := ⟨_, List.getElem?_eq_getElem hj⟩
    obtain ⟨o, hq⟩ : ∃ o, q.ps[j]? = some o := ⟨_, List.getElem?_eq_getElem (by omega)⟩
    have hJ1 := hJ
    rw [drop_one hds, drop_one hp, drop_one hq] at hJ1
    have hop : d ≠ .dot → p.isOp = true := fun hne => hwc.2 d p (List.mem_of_getElem? (List.getElem?_zip_eq_some.mpr ⟨hds, hp⟩)) hne
    have E' : Env3 (H.set d1 (.dT (wdT wr))) srt cde rl code real := E.sub ((Sub.refl H).fresh hd1)
    have hhc := E'.hc
    have hhr := E'.hr
    have hhs := E'.hs
    refine WS.gen fun Qg1 hg1 => ?_
    refine seq ?_
    refine S_pair_sw hA K n_part (by rfl) n_other (by rfl) ?_ (by rfl) (sw2 K n_part (by rfl) n_other (by rfl) (by rfl) rfl (by rfl) (by rfl))
    refine E_tuple ?_
    refine L_cons ?_ (by rfl)
    refine E_sub ?_
    refine E_sub ?_
    refine E_local K n_code (by rfl) (by first | rfl | assumption) ?_ (by rfl)
    refine E_local K n_at (by rfl) (by first | rfl | assumption) ?_ (by rfl)
    refine o_item_list (by first | assumption | exact AH.set_same _ _ _ | exact (AH.set_ne _ _ (by first | assumption | exact Ne.symm (by assumption) | exact ne_none (by assumption) (by assumption) | exact Ne.symm (ne_none (by assumption) (by assumption)))).trans (by first | assumption | exact AH.set_same _ _ _ | exact (AH.set_ne _ _ (by first | assumption | exact Ne.symm (by assumption) | exact ne_none (by assumption) (by assumption) | exact Ne.symm (ne_none (by assumption) (by assumption)))).trans (by first | assumption | exact AH.set_same _ _ _ | exact (AH.set_ne _ _ (by first | assumption | exact Ne.symm (by assumption) | exact ne_none (by assumption) (by assumption) | exact Ne.symm (ne_none (by assumption) (by assumption)))).trans (by first | assumption | exact AH.set_same _ _ _ | exact (AH.set_ne _ _ (by first | assumption | exact Ne.symm (by assumption) | exact ne_none (by assumption) (by assumption) | exact Ne.symm (ne_none (by assumption) (by assumption)))).trans (by first | assumption | exact AH.set_same _ _ _ | exact (AH.set_ne _ _ (by first | assumption | exact Ne.symm (by assumption) | exact ne_none (by assumption) (by assumption) | exact Ne.symm (ne_none (by assumption) (by assumption)))).trans (by first | assumption | exact AH.set_same _ _ _ | exact (AH.set_ne _ _ (by first | assumption | exact Ne.symm (by assumption) | exact ne_none (by assumption) (by assumption) | exact Ne.symm (ne_none (by assumption) (by assumption)))).trans (by assumption))))))) (by omega) (by omega) (rows_get hcr) ?_ (fun _ _ => rfl)
    refine E_local K n_spot (by rfl) (by first | rfl | assumption) ?_ (by rfl)
    refine o_item_tup (by omega) (by omega) (row_part hp) ?_ (fun _ _ => rfl)
    refine L_cons ?_ (by rfl)
    refine E_sub ?_
    refine E_sub ?_
    refine E_local K n_real (by rfl) (by first | rfl | assumption) ?_ (by rfl)
    refine E_local K n_at (by rfl) (by first | rfl | assumption) ?_ (by rfl)
    refine o_item_list (by first | assumption | exact AH.set_same _ _ _ | exact (AH.set_ne _ _ (by first | assumption | exact Ne.symm (by assumption) | exact ne_none (by assumption) (by assumption) | exact Ne.symm (ne_none (by assumption) (by assumption)))).trans (by first | assumption | exact AH.set_same _ _ _ | exact (AH.set_ne _ _ (by first | assumption | exact Ne.symm (by assumption) | exact ne_none (by assumption) (by assumption) | exact Ne.symm (ne_none (by assumption) (by assumption)))).trans (by first | assumption | exact AH.set_same _ _ _ | exact (AH.set_ne _ _ (by first | assumption | exact Ne.symm (by assumption) | exact ne_none (by assumption) (by assumption) | exact Ne.symm (ne_none (by assumption) (by assumption)))).trans (by first | assumption | exact AH.set_same _ _ _ | exact (AH.set_ne _ _ (by first | assumption | exact Ne.symm (by assumption) | exact ne_none (by assumption) (by assumption) | exact Ne.symm (ne_none (by assumption) (by assumption)))).trans (by first | assumption | exact AH.set_same _ _ _ | exact (AH.set_ne _ _ (by first | assumption | exact Ne.symm (by assumption) | exact ne_none (by assumption) (by assumption) | exact Ne.symm (ne_none (by assumption) (by assumption)))).trans (by first | assumption | exact AH.set_same _ _ _ | exact (AH.set_ne _ _ (by first | assumption | exact Ne.symm (by assumption) | exact ne_none (by assumption) (by assumption) | exact Ne.symm (ne_none (by assumption) (by assumption)))).trans (by assumption))))))) (by omega) (by omega) (rows_get hrr) ?_ (fun _ _ => rfl)
    refine E_local K n_spot (by rfl) (by first | rfl | assumption) ?_ (by rfl)
    refine o_item_tup (by omega) (by omega) (row_part hq) ?_ (fun _ _ => rfl)
    refine L_nil ?_
    refine ⟨Nat.le_of_ble_eq_true rfl, ?_⟩
    refine ⟨_, _, rfl, ?_⟩
    refine After.next ?_
    refine seq ?_
    refine S_assign K n_deed (by rfl) ?_ (by rfl)
    refine E_sub ?_
    refine E_sub ?_
    refine E_local K n_sorts (by rfl) (by first | rfl | assumption) ?_ (by rfl)
    refine E_sub ?_
    refine E_sub ?_
    refine E_local K n_code (by rfl) (by first | rfl | assumption) ?_ (by rfl)
    refine E_local K n_at (by rfl) (by first | rfl | assumption) ?_ (by rfl)
    refine o_item_list (by first | assumption | exact AH.set_same _ _ _ | exact (AH.set_ne _ _ (by first | assumption | exact Ne.symm (by assumption) | exact ne_none (by assumption) (by assumption) | exact Ne.symm (ne_none (by assumption) (by assumption)))).trans (by first | assumption | exact AH.set_same _ _ _ | exact (AH.set_ne _ _ (by first | assumption | exact Ne.symm (by assumption) | exact ne_none (by assumption) (by assumption) | exact Ne.symm (ne_none (by assumption) (by assumption)))).trans (by first | assumption | exact AH.set_same _ _ _ | exact (AH.set_ne _ _ (by first | assumption | exact Ne.symm (by assumption) | exact ne_none (by assumption) (by assumption) | exact Ne.symm (ne_none (by assumption) (by assumption)))).trans (by first | assumption | exact AH.set_same _ _ _ | exact (AH.set_ne _ _ (by first | assumption | exact Ne.symm (by assumption) | exact ne_none (by assumption) (by assumption) | exact Ne.symm (ne_none (by assumption) (by assumption)))).trans (by first | assumption | exact AH.set_same _ _ _ | exact (AH.set_ne _ _ (by first | assumption | exact Ne.symm (by assumption) | exact ne_none (by assumption) (by assumption) | exact Ne.symm (ne_none (by assumption) (by assumption)))).trans (by first | assumption | exact AH.set_same _ _ _ | exact (AH.set_ne _ _ (by first | assumption | exact Ne.symm (by assumption) | exact ne_none (by assumption) (by assumption) | exact Ne.symm (ne_none (by assumption) (by assumption)))).trans (by assumption))))))) (by omega) (by omega) (rows_get hcr) ?_ (fun _ _ => rfl)
    refine E_int ?_
    refine o_item_tup (by decide) (by decide) (by rfl) ?_ (fun _ _ => rfl)
    refine o_item_dS (by first | assumption | exact AH.set_same _ _ _ | exact (AH.set_ne _ _ (by first | assumption | exact Ne.symm (by assumption) | exact ne_none (by assumption) (by assumption) | exact Ne.symm (ne_none (by assumption) (by assumption)))).trans (by first | assumption | exact AH.set_same _ _ _ | exact (AH.set_ne _ _ (by first | assumption | exact Ne.symm (by assumption) | exact ne_none (by assumption) (by assumption) | exact Ne.symm (ne_none (by assumption) (by assumption)))).trans (by first | assumption | exact AH.set_same _ _ _ | exact (AH.set_ne _ _ (by first | assumption | exact Ne.symm (by assumption) | exact ne_none (by assumption) (by assumption) | exact Ne.symm (ne_none (by assumption) (by assumption)))).trans (by first | assumption | exact AH.set_same _ _ _ | exact (AH.set_ne _ _ (by first | assumption | exact Ne.symm (by assumption) | exact ne_none (by assumption) (by assumption) | exact Ne.symm (ne_none (by assumption) (by assumption)))).trans (by first | assumption | exact AH.set_same _ _ _ | exact (AH.set_ne _ _ (by first | assumption | exact Ne.symm (by assumption) | exact ne_none (by assumption) (by assumption) | exact Ne.symm (ne_none (by assumption) (by assumption)))).trans (by first | assumption | exact AH.set_same _ _ _ | exact (AH.set_ne _ _ (by first | assumption | exact Ne.symm (by assumption) | exact ne_none (by assumption) (by assumption) | exact Ne.symm (ne_none (by assumption) (by assumption)))).trans (by assumption))))))) (sort_get r.nm) ?_ (fun _ _ => rfl)
    refine E_binop ?_
    refine E_local K n_spot (by rfl) (by first | rfl | assumption) ?_ (by rfl)
    refine E_int ?_
    refine o_sub ?_
    refine o_item_str (ch := d.ch) (by omega) (by omega) (by rw [sortS_list, List.getElem?_map, show (((j + 1 : Nat) : Int) - 1).toNat = j by omega, hds]; rfl) ?_ (fun _ _ => rfl)
    refine After.next ?_
    refine seq ?_
    refine S_if ?_
    refine B_pure (decide (d = .dot) || p.is .y) ?_ ?_
    · skip
      refine B_or ?_
      refine A_or_cons ?_
      refine B_cmp ?_ (by rfl)
      refine E_local K n_deed (by rfl) (by first | rfl | assumption) ?_ (by rfl)
      refine E_str ?_
      refine o_eq hA (by omega) (by rfl) (by rfl) ?_
      rw [lit_dd d .dot "." rfl]
      refine ⟨_, rfl, ?_⟩
      refine ite_b (fun q0 => ?_) (fun q0 => ?_)
      · skip
        exact ⟨by simp_all, rfl⟩
      · skip
        refine A_or_cons ?_
        refine B_cmp ?_ (by rfl)
        refine E_sub ?_
        refine E_local K n_part (by rfl) (by first | rfl | assumption) ?_ (by rfl)
        refine E_int ?_
        obtain ⟨cp, np, rfl⟩ := isOp_of (hop (of_decide_eq_false q0))
        refine o_item_tup (by decide) (by decide) (by rfl) ?_ (fun _ _ => rfl)
        refine E_str ?_
        refine o_eq hA (by omega) (by rfl) (by rfl) ?_
        rw [lit_ch cp "y" .y rfl]
        refine ⟨_, rfl, ?_⟩
        refine ite_b (fun q1 => ?_) (fun q1 => ?_)
        · skip
          exact ⟨by simp only [q0, Bool.false_or]; exact q1.symm, rfl⟩
        · skip
          refine A_or_nil ?_
          exact ⟨by simp only [q0, Bool.false_or]; exact q1.symm, rfl⟩
    refine ite_b (fun hdy => ?_) (fun hdy => ?_)
    · skip
      have hdy' : d = .dot ∨ p.is .y = true := by simpa using hdy
      refine seq ?_
      refine S_if ?_
      refine B_cmp ?_ (by rfl)
      refine E_local K n_part (by rfl) (by first | rfl | assumption) ?_ (by rfl)
      refine E_local K n_other (by rfl) (by first | rfl | assumption) ?_ (by rfl)
      refine o_ne hA (by omega) (Pt.ok _) (Pt.ok _) ?_
      rw [pt_eq]
      refine ⟨_, rfl, ?_⟩
      refine ite_b (fun hpo => ?_) (fun hpo => ?_)
      · skip
        have hpo : ¬ p = o := by simpa using hpo
        refine seq ?_
        refine S_return ?_
        refine E_bool ?_
        refine After.ret ?_
        refine After.ret ?_
        refine After.ret ?_
        refine hg1 _ _ _ (TurnEnd.ret ?_)
        refine After.ret ?_
        refine Back.ret ?_
        exact ⟨H, (Sub.refl H).fresh hd1, by rw [← hJ1] at h; rw [spots_dot hdy', if_pos hpo] at h; exact h⟩
      · skip
        have hpo : p = o := by simpa using hpo
        refine S_nil ?_
        refine After.next ?_
        refine S_nil ?_
        refine After.next ?_
        refine S_nil ?_
        refine hg1 _ _ _ (TurnEnd.next ?_)
        refine ⟨wr, ⟨by rw [← hJ1, spots_dot hdy', if_neg (by simpa using hpo)], by omega⟩, ?_, ?_⟩
        · exact LSub.cons rfl (LSub.cons rfl (LSub.cons rfl (LSub.cons rfl (LSub.cons rfl (LSub.cons rfl LSub.nil)))))
        · exact Sub.refl _
    · skip
      have hdy' : ¬ d = .dot ∧ p.is .y = false := by simpa using hdy
      obtain ⟨cp, np, rfl⟩ := isOp_of (hop hdy'.1)
      obtain ⟨m, rfl⟩ := hft.2.2 j d _ _ hds hp hq hdy'.1 hdy'.2
      refine seq ?_
      refine S_if ?_
      refine B_cmp ?_ (by rfl)
      refine E_local K n_deed (by rfl) (by first | rfl | assumption) ?_ (by rfl)
      refine E_str ?_
      refine o_eq hA (by omega) (by rfl) (by rfl) ?_
      rw [lit_dd d .w "w" rfl]
      refine ⟨_, rfl, ?_⟩
      refine ite_b (fun hw => ?_) (fun hw => ?_)
      · skip
        have hw := of_decide_eq_true hw
        refine seq ?_
        refine S_if ?_
        refine B_pure (badA (.op cp np) (.op .x m)) ?_ ?_
        · skip
          refine B_and ?_
          refine A_and_cons ?_
          refine B_cmp ?_ (by rfl)
          refine E_sub ?_
          refine E_local K n_part (by rfl) (by first | rfl | assumption) ?_ (by rfl)
          refine E_int ?_
          refine o_item_tup (by decide) (by decide) (by rfl) ?_ (fun _ _ => rfl)
          refine E_str ?_
          refine o_eq hA (by omega) (by rfl) (by rfl) ?_
          rw [lit_ch cp "a" .a rfl]
          refine ⟨_, rfl, ?_⟩
          refine ite_b (fun q0 => ?_) (fun q0 => ?_)
          · skip
            refine A_and_cons ?_
            refine B_cmp ?_ (by rfl)
            refine E_local K n_other (by rfl) (by first | rfl | assumption) ?_ (by rfl)
            refine E_tuple ?_
            refine L_cons ?_ (by rfl)
            refine E_str ?_
            refine L_cons ?_ (by rfl)
            refine E_sub ?_
            refine E_local K n_part (by rfl) (by first | rfl | assumption) ?_ (by rfl)
            refine E_int ?_
            refine o_item_tup (by decide) (by decide) (by first | rfl | assumption) ?_ (fun _ _ => rfl)
            refine L_nil ?_
            refine ⟨Nat.le_of_ble_eq_true rfl, ?_⟩
            refine o_ne hA (by omega) (Pt.ok _) (by rfl) ?_
            rw [pt_lit]
            refine ⟨_, rfl, ?_⟩
            refine ite_b (fun q1 => ?_) (fun q1 => ?_)
            · skip
              refine A_and_nil ?_
              exact ⟨by have := of_decide_eq_true q0; subst this; simpa [badA, isA] using q1.symm, rfl⟩
            · skip
              exact ⟨by have := of_decide_eq_true q0; subst this; simpa [badA, isA] using q1.symm, rfl⟩
          · skip
            exact ⟨by have := of_decide_eq_false q0; cases cp <;> first | rfl | exact absurd rfl this, rfl⟩
        refine ite_b (fun hax => ?_) (fun hax => ?_)
        · skip
          refine seq ?_
          refine S_return ?_
          refine E_bool ?_
          refine After.ret ?_
          refine After.ret ?_
          refine After.ret ?_
          refine After.ret ?_
          refine hg1 _ _ _ (TurnEnd.ret ?_)
          refine After.ret ?_
          refine Back.ret ?_
          exact ⟨H, (Sub.refl H).fresh hd1, by rw [← hJ1] at h; rw [spots_w hdy' hw, if_pos hax] at h; exact h⟩
        · skip
          refine S_nil ?_
          refine After.next ?_
          refine seq ?_
          refine S_if ?_
          refine B_cmp ?_ (by rfl)
          refine E_get2T hA ?_ (by rfl) (by rfl)
          refine E_local K n_written (by rfl) (by first | rfl | assumption) ?_ (by rfl)
          refine ⟨_, rfl, ⟨_, AH.set_same _ _ _⟩, ?_⟩
          refine E_local K n_other (by rfl) (by first | rfl | assumption) ?_ (by rfl)
          refine E_local K n_part (by rfl) (by first | rfl | assumption) ?_ (by rfl)
          refine ⟨m, _, rfl, AH.set_same _ _ _, ?_⟩
          rw [pget_rel]
          refine E_local K n_part (by rfl) (by first | rfl | assumption) ?_ (by rfl)
          refine o_ne hA (by omega) (Pt.ok _) (Pt.ok _) ?_
          rw [pt_eq]
          refine ⟨_, rfl, ?_⟩
          refine ite_b (fun hwg => ?_) (fun hwg => ?_)
          · skip
            have hwg : ¬ pget wr m (.op cp np) = .op cp np := by simpa using hwg
            refine seq ?_
            refine S_return ?_
            refine E_bool ?_
            refine After.ret ?_
            refine After.ret ?_
            refine After.ret ?_
            refine After.ret ?_
            refine hg1 _ _ _ (TurnEnd.ret ?_)
            refine After.ret ?_
            refine Back.ret ?_
            exact ⟨H, (Sub.refl H).fresh hd1, by rw [← hJ1] at h; rw [spots_w hdy' hw, if_neg (by rw [hax]; decide), if_pos (show pget wr (Pt.op .x m).n (.op cp np) ≠ .op cp np from hwg)] at h; exact h⟩
          · skip
            have hwg : pget wr m (.op cp np) = .op cp np := by simpa using hwg
            refine S_nil ?_
            refine After.next ?_
            refine seq ?_
            refine S_assign_sub ?_ (by rfl)
            refine E_local K n_part (by rfl) (by first | rfl | assumption) ?_ (by rfl)
            refine E_local K n_written (by rfl) (by first | rfl | assumption) ?_ (by rfl)
            refine E_local K n_other (by rfl) (by first | rfl | assumption) ?_ (by rfl)
            refine s_dT hA (AH.set_same _ _ _) (by unfold wdT; rw [List.length_map]; omega) ?_
            rw [set_set, pput_rel]
            refine After.next ?_
            refine S_nil ?_
            refine After.next ?_
            refine S_nil ?_
            refine After.next ?_
            refine S_nil ?_
            refine hg1 _ _ _ (TurnEnd.next ?_)
            refine ⟨pput wr m (.op cp np), ⟨by rw [← hJ1, spots_w hdy' hw, if_neg (by rw [hax]; decide), if_neg (show ¬ (pget wr (Pt.op .x m).n (.op cp np) ≠ .op cp np) from fun z => z hwg)]; rw [Pt.n], by have := pput_len wr m (.op cp np); omega⟩, ?_, ?_⟩
            · exact LSub.cons rfl (LSub.cons rfl (LSub.cons rfl (LSub.cons rfl (LSub.cons rfl (LSub.cons rfl LSub.nil)))))
            · exact Sub.refl _
      · skip
        have hw := of_decide_eq_false hw
        refine seq ?_
        refine S_if ?_
        refine B_not ?_
        refine B_val ?_ (by rfl)
        refine E_call hA K n__law_read_right (by rfl) (gl__law_read_right hK) (keep__law_read_right hK) ?_ (by rfl) (by rfl) (by rfl)
        refine L_cons ?_ (by rfl)
        refine E_local K n_sorts (by rfl) (by first | rfl | assumption) ?_ (by rfl)
        refine L_cons ?_ (by rfl)
        refine E_local K n_code (by rfl) (by first | rfl | assumption) ?_ (by rfl)
        refine L_cons ?_ (by rfl)
        refine E_local K n_real (by rfl) (by first | rfl | assumption) ?_ (by rfl)
        refine L_cons ?_ (by rfl)
        refine E_local K n_at (by rfl) (by first | rfl | assumption) ?_ (by rfl)
        refine L_cons ?_ (by rfl)
        refine E_local K n_arity (by rfl) (by first | rfl | assumption) ?_ (by rfl)
        refine L_cons ?_ (by rfl)
        refine E_local K n_spot (by rfl) (by first | rfl | assumption) ?_ (by rfl)
        refine L_nil ?_
        refine sp_read_right hK (n := n) (j := j) E' hcr hrr hp hq rfl rfl ?_
        refine ⟨_, rfl, ?_⟩
        refine ite_b (fun hrd => ?_) (fun hrd => ?_)
        · skip
          refine seq ?_
          refine S_return ?_
          refine E_bool ?_
          refine After.ret ?_
          refine After.ret ?_
          refine After.ret ?_
          refine After.ret ?_
          refine hg1 _ _ _ (TurnEnd.ret ?_)
          refine After.ret ?_
          refine Back.ret ?_
          exact ⟨H, (Sub.refl H).fresh hd1, by rw [← hJ1] at h; rw [spots_r hdy' hw, if_neg (by simpa using hrd)] at h; exact h⟩
        · skip
          refine S_nil ?_
          refine After.next ?_
          refine S_nil ?_
          refine After.next ?_
          refine S_nil ?_
          refine After.next ?_
          refine S_nil ?_
          refine hg1 _ _ _ (TurnEnd.next ?_)
          refine ⟨wr, ⟨by rw [← hJ1, spots_r hdy' hw, if_pos (by simpa using hrd)], by omega⟩, ?_, ?_⟩
          · exact LSub.cons rfl (LSub.cons rfl (LSub.cons rfl (LSub.cons rfl (LSub.cons rfl (LSub.cons rfl LSub.nil)))))
          · exact Sub.refl _
  · skip
    intro wr l H2 hJ hl hh
    rw [List.length_map, List.length_range, hN] at hJ
    have hT : rowRight ar code real at0 = true := by rw [← hJ.1, List.drop_of_length_le (by omega)]; simp [spots]
    refine After.next ?_
    refine seq ?_
    refine S_return ?_
    refine E_bool ?_
    refine After.ret ?_
    refine Back.ret ?_
    exact ⟨H, ((Sub.refl H).fresh hd1).trans hh, by rw [hT] at h; exact h⟩
end
end Mine
namespace Mine
noncomputable def takersV : List V := [.str "call", .str "execute", .str "builtin"]
theorem takes_any (m : Nm) : takersV.any (fun y => V.eq y (.str m.s)) = m.takes := by
  simp only [takersV, List.any_cons, List.any_nil, V.eq_str]; cases m <;> rfl
noncomputable def notTake (code : List Rw) : Nat → Bool
  | 0 => false
  | k + 1 => match code[k]? with | some r => !r.nm.takes | none => false
theorem all_step {α : Type} {l : List α} {f : α → Bool} {j : Nat} {x : α} (h : l[j]? = some x) : (l.take (j + 1)).all f = ((l.take j).all f && f x) := by
  rw [List.take_add_one, h]; simp
theorem all_bad {α : Type} {l : List α} {f : α → Bool} {j : Nat} {x : α} (h : l[j]? = some x) (hf : f x = false) : l.all f = false := by
  cases e : l.all f with
  | false => rfl
  | true => have := List.all_eq_true.mp e x (List.mem_of_getElem? h); rw [hf] at this; cases this
theorem touched_op {r : Rw} (h : opsOk r) {p : Pt} (hp : p ∈ touched r onlyw) : p.isOp = true := by
  unfold touched at hp
  obtain ⟨x, hx, rfl⟩ := List.mem_map.mp hp
  obtain ⟨h1, h2⟩ := List.mem_filter.mp hx
  exact h.2 x.1 x.2 h1 (by intro e; rw [e] at h2; cases h2)
theorem touched_len (r : Rw) (f : Dd → Bool) : (touched r f).length ≤ 2 := by
  unfold touched
  rw [List.length_map]
  refine Nat.le_trans (List.length_filter_le _ _) ?_
  have := (sort_len r.nm).1
  rw [List.length_zip]; omega
theorem beginOf_le (code : List Rw) : ∀ k, beginOf code k ≤ k
  | 0 => Nat.le_refl _
  | k + 1 => by
    unfold beginOf
    split
    · split
      · exact Nat.le_refl _
      · exact Nat.le_succ_of_le (beginOf_le code k)
    · exact Nat.zero_le _
theorem beginOf_on {code : List Rw} {k : Nat} (h : notTake code (k + 1) = true) : beginOf code (k + 1) = beginOf code k := by
  cases e : code[k]? with
  | none => simp [notTake, e] at h
  | some r =>
    have : r.nm.takes = false := by simpa [notTake, e] using h
    rw [beginOf, e]; simp [this]
theorem beginOf_stop {code : List Rw} {k : Nat} (hk : k ≤ code.length) (h : notTake code k = false) : beginOf code k = k := by
  cases k with
  | zero => rfl
  | succ k =>
    obtain ⟨r, e⟩ : ∃ r, code[k]? = some r := ⟨_, List.getElem?_eq_getElem (by omega)⟩
    have : r.nm.takes = true := by simpa [notTake, e] using h
    rw [beginOf, e]; simp [this]
section
variable {c : Cx} {A : Around} {L : Addr} {loc : Loc} {H : AH} {env : Env} {ks : List (Nat × NameKind)}
theorem S_for2 {Q : Fl → Loc → AH → Prop} {x : Str} {i : Nat} {px pos : Pos} {iter : Expr} {body : List Stmt} {n : Nat} (hA : AOk n A) (K : EnvOk env L ks) (hi : nid x = some i) (hk : ks.lookup i = some .local)
    (h : WE c A L loc (eval iter env) (fun v H1 => ∃ (xs : List V) (σ : Type) (J : Nat → σ → Prop) (Lf : Nat → σ → Loc) (Hf : Nat → σ → AH) (s0 : σ), J 0 s0 ∧ LSub (Lf 0 s0) loc ∧ Sub (Hf 0 s0) H1 ∧
      (v = .tup xs ∨ (∃ d, v = .ref d ∧ ∀ j s, J j s → Hf j s d = some (.list xs)) ∨
        (∃ d a b, v = .ref d ∧ H1 d = some (.rng a b) ∧ -1000 ≤ a ∧ a ≤ 1000 ∧ -1000 ≤ b ∧ b ≤ 1000 ∧ xs = (List.range (b - a).toNat).map fun j => V.int (a + (j : Nat))) ∨
        (∃ d ep kvs, v = .ref d ∧ xs = kvs.map (fun p => V.int p.1) ∧ ∀ j s, J j s → Hf j s d = some (.dI ep kvs))) ∧
      (∀ j s v, xs[j]? = some v → J j s → WS c A L (execs body env) (TurnEnd (PTurn (J (j + 1)) (Lf (j + 1)) (Hf (j + 1))) Q) ((i, v) :: Lf j s) (Hf j s)) ∧
      (∀ s l H2, J xs.length s → LSub (Lf xs.length s) l → Sub (Hf xs.length s) H2 → Q .next l H2)) H)
    (hs : ∀ x, foldedSetIterable iter env x = pure x) :
    WS c A L (exec (.For (.Name x px) iter body [] pos) env) Q loc H := by
  refine S_for hA K hi hk (h.mono fun v H1 p => ?_) hs
  obtain ⟨xs, σ, J, Lf, Hf, s0, h1, h2, h3, h4, h5, h6⟩ := p
  refine ⟨xs, fun j => PTurn (J j) (Lf j) (Hf j), ⟨s0, h1, h2, h3⟩, ⟨?_, ?_⟩, ?_⟩
  · rintro j l H2 v hv ⟨s, a1, a2, a3⟩
    exact ((h5 j s v hv a1).less (loc := (i, v) :: l) (H := H2) (fun k w e => by
      by_cases hk : k = i
      · subst hk; rw [List.lookup_cons, beq_self_eq_true] at e ⊢; exact e
      · have : (k == i) = false := by simpa using hk
        rw [List.lookup_cons, this] at e ⊢; exact a2 k w e) a3).mono fun f l' H3 q => by cases f <;> exact q
  · rintro l H2 ⟨s, a1, a2, a3⟩; exact h6 s l H2 a1 a2 a3
  · rcases h4 with h | ⟨d, h, k⟩ | h | ⟨d, ep, kvs, e1, e2, k⟩
    · exact .inl h
    · exact .inr (.inl ⟨d, h, fun j l H2 ⟨s, a1, a2, a3⟩ => a3 _ _ (k j s a1)⟩)
    · exact .inr (.inr (.inl h))
    · exact .inr (.inr (.inr ⟨d, ep, kvs, e1, e2, fun j l H2 ⟨s, a1, a2, a3⟩ => a3 _ _ (k j s a1)⟩))
end
section
variable {c : Cx} (hK : c.K = hd.heap_1 c.w.params)
include hK
set_option maxHeartbeats 4000000 in
theorem sp_arguments_right {n : Nat} {H : AH} {srt cde rl : Addr} {code real : List Rw} {at0 : Nat} {ar : Int} {r : Rw} {Q : V → AH → Prop} (E : Env3 H srt cde rl code real) (hcr : code[at0]? = some r)
    (h : Q (.bool (argsRight ar code real at0)) H) : FnSpec c (n + 15) 222 [.ref srt, .ref cde, .ref rl, .int at0, .int ar] Q H := by
  have hat : at0 < code.length := lt_of_get hcr
  have hbig := E.big
  have hhc := E.hc
  have hhr := E.hr
  have hhs := E.hs
  refine fn_enter (ks := ks__law_arguments_right) (by rw [hK]; rfl) (by rw [hK]; kernel_rfl) (KOk.of rfl (by kernel_rfl)) [Str.ofString "sorts", Str.ofString "code", Str.ofString "real", Str.ofString "at", Str.ofString "arity"] [31115229171, 213465059, 228094706, 14945, 32725694817] (all5 fun v0 v1 v2 v3 v4 => rfl) (by kernel_rfl) (by decide) (by rfl) (by decide) rfl rfl rfl (fun A L env hA K => ?_)
  refine seq ?_
  refine S_assign K n_takers (by rfl) ?_ (by rfl)
  refine E_list ?_
  refine L_cons ?_ (by rfl)
  refine E_str ?_
  refine L_cons ?_ (by rfl)
  refine E_str ?_
  refine L_cons ?_ (by rfl)
  refine E_str ?_
  refine L_nil ?_
  refine ⟨Nat.le_of_ble_eq_true rfl, fun d1 hd1 => ?_⟩
  refine After.next ?_
  refine seq ?_
  refine S_if ?_
  refine B_cmp ?_ (by rfl)
  refine E_sub ?_
  refine E_sub ?_
  refine E_local K n_code (by rfl) (by first | rfl | assumption) ?_ (by rfl)
  refine E_local K n_at (by rfl) (by first | rfl | assumption) ?_ (by rfl)
  refine o_item_list (by first | assumption | exact AH.set_same _ _ _ | exact (AH.set_ne _ _ (by first | assumption | exact Ne.symm (by assumption) | exact ne_none (by assumption) (by assumption) | exact Ne.symm (ne_none (by assumption) (by assumption)))).trans (by first | assumption | exact AH.set_same _ _ _ | exact (AH.set_ne _ _ (by first | assumption | exact Ne.symm (by assumption) | exact ne_none (by assumption) (by assumption) | exact Ne.symm (ne_none (by assumption) (by assumption)))).trans (by first | assumption | exact AH.set_same _ _ _ | exact (AH.set_ne _ _ (by first | assumption | exact Ne.symm (by assumption) | exact ne_none (by assumption) (by assumption) | exact Ne.symm (ne_none (by assumption) (by assumption)))).trans (by first | assumption | exact AH.set_same _ _ _ | exact (AH.set_ne _ _ (by first | assumption | exact Ne.symm (by assumption) | exact ne_none (by assumption) (by assumption) | exact Ne.symm (ne_none (by assumption) (by assumption)))).trans (by first | assumption | exact AH.set_same _ _ _ | exact (AH.set_ne _ _ (by first | assumption | exact Ne.symm (by assumption) | exact ne_none (by assumption) (by assumption) | exact Ne.symm (ne_none (by assumption) (by assumption)))).trans (by first | assumption | exact AH.set_same _ _ _ | exact (AH.set_ne _ _ (by first | assumption | exact Ne.symm (by assumption) | exact ne_none (by assumption) (by assumption) | exact Ne.symm (ne_none (by assumption) (by assumption)))).trans (by assumption))))))) (by omega) (by omega) (rows_get hcr) ?_ (fun _ _ => rfl)
  refine E_int ?_
  refine o_item_tup (by decide) (by decide) (by rfl) ?_ (fun _ _ => rfl)
  refine E_local K n_takers (by rfl) (by first | rfl | assumption) ?_ (by rfl)
  refine o_notin_list (xs := takersV) hA (by omega) (AH.set_same _ _ _) (by rfl) (by rfl) ?_
  rw [takes_any]
  refine ⟨_, rfl, ?_⟩
  refine ite_b (fun hnt => ?_) (fun hnt => ?_)
  · skip
    have hnt : r.nm.takes = false := by simpa using hnt
    have hE : argsRight ar code real at0 = true := by simp [argsRight, hcr, hnt]
    refine seq ?_
    refine S_return ?_
    refine E_bool ?_
    refine After.ret ?_
    refine After.ret ?_
    refine Back.ret ?_
    exact ⟨H, (Sub.refl H).fresh hd1, by rw [hE] at h; exact h⟩
  · skip
    have hnt : r.nm.takes = true := by simpa using hnt
    have hE : argsRight ar code real at0 = ((code.take at0).drop (beginOf code at0)).all (fun r => (touched r onlyw).all (argRight ar code real at0)) := by simp [argsRight, hcr, hnt]
    refine S_nil ?_
    refine After.next ?_
    refine seq ?_
    refine S_assign K n_begin (by rfl) ?_ (by rfl)
    refine E_local K n_at (by rfl) (by first | rfl | assumption) ?_ (by rfl)
    refine After.next ?_
    refine seq ?_
    refine S_while' (σ := Nat) (fun m s => m = s ∧ s ≤ at0 ∧ beginOf code s = beginOf code at0) (fun s => [(29749801698, .int s), (3982185132276, .ref d1), (31115229171, .ref srt), (213465059, .ref cde), (228094706, .ref rl), (14945, .int at0), (32725694817, .int ar)]) (fun _ => (H.set d1 (.list takersV))) at0 at0 ⟨rfl, Nat.le_refl _, rfl⟩ (LSub.refl _) (Sub.refl _) (fun m s hJ => ?_)
    obtain ⟨hms, hk, he⟩ := hJ
    subst hms
    have E' : Env3 (H.set d1 (.list takersV)) srt cde rl code real := E.sub ((Sub.refl H).fresh hd1)
    have hhc := E'.hc
    have hhr := E'.hr
    have hhs := E'.hs
    refine B_pure (notTake code m) ?_ ?_
    · skip
      refine B_and ?_
      refine A_and_cons ?_
      refine B_cmp ?_ (by rfl)
      refine E_local K n_begin (by rfl) (by first | rfl | assumption) ?_ (by rfl)
      refine E_int ?_
      refine o_gt ?_
      refine ⟨_, rfl, ?_⟩
      refine ite_b (fun b1 => ?_) (fun b1 => ?_)
      · skip
        obtain ⟨k, rfl⟩ : ∃ k, m = k + 1 := ⟨m - 1, by have := of_decide_eq_true b1; omega⟩
        obtain ⟨rk, hrk⟩ : ∃ rk, code[k]? = some rk := ⟨_, List.getElem?_eq_getElem (by omega)⟩
        have hnk : notTake code (k + 1) = !rk.nm.takes := by simp [notTake, hrk]
        refine A_and_cons ?_
        refine B_cmp ?_ (by rfl)
        refine E_sub ?_
        refine E_sub ?_
        refine E_local K n_code (by rfl) (by first | rfl | assumption) ?_ (by rfl)
        refine E_binop ?_
        refine E_local K n_begin (by rfl) (by first | rfl | assumption) ?_ (by rfl)
        refine E_int ?_
        refine o_sub ?_
        refine o_item_list (by first | assumption | exact AH.set_same _ _ _ | exact (AH.set_ne _ _ (by first | assumption | exact Ne.symm (by assumption) | exact ne_none (by assumption) (by assumption) | exact Ne.symm (ne_none (by assumption) (by assumption)))).trans (by first | assumption | exact AH.set_same _ _ _ | exact (AH.set_ne _ _ (by first | assumption | exact Ne.symm (by assumption) | exact ne_none (by assumption) (by assumption) | exact Ne.symm (ne_none (by assumption) (by assumption)))).trans (by first | assumption | exact AH.set_same _ _ _ | exact (AH.set_ne _ _ (by first | assumption | exact Ne.symm (by assumption) | exact ne_none (by assumption) (by assumption) | exact Ne.symm (ne_none (by assumption) (by assumption)))).trans (by first | assumption | exact AH.set_same _ _ _ | exact (AH.set_ne _ _ (by first | assumption | exact Ne.symm (by assumption) | exact ne_none (by assumption) (by assumption) | exact Ne.symm (ne_none (by assumption) (by assumption)))).trans (by first | assumption | exact AH.set_same _ _ _ | exact (AH.set_ne _ _ (by first | assumption | exact Ne.symm (by assumption) | exact ne_none (by assumption) (by assumption) | exact Ne.symm (ne_none (by assumption) (by assumption)))).trans (by first | assumption | exact AH.set_same _ _ _ | exact (AH.set_ne _ _ (by first | assumption | exact Ne.symm (by assumption) | exact ne_none (by assumption) (by assumption) | exact Ne.symm (ne_none (by assumption) (by assumption)))).trans (by assumption))))))) (by omega) (by omega) (by rw [show (((k + 1 : Nat) : Int) - 1) = (k : Int) by omega]; exact rows_get hrk) ?_ (fun _ _ => rfl)
        refine E_int ?_
        refine o_item_tup (by decide) (by decide) (by rfl) ?_ (fun _ _ => rfl)
        refine E_local K n_takers (by rfl) (by first | rfl | assumption) ?_ (by rfl)
        refine o_notin_list (xs := takersV) hA (by omega) (AH.set_same _ _ _) (by rfl) (by rfl) ?_
        rw [takes_any]
        refine ⟨_, rfl, ?_⟩
        refine ite_b (fun b2 => ?_) (fun b2 => ?_)
        · refine A_and_nil ⟨?_, rfl⟩
          rw [hnk]; exact b2.symm
        · exact ⟨by rw [hnk]; exact b2.symm, rfl⟩
      · refine ⟨?_, rfl⟩
        obtain rfl : m = 0 := by have := of_decide_eq_false b1; omega
        rfl
    refine ite_b (fun hw => ?_) (fun hw => ?_)
    · skip
      obtain ⟨k, rfl⟩ : ∃ k, m = k + 1 := by cases m with | zero => cases hw | succ k => exact ⟨k, rfl⟩
      refine WS.gen fun Qg1 hg1 => ?_
      refine seq ?_
      refine S_aug K n_begin (by rfl) (by first | rfl | assumption) ?_
      refine E_int ?_
      refine o_isub ?_
      refine After.next ?_
      rw [show (((k + 1 : Nat) : Int) - 1) = (k : Int) by omega]
      refine S_nil ?_
      refine hg1 _ _ _ (TurnEnd.next ?_)
      refine ⟨k, k, by omega, ⟨rfl, by omega, by rw [← he]; exact (beginOf_on hw).symm⟩, LSub.cons rfl (LSub.cons rfl (LSub.cons rfl (LSub.cons rfl (LSub.cons rfl (LSub.cons rfl (LSub.cons rfl LSub.nil)))))), Sub.refl _⟩
    · skip
      have hb : beginOf code at0 = m := by rw [← he]; exact beginOf_stop (by omega) hw
      rw [hb] at hE
      refine S_nil ?_
      refine After.next ?_
      refine seq ?_
      refine S_for' (fun j (_ : Unit) => (((code.take at0).drop m).take j).all (fun r => (touched r onlyw).all (argRight ar code real at0)) = true) (fun _ _ => [(29749801698, .int m), (3982185132276, .ref d1), (31115229171, .ref srt), (213465059, .ref cde), (228094706, .ref rl), (14945, .int at0), (32725694817, .int ar)]) (fun _ _ => (H.set d1 (.list takersV))) hA K n_place (by rfl) ?_ (fun _ => rfl)
      refine E_callb K n_range (by rfl) (gl_range hK) boot_range nn_range (by rfl) (fun _ h => nomatch h) ?_ (by rfl) (by rfl)
      refine L_cons ?_ (by rfl)
      refine E_local K n_begin (by rfl) (by first | rfl | assumption) ?_ (by rfl)
      refine L_cons ?_ (by rfl)
      refine E_local K n_at (by rfl) (by first | rfl | assumption) ?_ (by rfl)
      refine L_nil ?_
      refine b_range2 (fun d hd => ?_)
      have hN : ((at0 : Int) - (m : Int)).toNat = at0 - m := by omega
      refine ⟨_, (), rfl, LSub.refl _, (Sub.refl _).fresh hd, .inr (.inr (.inl ⟨d, m, at0, rfl, AH.set_same _ _ _, by omega, by omega, by omega, by omega, rfl⟩)), ?_, ?_⟩
      · skip
        intro j _ v hv hJ
        have hj : j < at0 - m := by have := lt_of_get hv; rw [List.length_map, List.length_range, hN] at this; exact this
        have hv' : v = .int ((m + j : Nat) : Int) := by
          rw [List.getElem?_map, List.getElem?_range (by rw [hN]; exact hj)] at hv
          have := Option.some.inj hv
          rw [← this]; show V.int _ = V.int _; congr 1
        subst hv'
        obtain ⟨row, hrow⟩ : ∃ row, code[m + j]? = some row := ⟨_, List.getElem?_eq_getElem (by omega)⟩
        have hro : opsOk row := E.wc row (List.mem_of_getElem? hrow)
        have hrd : ((code.take at0).drop m)[j]? = some row := by rw [List.getElem?_drop, List.getElem?_take, if_pos (by omega)]; exact hrow
        refine WS.gen fun Qg2 hg2 => ?_
        refine seq ?_
        refine S_for2 hA K n_part (by rfl) ?_ (fun _ => rfl)
        refine E_call hA K n__law_touched (by rfl) (gl__law_touched hK) (keep__law_touched hK) ?_ (by rfl) (by rfl) (by rfl)
        refine L_cons ?_ (by rfl)
        refine E_local K n_sorts (by rfl) (by first | rfl | assumption) ?_ (by rfl)
        refine L_cons ?_ (by rfl)
        refine E_sub ?_
        refine E_local K n_code (by rfl) (by first | rfl | assumption) ?_ (by rfl)
        refine E_local K n_place (by rfl) (by first | rfl | assumption) ?_ (by rfl)
        refine o_item_list (by first | assumption | exact AH.set_same _ _ _ | exact (AH.set_ne _ _ (by first | assumption | exact Ne.symm (by assumption) | exact ne_none (by assumption) (by assumption) | exact Ne.symm (ne_none (by assumption) (by assumption)))).trans (by first | assumption | exact AH.set_same _ _ _ | exact (AH.set_ne _ _ (by first | assumption | exact Ne.symm (by assumption) | exact ne_none (by assumption) (by assumption) | exact Ne.symm (ne_none (by assumption) (by assumption)))).trans (by first | assumption | exact AH.set_same _ _ _ | exact (AH.set_ne _ _ (by first | assumption | exact Ne.symm (by assumption) | exact ne_none (by assumption) (by assumption) | exact Ne.symm (ne_none (by assumption) (by assumption)))).trans (by first | assumption | exact AH.set_same _ _ _ | exact (AH.set_ne _ _ (by first | assumption | exact Ne.symm (by assumption) | exact ne_none (by assumption) (by assumption) | exact Ne.symm (ne_none (by assumption) (by assumption)))).trans (by first | assumption | exact AH.set_same _ _ _ | exact (AH.set_ne _ _ (by first | assumption | exact Ne.symm (by assumption) | exact ne_none (by assumption) (by assumption) | exact Ne.symm (ne_none (by assumption) (by assumption)))).trans (by first | assumption | exact AH.set_same _ _ _ | exact (AH.set_ne _ _ (by first | assumption | exact Ne.symm (by assumption) | exact ne_none (by assumption) (by assumption) | exact Ne.symm (ne_none (by assumption) (by assumption)))).trans (by assumption))))))) (by omega) (by omega) (rows_get hrow) ?_ (fun _ _ => rfl)
        refine L_cons ?_ (by rfl)
        refine E_str ?_
        refine L_nil ?_
        refine sp_touched hK (n := n + 2) (wf := onlyw) hhs hro.1 cont_w (fun D hD => ?_)
        refine ⟨(touched row onlyw).map Pt.v, Unit, fun i _ => ((touched row onlyw).take i).all (argRight ar code real at0) = true, fun _ _ => (27321202288, V.int ((m + j : Nat) : Int)) :: [(29749801698, .int m), (3982185132276, .ref d1), (31115229171, .ref srt), (213465059, .ref cde), (228094706, .ref rl), (14945, .int at0), (32725694817, .int ar)], fun _ _ => (H.set d1 (.list takersV)).set D (.list ((touched row onlyw).map Pt.v)), (), rfl, LSub.refl _, Sub.refl _, .inr (.inl ⟨D, rfl, fun _ _ _ => AH.set_same _ _ _⟩), ?_, ?_⟩
        · skip
          intro i _ v hv hJ2
          have hi : i < (touched row onlyw).length := by have := lt_of_get hv; rw [List.length_map] at this; exact this
          obtain ⟨p, hp⟩ : ∃ p, (touched row onlyw)[i]? = some p := ⟨_, List.getElem?_eq_getElem hi⟩
          have hv' : v = p.v := by rw [List.getElem?_map, hp] at hv; exact (Option.some.inj hv).symm
          subst hv'
          obtain ⟨cp, np, rfl⟩ := isOp_of (touched_op hro (List.mem_of_getElem? hp))
          have E2 : Env3 ((H.set d1 (.list takersV)).set D (.list ((touched row onlyw).map Pt.v))) srt cde rl code real := E'.sub ((Sub.refl _).fresh hD)
          refine WS.gen fun Qg3 hg3 => ?_
          refine seq ?_
          refine S_if ?_
          refine B_cmp ?_ (by rfl)
          refine E_sub ?_
          refine E_local K n_part (by rfl) (by first | rfl | assumption) ?_ (by rfl)
          refine E_int ?_
          refine o_item_tup (by decide) (by decide) (by first | rfl | assumption) ?_ (fun _ _ => rfl)
          refine E_str ?_
          refine o_eq hA (by omega) (by rfl) (by rfl) ?_
          rw [lit_ch cp "a" .a rfl]
          refine ⟨_, rfl, ?_⟩
          refine ite_b (fun ca => ?_) (fun ca => ?_)
          · skip
            have ca := of_decide_eq_true ca
            subst ca
            refine seq ?_
            refine S_assign K n_due (by rfl) ?_ (by rfl)
            refine E_call hA K n__law_origin (by rfl) (gl__law_origin hK) (keep__law_origin hK) ?_ (by rfl) (by rfl) (by rfl)
            refine L_cons ?_ (by rfl)
            refine E_local K n_sorts (by rfl) (by first | rfl | assumption) ?_ (by rfl)
            refine L_cons ?_ (by rfl)
            refine E_local K n_code (by rfl) (by first | rfl | assumption) ?_ (by rfl)
            refine L_cons ?_ (by rfl)
            refine E_local K n_at (by rfl) (by first | rfl | assumption) ?_ (by rfl)
            refine L_cons ?_ (by rfl)
            refine E_local K n_arity (by rfl) (by first | rfl | assumption) ?_ (by rfl)
            refine L_cons ?_ (by rfl)
            refine E_local K n_part (by rfl) (by first | rfl | assumption) ?_ (by rfl)
            refine L_nil ?_
            refine sp_origin hK (n := n + 1) (rows := code) (at0 := at0) (o := .op .a np) E2.hs E2.hc E.wc rfl (by omega) (by omega) ?_
            refine After.next ?_
            refine seq ?_
            refine S_if ?_
            refine B_cmp ?_ (by rfl)
            refine E_call hA K n__law_origin (by rfl) (gl__law_origin hK) (keep__law_origin hK) ?_ (by rfl) (by rfl) (by rfl)
            refine L_cons ?_ (by rfl)
            refine E_local K n_sorts (by rfl) (by first | rfl | assumption) ?_ (by rfl)
            refine L_cons ?_ (by rfl)
            refine E_local K n_real (by rfl) (by first | rfl | assumption) ?_ (by rfl)
            refine L_cons ?_ (by rfl)
            refine E_local K n_at (by rfl) (by first | rfl | assumption) ?_ (by rfl)
            refine L_cons ?_ (by rfl)
            refine E_local K n_arity (by rfl) (by first | rfl | assumption) ?_ (by rfl)
            refine L_cons ?_ (by rfl)
            refine E_tuple ?_
            refine L_cons ?_ (by rfl)
            refine E_str ?_
            refine L_cons ?_ (by rfl)
            refine E_sub ?_
            refine E_local K n_part (by rfl) (by first | rfl | assumption) ?_ (by rfl)
            refine E_int ?_
            refine o_item_tup (by decide) (by decide) (by first | rfl | assumption) ?_ (fun _ _ => rfl)
            refine L_nil ?_
            refine ⟨Nat.le_of_ble_eq_true rfl, ?_⟩
            refine L_nil ?_
            refine sp_origin hK (n := n + 1) (rows := real) (at0 := at0) (o := .op .x np) E2.hs E2.hr E.wr rfl (by have := E.len; omega) (by have := E.len; omega) ?_
            refine E_local K n_due (by rfl) (by first | rfl | assumption) ?_ (by rfl)
            refine o_ne hA (by omega) (Og.ok _) (Og.ok _) ?_
            rw [og_eq]
            refine ⟨_, rfl, ?_⟩
            refine ite_b (fun hne => ?_) (fun hne => ?_)
            · skip
              have har : argRight ar code real at0 (.op .a np) = false := by simpa [argRight, isA] using hne
              refine seq ?_
              refine S_return ?_
              refine E_bool ?_
              refine After.ret ?_
              refine After.ret ?_
              refine After.ret ?_
              refine hg3 _ _ _ (TurnEnd.ret ?_)
              refine After.ret ?_
              refine hg2 _ _ _ (TurnEnd.ret ?_)
              refine After.ret ?_
              refine Back.ret ?_
              exact ⟨H, ((Sub.refl H).fresh hd1).trans ((Sub.refl _).fresh hD), by rw [hE, all_bad hrd (all_bad hp har)] at h; exact h⟩
            · skip
              have har : argRight ar code real at0 (.op .a np) = true := by simpa [argRight, isA] using hne
              refine S_nil ?_
              refine After.next ?_
              refine S_nil ?_
              refine After.next ?_
              refine S_nil ?_
              refine hg3 _ _ _ (TurnEnd.next ?_)
              refine ⟨(), by dsimp only; rw [all_step hp, hJ2, har]; rfl, ?_, Sub.refl _⟩
              exact LSub.cons rfl (LSub.cons rfl (LSub.cons rfl (LSub.cons rfl (LSub.cons rfl (LSub.cons rfl (LSub.cons rfl (LSub.cons rfl LSub.nil)))))))
          · skip
            have ca := of_decide_eq_false ca
            have har : argRight ar code real at0 (.op cp np) = true := by cases cp <;> first | rfl | exact absurd rfl ca
            refine S_nil ?_
            refine After.next ?_
            refine S_nil ?_
            refine hg3 _ _ _ (TurnEnd.next ?_)
            refine ⟨(), by dsimp only; rw [all_step hp, hJ2, har]; rfl, ?_, Sub.refl _⟩
            exact LSub.cons rfl (LSub.cons rfl (LSub.cons rfl (LSub.cons rfl (LSub.cons rfl (LSub.cons rfl (LSub.cons rfl (LSub.cons rfl LSub.nil)))))))
        · skip
          intro _ l H2 hJ2 hl hh
          rw [List.length_map, List.take_length] at hJ2
          refine After.next ?_
          refine S_nil ?_
          refine hg2 _ _ _ (TurnEnd.next ?_)
          refine ⟨(), by rw [all_step hrd, hJ, hJ2]; rfl, fun x v e => hl x v ?_, Sub.trans ((Sub.refl _).fresh hD) hh⟩
          exact (LSub.cons rfl (LSub.cons rfl (LSub.cons rfl (LSub.cons rfl (LSub.cons rfl (LSub.cons rfl (LSub.cons rfl LSub.nil)))))) : LSub _ _) x v e
      · skip
        intro _ l H2 hJ hl hh
        rw [List.length_map, List.length_range, hN, List.take_of_length_le (by rw [List.length_drop, List.length_take]; omega)] at hJ
        have hT := hJ
        refine After.next ?_
        refine seq ?_
        refine S_return ?_
        refine E_bool ?_
        refine After.ret ?_
        refine Back.ret ?_
        exact ⟨H, ((Sub.refl H).fresh hd1).trans hh, by rw [hE, hT] at h; exact h⟩
set_option maxHeartbeats 4000000 in
theorem sp_keeps {n : Nat} {H : AH} {srt cde rl : Addr} {code real : List Rw} {ar : Int} {Q : V → AH → Prop} (E : Env3 H srt cde rl code real) (hfit : ∀ (j : Nat) (r q : Rw), code[j]? = some r → real[j]? = some q → fit r q)
    (h : Q (.bool (keeps ar code real)) H) : FnSpec c (n + 16) 229 [.ref srt, .ref cde, .ref rl, .int ar] Q H := by
  have hbig := E.big
  have hhc := E.hc
  refine fn_enter (ks := ks__law_keeps) (by rw [hK]; rfl) (by rw [hK]; kernel_rfl) (KOk.of rfl (by kernel_rfl)) [Str.ofString "sorts", Str.ofString "code", Str.ofString "real", Str.ofString "arity"] [31115229171, 213465059, 228094706, 32725694817] (all4 fun v0 v1 v2 v3 => rfl) (by kernel_rfl) (by decide) (by rfl) (by decide) rfl rfl rfl (fun A L env hA K => ?_)
  refine seq ?_
  refine S_for' (fun j (_ : Unit) => ((List.range code.length).take j).all (fun k => rowRight ar code real k && argsRight ar code real k) = true) (fun _ _ => [(31115229171, .ref srt), (213465059, .ref cde), (228094706, .ref rl), (32725694817, .int ar)]) (fun _ _ => H) hA K n_at (by rfl) ?_ (fun _ => rfl)
  refine E_callb K n_range (by rfl) (gl_range hK) boot_range nn_range (by rfl) (fun _ h => nomatch h) ?_ (by rfl) (by rfl)
  refine L_cons ?_ (by rfl)
  refine E_callb K n_len (by rfl) (gl_len hK) boot_len nn_len (by rfl) (fun _ h => nomatch h) ?_ (by rfl) (by rfl)
  refine L_cons ?_ (by rfl)
  refine E_local K n_code (by rfl) (by first | rfl | assumption) ?_ (by rfl)
  refine L_nil ?_
  refine b_len_list hhc (by rw [List.length_map]; omega) ?_
  rw [List.length_map]
  refine L_nil ?_
  refine b_range1 (fun d hd => ?_)
  have hN : ((code.length : Int) - 0).toNat = code.length := by omega
  refine ⟨_, (), rfl, LSub.refl _, (Sub.refl _).fresh hd, .inr (.inr (.inl ⟨d, 0, code.length, rfl, AH.set_same _ _ _, by omega, by omega, by omega, by omega, rfl⟩)), ?_, ?_⟩
  · skip
    intro j _ v hv hJ
    have hj : j < code.length := by have := lt_of_get hv; rw [List.length_map, List.length_range, hN] at this; exact this
    have hv' : v = .int ((j : Nat) : Int) := by
      rw [List.getElem?_map, List.getElem?_range (by rw [hN]; exact hj)] at hv
      have := Option.some.inj hv
      rw [← this]; show V.int _ = V.int _; congr 1; omega
    subst hv'
    obtain ⟨r, hcr⟩ : ∃ r, code[j]? = some r := ⟨_, List.getElem?_eq_getElem hj⟩
    obtain ⟨q, hrr⟩ : ∃ q, real[j]? = some q := ⟨_, List.getElem?_eq_getElem (by have := E.len; omega)⟩
    have hjr : (List.range code.length)[j]? = some j := List.getElem?_range hj
    refine WS.gen fun Qg1 hg1 => ?_
    refine seq ?_
    refine S_if ?_
    refine B_not ?_
    refine B_val ?_ (by rfl)
    refine E_call hA K n__law_row_right (by rfl) (gl__law_row_right hK) (keep__law_row_right hK) ?_ (by rfl) (by rfl) (by rfl)
    refine L_cons ?_ (by rfl)
    refine E_local K n_sorts (by rfl) (by first | rfl | assumption) ?_ (by rfl)
    refine L_cons ?_ (by rfl)
    refine E_local K n_code (by rfl) (by first | rfl | assumption) ?_ (by rfl)
    refine L_cons ?_ (by rfl)
    refine E_local K n_real (by rfl) (by first | rfl | assumption) ?_ (by rfl)
    refine L_cons ?_ (by rfl)
    refine E_local K n_at (by rfl) (by first | rfl | assumption) ?_ (by rfl)
    refine L_cons ?_ (by rfl)
    refine E_local K n_arity (by rfl) (by first | rfl | assumption) ?_ (by rfl)
    refine L_nil ?_
    refine sp_row_right hK (n := n) E hcr hrr (hfit j r q hcr hrr) ?_
    refine ⟨_, rfl, ?_⟩
    refine ite_b (fun h1 => ?_) (fun h1 => ?_)
    · skip
      refine seq ?_
      refine S_return ?_
      refine E_bool ?_
      refine After.ret ?_
      refine After.ret ?_
      refine hg1 _ _ _ (TurnEnd.ret ?_)
      refine After.ret ?_
      refine Back.ret ?_
      exact ⟨H, Sub.refl _, by rw [show keeps ar code real = false from all_bad hjr (by rw [show rowRight ar code real j = false by simpa using h1, Bool.false_and])] at h; exact h⟩
    · skip
      refine S_nil ?_
      refine After.next ?_
      refine seq ?_
      refine S_if ?_
      refine B_not ?_
      refine B_val ?_ (by rfl)
      refine E_call hA K n__law_arguments_right (by rfl) (gl__law_arguments_right hK) (keep__law_arguments_right hK) ?_ (by rfl) (by rfl) (by rfl)
      refine L_cons ?_ (by rfl)
      refine E_local K n_sorts (by rfl) (by first | rfl | assumption) ?_ (by rfl)
      refine L_cons ?_ (by rfl)
      refine E_local K n_code (by rfl) (by first | rfl | assumption) ?_ (by rfl)
      refine L_cons ?_ (by rfl)
      refine E_local K n_real (by rfl) (by first | rfl | assumption) ?_ (by rfl)
      refine L_cons ?_ (by rfl)
      refine E_local K n_at (by rfl) (by first | rfl | assumption) ?_ (by rfl)
      refine L_cons ?_ (by rfl)
      refine E_local K n_arity (by rfl) (by first | rfl | assumption) ?_ (by rfl)
      refine L_nil ?_
      refine sp_arguments_right hK (n := n) E hcr ?_
      refine ⟨_, rfl, ?_⟩
      refine ite_b (fun h2 => ?_) (fun h2 => ?_)
      · skip
        refine seq ?_
        refine S_return ?_
        refine E_bool ?_
        refine After.ret ?_
        refine After.ret ?_
        refine hg1 _ _ _ (TurnEnd.ret ?_)
        refine After.ret ?_
        refine Back.ret ?_
        exact ⟨H, Sub.refl _, by rw [show keeps ar code real = false from all_bad hjr (by rw [show argsRight ar code real j = false by simpa using h2, Bool.and_false])] at h; exact h⟩
      · skip
        refine S_nil ?_
        refine After.next ?_
        refine S_nil ?_
        refine hg1 _ _ _ (TurnEnd.next ?_)
        have e1 : rowRight ar code real j = true := by simpa using h1
        have e2 : argsRight ar code real j = true := by simpa using h2
        refine ⟨(), by rw [all_step hjr, hJ, e1, e2]; rfl, ?_, Sub.refl _⟩
        exact LSub.cons rfl (LSub.cons rfl (LSub.cons rfl (LSub.cons rfl LSub.nil)))
  · skip
    intro _ l H2 hJ hl hh
    rw [List.length_map, List.length_range, hN, List.take_of_length_le (by rw [List.length_range]; omega)] at hJ
    have hT : keeps ar code real = true := hJ
    refine After.next ?_
    refine seq ?_
    refine S_return ?_
    refine E_bool ?_
    refine After.ret ?_
    refine Back.ret ?_
    exact ⟨H, hh, by rw [hT] at h; exact h⟩
end
end Mine
namespace Mine
noncomputable def rv (x : Int × Pt) : V := .tup [.int x.1, x.2.v]
theorem nmT (r : Rw) (m : Nm) : V.eq (.str r.nm.s) (.str m.s) = decide (r.nm = m) := nm_eq _ _
theorem takes_or (m : Nm) : m.takes = (decide (m = .call) || (decide (m = .execute) || decide (m = .builtin))) := by cases m <;> rfl
theorem takes_or' (m : Nm) : (decide (m = .call) || (decide (m = .execute) || decide (m = .builtin))) = m.takes := by cases m <;> rfl
section
variable {c : Cx} (hK : c.K = hd.heap_1 c.w.params)
include hK
theorem sp_ends {n : Nat} {H : AH} {r : Rw} {Q : V → AH → Prop} (h : Q (.bool r.nm.takes) H) : FnSpec c (n + 12) 28 [r.v] Q H := by
  refine fn_enter (ks := ks_ends_arguments) (by rw [hK]; rfl) (by rw [hK]; kernel_rfl) (KOk.of rfl (by kernel_rfl)) [Str.ofString "instruction"] [130896504364032243595113] (all1 fun v0 => rfl) (by kernel_rfl) (by decide) (by rfl) (by decide) rfl rfl rfl (fun A L env hA K => ?_)
  refine seq ?_
  refine S_assign K n_name (by rfl) ?_ (by rfl)
  refine E_sub ?_
  refine E_local K n_instruction (by rfl) (by first | rfl | assumption) ?_ (by rfl)
  refine E_int ?_
  refine o_item_tup (by decide) (by decide) (by first | rfl | assumption) ?_ (fun _ _ => rfl)
  refine After.next ?_
  refine seq ?_
  refine S_return ?_
  refine E_pure (V.bool (r.nm.takes)) ?_ ?_
  · skip
    refine E_boolop ?_
    refine E_or_cons ?_
    refine E_cmp ?_ (by rfl)
    refine E_local K n_name (by rfl) (by first | rfl | assumption) ?_ (by rfl)
    refine E_str ?_
    refine o_eq hA (by omega) (by rfl) (by rfl) ?_
    rw [show ("call" : String) = Nm.call.s from rfl, nm_eq]
    refine ⟨_, rfl, ?_⟩
    refine ite_b (fun b1 => ?_) (fun b1 => ?_)
    · skip
      exact ⟨by rw [takes_or]; simp_all, rfl⟩
    · skip
      refine E_or_cons ?_
      refine E_cmp ?_ (by rfl)
      refine E_local K n_name (by rfl) (by first | rfl | assumption) ?_ (by rfl)
      refine E_str ?_
      refine o_eq hA (by omega) (by rfl) (by rfl) ?_
      rw [show ("execute" : String) = Nm.execute.s from rfl, nm_eq]
      refine ⟨_, rfl, ?_⟩
      refine ite_b (fun b2 => ?_) (fun b2 => ?_)
      · skip
        exact ⟨by rw [takes_or]; simp_all, rfl⟩
      · skip
        refine E_or_last ?_
        refine E_cmp ?_ (by rfl)
        refine E_local K n_name (by rfl) (by first | rfl | assumption) ?_ (by rfl)
        refine E_str ?_
        refine o_eq hA (by omega) (by rfl) (by rfl) ?_
        rw [show ("builtin" : String) = Nm.builtin.s from rfl, nm_eq]
        exact ⟨by rw [takes_or]; simp_all, rfl⟩
  refine After.ret ?_
  refine Back.ret ?_
  exact ⟨H, Sub.refl _, h⟩
theorem sp_twice {n : Nat} {H : AH} {r : Rw} {Q : V → AH → Prop} (hl : r.ps.length ≤ 100) (h : Q (.bool (twice r)) H) : FnSpec c (n + 12) 126 [r.v] Q H := by
  refine fn_enter (ks := ks_operand_twice) (by rw [hK]; rfl) (by rw [hK]; kernel_rfl) (KOk.of rfl (by kernel_rfl)) [Str.ofString "instruction"] [130896504364032243595113] (all1 fun v0 => rfl) (by kernel_rfl) (by decide) (by rfl) (by decide) rfl rfl rfl (fun A L env hA K => ?_)
  refine seq ?_
  refine S_return ?_
  refine E_pure (V.bool (twice r)) ?_ ?_
  · skip
    refine E_boolop ?_
    refine E_and_cons ?_
    refine E_cmp ?_ (by rfl)
    refine E_callb K n_len (by rfl) (gl_len hK) boot_len nn_len (by rfl) (fun _ h => nomatch h) ?_ (by rfl) (by rfl)
    refine L_cons ?_ (by rfl)
    refine E_local K n_instruction (by rfl) (by first | rfl | assumption) ?_ (by rfl)
    refine L_nil ?_
    refine b_len_tup (l := V.str r.nm.s :: r.ps.map Pt.v) (by simp only [List.length_cons, List.length_map]; omega) ?_
    rw [show ((V.str r.nm.s :: r.ps.map Pt.v).length : Int) = (r.ps.length : Int) + 1 by simp]
    refine E_int ?_
    refine o_eq hA (by omega) (by rfl) (by rfl) ?_
    rw [V.eq_int]
    refine ⟨_, rfl, ?_⟩
    refine ite_b (fun b1 => ?_) (fun b1 => ?_)
    · skip
      refine E_and_last ?_
      refine E_cmp ?_ (by rfl)
      refine E_sub ?_
      refine E_local K n_instruction (by rfl) (by first | rfl | assumption) ?_ (by rfl)
      refine E_int ?_
      obtain ⟨nm, ps⟩ := r
      obtain ⟨p1, p2, rfl⟩ := len2 (l := ps) (by have z : (ps.length : Int) + 1 = 3 := of_decide_eq_true b1; omega)
      refine o_item_tup (x := p1.v) (by decide) (by decide) (by rfl) ?_ (fun _ _ => rfl)
      refine E_sub ?_
      refine E_local K n_instruction (by rfl) (by first | rfl | assumption) ?_ (by rfl)
      refine E_int ?_
      refine o_item_tup (x := p2.v) (by decide) (by decide) (by rfl) ?_ (fun _ _ => rfl)
      refine o_eq hA (by omega) (Pt.ok _) (Pt.ok _) ?_
      rw [pt_eq]
      exact ⟨rfl, rfl⟩
    · skip
      refine ⟨?_, rfl⟩
      have z := of_decide_eq_false b1
      unfold twice
      split
      · rename_i e; rw [e] at z; simp at z
      · rfl
  refine After.ret ?_
  refine Back.ret ?_
  exact ⟨H, Sub.refl _, h⟩
end
theorem or_of {a b : Prop} [Decidable a] [Decidable b] (h : (decide a || decide b) = true) : a ∨ b := by simpa using h
theorem no_put_void {nm : Nm} : V.eq (.str nm.s) (.str "put_void") = false := by cases nm <;> rfl
theorem no_set_variable {nm : Nm} : V.eq (.str nm.s) (.str "set_variable") = false := by cases nm <;> rfl
theorem rl_nil {nm : Nm} (g_get_variable : decide (nm = .get_variable) = false) (g_get_value : decide (nm = .get_value) = false) (g_get_constant : (decide (nm = .get_constant) || decide (nm = .get_structure)) = false) (g_get_list : decide (nm = .get_list) = false) (g_unify_variable : decide (nm = .unify_variable) = false) (g_unify_value : (decide (nm = .unify_value) || decide (nm = .set_value)) = false) (g_unify_local_value : (decide (nm = .unify_local_value) || decide (nm = .set_local_value)) = false) (g_put_variable : decide (nm = .put_variable) = false) (g_put_value : (decide (nm = .put_value) || decide (nm = .put_unsafe_value)) = false) (g_put_constant : (decide (nm = .put_constant) || decide (nm = .put_structure)) = false) (g_put_list : decide (nm = .put_list) = false) (g_get_level : (decide (nm = .get_level) || decide (nm = .mark)) = false) (g_cut_to : decide (nm = .cut_to) = false) : nm.rl = [] := by
  cases nm <;> first | rfl | exact absurd g_get_variable (by decide) | exact absurd g_get_value (by decide) | exact absurd g_get_constant (by decide) | exact absurd g_get_list (by decide) | exact absurd g_unify_variable (by decide) | exact absurd g_unify_value (by decide) | exact absurd g_unify_local_value (by decide) | exact absurd g_put_variable (by decide) | exact absurd g_put_value (by decide) | exact absurd g_put_constant (by decide) | exact absurd g_put_list (by decide) | exact absurd g_get_level (by decide) | exact absurd g_cut_to (by decide)
theorem roles_leaf {nm : Nm} {ps : List Pt} {H : AH} {Q : V → AH → Prop} (h : ∀ d, H d = none → Q (.ref d) (H.set d (.list ((roles nm ps).map rv)))) {l : List (Int × Nat)} {m : List V} (e1 : nm.rl = l) (e2 : (l.map fun x => rv (x.1, ps.getD x.2 (.num 0))) = m) {d : Addr} (hd : H d = none) : Q (.ref d) (H.set d (.list m)) := by
  have z := h d hd
  unfold roles at z
  rw [e1, List.map_map] at z
  rw [← e2]; exact z
section
variable {c : Cx} (hK : c.K = hd.heap_1 c.w.params)
include hK
set_option maxHeartbeats 2000000 in
theorem sp_rolesX {n : Nat} {H : AH} {nm : Nm} {ps : List Pt} {Q : V → AH → Prop} (hr : nm.sort.length = ps.length) (h : ∀ d, H d = none → Q (.ref d) (H.set d (.list ((roles nm ps).map rv)))) : FnSpec c (n + 12) 21 [.tup (.str nm.s :: ps.map Pt.v)] Q H := by
  refine fn_enter (ks := ks_operand_roles) (by rw [hK]; rfl) (by rw [hK]; kernel_rfl) (KOk.of rfl (by kernel_rfl)) [Str.ofString "instruction"] [130896504364032243595113] (all1 fun v0 => rfl) (by kernel_rfl) (by decide) (by rfl) (by decide) rfl rfl rfl (fun A L env hA K => ?_)
  refine seq ?_
  refine S_assign K n_name (by rfl) ?_ (by rfl)
  refine E_sub ?_
  refine E_local K n_instruction (by rfl) (by first | rfl | assumption) ?_ (by rfl)
  refine E_int ?_
  refine o_item_tup (by decide) (by decide) (by first | rfl | assumption) ?_ (fun _ _ => rfl)
  refine After.next ?_
  refine seq ?_
  refine S_if ?_
  refine B_cmp ?_ (by rfl)
  refine E_local K n_name (by rfl) (by first | rfl | assumption) ?_ (by rfl)
  refine E_str ?_
  refine o_eq hA (by omega) (by rfl) (by rfl) ?_
  rw [show ("get_variable" : String) = Nm.get_variable.s from rfl, nm_eq]
  refine ⟨_, rfl, ?_⟩
  refine ite_b (fun g_get_variable => ?_) (fun g_get_variable => ?_)
  · skip
    have e1 := of_decide_eq_true g_get_variable
    obtain ⟨p0, p1, eps⟩ := len2 (l := ps) (by subst e1; exact hr.symm)
    refine seq ?_
    refine S_return ?_
    refine E_list ?_
    refine L_cons ?_ (by rfl)
    refine E_tuple ?_
    refine L_cons ?_ (by rfl)
    refine E_glob K n_READS (by rfl) (gl_READS hK) (fun h => rI h _ _) ?_ (by rfl)
    refine L_cons ?_ (by rfl)
    refine E_sub ?_
    refine E_local K n_instruction (by rfl) (by first | rfl | assumption) ?_ (by rfl)
    refine E_int ?_
    refine o_item_tup (x := p1.v) (by decide) (by decide) (by rw [eps]; rfl) ?_ (fun _ _ => rfl)
    refine L_nil ?_
    refine ⟨Nat.le_of_ble_eq_true rfl, ?_⟩
    refine L_cons ?_ (by rfl)
    refine E_tuple ?_
    refine L_cons ?_ (by rfl)
    refine E_glob K n_WRITES (by rfl) (gl_WRITES hK) (fun h => rI h _ _) ?_ (by rfl)
    refine L_cons ?_ (by rfl)
    refine E_sub ?_
    refine E_local K n_instruction (by rfl) (by first | rfl | assumption) ?_ (by rfl)
    refine E_int ?_
    refine o_item_tup (x := p0.v) (by decide) (by decide) (by rw [eps]; rfl) ?_ (fun _ _ => rfl)
    refine L_nil ?_
    refine ⟨Nat.le_of_ble_eq_true rfl, ?_⟩
    refine L_nil ?_
    refine ⟨Nat.le_of_ble_eq_true rfl, fun d1 hd1 => ?_⟩
    refine After.ret ?_
    refine After.ret ?_
    refine Back.ret ?_
    exact ⟨_, Sub.refl _, roles_leaf h (by subst e1; rfl) (by rw [eps]; rfl) (by assumption)⟩
  · skip
    refine S_nil ?_
    refine After.next ?_
    refine seq ?_
    refine S_if ?_
    refine B_cmp ?_ (by rfl)
    refine E_local K n_name (by rfl) (by first | rfl | assumption) ?_ (by rfl)
    refine E_str ?_
    refine o_eq hA (by omega) (by rfl) (by rfl) ?_
    rw [show ("get_value" : String) = Nm.get_value.s from rfl, nm_eq]
    refine ⟨_, rfl, ?_⟩
    refine ite_b (fun g_get_value => ?_) (fun g_get_value => ?_)
    · skip
      have e1 := of_decide_eq_true g_get_value
      obtain ⟨p0, p1, eps⟩ := len2 (l := ps) (by subst e1; exact hr.symm)
      refine seq ?_
      refine S_return ?_
      refine E_list ?_
      refine L_cons ?_ (by rfl)
      refine E_tuple ?_
      refine L_cons ?_ (by rfl)
      refine E_glob K n_READS (by rfl) (gl_READS hK) (fun h => rI h _ _) ?_ (by rfl)
      refine L_cons ?_ (by rfl)
      refine E_sub ?_
      refine E_local K n_instruction (by rfl) (by first | rfl | assumption) ?_ (by rfl)
      refine E_int ?_
      refine o_item_tup (x := p0.v) (by decide) (by decide) (by rw [eps]; rfl) ?_ (fun _ _ => rfl)
      refine L_nil ?_
      refine ⟨Nat.le_of_ble_eq_true rfl, ?_⟩
      refine L_cons ?_ (by rfl)
      refine E_tuple ?_
      refine L_cons ?_ (by rfl)
      refine E_glob K n_READS (by rfl) (gl_READS hK) (fun h => rI h _ _) ?_ (by rfl)
      refine L_cons ?_ (by rfl)
      refine E_sub ?_
      refine E_local K n_instruction (by rfl) (by first | rfl | assumption) ?_ (by rfl)
      refine E_int ?_
      refine o_item_tup (x := p1.v) (by decide) (by decide) (by rw [eps]; rfl) ?_ (fun _ _ => rfl)
      refine L_nil ?_
      refine ⟨Nat.le_of_ble_eq_true rfl, ?_⟩
      refine L_nil ?_
      refine ⟨Nat.le_of_ble_eq_true rfl, fun d2 hd2 => ?_⟩
      refine After.ret ?_
      refine After.ret ?_
      refine Back.ret ?_
      exact ⟨_, Sub.refl _, roles_leaf h (by subst e1; rfl) (by rw [eps]; rfl) (by assumption)⟩
    · skip
      refine S_nil ?_
      refine After.next ?_
      refine seq ?_
      refine S_if ?_
      refine B_pure (decide (nm = .get_constant) || decide (nm = .get_structure)) ?_ ?_
      · skip
        refine B_or ?_
        refine A_or_cons ?_
        refine B_cmp ?_ (by rfl)
        refine E_local K n_name (by rfl) (by first | rfl | assumption) ?_ (by rfl)
        refine E_str ?_
        refine o_eq hA (by omega) (by rfl) (by rfl) ?_
        rw [show ("get_constant" : String) = Nm.get_constant.s from rfl, nm_eq]
        refine ⟨_, rfl, ?_⟩
        refine ite_b (fun q0 => ?_) (fun q0 => ?_)
        · skip
          exact ⟨by rw [q0, Bool.true_or], rfl⟩
        · skip
          refine A_or_cons ?_
          refine B_cmp ?_ (by rfl)
          refine E_local K n_name (by rfl) (by first | rfl | assumption) ?_ (by rfl)
          refine E_str ?_
          refine o_eq hA (by omega) (by rfl) (by rfl) ?_
          rw [show ("get_structure" : String) = Nm.get_structure.s from rfl, nm_eq]
          refine ⟨_, rfl, ?_⟩
          refine ite_b (fun q1 => ?_) (fun q1 => ?_)
          · skip
            exact ⟨by rw [q0, q1, Bool.false_or], rfl⟩
          · skip
            refine A_or_nil ?_
            exact ⟨by rw [q0, q1, Bool.false_or], rfl⟩
      refine ite_b (fun g_get_constant => ?_) (fun g_get_constant => ?_)
      · skip
        have e1 : nm = .get_constant ∨ nm = .get_structure := or_of g_get_constant
        obtain ⟨p0, p1, eps⟩ := len2 (l := ps) (by cases e1 with | inl e1 => subst e1; exact hr.symm | inr e1 => subst e1; exact hr.symm)
        refine seq ?_
        refine S_return ?_
        refine E_list ?_
        refine L_cons ?_ (by rfl)
        refine E_tuple ?_
        refine L_cons ?_ (by rfl)
        refine E_glob K n_READS (by rfl) (gl_READS hK) (fun h => rI h _ _) ?_ (by rfl)
        refine L_cons ?_ (by rfl)
        refine E_sub ?_
        refine E_local K n_instruction (by rfl) (by first | rfl | assumption) ?_ (by rfl)
        refine E_int ?_
        refine o_item_tup (x := p1.v) (by decide) (by decide) (by rw [eps]; rfl) ?_ (fun _ _ => rfl)
        refine L_nil ?_
        refine ⟨Nat.le_of_ble_eq_true rfl, ?_⟩
        refine L_nil ?_
        refine ⟨Nat.le_of_ble_eq_true rfl, fun d3 hd3 => ?_⟩
        refine After.ret ?_
        refine After.ret ?_
        refine Back.ret ?_
        exact ⟨_, Sub.refl _, roles_leaf h (by cases e1 with | inl e1 => subst e1; rfl | inr e1 => subst e1; rfl) (by rw [eps]; rfl) (by assumption)⟩
      · skip
        refine S_nil ?_
        refine After.next ?_
        refine seq ?_
        refine S_if ?_
        refine B_cmp ?_ (by rfl)
        refine E_local K n_name (by rfl) (by first | rfl | assumption) ?_ (by rfl)
        refine E_str ?_
        refine o_eq hA (by omega) (by rfl) (by rfl) ?_
        rw [show ("get_list" : String) = Nm.get_list.s from rfl, nm_eq]
        refine ⟨_, rfl, ?_⟩
        refine ite_b (fun g_get_list => ?_) (fun g_get_list => ?_)
        · skip
          have e1 := of_decide_eq_true g_get_list
          obtain ⟨p0, eps⟩ := len1 (l := ps) (by subst e1; exact hr.symm)
          refine seq ?_
          refine S_return ?_
          refine E_list ?_
          refine L_cons ?_ (by rfl)
          refine E_tuple ?_
          refine L_cons ?_ (by rfl)
          refine E_glob K n_READS (by rfl) (gl_READS hK) (fun h => rI h _ _) ?_ (by rfl)
          refine L_cons ?_ (by rfl)
          refine E_sub ?_
          refine E_local K n_instruction (by rfl) (by first | rfl | assumption) ?_ (by rfl)
          refine E_int ?_
          refine o_item_tup (x := p0.v) (by decide) (by decide) (by rw [eps]; rfl) ?_ (fun _ _ => rfl)
          refine L_nil ?_
          refine ⟨Nat.le_of_ble_eq_true rfl, ?_⟩
          refine L_nil ?_
          refine ⟨Nat.le_of_ble_eq_true rfl, fun d4 hd4 => ?_⟩
          refine After.ret ?_
          refine After.ret ?_
          refine Back.ret ?_
          exact ⟨_, Sub.refl _, roles_leaf h (by subst e1; rfl) (by rw [eps]; rfl) (by assumption)⟩
        · skip
          refine S_nil ?_
          refine After.next ?_
          refine seq ?_
          refine S_if ?_
          refine B_pure (decide (nm = .unify_variable)) ?_ ?_
          · skip
            refine B_or ?_
            refine A_or_cons ?_
            refine B_cmp ?_ (by rfl)
            refine E_local K n_name (by rfl) (by first | rfl | assumption) ?_ (by rfl)
            refine E_str ?_
            refine o_eq hA (by omega) (by rfl) (by rfl) ?_
            rw [show ("unify_variable" : String) = Nm.unify_variable.s from rfl, nm_eq]
            refine ⟨_, rfl, ?_⟩
            refine ite_b (fun q0 => ?_) (fun q0 => ?_)
            · skip
              exact ⟨by rw [q0], rfl⟩
            · skip
              refine A_or_cons ?_
              refine B_cmp ?_ (by rfl)
              refine E_local K n_name (by rfl) (by first | rfl | assumption) ?_ (by rfl)
              refine E_str ?_
              refine o_eq hA (by omega) (by rfl) (by rfl) ?_
              rw [no_set_variable]
              refine ⟨_, rfl, ?_⟩
              refine ite_b (fun q1 => ?_) (fun q1 => ?_)
              · skip
                exact Bool.noConfusion q1
              · skip
                refine A_or_nil ?_
                exact ⟨by rw [q0], rfl⟩
          refine ite_b (fun g_unify_variable => ?_) (fun g_unify_variable => ?_)
          · skip
            have e1 := of_decide_eq_true g_unify_variable
            obtain ⟨p0, eps⟩ := len1 (l := ps) (by subst e1; exact hr.symm)
            refine seq ?_
            refine S_return ?_
            refine E_list ?_
            refine L_cons ?_ (by rfl)
            refine E_tuple ?_
            refine L_cons ?_ (by rfl)
            refine E_glob K n_WRITES (by rfl) (gl_WRITES hK) (fun h => rI h _ _) ?_ (by rfl)
            refine L_cons ?_ (by rfl)
            refine E_sub ?_
            refine E_local K n_instruction (by rfl) (by first | rfl | assumption) ?_ (by rfl)
            refine E_int ?_
            refine o_item_tup (x := p0.v) (by decide) (by decide) (by rw [eps]; rfl) ?_ (fun _ _ => rfl)
            refine L_nil ?_
            refine ⟨Nat.le_of_ble_eq_true rfl, ?_⟩
            refine L_nil ?_
            refine ⟨Nat.le_of_ble_eq_true rfl, fun d5 hd5 => ?_⟩
            refine After.ret ?_
            refine After.ret ?_
            refine Back.ret ?_
            exact ⟨_, Sub.refl _, roles_leaf h (by subst e1; rfl) (by rw [eps]; rfl) (by assumption)⟩
          · skip
            refine S_nil ?_
            refine After.next ?_
            refine seq ?_
            refine S_if ?_
            refine B_pure (decide (nm = .unify_value) || decide (nm = .set_value)) ?_ ?_
            · skip
              refine B_or ?_
              refine A_or_cons ?_
              refine B_cmp ?_ (by rfl)
              refine E_local K n_name (by rfl) (by first | rfl | assumption) ?_ (by rfl)
              refine E_str ?_
              refine o_eq hA (by omega) (by rfl) (by rfl) ?_
              rw [show ("unify_value" : String) = Nm.unify_value.s from rfl, nm_eq]
              refine ⟨_, rfl, ?_⟩
              refine ite_b (fun q0 => ?_) (fun q0 => ?_)
              · skip
                exact ⟨by rw [q0, Bool.true_or], rfl⟩
              · skip
                refine A_or_cons ?_
                refine B_cmp ?_ (by rfl)
                refine E_local K n_name (by rfl) (by first | rfl | assumption) ?_ (by rfl)
                refine E_str ?_
                refine o_eq hA (by omega) (by rfl) (by rfl) ?_
                rw [show ("set_value" : String) = Nm.set_value.s from rfl, nm_eq]
                refine ⟨_, rfl, ?_⟩
                refine ite_b (fun q1 => ?_) (fun q1 => ?_)
                · skip
                  exact ⟨by rw [q0, q1, Bool.false_or], rfl⟩
                · skip
                  refine A_or_nil ?_
                  exact ⟨by rw [q0, q1, Bool.false_or], rfl⟩
            refine ite_b (fun g_unify_value => ?_) (fun g_unify_value => ?_)
            · skip
              have e1 : nm = .unify_value ∨ nm = .set_value := or_of g_unify_value
              obtain ⟨p0, eps⟩ := len1 (l := ps) (by cases e1 with | inl e1 => subst e1; exact hr.symm | inr e1 => subst e1; exact hr.symm)
              refine seq ?_
              refine S_return ?_
              refine E_list ?_
              refine L_cons ?_ (by rfl)
              refine E_tuple ?_
              refine L_cons ?_ (by rfl)
              refine E_glob K n_READS (by rfl) (gl_READS hK) (fun h => rI h _ _) ?_ (by rfl)
              refine L_cons ?_ (by rfl)
              refine E_sub ?_
              refine E_local K n_instruction (by rfl) (by first | rfl | assumption) ?_ (by rfl)
              refine E_int ?_
              refine o_item_tup (x := p0.v) (by decide) (by decide) (by rw [eps]; rfl) ?_ (fun _ _ => rfl)
              refine L_nil ?_
              refine ⟨Nat.le_of_ble_eq_true rfl, ?_⟩
              refine L_nil ?_
              refine ⟨Nat.le_of_ble_eq_true rfl, fun d6 hd6 => ?_⟩
              refine After.ret ?_
              refine After.ret ?_
              refine Back.ret ?_
              exact ⟨_, Sub.refl _, roles_leaf h (by cases e1 with | inl e1 => subst e1; rfl | inr e1 => subst e1; rfl) (by rw [eps]; rfl) (by assumption)⟩
            · skip
              refine S_nil ?_
              refine After.next ?_
              refine seq ?_
              refine S_if ?_
              refine B_pure (decide (nm = .unify_local_value) || decide (nm = .set_local_value)) ?_ ?_
              · skip
                refine B_or ?_
                refine A_or_cons ?_
                refine B_cmp ?_ (by rfl)
                refine E_local K n_name (by rfl) (by first | rfl | assumption) ?_ (by rfl)
                refine E_str ?_
                refine o_eq hA (by omega) (by rfl) (by rfl) ?_
                rw [show ("unify_local_value" : String) = Nm.unify_local_value.s from rfl, nm_eq]
                refine ⟨_, rfl, ?_⟩
                refine ite_b (fun q0 => ?_) (fun q0 => ?_)
                · skip
                  exact ⟨by rw [q0, Bool.true_or], rfl⟩
                · skip
                  refine A_or_cons ?_
                  refine B_cmp ?_ (by rfl)
                  refine E_local K n_name (by rfl) (by first | rfl | assumption) ?_ (by rfl)
                  refine E_str ?_
                  refine o_eq hA (by omega) (by rfl) (by rfl) ?_
                  rw [show ("set_local_value" : String) = Nm.set_local_value.s from rfl, nm_eq]
                  refine ⟨_, rfl, ?_⟩
                  refine ite_b (fun q1 => ?_) (fun q1 => ?_)
                  · skip
                    exact ⟨by rw [q0, q1, Bool.false_or], rfl⟩
                  · skip
                    refine A_or_nil ?_
                    exact ⟨by rw [q0, q1, Bool.false_or], rfl⟩
              refine ite_b (fun g_unify_local_value => ?_) (fun g_unify_local_value => ?_)
              · skip
                have e1 : nm = .unify_local_value ∨ nm = .set_local_value := or_of g_unify_local_value
                obtain ⟨p0, eps⟩ := len1 (l := ps) (by cases e1 with | inl e1 => subst e1; exact hr.symm | inr e1 => subst e1; exact hr.symm)
                refine seq ?_
                refine S_return ?_
                refine E_list ?_
                refine L_cons ?_ (by rfl)
                refine E_tuple ?_
                refine L_cons ?_ (by rfl)
                refine E_glob K n_UPDATES (by rfl) (gl_UPDATES hK) (fun h => rI h _ _) ?_ (by rfl)
                refine L_cons ?_ (by rfl)
                refine E_sub ?_
                refine E_local K n_instruction (by rfl) (by first | rfl | assumption) ?_ (by rfl)
                refine E_int ?_
                refine o_item_tup (x := p0.v) (by decide) (by decide) (by rw [eps]; rfl) ?_ (fun _ _ => rfl)
                refine L_nil ?_
                refine ⟨Nat.le_of_ble_eq_true rfl, ?_⟩
                refine L_nil ?_
                refine ⟨Nat.le_of_ble_eq_true rfl, fun d7 hd7 => ?_⟩
                refine After.ret ?_
                refine After.ret ?_
                refine Back.ret ?_
                exact ⟨_, Sub.refl _, roles_leaf h (by cases e1 with | inl e1 => subst e1; rfl | inr e1 => subst e1; rfl) (by rw [eps]; rfl) (by assumption)⟩
              · skip
                refine S_nil ?_
                refine After.next ?_
                refine seq ?_
                refine S_if ?_
                refine B_cmp ?_ (by rfl)
                refine E_local K n_name (by rfl) (by first | rfl | assumption) ?_ (by rfl)
                refine E_str ?_
                refine o_eq hA (by omega) (by rfl) (by rfl) ?_
                rw [show ("put_variable" : String) = Nm.put_variable.s from rfl, nm_eq]
                refine ⟨_, rfl, ?_⟩
                refine ite_b (fun g_put_variable => ?_) (fun g_put_variable => ?_)
                · skip
                  have e1 := of_decide_eq_true g_put_variable
                  obtain ⟨p0, p1, eps⟩ := len2 (l := ps) (by subst e1; exact hr.symm)
                  refine seq ?_
                  refine S_return ?_
                  refine E_list ?_
                  refine L_cons ?_ (by rfl)
                  refine E_tuple ?_
                  refine L_cons ?_ (by rfl)
                  refine E_glob K n_WRITES (by rfl) (gl_WRITES hK) (fun h => rI h _ _) ?_ (by rfl)
                  refine L_cons ?_ (by rfl)
                  refine E_sub ?_
                  refine E_local K n_instruction (by rfl) (by first | rfl | assumption) ?_ (by rfl)
                  refine E_int ?_
                  refine o_item_tup (x := p0.v) (by decide) (by decide) (by rw [eps]; rfl) ?_ (fun _ _ => rfl)
                  refine L_nil ?_
                  refine ⟨Nat.le_of_ble_eq_true rfl, ?_⟩
                  refine L_cons ?_ (by rfl)
                  refine E_tuple ?_
                  refine L_cons ?_ (by rfl)
                  refine E_glob K n_WRITES (by rfl) (gl_WRITES hK) (fun h => rI h _ _) ?_ (by rfl)
                  refine L_cons ?_ (by rfl)
                  refine E_sub ?_
                  refine E_local K n_instruction (by rfl) (by first | rfl | assumption) ?_ (by rfl)
                  refine E_int ?_
                  refine o_item_tup (x := p1.v) (by decide) (by decide) (by rw [eps]; rfl) ?_ (fun _ _ => rfl)
                  refine L_nil ?_
                  refine ⟨Nat.le_of_ble_eq_true rfl, ?_⟩
                  refine L_nil ?_
                  refine ⟨Nat.le_of_ble_eq_true rfl, fun d8 hd8 => ?_⟩
                  refine After.ret ?_
                  refine After.ret ?_
                  refine Back.ret ?_
                  exact ⟨_, Sub.refl _, roles_leaf h (by subst e1; rfl) (by rw [eps]; rfl) (by assumption)⟩
                · skip
                  refine S_nil ?_
                  refine After.next ?_
                  refine seq ?_
                  refine S_if ?_
                  refine B_pure (decide (nm = .put_value) || decide (nm = .put_unsafe_value)) ?_ ?_
                  · skip
                    refine B_or ?_
                    refine A_or_cons ?_
                    refine B_cmp ?_ (by rfl)
                    refine E_local K n_name (by rfl) (by first | rfl | assumption) ?_ (by rfl)
                    refine E_str ?_
                    refine o_eq hA (by omega) (by rfl) (by rfl) ?_
                    rw [show ("put_value" : String) = Nm.put_value.s from rfl, nm_eq]
                    refine ⟨_, rfl, ?_⟩
                    refine ite_b (fun q0 => ?_) (fun q0 => ?_)
                    · skip
                      exact ⟨by rw [q0, Bool.true_or], rfl⟩
                    · skip
                      refine A_or_cons ?_
                      refine B_cmp ?_ (by rfl)
                      refine E_local K n_name (by rfl) (by first | rfl | assumption) ?_ (by rfl)
                      refine E_str ?_
                      refine o_eq hA (by omega) (by rfl) (by rfl) ?_
                      rw [show ("put_unsafe_value" : String) = Nm.put_unsafe_value.s from rfl, nm_eq]
                      refine ⟨_, rfl, ?_⟩
                      refine ite_b (fun q1 => ?_) (fun q1 => ?_)
                      · skip
                        exact ⟨by rw [q0, q1, Bool.false_or], rfl⟩
                      · skip
                        refine A_or_nil ?_
                        exact ⟨by rw [q0, q1, Bool.false_or], rfl⟩
                  refine ite_b (fun g_put_value => ?_) (fun g_put_value => ?_)
                  · skip
                    have e1 : nm = .put_value ∨ nm = .put_unsafe_value := or_of g_put_value
                    obtain ⟨p0, p1, eps⟩ := len2 (l := ps) (by cases e1 with | inl e1 => subst e1; exact hr.symm | inr e1 => subst e1; exact hr.symm)
                    refine seq ?_
                    refine S_return ?_
                    refine E_list ?_
                    refine L_cons ?_ (by rfl)
                    refine E_tuple ?_
                    refine L_cons ?_ (by rfl)
                    refine E_glob K n_READS (by rfl) (gl_READS hK) (fun h => rI h _ _) ?_ (by rfl)
                    refine L_cons ?_ (by rfl)
                    refine E_sub ?_
                    refine E_local K n_instruction (by rfl) (by first | rfl | assumption) ?_ (by rfl)
                    refine E_int ?_
                    refine o_item_tup (x := p0.v) (by decide) (by decide) (by rw [eps]; rfl) ?_ (fun _ _ => rfl)
                    refine L_nil ?_
                    refine ⟨Nat.le_of_ble_eq_true rfl, ?_⟩
                    refine L_cons ?_ (by rfl)
                    refine E_tuple ?_
                    refine L_cons ?_ (by rfl)
                    refine E_glob K n_WRITES (by rfl) (gl_WRITES hK) (fun h => rI h _ _) ?_ (by rfl)
                    refine L_cons ?_ (by rfl)
                    refine E_sub ?_
                    refine E_local K n_instruction (by rfl) (by first | rfl | assumption) ?_ (by rfl)
                    refine E_int ?_
                    refine o_item_tup (x := p1.v) (by decide) (by decide) (by rw [eps]; rfl) ?_ (fun _ _ => rfl)
                    refine L_nil ?_
                    refine ⟨Nat.le_of_ble_eq_true rfl, ?_⟩
                    refine L_nil ?_
                    refine ⟨Nat.le_of_ble_eq_true rfl, fun d9 hd9 => ?_⟩
                    refine After.ret ?_
                    refine After.ret ?_
                    refine Back.ret ?_
                    exact ⟨_, Sub.refl _, roles_leaf h (by cases e1 with | inl e1 => subst e1; rfl | inr e1 => subst e1; rfl) (by rw [eps]; rfl) (by assumption)⟩
                  · skip
                    refine S_nil ?_
                    refine After.next ?_
                    refine seq ?_
                    refine S_if ?_
                    refine B_pure (decide (nm = .put_constant) || decide (nm = .put_structure)) ?_ ?_
                    · skip
                      refine B_or ?_
                      refine A_or_cons ?_
                      refine B_cmp ?_ (by rfl)
                      refine E_local K n_name (by rfl) (by first | rfl | assumption) ?_ (by rfl)
                      refine E_str ?_
                      refine o_eq hA (by omega) (by rfl) (by rfl) ?_
                      rw [show ("put_constant" : String) = Nm.put_constant.s from rfl, nm_eq]
                      refine ⟨_, rfl, ?_⟩
                      refine ite_b (fun q0 => ?_) (fun q0 => ?_)
                      · skip
                        exact ⟨by rw [q0, Bool.true_or], rfl⟩
                      · skip
                        refine A_or_cons ?_
                        refine B_cmp ?_ (by rfl)
                        refine E_local K n_name (by rfl) (by first | rfl | assumption) ?_ (by rfl)
                        refine E_str ?_
                        refine o_eq hA (by omega) (by rfl) (by rfl) ?_
                        rw [show ("put_structure" : String) = Nm.put_structure.s from rfl, nm_eq]
                        refine ⟨_, rfl, ?_⟩
                        refine ite_b (fun q1 => ?_) (fun q1 => ?_)
                        · skip
                          exact ⟨by rw [q0, q1, Bool.false_or], rfl⟩
                        · skip
                          refine A_or_nil ?_
                          exact ⟨by rw [q0, q1, Bool.false_or], rfl⟩
                    refine ite_b (fun g_put_constant => ?_) (fun g_put_constant => ?_)
                    · skip
                      have e1 : nm = .put_constant ∨ nm = .put_structure := or_of g_put_constant
                      obtain ⟨p0, p1, eps⟩ := len2 (l := ps) (by cases e1 with | inl e1 => subst e1; exact hr.symm | inr e1 => subst e1; exact hr.symm)
                      refine seq ?_
                      refine S_return ?_
                      refine E_list ?_
                      refine L_cons ?_ (by rfl)
                      refine E_tuple ?_
                      refine L_cons ?_ (by rfl)
                      refine E_glob K n_WRITES (by rfl) (gl_WRITES hK) (fun h => rI h _ _) ?_ (by rfl)
                      refine L_cons ?_ (by rfl)
                      refine E_sub ?_
                      refine E_local K n_instruction (by rfl) (by first | rfl | assumption) ?_ (by rfl)
                      refine E_int ?_
                      refine o_item_tup (x := p1.v) (by decide) (by decide) (by rw [eps]; rfl) ?_ (fun _ _ => rfl)
                      refine L_nil ?_
                      refine ⟨Nat.le_of_ble_eq_true rfl, ?_⟩
                      refine L_nil ?_
                      refine ⟨Nat.le_of_ble_eq_true rfl, fun d10 hd10 => ?_⟩
                      refine After.ret ?_
                      refine After.ret ?_
                      refine Back.ret ?_
                      exact ⟨_, Sub.refl _, roles_leaf h (by cases e1 with | inl e1 => subst e1; rfl | inr e1 => subst e1; rfl) (by rw [eps]; rfl) (by assumption)⟩
                    · skip
                      refine S_nil ?_
                      refine After.next ?_
                      refine seq ?_
                      refine S_if ?_
                      refine B_pure (decide (nm = .put_list)) ?_ ?_
                      · skip
                        refine B_or ?_
                        refine A_or_cons ?_
                        refine B_cmp ?_ (by rfl)
                        refine E_local K n_name (by rfl) (by first | rfl | assumption) ?_ (by rfl)
                        refine E_str ?_
                        refine o_eq hA (by omega) (by rfl) (by rfl) ?_
                        rw [show ("put_list" : String) = Nm.put_list.s from rfl, nm_eq]
                        refine ⟨_, rfl, ?_⟩
                        refine ite_b (fun q0 => ?_) (fun q0 => ?_)
                        · skip
                          exact ⟨by rw [q0], rfl⟩
                        · skip
                          refine A_or_cons ?_
                          refine B_cmp ?_ (by rfl)
                          refine E_local K n_name (by rfl) (by first | rfl | assumption) ?_ (by rfl)
                          refine E_str ?_
                          refine o_eq hA (by omega) (by rfl) (by rfl) ?_
                          rw [no_put_void]
                          refine ⟨_, rfl, ?_⟩
                          refine ite_b (fun q1 => ?_) (fun q1 => ?_)
                          · skip
                            exact Bool.noConfusion q1
                          · skip
                            refine A_or_nil ?_
                            exact ⟨by rw [q0], rfl⟩
                      refine ite_b (fun g_put_list => ?_) (fun g_put_list => ?_)
                      · skip
                        have e1 := of_decide_eq_true g_put_list
                        obtain ⟨p0, eps⟩ := len1 (l := ps) (by subst e1; exact hr.symm)
                        refine seq ?_
                        refine S_return ?_
                        refine E_list ?_
                        refine L_cons ?_ (by rfl)
                        refine E_tuple ?_
                        refine L_cons ?_ (by rfl)
                        refine E_glob K n_WRITES (by rfl) (gl_WRITES hK) (fun h => rI h _ _) ?_ (by rfl)
                        refine L_cons ?_ (by rfl)
                        refine E_sub ?_
                        refine E_local K n_instruction (by rfl) (by first | rfl | assumption) ?_ (by rfl)
                        refine E_int ?_
                        refine o_item_tup (x := p0.v) (by decide) (by decide) (by rw [eps]; rfl) ?_ (fun _ _ => rfl)
                        refine L_nil ?_
                        refine ⟨Nat.le_of_ble_eq_true rfl, ?_⟩
                        refine L_nil ?_
                        refine ⟨Nat.le_of_ble_eq_true rfl, fun d11 hd11 => ?_⟩
                        refine After.ret ?_
                        refine After.ret ?_
                        refine Back.ret ?_
                        exact ⟨_, Sub.refl _, roles_leaf h (by subst e1; rfl) (by rw [eps]; rfl) (by assumption)⟩
                      · skip
                        refine S_nil ?_
                        refine After.next ?_
                        refine seq ?_
                        refine S_if ?_
                        refine B_pure (decide (nm = .get_level) || decide (nm = .mark)) ?_ ?_
                        · skip
                          refine B_or ?_
                          refine A_or_cons ?_
                          refine B_cmp ?_ (by rfl)
                          refine E_local K n_name (by rfl) (by first | rfl | assumption) ?_ (by rfl)
                          refine E_str ?_
                          refine o_eq hA (by omega) (by rfl) (by rfl) ?_
                          rw [show ("get_level" : String) = Nm.get_level.s from rfl, nm_eq]
                          refine ⟨_, rfl, ?_⟩
                          refine ite_b (fun q0 => ?_) (fun q0 => ?_)
                          · skip
                            exact ⟨by rw [q0, Bool.true_or], rfl⟩
                          · skip
                            refine A_or_cons ?_
                            refine B_cmp ?_ (by rfl)
                            refine E_local K n_name (by rfl) (by first | rfl | assumption) ?_ (by rfl)
                            refine E_str ?_
                            refine o_eq hA (by omega) (by rfl) (by rfl) ?_
                            rw [show ("mark" : String) = Nm.mark.s from rfl, nm_eq]
                            refine ⟨_, rfl, ?_⟩
                            refine ite_b (fun q1 => ?_) (fun q1 => ?_)
                            · skip
                              exact ⟨by rw [q0, q1, Bool.false_or], rfl⟩
                            · skip
                              refine A_or_nil ?_
                              exact ⟨by rw [q0, q1, Bool.false_or], rfl⟩
                        refine ite_b (fun g_get_level => ?_) (fun g_get_level => ?_)
                        · skip
                          have e1 : nm = .get_level ∨ nm = .mark := or_of g_get_level
                          obtain ⟨p0, eps⟩ := len1 (l := ps) (by cases e1 with | inl e1 => subst e1; exact hr.symm | inr e1 => subst e1; exact hr.symm)
                          refine seq ?_
                          refine S_return ?_
                          refine E_list ?_
                          refine L_cons ?_ (by rfl)
                          refine E_tuple ?_
                          refine L_cons ?_ (by rfl)
                          refine E_glob K n_WRITES (by rfl) (gl_WRITES hK) (fun h => rI h _ _) ?_ (by rfl)
                          refine L_cons ?_ (by rfl)
                          refine E_sub ?_
                          refine E_local K n_instruction (by rfl) (by first | rfl | assumption) ?_ (by rfl)
                          refine E_int ?_
                          refine o_item_tup (x := p0.v) (by decide) (by decide) (by rw [eps]; rfl) ?_ (fun _ _ => rfl)
                          refine L_nil ?_
                          refine ⟨Nat.le_of_ble_eq_true rfl, ?_⟩
                          refine L_nil ?_
                          refine ⟨Nat.le_of_ble_eq_true rfl, fun d12 hd12 => ?_⟩
                          refine After.ret ?_
                          refine After.ret ?_
                          refine Back.ret ?_
                          exact ⟨_, Sub.refl _, roles_leaf h (by cases e1 with | inl e1 => subst e1; rfl | inr e1 => subst e1; rfl) (by rw [eps]; rfl) (by assumption)⟩
                        · skip
                          refine S_nil ?_
                          refine After.next ?_
                          refine seq ?_
                          refine S_if ?_
                          refine B_cmp ?_ (by rfl)
                          refine E_local K n_name (by rfl) (by first | rfl | assumption) ?_ (by rfl)
                          refine E_str ?_
                          refine o_eq hA (by omega) (by rfl) (by rfl) ?_
                          rw [show ("cut_to" : String) = Nm.cut_to.s from rfl, nm_eq]
                          refine ⟨_, rfl, ?_⟩
                          refine ite_b (fun g_cut_to => ?_) (fun g_cut_to => ?_)
                          · skip
                            have e1 := of_decide_eq_true g_cut_to
                            obtain ⟨p0, eps⟩ := len1 (l := ps) (by subst e1; exact hr.symm)
                            refine seq ?_
                            refine S_return ?_
                            refine E_list ?_
                            refine L_cons ?_ (by rfl)
                            refine E_tuple ?_
                            refine L_cons ?_ (by rfl)
                            refine E_glob K n_READS (by rfl) (gl_READS hK) (fun h => rI h _ _) ?_ (by rfl)
                            refine L_cons ?_ (by rfl)
                            refine E_sub ?_
                            refine E_local K n_instruction (by rfl) (by first | rfl | assumption) ?_ (by rfl)
                            refine E_int ?_
                            refine o_item_tup (x := p0.v) (by decide) (by decide) (by rw [eps]; rfl) ?_ (fun _ _ => rfl)
                            refine L_nil ?_
                            refine ⟨Nat.le_of_ble_eq_true rfl, ?_⟩
                            refine L_nil ?_
                            refine ⟨Nat.le_of_ble_eq_true rfl, fun d13 hd13 => ?_⟩
                            refine After.ret ?_
                            refine After.ret ?_
                            refine Back.ret ?_
                            exact ⟨_, Sub.refl _, roles_leaf h (by subst e1; rfl) (by rw [eps]; rfl) (by assumption)⟩
                          · skip
                            refine S_nil ?_
                            refine After.next ?_
                            refine seq ?_
                            refine S_return ?_
                            refine E_list ?_
                            refine L_nil ?_
                            refine ⟨Nat.le_of_ble_eq_true rfl, fun d14 hd14 => ?_⟩
                            refine After.ret ?_
                            refine Back.ret ?_
                            exact ⟨_, Sub.refl _, roles_leaf h (rl_nil g_get_variable g_get_value g_get_constant g_get_list g_unify_variable g_unify_value g_unify_local_value g_put_variable g_put_value g_put_constant g_put_list g_get_level g_cut_to) rfl (by assumption)⟩
theorem sp_roles {n : Nat} {H : AH} {r : Rw} {Q : V → AH → Prop} (hr : r.nm.sort.length = r.ps.length) (h : ∀ d, H d = none → Q (.ref d) (H.set d (.list ((roles r.nm r.ps).map rv)))) : FnSpec c (n + 12) 21 [r.v] Q H := sp_rolesX hK hr h
end
end Mine
namespace Mine
noncomputable def dm (l : List (Int × Int)) : List (Int × V) := l.map fun x => (x.1, .int x.2)
theorem iget_rel (l : List (Int × Int)) (k d : Int) : (dget (dm l) k).getD (.int d) = .int (iget l k d) := by
  unfold dget iget dm
  induction l with
  | nil => rfl
  | cons x l ih =>
    simp only [List.map_cons, List.find?_cons]
    by_cases h : x.1 = k
    · simp [h]
    · simpa [h] using ih
theorem ihas_rel (l : List (Int × Int)) (k : Int) : (dget (dm l) k).isSome = ihas l k := by
  unfold dget ihas dm
  induction l with
  | nil => rfl
  | cons x l ih =>
    simp only [List.map_cons, List.find?_cons, List.any_cons]
    by_cases h : x.1 = k
    · simp [h]
    · simpa [h] using ih
theorem ihas_get {l : List (Int × Int)} {k : Int} (h : ihas l k = true) (d : Int) : dget (dm l) k = some (.int (iget l k d)) := by
  have := iget_rel l k d
  rw [← ihas_rel] at h
  obtain ⟨v, hv⟩ := Option.isSome_iff_exists.mp h
  rw [hv] at this ⊢
  exact congrArg some this
theorem iput_rel (l : List (Int × Int)) (k v : Int) : dput (dm l) k (.int v) = dm (iput l k v) := by
  have ha : (dm l).any (fun x => x.1 = k) = l.any fun x => x.1 = k := by unfold dm; rw [List.any_map]; rfl
  unfold dput iput
  rw [ha]
  split
  · unfold dm
    rw [List.map_map, List.map_map]
    refine List.map_congr_left fun x _ => ?_
    simp only [Function.comp]
    split <;> rfl
  · unfold dm; rw [List.map_append]; rfl
theorem iput_len (l : List (Int × Int)) (k v : Int) : (iput l k v).length ≤ l.length + 1 := by unfold iput; split <;> simp
theorem dm_len (l : List (Int × Int)) : (dm l).length = l.length := by unfold dm; simp
structure CkL (Hr H : AH) (s dx d1 d2 d3 d4 : Addr) (e1 e2 e3 e4 : Nat) (k : Ck) : Prop where
  hs : H s = some (.inst 115 dx)
  hx : H dx = some (.ns [(940052543510446748398, .int k.nv), (57912369945981174, .ref d1), (211497704, .ref d2), (58471267585029993, .ref d3), (58471268105403119, .ref d4)])
  h1 : H d1 = some (.dI e1 (dm k.vo))
  h2 : H d2 = some (.dI e2 (dm k.held))
  h3 : H d3 = some (.dI e3 (dm k.inc))
  h4 : H d4 = some (.dI e4 (dm k.out))
  n12 : d1 ≠ d2
  n13 : d1 ≠ d3
  n14 : d1 ≠ d4
  n23 : d2 ≠ d3
  n24 : d2 ≠ d4
  n34 : d3 ≠ d4
  sub : Sub Hr H
  rs : Hr s = none
  rx : Hr dx = none
  r1 : Hr d1 = none
  r2 : Hr d2 = none
  r3 : Hr d3 = none
  r4 : Hr d4 = none
inductive CkAt (Hr H : AH) (s : Addr) (k : Ck) : Prop
  | mk (dx d1 d2 d3 d4 : Addr) (e1 e2 e3 e4 : Nat) (h : CkL Hr H s dx d1 d2 d3 d4 e1 e2 e3 e4 k)
theorem Sub.other {a b : AH} {d : Addr} {o : MObj} (p : Sub a b) (h : a d = none) : Sub a (b.set d o) := fun x y e => by
  by_cases hx : x = d
  · subst hx; rw [h] at e; cases e
  · rw [AH.set_ne _ _ hx]; exact p x y e
section
variable {Hr H : AH} {s dx d1 d2 d3 d4 : Addr} {e1 e2 e3 e4 : Nat} {k : Ck}
theorem CkL.nsx (E : CkL Hr H s dx d1 d2 d3 d4 e1 e2 e3 e4 k) : s ≠ dx := ne_kind E.hs E.hx (by simp)
theorem CkL.ns1 (E : CkL Hr H s dx d1 d2 d3 d4 e1 e2 e3 e4 k) : s ≠ d1 := ne_kind E.hs E.h1 (by simp)
theorem CkL.ns2 (E : CkL Hr H s dx d1 d2 d3 d4 e1 e2 e3 e4 k) : s ≠ d2 := ne_kind E.hs E.h2 (by simp)
theorem CkL.ns3 (E : CkL Hr H s dx d1 d2 d3 d4 e1 e2 e3 e4 k) : s ≠ d3 := ne_kind E.hs E.h3 (by simp)
theorem CkL.ns4 (E : CkL Hr H s dx d1 d2 d3 d4 e1 e2 e3 e4 k) : s ≠ d4 := ne_kind E.hs E.h4 (by simp)
theorem CkL.nx1 (E : CkL Hr H s dx d1 d2 d3 d4 e1 e2 e3 e4 k) : dx ≠ d1 := ne_kind E.hx E.h1 (by simp)
theorem CkL.nx2 (E : CkL Hr H s dx d1 d2 d3 d4 e1 e2 e3 e4 k) : dx ≠ d2 := ne_kind E.hx E.h2 (by simp)
theorem CkL.nx3 (E : CkL Hr H s dx d1 d2 d3 d4 e1 e2 e3 e4 k) : dx ≠ d3 := ne_kind E.hx E.h3 (by simp)
theorem CkL.nx4 (E : CkL Hr H s dx d1 d2 d3 d4 e1 e2 e3 e4 k) : dx ≠ d4 := ne_kind E.hx E.h4 (by simp)
theorem CkL.more (E : CkL Hr H s dx d1 d2 d3 d4 e1 e2 e3 e4 k) {H' : AH} (h : Sub H H') : CkL Hr H' s dx d1 d2 d3 d4 e1 e2 e3 e4 k :=
  ⟨h _ _ E.hs, h _ _ E.hx, h _ _ E.h1, h _ _ E.h2, h _ _ E.h3, h _ _ E.h4, E.n12, E.n13, E.n14, E.n23, E.n24, E.n34, E.sub.trans h, E.rs, E.rx, E.r1, E.r2, E.r3, E.r4⟩
theorem CkAt.more {H' : AH} (E : CkAt Hr H s k) (h : Sub H H') : CkAt Hr H' s k := by
  obtain ⟨dx, d1, d2, d3, d4, e1, e2, e3, e4, E⟩ := E
  exact ⟨dx, d1, d2, d3, d4, e1, e2, e3, e4, E.more h⟩
theorem CkAt.sub (E : CkAt Hr H s k) : Sub Hr H := by
  obtain ⟨dx, d1, d2, d3, d4, e1, e2, e3, e4, E⟩ := E
  exact E.sub
theorem CkL.set1 (E : CkL Hr H s dx d1 d2 d3 d4 e1 e2 e3 e4 k) (e : Nat) (l : List (Int × Int)) : CkL Hr (H.set d1 (.dI e (dm l))) s dx d1 d2 d3 d4 e e2 e3 e4 { k with vo := l } :=
  ⟨(AH.set_ne _ _ E.ns1).trans E.hs, (AH.set_ne _ _ E.nx1).trans E.hx, AH.set_same _ _ _, (AH.set_ne _ _ E.n12.symm).trans E.h2, (AH.set_ne _ _ E.n13.symm).trans E.h3, (AH.set_ne _ _ E.n14.symm).trans E.h4, E.n12, E.n13, E.n14, E.n23, E.n24, E.n34, E.sub.other E.r1, E.rs, E.rx, E.r1, E.r2, E.r3, E.r4⟩
theorem CkL.set2 (E : CkL Hr H s dx d1 d2 d3 d4 e1 e2 e3 e4 k) (e : Nat) (l : List (Int × Int)) : CkL Hr (H.set d2 (.dI e (dm l))) s dx d1 d2 d3 d4 e1 e e3 e4 { k with held := l } :=
  ⟨(AH.set_ne _ _ E.ns2).trans E.hs, (AH.set_ne _ _ E.nx2).trans E.hx, (AH.set_ne _ _ E.n12).trans E.h1, AH.set_same _ _ _, (AH.set_ne _ _ E.n23.symm).trans E.h3, (AH.set_ne _ _ E.n24.symm).trans E.h4, E.n12, E.n13, E.n14, E.n23, E.n24, E.n34, E.sub.other E.r2, E.rs, E.rx, E.r1, E.r2, E.r3, E.r4⟩
theorem CkL.set3 (E : CkL Hr H s dx d1 d2 d3 d4 e1 e2 e3 e4 k) (e : Nat) (l : List (Int × Int)) : CkL Hr (H.set d3 (.dI e (dm l))) s dx d1 d2 d3 d4 e1 e2 e e4 { k with inc := l } :=
  ⟨(AH.set_ne _ _ E.ns3).trans E.hs, (AH.set_ne _ _ E.nx3).trans E.hx, (AH.set_ne _ _ E.n13).trans E.h1, (AH.set_ne _ _ E.n23).trans E.h2, AH.set_same _ _ _, (AH.set_ne _ _ E.n34.symm).trans E.h4, E.n12, E.n13, E.n14, E.n23, E.n24, E.n34, E.sub.other E.r3, E.rs, E.rx, E.r1, E.r2, E.r3, E.r4⟩
theorem CkL.set4 (E : CkL Hr H s dx d1 d2 d3 d4 e1 e2 e3 e4 k) (e : Nat) (l : List (Int × Int)) : CkL Hr (H.set d4 (.dI e (dm l))) s dx d1 d2 d3 d4 e1 e2 e3 e { k with out := l } :=
  ⟨(AH.set_ne _ _ E.ns4).trans E.hs, (AH.set_ne _ _ E.nx4).trans E.hx, (AH.set_ne _ _ E.n14).trans E.h1, (AH.set_ne _ _ E.n24).trans E.h2, (AH.set_ne _ _ E.n34).trans E.h3, AH.set_same _ _ _, E.n12, E.n13, E.n14, E.n23, E.n24, E.n34, E.sub.other E.r4, E.rs, E.rx, E.r1, E.r2, E.r3, E.r4⟩
theorem CkL.setn (E : CkL Hr H s dx d1 d2 d3 d4 e1 e2 e3 e4 k) (v : Int) : CkL Hr (H.set dx (.ns (nput [(940052543510446748398, .int k.nv), (57912369945981174, .ref d1), (211497704, .ref d2), (58471267585029993, .ref d3), (58471268105403119, .ref d4)] 940052543510446748398 (.int v)))) s dx d1 d2 d3 d4 e1 e2 e3 e4 { k with nv := v } :=
  ⟨(AH.set_ne _ _ E.nsx).trans E.hs, AH.set_same _ _ _, (AH.set_ne _ _ E.nx1.symm).trans E.h1, (AH.set_ne _ _ E.nx2.symm).trans E.h2, (AH.set_ne _ _ E.nx3.symm).trans E.h3, (AH.set_ne _ _ E.nx4.symm).trans E.h4, E.n12, E.n13, E.n14, E.n23, E.n24, E.n34, E.sub.other E.rx, E.rs, E.rx, E.r1, E.r2, E.r3, E.r4⟩
end
noncomputable def Ck.small (k : Ck) (n : Nat) : Prop := k.vo.length ≤ n ∧ k.held.length ≤ n ∧ k.inc.length ≤ n ∧ k.out.length ≤ n
section
variable {c : Cx} (hK : c.K = hd.heap_1 c.w.params)
include hK
theorem sp_new_value {n : Nat} {Hr H : AH} {s : Addr} {k : Ck} {Q : V → AH → Prop} (E : CkAt Hr H s k) (h : ∀ H', CkAt Hr H' s { k with nv := k.nv + 1 } → Q (.int (k.nv + 1)) H') : FnSpec c (n + 12) 49 [.ref s] Q H := by
  obtain ⟨dx, d1, d2, d3, d4, e1, e2, e3, e4, E⟩ := E
  have hs := E.hs
  have hx := E.hx
  have h1 := E.h1
  have h2 := E.h2
  have h3 := E.h3
  have h4 := E.h4
  refine fn_enter (ks := ks_new_value) (by rw [hK]; rfl) (by rw [hK]; kernel_rfl) (KOk.of rfl (by kernel_rfl)) [Str.ofString "self"] [215692019] (all1 fun v0 => rfl) (by kernel_rfl) (by decide) (by rfl) (by decide) rfl rfl rfl (fun A L env hA K => ?_)
  refine seq ?_
  refine S_aug_attr n_next_value ?_
  refine E_local K n_self (by rfl) (by first | rfl | assumption) ?_ (by rfl)
  refine ⟨_, _, _, _, _, rfl, by first | assumption | exact AH.set_same _ _ _ | exact (AH.set_ne _ _ (by first | assumption | exact Ne.symm (by assumption) | exact ne_none (by assumption) (by assumption) | exact Ne.symm (ne_none (by assumption) (by assumption)))).trans (by first | assumption | exact AH.set_same _ _ _ | exact (AH.set_ne _ _ (by first | assumption | exact Ne.symm (by assumption) | exact ne_none (by assumption) (by assumption) | exact Ne.symm (ne_none (by assumption) (by assumption)))).trans (by first | assumption | exact AH.set_same _ _ _ | exact (AH.set_ne _ _ (by first | assumption | exact Ne.symm (by assumption) | exact ne_none (by assumption) (by assumption) | exact Ne.symm (ne_none (by assumption) (by assumption)))).trans (by first | assumption | exact AH.set_same _ _ _ | exact (AH.set_ne _ _ (by first | assumption | exact Ne.symm (by assumption) | exact ne_none (by assumption) (by assumption) | exact Ne.symm (ne_none (by assumption) (by assumption)))).trans (by first | assumption | exact AH.set_same _ _ _ | exact (AH.set_ne _ _ (by first | assumption | exact Ne.symm (by assumption) | exact ne_none (by assumption) (by assumption) | exact Ne.symm (ne_none (by assumption) (by assumption)))).trans (by first | assumption | exact AH.set_same _ _ _ | exact (AH.set_ne _ _ (by first | assumption | exact Ne.symm (by assumption) | exact ne_none (by assumption) (by assumption) | exact Ne.symm (ne_none (by assumption) (by assumption)))).trans (by assumption)))))), by first | assumption | exact AH.set_same _ _ _ | exact (AH.set_ne _ _ (by first | assumption | exact Ne.symm (by assumption) | exact ne_none (by assumption) (by assumption) | exact Ne.symm (ne_none (by assumption) (by assumption)))).trans (by first | assumption | exact AH.set_same _ _ _ | exact (AH.set_ne _ _ (by first | assumption | exact Ne.symm (by assumption) | exact ne_none (by assumption) (by assumption) | exact Ne.symm (ne_none (by assumption) (by assumption)))).trans (by first | assumption | exact AH.set_same _ _ _ | exact (AH.set_ne _ _ (by first | assumption | exact Ne.symm (by assumption) | exact ne_none (by assumption) (by assumption) | exact Ne.symm (ne_none (by assumption) (by assumption)))).trans (by first | assumption | exact AH.set_same _ _ _ | exact (AH.set_ne _ _ (by first | assumption | exact Ne.symm (by assumption) | exact ne_none (by assumption) (by assumption) | exact Ne.symm (ne_none (by assumption) (by assumption)))).trans (by first | assumption | exact AH.set_same _ _ _ | exact (AH.set_ne _ _ (by first | assumption | exact Ne.symm (by assumption) | exact ne_none (by assumption) (by assumption) | exact Ne.symm (ne_none (by assumption) (by assumption)))).trans (by first | assumption | exact AH.set_same _ _ _ | exact (AH.set_ne _ _ (by first | assumption | exact Ne.symm (by assumption) | exact ne_none (by assumption) (by assumption) | exact Ne.symm (ne_none (by assumption) (by assumption)))).trans (by assumption)))))), at_next_value hK, by rfl, ?_⟩
  refine E_int ?_
  refine o_iadd ?_
  refine ⟨_, by first | assumption | exact AH.set_same _ _ _ | exact (AH.set_ne _ _ (by first | assumption | exact Ne.symm (by assumption) | exact ne_none (by assumption) (by assumption) | exact Ne.symm (ne_none (by assumption) (by assumption)))).trans (by first | assumption | exact AH.set_same _ _ _ | exact (AH.set_ne _ _ (by first | assumption | exact Ne.symm (by assumption) | exact ne_none (by assumption) (by assumption) | exact Ne.symm (ne_none (by assumption) (by assumption)))).trans (by first | assumption | exact AH.set_same _ _ _ | exact (AH.set_ne _ _ (by first | assumption | exact Ne.symm (by assumption) | exact ne_none (by assumption) (by assumption) | exact Ne.symm (ne_none (by assumption) (by assumption)))).trans (by first | assumption | exact AH.set_same _ _ _ | exact (AH.set_ne _ _ (by first | assumption | exact Ne.symm (by assumption) | exact ne_none (by assumption) (by assumption) | exact Ne.symm (ne_none (by assumption) (by assumption)))).trans (by first | assumption | exact AH.set_same _ _ _ | exact (AH.set_ne _ _ (by first | assumption | exact Ne.symm (by assumption) | exact ne_none (by assumption) (by assumption) | exact Ne.symm (ne_none (by assumption) (by assumption)))).trans (by first | assumption | exact AH.set_same _ _ _ | exact (AH.set_ne _ _ (by first | assumption | exact Ne.symm (by assumption) | exact ne_none (by assumption) (by assumption) | exact Ne.symm (ne_none (by assumption) (by assumption)))).trans (by assumption)))))), by first | assumption | exact AH.set_same _ _ _ | exact (AH.set_ne _ _ (by first | assumption | exact Ne.symm (by assumption) | exact ne_none (by assumption) (by assumption) | exact Ne.symm (ne_none (by assumption) (by assumption)))).trans (by first | assumption | exact AH.set_same _ _ _ | exact (AH.set_ne _ _ (by first | assumption | exact Ne.symm (by assumption) | exact ne_none (by assumption) (by assumption) | exact Ne.symm (ne_none (by assumption) (by assumption)))).trans (by first | assumption | exact AH.set_same _ _ _ | exact (AH.set_ne _ _ (by first | assumption | exact Ne.symm (by assumption) | exact ne_none (by assumption) (by assumption) | exact Ne.symm (ne_none (by assumption) (by assumption)))).trans (by first | assumption | exact AH.set_same _ _ _ | exact (AH.set_ne _ _ (by first | assumption | exact Ne.symm (by assumption) | exact ne_none (by assumption) (by assumption) | exact Ne.symm (ne_none (by assumption) (by assumption)))).trans (by first | assumption | exact AH.set_same _ _ _ | exact (AH.set_ne _ _ (by first | assumption | exact Ne.symm (by assumption) | exact ne_none (by assumption) (by assumption) | exact Ne.symm (ne_none (by assumption) (by assumption)))).trans (by first | assumption | exact AH.set_same _ _ _ | exact (AH.set_ne _ _ (by first | assumption | exact Ne.symm (by assumption) | exact ne_none (by assumption) (by assumption) | exact Ne.symm (ne_none (by assumption) (by assumption)))).trans (by assumption)))))), Nat.le_of_ble_eq_true rfl, ?_⟩
  refine After.next ?_
  have E' := E.setn (k.nv + 1)
  refine seq ?_
  refine S_return ?_
  refine E_attr n_next_value ?_
  refine E_local K n_self (by rfl) (by first | rfl | assumption) ?_ (by rfl)
  refine ⟨_, _, _, _, _, rfl, E'.hs, E'.hx, at_next_value hK, by rfl, ?_⟩
  refine After.ret ?_
  refine Back.ret ?_
  exact ⟨_, Sub.refl _, h _ ⟨dx, d1, d2, d3, d4, e1, e2, e3, e4, E'⟩⟩
theorem sp_same_read {n : Nat} {Hr H : AH} {s : Addr} {k : Ck} {cp : Ch} {np : Int} {q : Pt} {Q : V → AH → Prop} (E : CkAt Hr H s k) (hcp : cp = .t ∨ cp = .a ∨ cp = .y) (hxq : ¬ cp = .y → ∃ m, q = .op .x m) (h : Q (.bool (sameRead k (.op cp np) q)) H) : FnSpec c (n + 12) 56 [.ref s, (Pt.op cp np).v, q.v] Q H := by
  obtain ⟨dx, d1, d2, d3, d4, e1, e2, e3, e4, E⟩ := E
  have hs := E.hs
  have hx := E.hx
  have h1 := E.h1
  have h2 := E.h2
  have h3 := E.h3
  have h4 := E.h4
  refine fn_enter (ks := ks_same_read) (by rw [hK]; rfl) (by rw [hK]; kernel_rfl) (KOk.of rfl (by kernel_rfl)) [Str.ofString "self", Str.ofString "operand", Str.ofString "real"] [215692019, 443610501314671, 228094706] (all3 fun v0 v1 v2 => rfl) (by kernel_rfl) (by decide) (by rfl) (by decide) rfl rfl rfl (fun A L env hA K => ?_)
  refine seq ?_
  refine S_if ?_
  refine B_cmp ?_ (by rfl)
  refine E_sub ?_
  refine E_local K n_operand (by rfl) (by first | rfl | assumption) ?_ (by rfl)
  refine E_int ?_
  refine o_item_tup (by decide) (by decide) (by first | rfl | assumption) ?_ (fun _ _ => rfl)
  refine E_str ?_
  refine o_eq hA (by omega) (by rfl) (by rfl) ?_
  rw [lit_ch cp "y" .y rfl]
  refine ⟨_, rfl, ?_⟩
  refine ite_b (fun cy => ?_) (fun cy => ?_)
  · skip
    have cy := of_decide_eq_true cy
    subst cy
    refine seq ?_
    refine S_return ?_
    refine E_cmp ?_ (by rfl)
    refine E_local K n_real (by rfl) (by first | rfl | assumption) ?_ (by rfl)
    refine E_local K n_operand (by rfl) (by first | rfl | assumption) ?_ (by rfl)
    refine o_eq hA (by omega) (Pt.ok _) (Pt.ok _) ?_
    rw [pt_eq]
    refine After.ret ?_
    refine After.ret ?_
    refine Back.ret ?_
    exact ⟨H, Sub.refl _, by simpa [sameRead, Pt.is] using h⟩
  · skip
    have cy := of_decide_eq_false cy
    obtain ⟨m, rfl⟩ := hxq cy
    refine S_nil ?_
    refine After.next ?_
    refine seq ?_
    refine S_if ?_
    refine B_pure (!ihas k.held m) ?_ ?_
    · skip
      refine B_or ?_
      refine A_or_cons ?_
      refine B_cmp ?_ (by rfl)
      refine E_sub ?_
      refine E_local K n_real (by rfl) (by first | rfl | assumption) ?_ (by rfl)
      refine E_int ?_
      refine o_item_tup (by decide) (by decide) (by first | rfl | assumption) ?_ (fun _ _ => rfl)
      refine E_str ?_
      refine o_ne hA (by omega) (by rfl) (by rfl) ?_
      rw [lit_ch .x "x" .x rfl]
      refine ⟨_, rfl, ?_⟩
      refine ite_b (fun q0 => ?_) (fun q0 => ?_)
      · skip
        exact absurd q0 (by decide)
      · skip
        refine A_or_cons ?_
        refine B_cmp ?_ (by rfl)
        refine E_sub ?_
        refine E_local K n_real (by rfl) (by first | rfl | assumption) ?_ (by rfl)
        refine E_int ?_
        refine o_item_tup (by decide) (by decide) (by first | rfl | assumption) ?_ (fun _ _ => rfl)
        refine E_attr n_held ?_
        refine E_local K n_self (by rfl) (by first | rfl | assumption) ?_ (by rfl)
        refine ⟨_, _, _, _, _, rfl, hs, hx, at_held hK, by rfl, ?_⟩
        refine o_notin_dI h2 ?_
        rw [ihas_rel]
        refine ⟨_, rfl, ?_⟩
        refine ite_b (fun q1 => ?_) (fun q1 => ?_)
        · skip
          exact ⟨q1.symm, rfl⟩
        · skip
          refine A_or_nil ?_
          exact ⟨q1.symm, rfl⟩
    refine ite_b (fun hh => ?_) (fun hh => ?_)
    · skip
      have hh : ihas k.held m = false := by simpa using hh
      refine seq ?_
      refine S_return ?_
      refine E_bool ?_
      refine After.ret ?_
      refine After.ret ?_
      refine Back.ret ?_
      exact ⟨H, Sub.refl _, by simpa [sameRead, Pt.is, cy, Pt.n, hh] using h⟩
    · skip
      have hh : ihas k.held m = true := by simpa using hh
      refine S_nil ?_
      refine After.next ?_
      refine seq ?_
      refine S_if ?_
      refine B_cmp ?_ (by rfl)
      refine E_sub ?_
      refine E_local K n_operand (by rfl) (by first | rfl | assumption) ?_ (by rfl)
      refine E_int ?_
      refine o_item_tup (by decide) (by decide) (by first | rfl | assumption) ?_ (fun _ _ => rfl)
      refine E_str ?_
      refine o_eq hA (by omega) (by rfl) (by rfl) ?_
      rw [lit_ch cp "t" .t rfl]
      refine ⟨_, rfl, ?_⟩
      refine ite_b (fun ct => ?_) (fun ct => ?_)
      · skip
        have ct := of_decide_eq_true ct
        subst ct
        refine seq ?_
        refine S_assign K n_expected (by rfl) ?_ (by rfl)
        refine E_get2 ?_ (by rfl) (by rfl)
        refine E_attr n_value_of ?_
        refine E_local K n_self (by rfl) (by first | rfl | assumption) ?_ (by rfl)
        refine ⟨_, _, _, _, _, rfl, hs, hx, at_value_of hK, by rfl, ?_⟩
        refine ⟨_, rfl, ⟨_, _, h1⟩, ?_⟩
        refine E_sub ?_
        refine E_local K n_operand (by rfl) (by first | rfl | assumption) ?_ (by rfl)
        refine E_int ?_
        refine o_item_tup (by decide) (by decide) (by first | rfl | assumption) ?_ (fun _ _ => rfl)
        refine E_int ?_
        refine ⟨_, _, _, rfl, h1, ?_⟩
        rw [iget_rel]
        refine After.next ?_
        refine S_nil ?_
        refine After.next ?_
        refine seq ?_
        refine S_return ?_
        refine E_cmp ?_ (by rfl)
        refine E_sub ?_
        refine E_attr n_held ?_
        refine E_local K n_self (by rfl) (by first | rfl | assumption) ?_ (by rfl)
        refine ⟨_, _, _, _, _, rfl, hs, hx, at_held hK, by rfl, ?_⟩
        refine E_sub ?_
        refine E_local K n_real (by rfl) (by first | rfl | assumption) ?_ (by rfl)
        refine E_int ?_
        refine o_item_tup (by decide) (by decide) (by first | rfl | assumption) ?_ (fun _ _ => rfl)
        refine o_item_dI h2 (ihas_get hh 0) ?_ (fun _ _ => rfl)
        refine E_local K n_expected (by rfl) (by first | rfl | assumption) ?_ (by rfl)
        refine o_eq hA (by omega) (by rfl) (by rfl) ?_
        rw [V.eq_int]
        refine After.ret ?_
        refine Back.ret ?_
        exact ⟨H, Sub.refl _, by rw [show sameRead k (.op .t np) (.op .x m) = decide (iget k.held m 0 = iget k.vo np 0) by simp [sameRead, Pt.is, Pt.n, hh]; exact decide_eq_decide.mpr Iff.rfl] at h; exact h⟩
      · skip
        have ct := of_decide_eq_false ct
        obtain rfl : cp = .a := by rcases hcp with h | h | h <;> first | exact h | exact absurd h ct | exact absurd h cy
        refine seq ?_
        refine S_if ?_
        refine B_cmp ?_ (by rfl)
        refine E_sub ?_
        refine E_local K n_operand (by rfl) (by first | rfl | assumption) ?_ (by rfl)
        refine E_int ?_
        refine o_item_tup (by decide) (by decide) (by first | rfl | assumption) ?_ (fun _ _ => rfl)
        refine E_sub ?_
        refine E_local K n_real (by rfl) (by first | rfl | assumption) ?_ (by rfl)
        refine E_int ?_
        refine o_item_tup (by decide) (by decide) (by first | rfl | assumption) ?_ (fun _ _ => rfl)
        refine o_eq hA (by omega) (by rfl) (by rfl) ?_
        rw [V.eq_int]
        refine ⟨_, rfl, ?_⟩
        refine ite_b (fun hm => ?_) (fun hm => ?_)
        · skip
          have hm := of_decide_eq_true hm
          refine seq ?_
          refine S_assign K n_expected (by rfl) ?_ (by rfl)
          refine E_get2 ?_ (by rfl) (by rfl)
          refine E_attr n_incoming ?_
          refine E_local K n_self (by rfl) (by first | rfl | assumption) ?_ (by rfl)
          refine ⟨_, _, _, _, _, rfl, hs, hx, at_incoming hK, by rfl, ?_⟩
          refine ⟨_, rfl, ⟨_, _, h3⟩, ?_⟩
          refine E_sub ?_
          refine E_local K n_operand (by rfl) (by first | rfl | assumption) ?_ (by rfl)
          refine E_int ?_
          refine o_item_tup (by decide) (by decide) (by first | rfl | assumption) ?_ (fun _ _ => rfl)
          refine E_int ?_
          refine ⟨_, _, _, rfl, h3, ?_⟩
          rw [iget_rel]
          refine After.next ?_
          refine S_nil ?_
          refine After.next ?_
          refine S_nil ?_
          refine After.next ?_
          refine seq ?_
          refine S_return ?_
          refine E_cmp ?_ (by rfl)
          refine E_sub ?_
          refine E_attr n_held ?_
          refine E_local K n_self (by rfl) (by first | rfl | assumption) ?_ (by rfl)
          refine ⟨_, _, _, _, _, rfl, hs, hx, at_held hK, by rfl, ?_⟩
          refine E_sub ?_
          refine E_local K n_real (by rfl) (by first | rfl | assumption) ?_ (by rfl)
          refine E_int ?_
          refine o_item_tup (by decide) (by decide) (by first | rfl | assumption) ?_ (fun _ _ => rfl)
          refine o_item_dI h2 (ihas_get hh 0) ?_ (fun _ _ => rfl)
          refine E_local K n_expected (by rfl) (by first | rfl | assumption) ?_ (by rfl)
          refine o_eq hA (by omega) (by rfl) (by rfl) ?_
          rw [V.eq_int]
          refine After.ret ?_
          refine Back.ret ?_
          exact ⟨H, Sub.refl _, by simpa [sameRead, Pt.is, cy, Pt.n, hh, hm] using h⟩
        · skip
          have hm := of_decide_eq_false hm
          refine seq ?_
          refine S_return ?_
          refine E_bool ?_
          refine After.ret ?_
          refine After.ret ?_
          refine After.ret ?_
          refine Back.ret ?_
          exact ⟨H, Sub.refl _, by simpa [sameRead, Pt.is, cy, Pt.n, hh, hm] using h⟩
theorem sp_same_write {n : Nat} {H : AH} {s : Addr} {cp : Ch} {np : Int} {q : Pt} {Q : V → AH → Prop} (hcp : cp = .t ∨ cp = .a ∨ cp = .y) (hxq : ¬ cp = .y → ∃ m, q = .op .x m) (h : Q (.bool (sameWrite (.op cp np) q)) H) : FnSpec c (n + 12) 63 [.ref s, (Pt.op cp np).v, q.v] Q H := by
  refine fn_enter (ks := ks_same_write) (by rw [hK]; rfl) (by rw [hK]; kernel_rfl) (KOk.of rfl (by kernel_rfl)) [Str.ofString "self", Str.ofString "operand", Str.ofString "real"] [215692019, 443610501314671, 228094706] (all3 fun v0 v1 v2 => rfl) (by kernel_rfl) (by decide) (by rfl) (by decide) rfl rfl rfl (fun A L env hA K => ?_)
  refine seq ?_
  refine S_if ?_
  refine B_cmp ?_ (by rfl)
  refine E_sub ?_
  refine E_local K n_operand (by rfl) (by first | rfl | assumption) ?_ (by rfl)
  refine E_int ?_
  refine o_item_tup (by decide) (by decide) (by first | rfl | assumption) ?_ (fun _ _ => rfl)
  refine E_str ?_
  refine o_eq hA (by omega) (by rfl) (by rfl) ?_
  rw [lit_ch cp "y" .y rfl]
  refine ⟨_, rfl, ?_⟩
  refine ite_b (fun cy => ?_) (fun cy => ?_)
  · skip
    have cy := of_decide_eq_true cy
    subst cy
    refine seq ?_
    refine S_return ?_
    refine E_cmp ?_ (by rfl)
    refine E_local K n_real (by rfl) (by first | rfl | assumption) ?_ (by rfl)
    refine E_local K n_operand (by rfl) (by first | rfl | assumption) ?_ (by rfl)
    refine o_eq hA (by omega) (Pt.ok _) (Pt.ok _) ?_
    rw [pt_eq]
    refine After.ret ?_
    refine After.ret ?_
    refine Back.ret ?_
    exact ⟨H, Sub.refl _, by simpa [sameWrite] using h⟩
  · skip
    have cy := of_decide_eq_false cy
    refine S_nil ?_
    refine After.next ?_
    refine seq ?_
    refine S_if ?_
    refine B_cmp ?_ (by rfl)
    refine E_sub ?_
    refine E_local K n_operand (by rfl) (by first | rfl | assumption) ?_ (by rfl)
    refine E_int ?_
    refine o_item_tup (by decide) (by decide) (by first | rfl | assumption) ?_ (fun _ _ => rfl)
    refine E_str ?_
    refine o_eq hA (by omega) (by rfl) (by rfl) ?_
    rw [lit_ch cp "a" .a rfl]
    refine ⟨_, rfl, ?_⟩
    refine ite_b (fun ca => ?_) (fun ca => ?_)
    · skip
      have ca := of_decide_eq_true ca
      subst ca
      refine seq ?_
      refine S_return ?_
      refine E_cmp ?_ (by rfl)
      refine E_local K n_real (by rfl) (by first | rfl | assumption) ?_ (by rfl)
      refine E_tuple ?_
      refine L_cons ?_ (by rfl)
      refine E_str ?_
      refine L_cons ?_ (by rfl)
      refine E_sub ?_
      refine E_local K n_operand (by rfl) (by first | rfl | assumption) ?_ (by rfl)
      refine E_int ?_
      refine o_item_tup (by decide) (by decide) (by first | rfl | assumption) ?_ (fun _ _ => rfl)
      refine L_nil ?_
      refine ⟨Nat.le_of_ble_eq_true rfl, ?_⟩
      refine o_eq hA (by omega) (Pt.ok _) (by rfl) ?_
      rw [pt_lit]
      refine After.ret ?_
      refine After.ret ?_
      refine Back.ret ?_
      exact ⟨H, Sub.refl _, by simpa [sameWrite] using h⟩
    · skip
      have ca := of_decide_eq_false ca
      obtain rfl : cp = .t := by rcases hcp with h | h | h <;> first | exact h | exact absurd h ca | exact absurd h cy
      obtain ⟨m, rfl⟩ := hxq cy
      refine S_nil ?_
      refine After.next ?_
      refine seq ?_
      refine S_return ?_
      refine E_cmp ?_ (by rfl)
      refine E_sub ?_
      refine E_local K n_real (by rfl) (by first | rfl | assumption) ?_ (by rfl)
      refine E_int ?_
      refine o_item_tup (by decide) (by decide) (by first | rfl | assumption) ?_ (fun _ _ => rfl)
      refine E_str ?_
      refine o_eq hA (by omega) (by rfl) (by rfl) ?_
      rw [lit_ch .x "x" .x rfl]
      refine After.ret ?_
      refine Back.ret ?_
      exact ⟨H, Sub.refl _, by simpa [sameWrite, Pt.is] using h⟩
theorem sp_write {n : Nat} {Hr H : AH} {s : Addr} {k : Ck} {cp : Ch} {np v : Int} {q : Pt} {Q : V → AH → Prop} (E : CkAt Hr H s k) (hsm : k.small 1000) (hcp : cp = .t ∨ cp = .a ∨ cp = .y) (hxq : ¬ cp = .y → ∃ m, q = .op .x m) (h : ∀ H', CkAt Hr H' s (writeP k (.op cp np) q v) → Q .none H') : FnSpec c (n + 12) 70 [.ref s, (Pt.op cp np).v, q.v, .int v] Q H := by
  obtain ⟨dx, d1, d2, d3, d4, e1, e2, e3, e4, E⟩ := E
  have hs := E.hs
  have hx := E.hx
  have h1 := E.h1
  have h2 := E.h2
  have h3 := E.h3
  have h4 := E.h4
  refine fn_enter (ks := ks_write) (by rw [hK]; rfl) (by rw [hK]; kernel_rfl) (KOk.of rfl (by kernel_rfl)) [Str.ofString "self", Str.ofString "operand", Str.ofString "real", Str.ofString "value"] [215692019, 443610501314671, 228094706, 27359129846] (all4 fun v0 v1 v2 v3 => rfl) (by kernel_rfl) (by decide) (by rfl) (by decide) rfl rfl rfl (fun A L env hA K => ?_)
  refine seq ?_
  refine S_if ?_
  refine B_cmp ?_ (by rfl)
  refine E_sub ?_
  refine E_local K n_operand (by rfl) (by first | rfl | assumption) ?_ (by rfl)
  refine E_int ?_
  refine o_item_tup (by decide) (by decide) (by first | rfl | assumption) ?_ (fun _ _ => rfl)
  refine E_str ?_
  refine o_eq hA (by omega) (by rfl) (by rfl) ?_
  rw [lit_ch cp "y" .y rfl]
  refine ⟨_, rfl, ?_⟩
  refine ite_b (fun cy => ?_) (fun cy => ?_)
  · skip
    have cy := of_decide_eq_true cy
    subst cy
    refine seq ?_
    refine S_return0 ?_
    refine After.ret ?_
    refine After.ret ?_
    refine Back.ret ?_
    exact ⟨H, Sub.refl _, h H ⟨dx, d1, d2, d3, d4, e1, e2, e3, e4, E⟩⟩
  · skip
    have cy := of_decide_eq_false cy
    obtain ⟨m, rfl⟩ := hxq cy
    refine S_nil ?_
    refine After.next ?_
    refine seq ?_
    refine S_assign_sub ?_ (by rfl)
    refine E_local K n_value (by rfl) (by first | rfl | assumption) ?_ (by rfl)
    refine E_attr n_held ?_
    refine E_local K n_self (by rfl) (by first | rfl | assumption) ?_ (by rfl)
    refine ⟨_, _, _, _, _, rfl, hs, hx, at_held hK, by rfl, ?_⟩
    refine E_sub ?_
    refine E_local K n_real (by rfl) (by first | rfl | assumption) ?_ (by rfl)
    refine E_int ?_
    refine o_item_tup (by decide) (by decide) (by first | rfl | assumption) ?_ (fun _ _ => rfl)
    refine s_dI h2 (by rw [dm_len]; exact hsm.2.1) (fun ep => ?_)
    rw [iput_rel]
    have E2 := E.set2 ep (iput k.held m v)
    refine After.next ?_
    refine seq ?_
    refine S_if ?_
    refine B_cmp ?_ (by rfl)
    refine E_sub ?_
    refine E_local K n_operand (by rfl) (by first | rfl | assumption) ?_ (by rfl)
    refine E_int ?_
    refine o_item_tup (by decide) (by decide) (by first | rfl | assumption) ?_ (fun _ _ => rfl)
    refine E_str ?_
    refine o_eq hA (by omega) (by rfl) (by rfl) ?_
    rw [lit_ch cp "t" .t rfl]
    refine ⟨_, rfl, ?_⟩
    refine ite_b (fun ct => ?_) (fun ct => ?_)
    · skip
      have ct := of_decide_eq_true ct
      subst ct
      refine seq ?_
      refine S_assign_sub ?_ (by rfl)
      refine E_local K n_value (by rfl) (by first | rfl | assumption) ?_ (by rfl)
      refine E_attr n_value_of ?_
      refine E_local K n_self (by rfl) (by first | rfl | assumption) ?_ (by rfl)
      refine ⟨_, _, _, _, _, rfl, E2.hs, E2.hx, at_value_of hK, by rfl, ?_⟩
      refine E_sub ?_
      refine E_local K n_operand (by rfl) (by first | rfl | assumption) ?_ (by rfl)
      refine E_int ?_
      refine o_item_tup (by decide) (by decide) (by first | rfl | assumption) ?_ (fun _ _ => rfl)
      refine s_dI E2.h1 (by rw [dm_len]; exact hsm.1) (fun ep2 => ?_)
      rw [iput_rel]
      have E3 := E2.set1 ep2 (iput k.vo np v)
      refine After.next ?_
      refine S_nil ?_
      refine After.next ?_
      refine S_nil ?_
      refine Back.next ?_
      exact ⟨_, Sub.refl _, h _ ⟨dx, d1, d2, d3, d4, _, _, _, _, E3⟩⟩
    · skip
      have ct := of_decide_eq_false ct
      obtain rfl : cp = .a := by rcases hcp with h | h | h <;> first | exact h | exact absurd h ct | exact absurd h cy
      refine seq ?_
      refine S_assign_sub ?_ (by rfl)
      refine E_local K n_value (by rfl) (by first | rfl | assumption) ?_ (by rfl)
      refine E_attr n_outgoing ?_
      refine E_local K n_self (by rfl) (by first | rfl | assumption) ?_ (by rfl)
      refine ⟨_, _, _, _, _, rfl, E2.hs, E2.hx, at_outgoing hK, by rfl, ?_⟩
      refine E_sub ?_
      refine E_local K n_operand (by rfl) (by first | rfl | assumption) ?_ (by rfl)
      refine E_int ?_
      refine o_item_tup (by decide) (by decide) (by first | rfl | assumption) ?_ (fun _ _ => rfl)
      refine s_dI E2.h4 (by rw [dm_len]; exact hsm.2.2.2) (fun ep2 => ?_)
      rw [iput_rel]
      have E3 := E2.set4 ep2 (iput k.out np v)
      refine After.next ?_
      refine S_nil ?_
      refine After.next ?_
      refine S_nil ?_
      refine Back.next ?_
      exact ⟨_, Sub.refl _, h _ ⟨dx, d1, d2, d3, d4, _, _, _, _, E3⟩⟩
end
end Mine
namespace Mine
theorem rv_get {l : List (Int × Pt)} {j : Nat} {x : Int × Pt} (h : l[j]? = some x) : (l.map rv)[((j : Nat) : Int).toNat]? = some (rv x) := by
  rw [Int.toNat_natCast, List.getElem?_map, h]; rfl
theorem zip_get {α β : Type} {l : List α} {m : List β} {j : Nat} {x : α} {y : β} (h1 : l[j]? = some x) (h2 : m[j]? = some y) : (l.zip m)[j]? = some (x, y) := List.getElem?_zip_eq_some.mpr ⟨h1, h2⟩
noncomputable def rolesFit (l m : List (Int × Pt)) : Prop := l.length = m.length ∧ l.length ≤ 2 ∧ ∀ (j : Nat) (x y : Int × Pt), l[j]? = some x → m[j]? = some y → y.1 = x.1 ∧ ∃ ch n, x.2 = .op ch n ∧ (ch = .t ∨ ch = .a ∨ ch = .y) ∧ y.2.isOp = true ∧ (¬ ch = .y → ∃ m, y.2 = .op .x m)
theorem fit1 {i : Int} {ch : Ch} {n : Int} {o : Pt} (hc : ch = .t ∨ ch = .a ∨ ch = .y) (h : samePt (.op ch n) o = true) : o.isOp = true ∧ (¬ ch = .y → ∃ m, o = .op .x m) := by
  unfold samePt at h
  rcases hc with rfl | rfl | rfl
  · cases o with
    | op c2 n2 => simp [Pt.is] at h; subst h; exact ⟨rfl, fun _ => ⟨_, rfl⟩⟩
    | num i => simp [Pt.is] at h
    | pr i j => simp [Pt.is] at h
  · cases o with
    | op c2 n2 => simp [Pt.is] at h; subst h; exact ⟨rfl, fun _ => ⟨_, rfl⟩⟩
    | num i => simp [Pt.is] at h
    | pr i j => simp [Pt.is] at h
  · simp [Pt.is] at h; subst h; exact ⟨rfl, fun h => absurd rfl h⟩
theorem dOk_op {d : Dd} {p : Pt} (h : dOk d p = true) (hd : d ≠ .dot) : ∃ ch n, p = .op ch n ∧ (ch = .t ∨ ch = .a ∨ ch = .y) := by
  cases p with
  | op c2 n => refine ⟨c2, n, rfl, ?_⟩; cases d <;> cases c2 <;> simp_all [dOk]
  | num i => cases d <;> simp_all [dOk]
  | pr i j => cases d <;> simp_all [dOk]
theorem rowOk_ops {r : Rw} (h : rowOk r = true) : opsOk r := by
  unfold rowOk at h
  rw [Bool.and_eq_true] at h
  refine ⟨of_decide_eq_true h.1, fun d p hm hd => ?_⟩
  obtain ⟨ch, n, rfl, _⟩ := dOk_op (List.all_eq_true.mp h.2 (d, p) hm) hd
  rfl
theorem roles_fit {r q : Rw} (h : rowOk r = true) (hs : sameShape r q = true) : rolesFit (roles r.nm r.ps) (roles q.nm q.ps) := by
  obtain ⟨nm, ps⟩ := r
  obtain ⟨nm', qs⟩ := q
  unfold sameShape at hs
  simp only [Bool.and_eq_true] at hs
  obtain ⟨h1, h2, h3⟩ := hs
  replace h1 : ps.length = qs.length := of_decide_eq_true h1
  replace h2 : nm = nm' := of_decide_eq_true h2
  replace h3 : ((ps.zip qs).all fun x => samePt x.1 x.2) = true := h3
  subst h2
  unfold rowOk at h
  rw [Bool.and_eq_true] at h
  obtain ⟨g1, g2⟩ := h
  replace g1 : nm.sort.length = ps.length := of_decide_eq_true g1
  replace g2 : ((nm.sort.zip ps).all fun x => dOk x.1 x.2) = true := g2
  show rolesFit (roles nm ps) (roles nm qs)
  have one : ∀ (i : Int) (p o : Pt) (d : Dd), d ≠ .dot → dOk d p = true → samePt p o = true → rolesFit [(i, p)] [(i, o)] := fun i p o d hd k1 k2 => by
    obtain ⟨ch, n, rfl, hc⟩ := dOk_op k1 hd
    refine ⟨rfl, by simp, fun j x y e1 e2 => ?_⟩
    match j with
    | 0 => cases e1; cases e2; exact ⟨rfl, ch, n, rfl, hc, fit1 (i := i) hc k2⟩
    | j + 1 => simp at e1
  have two : ∀ (i i' : Int) (p o p' o' : Pt) (d d' : Dd), d ≠ .dot → d' ≠ .dot → dOk d p = true → samePt p o = true → dOk d' p' = true → samePt p' o' = true → rolesFit [(i, p), (i', p')] [(i, o), (i', o')] := fun i i' p o p' o' d d' hd hd' k1 k2 k3 k4 => by
    obtain ⟨ch, n, rfl, hc⟩ := dOk_op k1 hd
    obtain ⟨ch', n', rfl, hc'⟩ := dOk_op k3 hd'
    refine ⟨rfl, by simp, fun j x y e1 e2 => ?_⟩
    match j with
    | 0 => cases e1; cases e2; exact ⟨rfl, ch, n, rfl, hc, fit1 (i := i) hc k2⟩
    | 1 => cases e1; cases e2; exact ⟨rfl, ch', n', rfl, hc', fit1 (i := i) hc' k4⟩
    | j + 2 => simp at e1
  have none' : rolesFit [] [] := ⟨rfl, by decide, fun j x y e1 e2 => by simp at e1⟩
  cases nm <;>
    first
    | (obtain ⟨p, p', rfl⟩ := len2 g1.symm
       obtain ⟨o, o', rfl⟩ := len2 (l := qs) h1.symm
       simp only [Nm.sort, List.zip_cons_cons, List.zip_nil_right, List.all_cons, List.all_nil, Bool.and_eq_true] at g2 h3
       first
       | exact two _ _ _ _ _ _ _ _ (by decide) (by decide) g2.1 h3.1 g2.2.1 h3.2.1
       | exact two _ _ _ _ _ _ _ _ (by decide) (by decide) g2.2.1 h3.2.1 g2.1 h3.1
       | exact one _ _ _ _ (by decide) g2.2.1 h3.2.1
       | exact none')
    | (obtain ⟨p, rfl⟩ := len1 g1.symm
       obtain ⟨o, rfl⟩ := len1 (l := qs) h1.symm
       simp only [Nm.sort, List.zip_cons_cons, List.zip_nil_right, List.all_cons, List.all_nil, Bool.and_eq_true] at g2 h3
       first
       | exact one _ _ _ _ (by decide) g2.1 h3.1
       | exact none')
section
variable {c : Cx} (hK : c.K = hd.heap_1 c.w.params)
include hK
theorem sp_copied {n : Nat} {Hr H : AH} {s : Addr} {k : Ck} {r : Rw} {Q : V → AH → Prop} (E : CkAt Hr H s k) (hr : opsOk r) (h : Q (.int (copied k r)) H) : FnSpec c (n + 12) 77 [.ref s, r.v] Q H := by
  obtain ⟨dx, d1, d2, d3, d4, e1, e2, e3, e4, E⟩ := E
  have hs := E.hs
  have hx := E.hx
  have h1 := E.h1
  have h2 := E.h2
  have h3 := E.h3
  have h4 := E.h4
  refine fn_enter (ks := ks_copied_value) (by rw [hK]; rfl) (by rw [hK]; kernel_rfl) (KOk.of rfl (by kernel_rfl)) [Str.ofString "self", Str.ofString "instruction"] [215692019, 130896504364032243595113] (all2 fun v0 v1 => rfl) (by kernel_rfl) (by decide) (by rfl) (by decide) rfl rfl rfl (fun A L env hA K => ?_)
  refine seq ?_
  refine S_assign K n_name (by rfl) ?_ (by rfl)
  refine E_sub ?_
  refine E_local K n_instruction (by rfl) (by first | rfl | assumption) ?_ (by rfl)
  refine E_int ?_
  refine o_item_tup (by decide) (by decide) (by first | rfl | assumption) ?_ (fun _ _ => rfl)
  refine After.next ?_
  refine seq ?_
  refine S_if ?_
  refine B_cmp ?_ (by rfl)
  refine E_local K n_name (by rfl) (by first | rfl | assumption) ?_ (by rfl)
  refine E_str ?_
  refine o_eq hA (by omega) (by rfl) (by rfl) ?_
  rw [show ("get_variable" : String) = Nm.get_variable.s from rfl, nm_eq]
  refine ⟨_, rfl, ?_⟩
  refine ite_b (fun g1 => ?_) (fun g1 => ?_)
  · skip
    obtain ⟨c1, n1, ch, nn, rfl⟩ := gv_shape hr (of_decide_eq_true g1)
    refine seq ?_
    refine S_assign K n_source (by rfl) ?_ (by rfl)
    refine E_sub ?_
    refine E_local K n_instruction (by rfl) (by first | rfl | assumption) ?_ (by rfl)
    refine E_int ?_
    refine o_item_tup (x := Pt.v (.op ch nn)) (by decide) (by decide) (by rfl) ?_ (fun _ _ => rfl)
    refine After.next ?_
    refine S_nil ?_
    refine After.next ?_
    refine seq ?_
    refine S_if ?_
    refine B_cmp ?_ (by rfl)
    refine E_sub ?_
    refine E_local K n_source (by rfl) (by first | rfl | assumption) ?_ (by rfl)
    refine E_int ?_
    refine o_item_tup (by decide) (by decide) (by first | rfl | assumption) ?_ (fun _ _ => rfl)
    refine E_str ?_
    refine o_eq hA (by omega) (by rfl) (by rfl) ?_
    rw [lit_ch ch "t" .t rfl]
    refine ⟨_, rfl, ?_⟩
    refine ite_b (fun ct => ?_) (fun ct => ?_)
    · skip
      have ct := of_decide_eq_true ct
      subst ct
      refine seq ?_
      refine S_return ?_
      refine E_get2 ?_ (by rfl) (by rfl)
      refine E_attr n_value_of ?_
      refine E_local K n_self (by rfl) (by first | rfl | assumption) ?_ (by rfl)
      refine ⟨_, _, _, _, _, rfl, E.hs, E.hx, at_value_of hK, by rfl, ?_⟩
      refine ⟨_, rfl, ⟨_, _, h1⟩, ?_⟩
      refine E_sub ?_
      refine E_local K n_source (by rfl) (by first | rfl | assumption) ?_ (by rfl)
      refine E_int ?_
      refine o_item_tup (by decide) (by decide) (by first | rfl | assumption) ?_ (fun _ _ => rfl)
      refine E_int ?_
      refine ⟨_, _, _, rfl, h1, ?_⟩
      rw [iget_rel]
      refine After.ret ?_
      refine After.ret ?_
      refine Back.ret ?_
      exact ⟨H, Sub.refl _, h⟩
    · skip
      refine S_nil ?_
      refine After.next ?_
      refine seq ?_
      refine S_if ?_
      refine B_cmp ?_ (by rfl)
      refine E_sub ?_
      refine E_local K n_source (by rfl) (by first | rfl | assumption) ?_ (by rfl)
      refine E_int ?_
      refine o_item_tup (by decide) (by decide) (by first | rfl | assumption) ?_ (fun _ _ => rfl)
      refine E_str ?_
      refine o_eq hA (by omega) (by rfl) (by rfl) ?_
      rw [lit_ch ch "a" .a rfl]
      refine ⟨_, rfl, ?_⟩
      refine ite_b (fun ca => ?_) (fun ca => ?_)
      · skip
        have ca := of_decide_eq_true ca
        subst ca
        refine seq ?_
        refine S_return ?_
        refine E_get2 ?_ (by rfl) (by rfl)
        refine E_attr n_incoming ?_
        refine E_local K n_self (by rfl) (by first | rfl | assumption) ?_ (by rfl)
        refine ⟨_, _, _, _, _, rfl, E.hs, E.hx, at_incoming hK, by rfl, ?_⟩
        refine ⟨_, rfl, ⟨_, _, h3⟩, ?_⟩
        refine E_sub ?_
        refine E_local K n_source (by rfl) (by first | rfl | assumption) ?_ (by rfl)
        refine E_int ?_
        refine o_item_tup (by decide) (by decide) (by first | rfl | assumption) ?_ (fun _ _ => rfl)
        refine E_int ?_
        refine ⟨_, _, _, rfl, h3, ?_⟩
        rw [iget_rel]
        refine After.ret ?_
        refine After.ret ?_
        refine Back.ret ?_
        exact ⟨H, Sub.refl _, h⟩
      · skip
        refine S_nil ?_
        refine After.next ?_
        refine seq ?_
        refine S_return ?_
        refine E_int ?_
        refine After.ret ?_
        refine Back.ret ?_
        exact ⟨H, Sub.refl _, by rw [show copied k _ = 0 by cases ch <;> first | rfl | exact absurd ct (by decide) | exact absurd ca (by decide)] at h; exact h⟩
  · skip
    refine seq ?_
    refine S_if ?_
    refine B_cmp ?_ (by rfl)
    refine E_local K n_name (by rfl) (by first | rfl | assumption) ?_ (by rfl)
    refine E_str ?_
    refine o_eq hA (by omega) (by rfl) (by rfl) ?_
    rw [show ("put_value" : String) = Nm.put_value.s from rfl, nm_eq]
    refine ⟨_, rfl, ?_⟩
    refine ite_b (fun g2 => ?_) (fun g2 => ?_)
    · skip
      obtain ⟨ch, nn, c2, n2, rfl⟩ := pv_shape hr (of_decide_eq_true g2)
      refine seq ?_
      refine S_assign K n_source (by rfl) ?_ (by rfl)
      refine E_sub ?_
      refine E_local K n_instruction (by rfl) (by first | rfl | assumption) ?_ (by rfl)
      refine E_int ?_
      refine o_item_tup (x := Pt.v (.op ch nn)) (by decide) (by decide) (by rfl) ?_ (fun _ _ => rfl)
      refine After.next ?_
      refine S_nil ?_
      refine After.next ?_
      refine S_nil ?_
      refine After.next ?_
      refine seq ?_
      refine S_if ?_
      refine B_cmp ?_ (by rfl)
      refine E_sub ?_
      refine E_local K n_source (by rfl) (by first | rfl | assumption) ?_ (by rfl)
      refine E_int ?_
      refine o_item_tup (by decide) (by decide) (by first | rfl | assumption) ?_ (fun _ _ => rfl)
      refine E_str ?_
      refine o_eq hA (by omega) (by rfl) (by rfl) ?_
      rw [lit_ch ch "t" .t rfl]
      refine ⟨_, rfl, ?_⟩
      refine ite_b (fun ct => ?_) (fun ct => ?_)
      · skip
        have ct := of_decide_eq_true ct
        subst ct
        refine seq ?_
        refine S_return ?_
        refine E_get2 ?_ (by rfl) (by rfl)
        refine E_attr n_value_of ?_
        refine E_local K n_self (by rfl) (by first | rfl | assumption) ?_ (by rfl)
        refine ⟨_, _, _, _, _, rfl, E.hs, E.hx, at_value_of hK, by rfl, ?_⟩
        refine ⟨_, rfl, ⟨_, _, h1⟩, ?_⟩
        refine E_sub ?_
        refine E_local K n_source (by rfl) (by first | rfl | assumption) ?_ (by rfl)
        refine E_int ?_
        refine o_item_tup (by decide) (by decide) (by first | rfl | assumption) ?_ (fun _ _ => rfl)
        refine E_int ?_
        refine ⟨_, _, _, rfl, h1, ?_⟩
        rw [iget_rel]
        refine After.ret ?_
        refine After.ret ?_
        refine Back.ret ?_
        exact ⟨H, Sub.refl _, h⟩
      · skip
        refine S_nil ?_
        refine After.next ?_
        refine seq ?_
        refine S_if ?_
        refine B_cmp ?_ (by rfl)
        refine E_sub ?_
        refine E_local K n_source (by rfl) (by first | rfl | assumption) ?_ (by rfl)
        refine E_int ?_
        refine o_item_tup (by decide) (by decide) (by first | rfl | assumption) ?_ (fun _ _ => rfl)
        refine E_str ?_
        refine o_eq hA (by omega) (by rfl) (by rfl) ?_
        rw [lit_ch ch "a" .a rfl]
        refine ⟨_, rfl, ?_⟩
        refine ite_b (fun ca => ?_) (fun ca => ?_)
        · skip
          have ca := of_decide_eq_true ca
          subst ca
          refine seq ?_
          refine S_return ?_
          refine E_get2 ?_ (by rfl) (by rfl)
          refine E_attr n_incoming ?_
          refine E_local K n_self (by rfl) (by first | rfl | assumption) ?_ (by rfl)
          refine ⟨_, _, _, _, _, rfl, E.hs, E.hx, at_incoming hK, by rfl, ?_⟩
          refine ⟨_, rfl, ⟨_, _, h3⟩, ?_⟩
          refine E_sub ?_
          refine E_local K n_source (by rfl) (by first | rfl | assumption) ?_ (by rfl)
          refine E_int ?_
          refine o_item_tup (by decide) (by decide) (by first | rfl | assumption) ?_ (fun _ _ => rfl)
          refine E_int ?_
          refine ⟨_, _, _, rfl, h3, ?_⟩
          rw [iget_rel]
          refine After.ret ?_
          refine After.ret ?_
          refine Back.ret ?_
          exact ⟨H, Sub.refl _, h⟩
        · skip
          refine S_nil ?_
          refine After.next ?_
          refine seq ?_
          refine S_return ?_
          refine E_int ?_
          refine After.ret ?_
          refine Back.ret ?_
          exact ⟨H, Sub.refl _, by rw [show copied k _ = 0 by cases ch <;> first | rfl | exact absurd ct (by decide) | exact absurd ca (by decide)] at h; exact h⟩
    · skip
      refine seq ?_
      refine S_return ?_
      refine E_int ?_
      refine After.ret ?_
      refine After.ret ?_
      refine After.ret ?_
      refine Back.ret ?_
      exact ⟨H, Sub.refl _, by rw [show copied k r = 0 by obtain ⟨nm, ps⟩ := r; cases nm <;> first | rfl | exact absurd rfl (of_decide_eq_false g1) | exact absurd rfl (of_decide_eq_false g2)] at h; exact h⟩
set_option maxHeartbeats 2000000 in
theorem sp_same_shape {n : Nat} {H : AH} {s : Addr} {r q : Rw} {Q : V → AH → Prop} (hlr : r.ps.length ≤ 100) (hlq : q.ps.length ≤ 100) (h : Q (.bool (sameShape r q)) H) : FnSpec c (n + 12) 84 [.ref s, r.v, q.v] Q H := by
  refine fn_enter (ks := ks_same_shape) (by rw [hK]; rfl) (by rw [hK]; kernel_rfl) (KOk.of rfl (by kernel_rfl)) [Str.ofString "self", Str.ofString "instruction", Str.ofString "real"] [215692019, 130896504364032243595113, 228094706] (all3 fun v0 v1 v2 => rfl) (by kernel_rfl) (by decide) (by rfl) (by decide) rfl rfl rfl (fun A L env hA K => ?_)
  refine seq ?_
  refine S_if ?_
  refine B_pure (!decide (r.ps.length = q.ps.length) || !decide (r.nm = q.nm)) ?_ ?_
  · skip
    refine B_or ?_
    refine A_or_cons ?_
    refine B_cmp ?_ (by rfl)
    refine E_callb K n_len (by rfl) (gl_len hK) boot_len nn_len (by rfl) (fun _ h => nomatch h) ?_ (by rfl) (by rfl)
    refine L_cons ?_ (by rfl)
    refine E_local K n_instruction (by rfl) (by first | rfl | assumption) ?_ (by rfl)
    refine L_nil ?_
    refine b_len_tup (l := V.str r.nm.s :: r.ps.map Pt.v) (by simp only [List.length_cons, List.length_map]; omega) ?_
    rw [show ((V.str r.nm.s :: r.ps.map Pt.v).length : Int) = (r.ps.length : Int) + 1 by simp]
    refine E_callb K n_len (by rfl) (gl_len hK) boot_len nn_len (by rfl) (fun _ h => nomatch h) ?_ (by rfl) (by rfl)
    refine L_cons ?_ (by rfl)
    refine E_local K n_real (by rfl) (by first | rfl | assumption) ?_ (by rfl)
    refine L_nil ?_
    refine b_len_tup (l := V.str q.nm.s :: q.ps.map Pt.v) (by simp only [List.length_cons, List.length_map]; omega) ?_
    rw [show ((V.str q.nm.s :: q.ps.map Pt.v).length : Int) = (q.ps.length : Int) + 1 by simp]
    refine o_ne hA (by omega) (by rfl) (by rfl) ?_
    rw [V.eq_int, show decide ((r.ps.length : Int) + 1 = (q.ps.length : Int) + 1) = decide (r.ps.length = q.ps.length) from decide_eq_decide.mpr ⟨fun h => by omega, fun h => by omega⟩]
    refine ⟨_, rfl, ?_⟩
    refine ite_b (fun q0 => ?_) (fun q0 => ?_)
    · skip
      exact ⟨by rw [q0]; rfl, rfl⟩
    · skip
      refine A_or_cons ?_
      refine B_cmp ?_ (by rfl)
      refine E_sub ?_
      refine E_local K n_instruction (by rfl) (by first | rfl | assumption) ?_ (by rfl)
      refine E_int ?_
      refine o_item_tup (by decide) (by decide) (by first | rfl | assumption) ?_ (fun _ _ => rfl)
      refine E_sub ?_
      refine E_local K n_real (by rfl) (by first | rfl | assumption) ?_ (by rfl)
      refine E_int ?_
      refine o_item_tup (by decide) (by decide) (by first | rfl | assumption) ?_ (fun _ _ => rfl)
      refine o_ne hA (by omega) (by rfl) (by rfl) ?_
      rw [nm_eq]
      refine ⟨_, rfl, ?_⟩
      refine ite_b (fun q1 => ?_) (fun q1 => ?_)
      · skip
        exact ⟨by rw [q0, q1]; rfl, rfl⟩
      · skip
        refine A_or_nil ?_
        exact ⟨by rw [q0, q1]; rfl, rfl⟩
  refine ite_b (fun g0 => ?_) (fun g0 => ?_)
  · skip
    have hF : sameShape r q = false := by
      unfold sameShape
      rcases (Bool.or_eq_true _ _).mp g0 with z | z <;> simp at z <;> simp [z]
    refine seq ?_
    refine S_return ?_
    refine E_bool ?_
    refine After.ret ?_
    refine After.ret ?_
    refine Back.ret ?_
    exact ⟨H, Sub.refl _, by rw [hF] at h; exact h⟩
  · skip
    have hl : r.ps.length = q.ps.length := by simpa using (Bool.or_eq_false_iff.mp g0).1
    have hn : r.nm = q.nm := by simpa using (Bool.or_eq_false_iff.mp g0).2
    have hE : sameShape r q = (r.ps.zip q.ps).all fun x => samePt x.1 x.2 := by simp [sameShape, hl, hn]
    refine S_nil ?_
    refine After.next ?_
    refine seq ?_
    refine S_assign K n_at (by rfl) ?_ (by rfl)
    refine E_int ?_
    refine After.next ?_
    refine seq ?_
    refine S_while' (σ := Nat) (fun m j => m = r.ps.length - j ∧ j ≤ r.ps.length ∧ ((r.ps.zip q.ps).take j).all (fun x => samePt x.1 x.2) = true) (fun j => [(14945, .int ((j + 1 : Nat) : Int)), (215692019, .ref s), (130896504364032243595113, r.v), (228094706, q.v)]) (fun _ => H) r.ps.length 0 ⟨rfl, Nat.zero_le _, rfl⟩ (LSub.refl _) (Sub.refl _) (fun m j hJ => ?_)
    obtain ⟨rfl, hj, hall⟩ := hJ
    refine B_cmp ?_ (by rfl)
    refine E_local K n_at (by rfl) (by first | rfl | assumption) ?_ (by rfl)
    refine E_callb K n_len (by rfl) (gl_len hK) boot_len nn_len (by rfl) (fun _ h => nomatch h) ?_ (by rfl) (by rfl)
    refine L_cons ?_ (by rfl)
    refine E_local K n_instruction (by rfl) (by first | rfl | assumption) ?_ (by rfl)
    refine L_nil ?_
    refine b_len_tup (l := V.str r.nm.s :: r.ps.map Pt.v) (by simp only [List.length_cons, List.length_map]; omega) ?_
    rw [show ((V.str r.nm.s :: r.ps.map Pt.v).length : Int) = (r.ps.length : Int) + 1 by simp]
    refine o_lt ?_
    refine ⟨_, rfl, ?_⟩
    refine ite_b (fun hw => ?_) (fun hw => ?_)
    · skip
      have hj' : j < r.ps.length := by have := of_decide_eq_true hw; omega
      obtain ⟨p, hp⟩ : ∃ p, r.ps[j]? = some p := ⟨_, List.getElem?_eq_getElem hj'⟩
      obtain ⟨o, hq⟩ : ∃ o, q.ps[j]? = some o := ⟨_, List.getElem?_eq_getElem (by omega)⟩
      have hz := zip_get hp hq
      refine WS.gen fun Qg1 hg1 => ?_
      refine seq ?_
      refine S_assign K n_part (by rfl) ?_ (by rfl)
      refine E_sub ?_
      refine E_local K n_instruction (by rfl) (by first | rfl | assumption) ?_ (by rfl)
      refine E_local K n_at (by rfl) (by first | rfl | assumption) ?_ (by rfl)
      refine o_item_tup (by omega) (by omega) (row_part hp) ?_ (fun _ _ => rfl)
      refine After.next ?_
      refine seq ?_
      refine S_if ?_
      refine B_pure (p.is .t || p.is .a) ?_ ?_
      · skip
        refine B_and ?_
        refine A_and_cons ?_
        cases p with
        | op cp np =>
          refine B_val ?_ (by rfl)
          refine E_callb K n_isinstance (by rfl) (gl_isinstance hK) boot_isinstance nn_isinstance (by rfl) (fun _ h => nomatch h) ?_ (by rfl) (by rfl)
          refine L_cons ?_ (by rfl)
          refine E_local K n_part (by rfl) (by first | rfl | assumption) ?_ (by rfl)
          refine L_cons ?_ (by rfl)
          refine E_ty K n_tuple (by rfl) (gl_tuple hK) boot_tuple nn_tuple (by rfl) ?_
          refine L_nil ?_
          refine b_isi_tup ?_
          refine ⟨_, rfl, ?_⟩
          refine ite_t ?_
          refine A_and_cons ?_
          refine B_or ?_
          refine A_or_cons ?_
          refine B_cmp ?_ (by rfl)
          refine E_sub ?_
          refine E_local K n_part (by rfl) (by first | rfl | assumption) ?_ (by rfl)
          refine E_int ?_
          refine o_item_tup (by decide) (by decide) (by first | rfl | assumption) ?_ (fun _ _ => rfl)
          refine E_str ?_
          refine o_eq hA (by omega) (by rfl) (by rfl) ?_
          rw [lit_ch cp "t" .t rfl]
          refine ⟨_, rfl, ?_⟩
          refine ite_b (fun b1 => ?_) (fun b1 => ?_)
          · refine ite_t ?_
            refine A_and_nil ⟨?_, rfl⟩
            have := of_decide_eq_true b1; subst this; rfl
          · refine A_or_cons ?_
            refine B_cmp ?_ (by rfl)
            refine E_sub ?_
            refine E_local K n_part (by rfl) (by first | rfl | assumption) ?_ (by rfl)
            refine E_int ?_
            refine o_item_tup (by decide) (by decide) (by first | rfl | assumption) ?_ (fun _ _ => rfl)
            refine E_str ?_
            refine o_eq hA (by omega) (by rfl) (by rfl) ?_
            rw [lit_ch cp "a" .a rfl]
            refine ⟨_, rfl, ?_⟩
            refine ite_b (fun b2 => ?_) (fun b2 => ?_)
            · refine ite_t ?_
              refine A_and_nil ⟨?_, rfl⟩
              have := of_decide_eq_true b2; subst this; rfl
            · refine A_or_nil ?_
              refine ite_f ⟨?_, rfl⟩
              have k1 := of_decide_eq_false b1
              have k2 := of_decide_eq_false b2
              simp [Pt.is, k1, k2]
        | num i =>
          refine B_val ?_ (by rfl)
          refine E_callb K n_isinstance (by rfl) (gl_isinstance hK) boot_isinstance nn_isinstance (by rfl) (fun _ h => nomatch h) ?_ (by rfl) (by rfl)
          refine L_cons ?_ (by rfl)
          refine E_local K n_part (by rfl) (by first | rfl | assumption) ?_ (by rfl)
          refine L_cons ?_ (by rfl)
          refine E_ty K n_tuple (by rfl) (gl_tuple hK) boot_tuple nn_tuple (by rfl) ?_
          refine L_nil ?_
          refine b_isi_int ?_
          refine ⟨_, rfl, ?_⟩
          exact ite_f ⟨rfl, rfl⟩
        | pr i i2 =>
          refine B_val ?_ (by rfl)
          refine E_callb K n_isinstance (by rfl) (gl_isinstance hK) boot_isinstance nn_isinstance (by rfl) (fun _ h => nomatch h) ?_ (by rfl) (by rfl)
          refine L_cons ?_ (by rfl)
          refine E_local K n_part (by rfl) (by first | rfl | assumption) ?_ (by rfl)
          refine L_cons ?_ (by rfl)
          refine E_ty K n_tuple (by rfl) (gl_tuple hK) boot_tuple nn_tuple (by rfl) ?_
          refine L_nil ?_
          refine b_isi_tup ?_
          refine ⟨_, rfl, ?_⟩
          refine ite_t ?_
          refine A_and_cons ?_
          refine B_or ?_
          refine A_or_cons ?_
          refine B_cmp ?_ (by rfl)
          refine E_sub ?_
          refine E_local K n_part (by rfl) (by first | rfl | assumption) ?_ (by rfl)
          refine E_int ?_
          refine o_item_tup (by decide) (by decide) (by first | rfl | assumption) ?_ (fun _ _ => rfl)
          refine E_str ?_
          refine o_eq hA (by omega) (by rfl) (by rfl) ?_
          rw [V.eq_int_str]
          refine ⟨_, rfl, ?_⟩
          refine ite_f ?_
          refine A_or_cons ?_
          refine B_cmp ?_ (by rfl)
          refine E_sub ?_
          refine E_local K n_part (by rfl) (by first | rfl | assumption) ?_ (by rfl)
          refine E_int ?_
          refine o_item_tup (by decide) (by decide) (by first | rfl | assumption) ?_ (fun _ _ => rfl)
          refine E_str ?_
          refine o_eq hA (by omega) (by rfl) (by rfl) ?_
          rw [V.eq_int_str]
          refine ⟨_, rfl, ?_⟩
          refine ite_f ?_
          refine A_or_nil ?_
          exact ite_f ⟨rfl, rfl⟩
      refine ite_b (fun gp => ?_) (fun gp => ?_)
      · skip
        have gp' : p.is .t = true ∨ p.is .a = true := by simpa using gp
        refine seq ?_
        refine S_assign K n_other (by rfl) ?_ (by rfl)
        refine E_sub ?_
        refine E_local K n_real (by rfl) (by first | rfl | assumption) ?_ (by rfl)
        refine E_local K n_at (by rfl) (by first | rfl | assumption) ?_ (by rfl)
        refine o_item_tup (by omega) (by omega) (row_part hq) ?_ (fun _ _ => rfl)
        refine After.next ?_
        refine seq ?_
        refine S_if ?_
        refine B_pure (!o.is .x) ?_ ?_
        · skip
          refine B_or ?_
          refine A_or_cons ?_
          cases o with
          | op co no =>
            refine B_not ?_
            refine B_val ?_ (by rfl)
            refine E_callb K n_isinstance (by rfl) (gl_isinstance hK) boot_isinstance nn_isinstance (by rfl) (fun _ h => nomatch h) ?_ (by rfl) (by rfl)
            refine L_cons ?_ (by rfl)
            refine E_local K n_other (by rfl) (by first | rfl | assumption) ?_ (by rfl)
            refine L_cons ?_ (by rfl)
            refine E_ty K n_tuple (by rfl) (gl_tuple hK) boot_tuple nn_tuple (by rfl) ?_
            refine L_nil ?_
            refine b_isi_tup ?_
            refine ⟨_, rfl, ?_⟩
            refine ite_f ?_
            refine A_or_cons ?_
            refine B_cmp ?_ (by rfl)
            refine E_sub ?_
            refine E_local K n_other (by rfl) (by first | rfl | assumption) ?_ (by rfl)
            refine E_int ?_
            refine o_item_tup (by decide) (by decide) (by first | rfl | assumption) ?_ (fun _ _ => rfl)
            refine E_str ?_
            refine o_ne hA (by omega) (by rfl) (by rfl) ?_
            rw [lit_ch co "x" .x rfl]
            refine ⟨_, rfl, ?_⟩
            refine ite_b (fun b1 => ?_) (fun b1 => ?_)
            · exact ⟨by rw [← b1]; simp [Pt.is, BEq.beq], rfl⟩
            · refine A_or_nil ⟨?_, rfl⟩
              rw [← b1]; simp [Pt.is, BEq.beq]
          | num i =>
            refine B_not ?_
            refine B_val ?_ (by rfl)
            refine E_callb K n_isinstance (by rfl) (gl_isinstance hK) boot_isinstance nn_isinstance (by rfl) (fun _ h => nomatch h) ?_ (by rfl) (by rfl)
            refine L_cons ?_ (by rfl)
            refine E_local K n_other (by rfl) (by first | rfl | assumption) ?_ (by rfl)
            refine L_cons ?_ (by rfl)
            refine E_ty K n_tuple (by rfl) (gl_tuple hK) boot_tuple nn_tuple (by rfl) ?_
            refine L_nil ?_
            refine b_isi_int ?_
            refine ⟨_, rfl, ?_⟩
            exact ite_t ⟨rfl, rfl⟩
          | pr i i2 =>
            refine B_not ?_
            refine B_val ?_ (by rfl)
            refine E_callb K n_isinstance (by rfl) (gl_isinstance hK) boot_isinstance nn_isinstance (by rfl) (fun _ h => nomatch h) ?_ (by rfl) (by rfl)
            refine L_cons ?_ (by rfl)
            refine E_local K n_other (by rfl) (by first | rfl | assumption) ?_ (by rfl)
            refine L_cons ?_ (by rfl)
            refine E_ty K n_tuple (by rfl) (gl_tuple hK) boot_tuple nn_tuple (by rfl) ?_
            refine L_nil ?_
            refine b_isi_tup ?_
            refine ⟨_, rfl, ?_⟩
            refine ite_f ?_
            refine A_or_cons ?_
            refine B_cmp ?_ (by rfl)
            refine E_sub ?_
            refine E_local K n_other (by rfl) (by first | rfl | assumption) ?_ (by rfl)
            refine E_int ?_
            refine o_item_tup (by decide) (by decide) (by first | rfl | assumption) ?_ (fun _ _ => rfl)
            refine E_str ?_
            refine o_ne hA (by omega) (by rfl) (by rfl) ?_
            rw [V.eq_int_str]
            refine ⟨_, rfl, ?_⟩
            exact ite_t ⟨rfl, rfl⟩
        refine ite_b (fun go => ?_) (fun go => ?_)
        · skip
          have hb : samePt p o = false := by unfold samePt; rw [if_pos gp']; simpa using go
          refine seq ?_
          refine S_return ?_
          refine E_bool ?_
          refine After.ret ?_
          refine After.ret ?_
          refine After.ret ?_
          refine hg1 _ _ _ (TurnEnd.ret ?_)
          refine After.ret ?_
          refine Back.ret ?_
          exact ⟨H, Sub.refl _, by rw [hE, all_bad hz hb] at h; exact h⟩
        · skip
          have hb : samePt p o = true := by unfold samePt; rw [if_pos gp']; simpa using go
          refine S_nil ?_
          refine After.next ?_
          refine S_nil ?_
          refine After.next ?_
          refine seq ?_
          refine S_aug K n_at (by rfl) (by first | rfl | assumption) ?_
          refine E_int ?_
          refine o_iadd ?_
          refine After.next ?_
          refine S_nil ?_
          refine hg1 _ _ _ (TurnEnd.next ?_)
          refine ⟨r.ps.length - (j + 1), j + 1, by omega, ⟨rfl, by omega, by rw [all_step hz, hall, hb]; rfl⟩, ?_, Sub.refl _⟩
          exact LSub.cons (by show some (V.int _) = some (V.int _); congr 2) (LSub.cons rfl (LSub.cons rfl (LSub.cons rfl LSub.nil)))
      · skip
        have gp' : ¬ (p.is .t = true ∨ p.is .a = true) := by simpa using gp
        refine seq ?_
        refine S_if ?_
        refine B_cmp ?_ (by rfl)
        refine E_local K n_part (by rfl) (by first | rfl | assumption) ?_ (by rfl)
        refine E_sub ?_
        refine E_local K n_real (by rfl) (by first | rfl | assumption) ?_ (by rfl)
        refine E_local K n_at (by rfl) (by first | rfl | assumption) ?_ (by rfl)
        refine o_item_tup (by omega) (by omega) (row_part hq) ?_ (fun _ _ => rfl)
        refine o_ne hA (by omega) (Pt.ok _) (Pt.ok _) ?_
        rw [pt_eq]
        refine ⟨_, rfl, ?_⟩
        refine ite_b (fun ge => ?_) (fun ge => ?_)
        · skip
          have hb : samePt p o = false := by unfold samePt; rw [if_neg gp']; simpa using ge
          refine seq ?_
          refine S_return ?_
          refine E_bool ?_
          refine After.ret ?_
          refine After.ret ?_
          refine After.ret ?_
          refine hg1 _ _ _ (TurnEnd.ret ?_)
          refine After.ret ?_
          refine Back.ret ?_
          exact ⟨H, Sub.refl _, by rw [hE, all_bad hz hb] at h; exact h⟩
        · skip
          have hb : samePt p o = true := by unfold samePt; rw [if_neg gp']; simpa using ge
          refine S_nil ?_
          refine After.next ?_
          refine S_nil ?_
          refine After.next ?_
          refine seq ?_
          refine S_aug K n_at (by rfl) (by first | rfl | assumption) ?_
          refine E_int ?_
          refine o_iadd ?_
          refine After.next ?_
          refine S_nil ?_
          refine hg1 _ _ _ (TurnEnd.next ?_)
          refine ⟨r.ps.length - (j + 1), j + 1, by omega, ⟨rfl, by omega, by rw [all_step hz, hall, hb]; rfl⟩, ?_, Sub.refl _⟩
          exact LSub.cons (by show some (V.int _) = some (V.int _); congr 2) (LSub.cons rfl (LSub.cons rfl (LSub.cons rfl LSub.nil)))
    · skip
      have hT : ((r.ps.zip q.ps).all fun x => samePt x.1 x.2) = true := by
        have hj' : r.ps.length ≤ j := by have := of_decide_eq_false hw; omega
        rw [List.take_of_length_le (by rw [List.length_zip]; omega)] at hall; exact hall
      refine S_nil ?_
      refine After.next ?_
      refine seq ?_
      refine S_return ?_
      refine E_bool ?_
      refine After.ret ?_
      refine Back.ret ?_
      exact ⟨H, Sub.refl _, by rw [hE, hT] at h; exact h⟩
theorem sp_args_stand {n : Nat} {Hr H : AH} {s : Addr} {k : Ck} {r : Rw} {Q : V → AH → Prop} (E : CkAt Hr H s k) (h : Q (.bool (argsStand k r.nm)) H) : FnSpec c (n + 13) 98 [.ref s, r.v] Q H := by
  obtain ⟨dx, d1, d2, d3, d4, e1, e2, e3, e4, E⟩ := E
  have hs := E.hs
  have hx := E.hx
  have h1 := E.h1
  have h2 := E.h2
  have h3 := E.h3
  have h4 := E.h4
  refine fn_enter (ks := ks_arguments_stand) (by rw [hK]; rfl) (by rw [hK]; kernel_rfl) (KOk.of rfl (by kernel_rfl)) [Str.ofString "self", Str.ofString "instruction"] [215692019, 130896504364032243595113] (all2 fun v0 v1 => rfl) (by kernel_rfl) (by decide) (by rfl) (by decide) rfl rfl rfl (fun A L env hA K => ?_)
  refine seq ?_
  refine S_if ?_
  refine B_val ?_ (by rfl)
  refine E_call hA K n_ends_arguments (by rfl) (gl_ends_arguments hK) (keep_ends_arguments hK) ?_ (by rfl) (by rfl) (by rfl)
  refine L_cons ?_ (by rfl)
  refine E_local K n_instruction (by rfl) (by first | rfl | assumption) ?_ (by rfl)
  refine L_nil ?_
  refine sp_ends hK (n := n) ?_
  refine ⟨_, rfl, ?_⟩
  refine ite_b (fun ge => ?_) (fun ge => ?_)
  · skip
    have hE : argsStand k r.nm = k.out.all (fun x => decide (iget k.held x.1 0 = iget k.out x.1 0)) := by simp [argsStand, ge]
    refine seq ?_
    refine S_for' (fun j (_ : Unit) => (k.out.take j).all (fun x => decide (iget k.held x.1 0 = iget k.out x.1 0)) = true) (fun _ _ => [(215692019, .ref s), (130896504364032243595113, r.v)]) (fun _ _ => H) hA K n_number (by rfl) ?_ (fun _ => rfl)
    refine E_attr n_outgoing ?_
    refine E_local K n_self (by rfl) (by first | rfl | assumption) ?_ (by rfl)
    refine ⟨_, _, _, _, _, rfl, E.hs, E.hx, at_outgoing hK, by rfl, ?_⟩
    refine ⟨_, (), rfl, LSub.refl _, Sub.refl _, .inr (.inr (.inr ⟨d4, e4, dm k.out, rfl, rfl, fun _ _ _ => h4⟩)), ?_, ?_⟩
    · skip
      intro j _ v hv hJ
      have hj : j < k.out.length := by have := lt_of_get hv; rw [List.length_map, dm_len] at this; exact this
      obtain ⟨x, hxo⟩ : ∃ x, k.out[j]? = some x := ⟨_, List.getElem?_eq_getElem hj⟩
      have hv' : v = .int x.1 := by unfold dm at hv; rw [List.getElem?_map, List.getElem?_map, hxo] at hv; exact (Option.some.inj hv).symm
      subst hv'
      have hih : ihas k.out x.1 = true := List.any_eq_true.mpr ⟨x, List.mem_of_getElem? hxo, by simp⟩
      refine WS.gen fun Qg1 hg1 => ?_
      refine seq ?_
      refine S_if ?_
      refine B_cmp ?_ (by rfl)
      refine E_get2 ?_ (by rfl) (by rfl)
      refine E_attr n_held ?_
      refine E_local K n_self (by rfl) (by first | rfl | assumption) ?_ (by rfl)
      refine ⟨_, _, _, _, _, rfl, E.hs, E.hx, at_held hK, by rfl, ?_⟩
      refine ⟨_, rfl, ⟨_, _, h2⟩, ?_⟩
      refine E_local K n_number (by rfl) (by first | rfl | assumption) ?_ (by rfl)
      refine E_int ?_
      refine ⟨_, _, _, rfl, h2, ?_⟩
      rw [iget_rel]
      refine E_sub ?_
      refine E_attr n_outgoing ?_
      refine E_local K n_self (by rfl) (by first | rfl | assumption) ?_ (by rfl)
      refine ⟨_, _, _, _, _, rfl, E.hs, E.hx, at_outgoing hK, by rfl, ?_⟩
      refine E_local K n_number (by rfl) (by first | rfl | assumption) ?_ (by rfl)
      refine o_item_dI h4 (ihas_get hih 0) ?_ (fun _ _ => rfl)
      refine o_ne hA (by omega) (by rfl) (by rfl) ?_
      rw [V.eq_int]
      refine ⟨_, rfl, ?_⟩
      refine ite_b (fun gn => ?_) (fun gn => ?_)
      · skip
        refine seq ?_
        refine S_return ?_
        refine E_bool ?_
        refine After.ret ?_
        refine After.ret ?_
        refine hg1 _ _ _ (TurnEnd.ret ?_)
        refine After.ret ?_
        refine After.ret ?_
        refine Back.ret ?_
        exact ⟨H, Sub.refl _, by rw [hE, all_bad hxo (by simpa using gn)] at h; exact h⟩
      · skip
        refine S_nil ?_
        refine After.next ?_
        refine S_nil ?_
        refine hg1 _ _ _ (TurnEnd.next ?_)
        exact ⟨(), by rw [all_step hxo, hJ, show decide (iget k.held x.1 0 = iget k.out x.1 0) = true by simpa using gn]; rfl, LSub.cons rfl (LSub.cons rfl LSub.nil), Sub.refl _⟩
    · skip
      intro _ l H2 hJ hl hh
      rw [List.length_map, dm_len, List.take_length] at hJ
      have hT := hJ
      refine After.next ?_
      refine S_nil ?_
      refine After.next ?_
      refine seq ?_
      refine S_return ?_
      refine E_bool ?_
      refine After.ret ?_
      refine Back.ret ?_
      exact ⟨H, hh, by rw [hE, hT] at h; exact h⟩
  · skip
    have hE : argsStand k r.nm = true := by simp [argsStand, ge]
    refine S_nil ?_
    refine After.next ?_
    refine seq ?_
    refine S_return ?_
    refine E_bool ?_
    refine After.ret ?_
    refine Back.ret ?_
    exact ⟨H, Sub.refl _, by rw [hE] at h; exact h⟩
end
end Mine
namespace Mine
theorem rn_get {l : List (Int × Pt)} {j : Nat} {x : Int × Pt} (h : l[j]? = some x) : (l.map rv)[((j : Nat) : Int).toNat]? = some (.tup [.int x.1, x.2.v]) := rv_get h
theorem CkAt.small {Hr H : AH} {s : Addr} {k : Ck} (E : CkAt Hr H s k) : True := trivial
theorem writeP_small {k : Ck} {p q : Pt} {v : Int} {n : Nat} (h : k.small n) : (writeP k p q v).small (n + 1) := by
  obtain ⟨h1, h2, h3, h4⟩ := h
  have a := iput_len k.held q.n v
  cases p with
  | op ch m =>
    have b := iput_len k.vo m v
    have d := iput_len k.out m v
    cases ch <;> refine ⟨?_, ?_, ?_, ?_⟩ <;> simp only [writeP] <;> omega
  | num i => exact ⟨by simp only [writeP]; omega, by simp only [writeP]; omega, by simp only [writeP]; omega, by simp only [writeP]; omega⟩
  | pr i j => exact ⟨by simp only [writeP]; omega, by simp only [writeP]; omega, by simp only [writeP]; omega, by simp only [writeP]; omega⟩
theorem goM_cons (k : Ck) (r : Rw) (role role' : Int) (p q : Pt) (ps qs : List (Int × Pt)) (wr : List Pt) : goM k r ((role, p) :: ps) ((role', q) :: qs) wr =
    if role ≠ 2 ∧ sameRead k p q = false then false
    else if role = 2 ∧ sameWrite p q = false then false
    else if role = 2 ∧ q.is .x = true then (if q ∈ wr then twice r else goM k r ps qs (wr ++ [q]))
    else goM k r ps qs wr := by rw [goM]
theorem any_pt' (l : List Pt) (o : Pt) : (l.map Pt.v).any (fun y => V.eq y o.v) = decide (o ∈ l) := any_pt l o
section
variable {c : Cx} (hK : c.K = hd.heap_1 c.w.params)
include hK
set_option maxHeartbeats 4000000 in
theorem sp_matches {n : Nat} {Hr H : AH} {s : Addr} {k : Ck} {r q : Rw} {Q : V → AH → Prop} (E : CkAt Hr H s k) (hok : rowOk r = true) (hq : opsOk q) (h : Q (.bool (matchP k r q)) H) : FnSpec c (n + 15) 91 [.ref s, r.v, q.v] Q H := by
  have hr := rowOk_ops hok
  have hrl : r.ps.length ≤ 2 := by have := hr.1; have := (sort_len r.nm).1; omega
  have hql : q.ps.length ≤ 2 := by have := hq.1; have := (sort_len q.nm).1; omega
  obtain ⟨dx, d1', d2, d3, d4, e1, e2, e3, e4, E⟩ := E
  have hs := E.hs
  have hx := E.hx
  refine fn_enter (ks := ks_matches) (by rw [hK]; rfl) (by rw [hK]; kernel_rfl) (KOk.of rfl (by kernel_rfl)) [Str.ofString "self", Str.ofString "instruction", Str.ofString "real"] [215692019, 130896504364032243595113, 228094706] (all3 fun v0 v1 v2 => rfl) (by kernel_rfl) (by decide) (by rfl) (by decide) rfl rfl rfl (fun A L env hA K => ?_)
  refine seq ?_
  refine S_if ?_
  refine B_not ?_
  refine B_val ?_ (by rfl)
  refine E_meth hA n_same_shape ?_ (by rfl) (by rfl) (by rfl)
  refine E_local K n_self (by rfl) (by first | rfl | assumption) ?_ (by rfl)
  refine ⟨_, _, _, _, _, rfl, hs, hx, by rfl, m_same_shape hK, ?_⟩
  refine L_cons ?_ (by rfl)
  refine E_local K n_instruction (by rfl) (by first | rfl | assumption) ?_ (by rfl)
  refine L_cons ?_ (by rfl)
  refine E_local K n_real (by rfl) (by first | rfl | assumption) ?_ (by rfl)
  refine L_nil ?_
  refine sp_same_shape hK (n := n + 2) (by omega) (by omega) ?_
  refine ⟨_, rfl, ?_⟩
  refine ite_b (fun gs => ?_) (fun gs => ?_)
  · skip
    have hF : matchP k r q = false := by simp only [matchP, show sameShape r q = false by simpa using gs]; rfl
    refine seq ?_
    refine S_return ?_
    refine E_bool ?_
    refine After.ret ?_
    refine After.ret ?_
    refine Back.ret ?_
    exact ⟨H, Sub.refl _, by rw [hF] at h; exact h⟩
  · skip
    have gs : sameShape r q = true := by simpa using gs
    have hE : matchP k r q = goM k r (roles r.nm r.ps) (roles q.nm q.ps) [] := by simp only [matchP, gs, if_true]
    have hfit := roles_fit hok gs
    refine S_nil ?_
    refine After.next ?_
    refine seq ?_
    refine S_assign K n_written (by rfl) ?_ (by rfl)
    refine E_list ?_
    refine L_nil ?_
    refine ⟨Nat.le_of_ble_eq_true rfl, fun d1 hd1 => ?_⟩
    refine After.next ?_
    refine seq ?_
    refine S_assign K n_pairs (by rfl) ?_ (by rfl)
    refine E_call hA K n_operand_roles (by rfl) (gl_operand_roles hK) (keep_operand_roles hK) ?_ (by rfl) (by rfl) (by rfl)
    refine L_cons ?_ (by rfl)
    refine E_local K n_instruction (by rfl) (by first | rfl | assumption) ?_ (by rfl)
    refine L_nil ?_
    refine sp_roles hK (n := n + 2) hr.1 (fun P hP => ?_)
    refine After.next ?_
    refine seq ?_
    refine S_assign K n_others (by rfl) ?_ (by rfl)
    refine E_call hA K n_operand_roles (by rfl) (gl_operand_roles hK) (keep_operand_roles hK) ?_ (by rfl) (by rfl) (by rfl)
    refine L_cons ?_ (by rfl)
    refine E_local K n_real (by rfl) (by first | rfl | assumption) ?_ (by rfl)
    refine L_nil ?_
    refine sp_roles hK (n := n + 2) hq.1 (fun O hO => ?_)
    refine After.next ?_
    refine seq ?_
    refine S_assign K n_at (by rfl) ?_ (by rfl)
    refine E_int ?_
    refine After.next ?_
    refine seq ?_
    have n1P : P ≠ d1 := by rintro rfl; rw [AH.set_same] at hP; cases hP
    have nPO : O ≠ P := by rintro rfl; rw [AH.set_same] at hO; cases hO
    have n1O : O ≠ d1 := by intro e; rw [e, AH.set_ne _ _ (Ne.symm n1P), AH.set_same] at hO; cases hO
    have fP : H P = none := by rw [AH.set_ne _ _ n1P] at hP; exact hP
    have fO : H O = none := by rw [AH.set_ne _ _ nPO, AH.set_ne _ _ n1O] at hO; exact hO
    refine S_while' (σ := Nat × List Pt) (fun m s => m = (roles r.nm r.ps).length - s.1 ∧ s.1 ≤ (roles r.nm r.ps).length ∧ s.2.length ≤ s.1 ∧ goM k r ((roles r.nm r.ps).drop s.1) ((roles q.nm q.ps).drop s.1) s.2 = goM k r (roles r.nm r.ps) (roles q.nm q.ps) []) (fun x => (fun j => [(14945, .int ((j : Nat) : Int)), (3982185085551, .ref O), (31110885616, .ref P), (487286833314167, .ref d1), (215692019, .ref s), (130896504364032243595113, r.v), (228094706, q.v)]) x.1) (fun x => (fun wr => ((H.set d1 (.list (wr.map Pt.v))).set P (.list ((roles r.nm r.ps).map rv))).set O (.list ((roles q.nm q.ps).map rv))) x.2) (roles r.nm r.ps).length (0, []) ⟨rfl, Nat.zero_le _, Nat.le_refl _, rfl⟩ (LSub.refl _) (Sub.refl _) (fun m st hJ => ?_)
    obtain ⟨j, wr⟩ := st
    obtain ⟨rfl, hj, hwl, hgo⟩ := hJ
    dsimp only at hj hwl hgo ⊢
    have hHS : Sub H (((H.set d1 (.list (wr.map Pt.v))).set P (.list ((roles r.nm r.ps).map rv))).set O (.list ((roles q.nm q.ps).map rv))) := (((Sub.refl H).fresh hd1).fresh (by rw [AH.set_ne _ _ n1P]; exact fP)).fresh (by rw [AH.set_ne _ _ nPO, AH.set_ne _ _ n1O]; exact fO)
    have E3 := E.more hHS
    have c1 : (((H.set d1 (.list (wr.map Pt.v))).set P (.list ((roles r.nm r.ps).map rv))).set O (.list ((roles q.nm q.ps).map rv))) d1 = some (.list (wr.map Pt.v)) := by rw [AH.set_ne _ _ (Ne.symm n1O), AH.set_ne _ _ (Ne.symm n1P), AH.set_same]
    have cP : (((H.set d1 (.list (wr.map Pt.v))).set P (.list ((roles r.nm r.ps).map rv))).set O (.list ((roles q.nm q.ps).map rv))) P = some (.list ((roles r.nm r.ps).map rv)) := by rw [AH.set_ne _ _ (Ne.symm nPO), AH.set_same]
    have cO : (((H.set d1 (.list (wr.map Pt.v))).set P (.list ((roles r.nm r.ps).map rv))).set O (.list ((roles q.nm q.ps).map rv))) O = some (.list ((roles q.nm q.ps).map rv)) := AH.set_same _ _ _
    generalize hHg : (((H.set d1 (.list (wr.map Pt.v))).set P (.list ((roles r.nm r.ps).map rv))).set O (.list ((roles q.nm q.ps).map rv))) = Hg at hHS E3 c1 cP cO ⊢
    refine B_cmp ?_ (by rfl)
    refine E_local K n_at (by rfl) (by first | rfl | assumption) ?_ (by rfl)
    refine E_callb K n_len (by rfl) (gl_len hK) boot_len nn_len (by rfl) (fun _ h => nomatch h) ?_ (by rfl) (by rfl)
    refine L_cons ?_ (by rfl)
    refine E_local K n_pairs (by rfl) (by first | rfl | assumption) ?_ (by rfl)
    refine L_nil ?_
    refine b_len_list cP (by rw [List.length_map]; have := hfit.2.1; omega) ?_
    rw [List.length_map]
    refine o_lt ?_
    refine ⟨_, rfl, ?_⟩
    refine ite_b (fun hw => ?_) (fun hw => ?_)
    · skip
      have hj' : j < (roles r.nm r.ps).length := by have := of_decide_eq_true hw; omega
      obtain ⟨x, hxj⟩ : ∃ x, (roles r.nm r.ps)[j]? = some x := ⟨_, List.getElem?_eq_getElem hj'⟩
      obtain ⟨y, hyj⟩ : ∃ y, (roles q.nm q.ps)[j]? = some y := ⟨_, List.getElem?_eq_getElem (by have := hfit.1; omega)⟩
      have hgo' := hgo
      rw [drop_one hxj, drop_one hyj] at hgo'
      obtain ⟨hyx, ch, nn, hx2, hcp, hyo, hxq⟩ := hfit.2.2 j x y hxj hyj
      obtain ⟨role, p⟩ := x
      obtain ⟨role', o⟩ := y
      dsimp only at hx2 hyo hxq hyx
      subst hx2 hyx
      have hl2 := hfit.2.1
      refine WS.gen fun Qg1 hg1 => ?_
      refine seq ?_
      refine S_pair hA K n_role (by rfl) n_operand (by rfl) ?_ (by rfl) (by rfl)
      refine E_sub ?_
      refine E_local K n_pairs (by rfl) (by first | rfl | assumption) ?_ (by rfl)
      refine E_local K n_at (by rfl) (by first | rfl | assumption) ?_ (by rfl)
      refine o_item_list (x := .tup [.int role', (Pt.op ch nn).v]) cP (by omega) (by omega) (rn_get hxj) ?_ (fun _ _ => rfl)
      refine ⟨_, _, rfl, ?_⟩
      refine After.next ?_
      refine seq ?_
      refine S_assign K n_other (by rfl) ?_ (by rfl)
      refine E_sub ?_
      refine E_sub ?_
      refine E_local K n_others (by rfl) (by first | rfl | assumption) ?_ (by rfl)
      refine E_local K n_at (by rfl) (by first | rfl | assumption) ?_ (by rfl)
      refine o_item_list (x := .tup [.int role', o.v]) cO (by omega) (by omega) (rn_get hyj) ?_ (fun _ _ => rfl)
      refine E_int ?_
      refine o_item_tup (by decide) (by decide) (by rfl) ?_ (fun _ _ => rfl)
      refine After.next ?_
      refine seq ?_
      refine S_if ?_
      refine B_pure (!decide (role' = 2) && !sameRead k (.op ch nn) o) ?_ ?_
      · skip
        refine B_and ?_
        refine A_and_cons ?_
        refine B_cmp ?_ (by rfl)
        refine E_local K n_role (by rfl) (by first | rfl | assumption) ?_ (by rfl)
        refine E_glob K n_WRITES (by rfl) (gl_WRITES hK) (fun h => rI h _ _) ?_ (by rfl)
        refine o_ne hA (by omega) (by rfl) (by rfl) ?_
        rw [V.eq_int]
        refine ⟨_, rfl, ?_⟩
        refine ite_b (fun q0 => ?_) (fun q0 => ?_)
        · skip
          refine A_and_cons ?_
          refine B_not ?_
          refine B_val ?_ (by rfl)
          refine E_meth hA n_same_read ?_ (by rfl) (by rfl) (by rfl)
          refine E_local K n_self (by rfl) (by first | rfl | assumption) ?_ (by rfl)
          refine ⟨_, _, _, _, _, rfl, E3.hs, E3.hx, by rfl, m_same_read hK, ?_⟩
          refine L_cons ?_ (by rfl)
          refine E_local K n_operand (by rfl) (by first | rfl | assumption) ?_ (by rfl)
          refine L_cons ?_ (by rfl)
          refine E_local K n_other (by rfl) (by first | rfl | assumption) ?_ (by rfl)
          refine L_nil ?_
          refine sp_same_read hK (n := n + 2) ⟨dx, d1', d2, d3, d4, e1, e2, e3, e4, E3⟩ hcp hxq ?_
          refine ⟨_, rfl, ?_⟩
          refine ite_b (fun q1 => ?_) (fun q1 => ?_)
          · skip
            refine A_and_nil ?_
            exact ⟨by rw [q0]; exact q1.symm, rfl⟩
          · skip
            exact ⟨by rw [q0]; exact q1.symm, rfl⟩
        · skip
          exact ⟨by rw [q0]; rfl, rfl⟩
      refine ite_b (fun g1 => ?_) (fun g1 => ?_)
      · skip
        have g1' : role' ≠ 2 ∧ sameRead k (.op ch nn) o = false := by simpa using g1
        refine seq ?_
        refine S_return ?_
        refine E_bool ?_
        refine After.ret ?_
        refine After.ret ?_
        refine hg1 _ _ _ (TurnEnd.ret ?_)
        refine After.ret ?_
        refine Back.ret ?_
        exact ⟨H, hHS, by rw [hE, ← hgo', goM_cons, if_pos g1'] at h; exact h⟩
      · skip
        have g1' : ¬ (role' ≠ 2 ∧ sameRead k (.op ch nn) o = false) := by intro z; rw [z.2, decide_eq_false z.1] at g1; cases g1
        refine S_nil ?_
        refine After.next ?_
        refine seq ?_
        refine S_if ?_
        refine B_pure (decide (role' = 2) && !sameWrite (.op ch nn) o) ?_ ?_
        · skip
          refine B_and ?_
          refine A_and_cons ?_
          refine B_cmp ?_ (by rfl)
          refine E_local K n_role (by rfl) (by first | rfl | assumption) ?_ (by rfl)
          refine E_glob K n_WRITES (by rfl) (gl_WRITES hK) (fun h => rI h _ _) ?_ (by rfl)
          refine o_eq hA (by omega) (by rfl) (by rfl) ?_
          rw [V.eq_int]
          refine ⟨_, rfl, ?_⟩
          refine ite_b (fun q0 => ?_) (fun q0 => ?_)
          · skip
            refine A_and_cons ?_
            refine B_not ?_
            refine B_val ?_ (by rfl)
            refine E_meth hA n_same_write ?_ (by rfl) (by rfl) (by rfl)
            refine E_local K n_self (by rfl) (by first | rfl | assumption) ?_ (by rfl)
            refine ⟨_, _, _, _, _, rfl, E3.hs, E3.hx, by rfl, m_same_write hK, ?_⟩
            refine L_cons ?_ (by rfl)
            refine E_local K n_operand (by rfl) (by first | rfl | assumption) ?_ (by rfl)
            refine L_cons ?_ (by rfl)
            refine E_local K n_other (by rfl) (by first | rfl | assumption) ?_ (by rfl)
            refine L_nil ?_
            refine sp_same_write hK (n := n + 2) hcp hxq ?_
            refine ⟨_, rfl, ?_⟩
            refine ite_b (fun q1 => ?_) (fun q1 => ?_)
            · skip
              refine A_and_nil ?_
              exact ⟨by rw [q0]; exact q1.symm, rfl⟩
            · skip
              exact ⟨by rw [q0]; exact q1.symm, rfl⟩
          · skip
            exact ⟨by rw [q0]; rfl, rfl⟩
        refine ite_b (fun g2 => ?_) (fun g2 => ?_)
        · skip
          have g2' : role' = 2 ∧ sameWrite (.op ch nn) o = false := by simpa using g2
          refine seq ?_
          refine S_return ?_
          refine E_bool ?_
          refine After.ret ?_
          refine After.ret ?_
          refine hg1 _ _ _ (TurnEnd.ret ?_)
          refine After.ret ?_
          refine Back.ret ?_
          exact ⟨H, hHS, by rw [hE, ← hgo', goM_cons, if_neg g1', if_pos g2'] at h; exact h⟩
        · skip
          have g2' : ¬ (role' = 2 ∧ sameWrite (.op ch nn) o = false) := by intro z; rw [z.2, decide_eq_true z.1] at g2; cases g2
          refine S_nil ?_
          refine After.next ?_
          refine seq ?_
          refine S_if ?_
          refine B_pure (decide (role' = 2) && o.is .x) ?_ ?_
          · skip
            refine B_and ?_
            refine A_and_cons ?_
            refine B_cmp ?_ (by rfl)
            refine E_local K n_role (by rfl) (by first | rfl | assumption) ?_ (by rfl)
            refine E_glob K n_WRITES (by rfl) (gl_WRITES hK) (fun h => rI h _ _) ?_ (by rfl)
            refine o_eq hA (by omega) (by rfl) (by rfl) ?_
            rw [V.eq_int]
            refine ⟨_, rfl, ?_⟩
            refine ite_b (fun q0 => ?_) (fun q0 => ?_)
            · skip
              refine A_and_cons ?_
              refine B_cmp ?_ (by rfl)
              refine E_sub ?_
              refine E_local K n_other (by rfl) (by first | rfl | assumption) ?_ (by rfl)
              refine E_int ?_
              obtain ⟨co, no, rfl⟩ := isOp_of hyo
              refine o_item_tup (by decide) (by decide) (by rfl) ?_ (fun _ _ => rfl)
              refine E_str ?_
              refine o_eq hA (by omega) (by rfl) (by rfl) ?_
              rw [lit_ch co "x" .x rfl]
              refine ⟨_, rfl, ?_⟩
              refine ite_b (fun q1 => ?_) (fun q1 => ?_)
              · skip
                refine A_and_nil ?_
                exact ⟨by rw [q0, Bool.true_and]; simpa [Pt.is, BEq.beq] using q1, rfl⟩
              · skip
                exact ⟨by rw [q0, Bool.true_and]; simpa [Pt.is, BEq.beq] using q1, rfl⟩
            · skip
              exact ⟨by rw [q0]; rfl, rfl⟩
          refine ite_b (fun g3 => ?_) (fun g3 => ?_)
          · skip
            have g3' : role' = 2 ∧ o.is .x = true := by simpa using g3
            refine seq ?_
            refine S_if ?_
            refine B_cmp ?_ (by rfl)
            refine E_local K n_other (by rfl) (by first | rfl | assumption) ?_ (by rfl)
            refine E_local K n_written (by rfl) (by first | rfl | assumption) ?_ (by rfl)
            refine o_in_list hA (by omega) c1 (Pt.ok _) (all_pt _) ?_
            rw [any_pt]
            refine ⟨_, rfl, ?_⟩
            refine ite_b (fun g4 => ?_) (fun g4 => ?_)
            · skip
              have g4' := of_decide_eq_true g4
              refine seq ?_
              refine S_return ?_
              refine E_call hA K n_operand_twice (by rfl) (gl_operand_twice hK) (keep_operand_twice hK) ?_ (by rfl) (by rfl) (by rfl)
              refine L_cons ?_ (by rfl)
              refine E_local K n_instruction (by rfl) (by first | rfl | assumption) ?_ (by rfl)
              refine L_nil ?_
              refine sp_twice hK (n := n + 2) (by omega) ?_
              refine After.ret ?_
              refine After.ret ?_
              refine After.ret ?_
              refine hg1 _ _ _ (TurnEnd.ret ?_)
              refine After.ret ?_
              refine Back.ret ?_
              exact ⟨H, hHS, by rw [hE, ← hgo', goM_cons, if_neg g1', if_neg g2', if_pos g3', if_pos g4'] at h; exact h⟩
            · skip
              have g4' := of_decide_eq_false g4
              refine S_nil ?_
              refine After.next ?_
              refine seq ?_
              refine S_expr ?_ K.quiet (by rfl)
              refine E_append ?_ (by rfl) (by rfl)
              refine E_local K n_written (by rfl) (by first | rfl | assumption) ?_ (by rfl)
              refine ⟨_, rfl, ⟨_, by first | assumption | exact AH.set_same _ _ _ | exact (AH.set_ne _ _ (by first | assumption | exact Ne.symm (by assumption) | exact ne_none (by assumption) (by assumption) | exact Ne.symm (ne_none (by assumption) (by assumption)))).trans (by first | assumption | exact AH.set_same _ _ _ | exact (AH.set_ne _ _ (by first | assumption | exact Ne.symm (by assumption) | exact ne_none (by assumption) (by assumption) | exact Ne.symm (ne_none (by assumption) (by assumption)))).trans (by first | assumption | exact AH.set_same _ _ _ | exact (AH.set_ne _ _ (by first | assumption | exact Ne.symm (by assumption) | exact ne_none (by assumption) (by assumption) | exact Ne.symm (ne_none (by assumption) (by assumption)))).trans (by first | assumption | exact AH.set_same _ _ _ | exact (AH.set_ne _ _ (by first | assumption | exact Ne.symm (by assumption) | exact ne_none (by assumption) (by assumption) | exact Ne.symm (ne_none (by assumption) (by assumption)))).trans (by first | assumption | exact AH.set_same _ _ _ | exact (AH.set_ne _ _ (by first | assumption | exact Ne.symm (by assumption) | exact ne_none (by assumption) (by assumption) | exact Ne.symm (ne_none (by assumption) (by assumption)))).trans (by first | assumption | exact AH.set_same _ _ _ | exact (AH.set_ne _ _ (by first | assumption | exact Ne.symm (by assumption) | exact ne_none (by assumption) (by assumption) | exact Ne.symm (ne_none (by assumption) (by assumption)))).trans (by assumption))))))⟩, ?_⟩
              refine E_local K n_other (by rfl) (by first | rfl | assumption) ?_ (by rfl)
              refine ⟨_, c1, by rw [List.length_map]; omega, ?_⟩
              refine ⟨rfl, ?_⟩
              refine After.next ?_
              refine S_nil ?_
              refine After.next ?_
              refine seq ?_
              refine S_aug K n_at (by rfl) (by first | rfl | assumption) ?_
              refine E_int ?_
              refine o_iadd ?_
              refine After.next ?_
              refine S_nil ?_
              refine hg1 _ _ _ (TurnEnd.next ?_)
              refine ⟨(roles r.nm r.ps).length - (j + 1), (j + 1, wr ++ [o]), by omega, ⟨rfl, by omega, by rw [List.length_append]; simp; omega, ?_⟩, LSub.cons rfl (LSub.cons rfl (LSub.cons rfl (LSub.cons rfl (LSub.cons rfl (LSub.cons rfl (LSub.cons rfl LSub.nil)))))), ?_⟩
              · rw [← hgo', goM_cons, if_neg g1', if_neg g2', if_pos g3', if_neg g4']
              · rw [← hHg]
                refine Sub.of_eq ?_
                funext z; simp only [AH.set, List.map_append, List.map_cons, List.map_nil]; by_cases z1 : z = d1 <;> by_cases z2 : z = P <;> by_cases z3 : z = O <;> simp_all
          · skip
            have g3' : ¬ (role' = 2 ∧ o.is .x = true) := by intro z; rw [z.2, decide_eq_true z.1] at g3; cases g3
            refine S_nil ?_
            refine After.next ?_
            refine seq ?_
            refine S_aug K n_at (by rfl) (by first | rfl | assumption) ?_
            refine E_int ?_
            refine o_iadd ?_
            refine After.next ?_
            refine S_nil ?_
            refine hg1 _ _ _ (TurnEnd.next ?_)
            refine ⟨(roles r.nm r.ps).length - (j + 1), (j + 1, wr), by omega, ⟨rfl, by omega, by show wr.length ≤ j + 1; omega, ?_⟩, LSub.cons rfl (LSub.cons rfl (LSub.cons rfl (LSub.cons rfl (LSub.cons rfl (LSub.cons rfl (LSub.cons rfl LSub.nil)))))), ?_⟩
            · rw [← hgo', goM_cons, if_neg g1', if_neg g2', if_neg g3']
            · rw [← hHg]; exact Sub.refl _
    · skip
      have hT : goM k r (roles r.nm r.ps) (roles q.nm q.ps) [] = argsStand k r.nm := by
        have hj' : (roles r.nm r.ps).length ≤ j := by have := of_decide_eq_false hw; omega
        rw [← hgo, List.drop_of_length_le hj']; rfl
      refine S_nil ?_
      refine After.next ?_
      refine seq ?_
      refine S_return ?_
      refine E_meth hA n_arguments_stand ?_ (by rfl) (by rfl) (by rfl)
      refine E_local K n_self (by rfl) (by first | rfl | assumption) ?_ (by rfl)
      refine ⟨_, _, _, _, _, rfl, E3.hs, E3.hx, by rfl, m_arguments_stand hK, ?_⟩
      refine L_cons ?_ (by rfl)
      refine E_local K n_instruction (by rfl) (by first | rfl | assumption) ?_ (by rfl)
      refine L_nil ?_
      refine sp_args_stand hK (n := n + 1) ⟨dx, d1', d2, d3, d4, e1, e2, e3, e4, E3⟩ ?_
      refine After.ret ?_
      refine Back.ret ?_
      exact ⟨H, hHS, by rw [hE, hT] at h; exact h⟩
end
end Mine
namespace Mine
noncomputable def JoinQ (M : Loc → AH → Prop) : Fl → Loc → AH → Prop := fun f l H => f = .next ∧ M l H
theorem seqJ {c : Cx} {A : Around} {L : Addr} {loc : Loc} {H : AH} {env : Env} {st : Stmt} {rest : List Stmt} {Q : Fl → Loc → AH → Prop} (M : Loc → AH → Prop) (h : WS c A L (exec st env) (JoinQ M) loc H) (k : ∀ l H1, M l H1 → WS c A L (execs rest env) Q l H1) : WS c A L (execs (st :: rest) env) Q loc H :=
  S_cons (h.mono fun f l H1 p => by obtain ⟨e, m⟩ := p; subst e; exact k l H1 m)
section
variable {Hr H : AH} {s dx d1 d2 d3 d4 : Addr} {e1 e2 e3 e4 : Nat} {k : Ck}
theorem CkAt.ext (E : CkAt Hr H s k) {d : Addr} (o : MObj) (hd : H d = none) : CkAt (Hr.set d o) (H.set d o) s k := by
  obtain ⟨dx, d1, d2, d3, d4, e1, e2, e3, e4, E⟩ := E
  have F := E.more ((Sub.refl H).fresh (o := o) hd)
  have k1 := ne_none hd E.hs
  have k2 := ne_none hd E.hx
  have k3 := ne_none hd E.h1
  have k4 := ne_none hd E.h2
  have k5 := ne_none hd E.h3
  have k6 := ne_none hd E.h4
  exact ⟨dx, d1, d2, d3, d4, e1, e2, e3, e4, F.hs, F.hx, F.h1, F.h2, F.h3, F.h4, E.n12, E.n13, E.n14, E.n23, E.n24, E.n34, E.sub.set, by rw [AH.set_ne _ _ k1]; exact E.rs, by rw [AH.set_ne _ _ k2]; exact E.rx, by rw [AH.set_ne _ _ k3]; exact E.r1, by rw [AH.set_ne _ _ k4]; exact E.r2, by rw [AH.set_ne _ _ k5]; exact E.r3, by rw [AH.set_ne _ _ k6]; exact E.r4⟩
theorem CkAt.shrink {Hr' : AH} (E : CkAt Hr H s k) (h : Sub Hr' Hr) : CkAt Hr' H s k := by
  have f : ∀ a, Hr a = none → Hr' a = none := fun a e => by
    cases z : Hr' a with
    | none => rfl
    | some o => rw [h _ _ z] at e; cases e
  obtain ⟨dx, d1, d2, d3, d4, e1, e2, e3, e4, E⟩ := E
  exact ⟨dx, d1, d2, d3, d4, e1, e2, e3, e4, E.hs, E.hx, E.h1, E.h2, E.h3, E.h4, E.n12, E.n13, E.n14, E.n23, E.n24, E.n34, h.trans E.sub, f _ E.rs, f _ E.rx, f _ E.r1, f _ E.r2, f _ E.r3, f _ E.r4⟩
theorem CkL.new1 (E : CkL Hr H s dx d1 d2 d3 d4 e1 e2 e3 e4 k) {D : Addr} (hD : H D = none) : CkL Hr ((H.set D (.dI 0 [])).set dx (.ns (nput [(940052543510446748398, .int k.nv), (57912369945981174, .ref d1), (211497704, .ref d2), (58471267585029993, .ref d3), (58471268105403119, .ref d4)] 57912369945981174 (.ref D)))) s dx D d2 d3 d4 0 e2 e3 e4 { k with vo := [] } :=
  have nD : D ≠ dx := (ne_none hD E.hx).symm
  have rD : Hr D = none := by
    cases z : Hr D with
    | none => rfl
    | some o => rw [E.sub _ _ z] at hD; cases hD
  ⟨(AH.set_ne _ _ E.nsx).trans ((AH.set_ne _ _ (ne_none hD E.hs)).trans E.hs), AH.set_same _ _ _, (AH.set_ne _ _ nD).trans (AH.set_same _ _ _), (AH.set_ne _ _ E.nx2.symm).trans ((AH.set_ne _ _ (ne_none hD E.h2)).trans E.h2), (AH.set_ne _ _ E.nx3.symm).trans ((AH.set_ne _ _ (ne_none hD E.h3)).trans E.h3), (AH.set_ne _ _ E.nx4.symm).trans ((AH.set_ne _ _ (ne_none hD E.h4)).trans E.h4), (ne_none hD E.h2).symm, (ne_none hD E.h3).symm, (ne_none hD E.h4).symm, E.n23, E.n24, E.n34, (E.sub.fresh hD).other E.rx, E.rs, E.rx, rD, E.r2, E.r3, E.r4⟩
theorem CkL.new2 (E : CkL Hr H s dx d1 d2 d3 d4 e1 e2 e3 e4 k) {D : Addr} (hD : H D = none) : CkL Hr ((H.set D (.dI 0 [])).set dx (.ns (nput [(940052543510446748398, .int k.nv), (57912369945981174, .ref d1), (211497704, .ref d2), (58471267585029993, .ref d3), (58471268105403119, .ref d4)] 211497704 (.ref D)))) s dx d1 D d3 d4 e1 0 e3 e4 { k with held := [] } :=
  have nD : D ≠ dx := (ne_none hD E.hx).symm
  have rD : Hr D = none := by
    cases z : Hr D with
    | none => rfl
    | some o => rw [E.sub _ _ z] at hD; cases hD
  ⟨(AH.set_ne _ _ E.nsx).trans ((AH.set_ne _ _ (ne_none hD E.hs)).trans E.hs), AH.set_same _ _ _, (AH.set_ne _ _ E.nx1.symm).trans ((AH.set_ne _ _ (ne_none hD E.h1)).trans E.h1), (AH.set_ne _ _ nD).trans (AH.set_same _ _ _), (AH.set_ne _ _ E.nx3.symm).trans ((AH.set_ne _ _ (ne_none hD E.h3)).trans E.h3), (AH.set_ne _ _ E.nx4.symm).trans ((AH.set_ne _ _ (ne_none hD E.h4)).trans E.h4), ne_none hD E.h1, E.n13, E.n14, (ne_none hD E.h3).symm, (ne_none hD E.h4).symm, E.n34, (E.sub.fresh hD).other E.rx, E.rs, E.rx, E.r1, rD, E.r3, E.r4⟩
theorem CkL.new3 (E : CkL Hr H s dx d1 d2 d3 d4 e1 e2 e3 e4 k) {D : Addr} (hD : H D = none) : CkL Hr ((H.set D (.dI 0 [])).set dx (.ns (nput [(940052543510446748398, .int k.nv), (57912369945981174, .ref d1), (211497704, .ref d2), (58471267585029993, .ref d3), (58471268105403119, .ref d4)] 58471267585029993 (.ref D)))) s dx d1 d2 D d4 e1 e2 0 e4 { k with inc := [] } :=
  have nD : D ≠ dx := (ne_none hD E.hx).symm
  have rD : Hr D = none := by
    cases z : Hr D with
    | none => rfl
    | some o => rw [E.sub _ _ z] at hD; cases hD
  ⟨(AH.set_ne _ _ E.nsx).trans ((AH.set_ne _ _ (ne_none hD E.hs)).trans E.hs), AH.set_same _ _ _, (AH.set_ne _ _ E.nx1.symm).trans ((AH.set_ne _ _ (ne_none hD E.h1)).trans E.h1), (AH.set_ne _ _ E.nx2.symm).trans ((AH.set_ne _ _ (ne_none hD E.h2)).trans E.h2), (AH.set_ne _ _ nD).trans (AH.set_same _ _ _), (AH.set_ne _ _ E.nx4.symm).trans ((AH.set_ne _ _ (ne_none hD E.h4)).trans E.h4), E.n12, ne_none hD E.h1, E.n14, ne_none hD E.h2, E.n24, (ne_none hD E.h4).symm, (E.sub.fresh hD).other E.rx, E.rs, E.rx, E.r1, E.r2, rD, E.r4⟩
theorem CkL.new4 (E : CkL Hr H s dx d1 d2 d3 d4 e1 e2 e3 e4 k) {D : Addr} (hD : H D = none) : CkL Hr ((H.set D (.dI 0 [])).set dx (.ns (nput [(940052543510446748398, .int k.nv), (57912369945981174, .ref d1), (211497704, .ref d2), (58471267585029993, .ref d3), (58471268105403119, .ref d4)] 58471268105403119 (.ref D)))) s dx d1 d2 d3 D e1 e2 e3 0 { k with out := [] } :=
  have nD : D ≠ dx := (ne_none hD E.hx).symm
  have rD : Hr D = none := by
    cases z : Hr D with
    | none => rfl
    | some o => rw [E.sub _ _ z] at hD; cases hD
  ⟨(AH.set_ne _ _ E.nsx).trans ((AH.set_ne _ _ (ne_none hD E.hs)).trans E.hs), AH.set_same _ _ _, (AH.set_ne _ _ E.nx1.symm).trans ((AH.set_ne _ _ (ne_none hD E.h1)).trans E.h1), (AH.set_ne _ _ E.nx2.symm).trans ((AH.set_ne _ _ (ne_none hD E.h2)).trans E.h2), (AH.set_ne _ _ E.nx3.symm).trans ((AH.set_ne _ _ (ne_none hD E.h3)).trans E.h3), (AH.set_ne _ _ nD).trans (AH.set_same _ _ _), E.n12, E.n13, ne_none hD E.h1, E.n23, ne_none hD E.h2, ne_none hD E.h3, (E.sub.fresh hD).other E.rx, E.rs, E.rx, E.r1, E.r2, E.r3, rD⟩
end
theorem ended_tt (k : Ck) {nm : Nm} (h1 : nm.takes = true) (h2 : nm = .call ∨ nm = .execute) : ended k nm = { k with out := [], held := [], vo := [], inc := [] } := by simp [ended, h1, h2]
theorem ended_tf (k : Ck) {nm : Nm} (h1 : nm.takes = true) (h2 : ¬ (nm = .call ∨ nm = .execute)) : ended k nm = { k with out := [] } := by simp [ended, h1, h2]
theorem ended_ft (k : Ck) {nm : Nm} (h1 : nm.takes = false) (h2 : nm = .call ∨ nm = .execute) : ended k nm = { k with held := [], vo := [], inc := [] } := by simp [ended, h1, h2]
theorem ended_ff (k : Ck) {nm : Nm} (h1 : nm.takes = false) (h2 : ¬ (nm = .call ∨ nm = .execute)) : ended k nm = k := by simp [ended, h1, h2]
theorem Ck.small.up {k : Ck} {m n : Nat} (h : k.small m) (hmn : m ≤ n) : k.small n := ⟨by have := h.1; omega, by have := h.2.1; omega, by have := h.2.2.1; omega, by have := h.2.2.2; omega⟩
theorem goA_cons (v : Int) (k : Ck) (role role' : Int) (p q : Pt) (ps qs : List (Int × Pt)) : goA v k ((role, p) :: ps) ((role', q) :: qs) = goA v (if role ≠ 1 then writeP k p q v else k) ps qs := by rw [goA]
section
variable {c : Cx} (hK : c.K = hd.heap_1 c.w.params)
include hK
theorem makes_AC : makesIn c.K 115 = true := by rw [hK]; kernel_rfl
theorem init_AC : findIn c.K (.ref 115) "__init__" = some (some (.ref 42)) := by rw [hK]; kernel_rfl
theorem type_AC : typeIn c.K (.ref 42) = some (.type "function") := by rw [hK]; kernel_rfl
set_option maxHeartbeats 4000000 in
theorem sp_advance {n nn : Nat} {Hr H : AH} {s : Addr} {k : Ck} {r q : Rw} {Q : V → AH → Prop} (E : CkAt Hr H s k) (hsm : k.small nn) (hnn : nn ≤ 990) (hok : rowOk r = true) (hq : opsOk q) (hsh : sameShape r q = true) (h : ∀ H', CkAt Hr H' s (advP k r q) → Q .none H') : FnSpec c (n + 15) 105 [.ref s, r.v, q.v] Q H := by
  have hr := rowOk_ops hok
  have hfit := roles_fit hok hsh
  obtain ⟨v1, hv1⟩ : ∃ v1, (if copied k r = 0 then k.nv + 1 else copied k r) = v1 := ⟨_, rfl⟩
  obtain ⟨k1, hk1⟩ : ∃ k1, (if copied k r = 0 then { k with nv := k.nv + 1 } else k) = k1 := ⟨_, rfl⟩
  have hsm1 : k1.small nn := by rw [← hk1]; split <;> exact hsm
  have hAdv : advP k r q = ended (goA v1 k1 (roles r.nm r.ps) (roles q.nm q.ps)) r.nm := by simp only [advP, hv1, hk1]
  obtain ⟨dx, d1, d2, d3, d4, e1, e2, e3, e4, E⟩ := E
  have hs := E.hs
  have hx := E.hx
  have h1 := E.h1
  have h2 := E.h2
  have h3 := E.h3
  have h4 := E.h4
  refine fn_enter (ks := ks_advance) (by rw [hK]; rfl) (by rw [hK]; kernel_rfl) (KOk.of rfl (by kernel_rfl)) [Str.ofString "self", Str.ofString "instruction", Str.ofString "real"] [215692019, 130896504364032243595113, 228094706] (all3 fun v0 v1 v2 => rfl) (by kernel_rfl) (by decide) (by rfl) (by decide) rfl rfl rfl (fun A L env hA K => ?_)
  refine seq ?_
  refine S_assign K n_value (by rfl) ?_ (by rfl)
  refine E_meth hA n_copied_value ?_ (by rfl) (by rfl) (by rfl)
  refine E_local K n_self (by rfl) (by first | rfl | assumption) ?_ (by rfl)
  refine ⟨_, _, _, _, _, rfl, E.hs, E.hx, by rfl, m_copied_value hK, ?_⟩
  refine L_cons ?_ (by rfl)
  refine E_local K n_instruction (by rfl) (by first | rfl | assumption) ?_ (by rfl)
  refine L_nil ?_
  refine sp_copied hK (n := n + 2) ⟨dx, d1, d2, d3, d4, e1, e2, e3, e4, E⟩ hr ?_
  refine After.next ?_
  refine seqJ (fun l H1 => LSub [(27359129846, .int v1), (215692019, .ref s), (130896504364032243595113, r.v), (228094706, q.v)] l ∧ CkAt Hr H1 s k1) ?_ ?_
  · skip
    refine S_if ?_
    refine B_cmp ?_ (by rfl)
    refine E_local K n_value (by rfl) (by first | rfl | assumption) ?_ (by rfl)
    refine E_int ?_
    refine o_eq hA (by omega) (by rfl) (by rfl) ?_
    rw [V.eq_int]
    refine ⟨_, rfl, ?_⟩
    refine ite_b (fun g0 => ?_) (fun g0 => ?_)
    · skip
      have g0 := of_decide_eq_true g0
      refine seq ?_
      refine S_assign K n_value (by rfl) ?_ (by rfl)
      refine E_meth0 hA n_new_value ?_ (by rfl)
      refine E_local K n_self (by rfl) (by first | rfl | assumption) ?_ (by rfl)
      refine ⟨_, _, _, _, _, rfl, E.hs, E.hx, by rfl, m_new_value hK, ?_⟩
      refine sp_new_value hK (n := n + 2) ⟨dx, d1, d2, d3, d4, e1, e2, e3, e4, E⟩ (fun H1 E1 => ?_)
      refine After.next ?_
      refine S_nil ?_
      exact ⟨rfl, LSub.cons (by rw [← hv1, if_pos g0]; rfl) (LSub.cons rfl (LSub.cons rfl (LSub.cons rfl LSub.nil))), by rw [← hk1, if_pos g0]; exact E1⟩
    · skip
      have g0 := of_decide_eq_false g0
      refine S_nil ?_
      exact ⟨rfl, LSub.cons (by rw [← hv1, if_neg g0]; rfl) (LSub.cons rfl (LSub.cons rfl (LSub.cons rfl LSub.nil))), by rw [← hk1, if_neg g0]; exact ⟨dx, d1, d2, d3, d4, e1, e2, e3, e4, E⟩⟩
  · skip
    intro l H1 hM
    obtain ⟨hl, E1⟩ := hM
    refine WS.less (loc' := [(27359129846, .int v1), (215692019, .ref s), (130896504364032243595113, r.v), (228094706, q.v)]) (H' := H1) ?_ hl (Sub.refl _)
    clear E hs hx h1 h2 h3 h4
    refine seq ?_
    refine S_assign K n_pairs (by rfl) ?_ (by rfl)
    refine E_call hA K n_operand_roles (by rfl) (gl_operand_roles hK) (keep_operand_roles hK) ?_ (by rfl) (by rfl) (by rfl)
    refine L_cons ?_ (by rfl)
    refine E_local K n_instruction (by rfl) (by first | rfl | assumption) ?_ (by rfl)
    refine L_nil ?_
    refine sp_roles hK (n := n + 2) hr.1 (fun P hP => ?_)
    refine After.next ?_
    refine seq ?_
    refine S_assign K n_others (by rfl) ?_ (by rfl)
    refine E_call hA K n_operand_roles (by rfl) (gl_operand_roles hK) (keep_operand_roles hK) ?_ (by rfl) (by rfl) (by rfl)
    refine L_cons ?_ (by rfl)
    refine E_local K n_real (by rfl) (by first | rfl | assumption) ?_ (by rfl)
    refine L_nil ?_
    refine sp_roles hK (n := n + 2) hq.1 (fun O hO => ?_)
    refine After.next ?_
    refine seq ?_
    refine S_assign K n_at (by rfl) ?_ (by rfl)
    refine E_int ?_
    refine After.next ?_
    refine seq ?_
    have nPO : O ≠ P := by rintro rfl; rw [AH.set_same] at hO; cases hO
    have E2 := (E1.ext (.list ((roles r.nm r.ps).map rv)) hP).ext (.list ((roles q.nm q.ps).map rv)) hO
    have cP0 : ((Hr.set P (.list ((roles r.nm r.ps).map rv))).set O (.list ((roles q.nm q.ps).map rv))) P = some (.list ((roles r.nm r.ps).map rv)) := by rw [AH.set_ne _ _ (Ne.symm nPO), AH.set_same]
    have cO0 : ((Hr.set P (.list ((roles r.nm r.ps).map rv))).set O (.list ((roles q.nm q.ps).map rv))) O = some (.list ((roles q.nm q.ps).map rv)) := AH.set_same _ _ _
    have hP0 : Hr P = none := by
      cases z : Hr P with
      | none => rfl
      | some o => rw [E1.sub _ _ z] at hP; cases hP
    have hO0 : (Hr.set P (.list ((roles r.nm r.ps).map rv))) O = none := by
      cases z : (Hr.set P (.list ((roles r.nm r.ps).map rv))) O with
      | none => rfl
      | some o => rw [(E1.sub.set (o := .list ((roles r.nm r.ps).map rv))) _ _ z] at hO; cases hO
    have hrr : Sub Hr ((Hr.set P (.list ((roles r.nm r.ps).map rv))).set O (.list ((roles q.nm q.ps).map rv))) := ((Sub.refl Hr).fresh hP0).fresh hO0
    generalize ((Hr.set P (.list ((roles r.nm r.ps).map rv))).set O (.list ((roles q.nm q.ps).map rv))) = Hr2 at E2 cP0 cO0 hrr
    generalize ((H1.set P (.list ((roles r.nm r.ps).map rv))).set O (.list ((roles q.nm q.ps).map rv))) = H2 at E2 ⊢
    refine S_while' (σ := Nat × Ck × AH) (fun m x => m = (roles r.nm r.ps).length - x.1 ∧ x.1 ≤ (roles r.nm r.ps).length ∧ x.2.1.small (nn + x.1) ∧ CkAt Hr2 x.2.2 s x.2.1 ∧ goA v1 x.2.1 ((roles r.nm r.ps).drop x.1) ((roles q.nm q.ps).drop x.1) = goA v1 k1 (roles r.nm r.ps) (roles q.nm q.ps)) (fun x => (fun j => [(14945, .int ((j : Nat) : Int)), (3982185085551, .ref O), (31110885616, .ref P), (27359129846, .int v1), (215692019, .ref s), (130896504364032243595113, r.v), (228094706, q.v)]) x.1) (fun x => x.2.2) (roles r.nm r.ps).length (0, k1, H2) ⟨rfl, Nat.zero_le _, hsm1, E2, rfl⟩ (LSub.refl _) (Sub.refl _) (fun m st hJ => ?_)
    obtain ⟨j, k', H'⟩ := st
    obtain ⟨rfl, hj, hsm', E', hgo⟩ := hJ
    dsimp only at hj hsm' E' hgo ⊢
    have cP := E'.sub _ _ cP0
    have cO := E'.sub _ _ cO0
    refine B_cmp ?_ (by rfl)
    refine E_local K n_at (by rfl) (by first | rfl | assumption) ?_ (by rfl)
    refine E_callb K n_len (by rfl) (gl_len hK) boot_len nn_len (by rfl) (fun _ h => nomatch h) ?_ (by rfl) (by rfl)
    refine L_cons ?_ (by rfl)
    refine E_local K n_pairs (by rfl) (by first | rfl | assumption) ?_ (by rfl)
    refine L_nil ?_
    refine b_len_list cP (by rw [List.length_map]; have := hfit.2.1; omega) ?_
    rw [List.length_map]
    refine o_lt ?_
    refine ⟨_, rfl, ?_⟩
    refine ite_b (fun hw => ?_) (fun hw => ?_)
    · skip
      have hj' : j < (roles r.nm r.ps).length := by have := of_decide_eq_true hw; omega
      obtain ⟨x, hxj⟩ : ∃ x, (roles r.nm r.ps)[j]? = some x := ⟨_, List.getElem?_eq_getElem hj'⟩
      obtain ⟨y, hyj⟩ : ∃ y, (roles q.nm q.ps)[j]? = some y := ⟨_, List.getElem?_eq_getElem (by have := hfit.1; omega)⟩
      have hgo' := hgo
      rw [drop_one hxj, drop_one hyj] at hgo'
      obtain ⟨hyx, ch, np, hx2, hcp, hyo, hxq⟩ := hfit.2.2 j x y hxj hyj
      obtain ⟨role, p⟩ := x
      obtain ⟨role', o⟩ := y
      dsimp only at hx2 hyo hxq hyx
      subst hx2 hyx
      have hl2 := hfit.2.1
      refine WS.gen fun Qg1 hg1 => ?_
      refine seq ?_
      refine S_pair hA K n_role (by rfl) n_operand (by rfl) ?_ (by rfl) (by rfl)
      refine E_sub ?_
      refine E_local K n_pairs (by rfl) (by first | rfl | assumption) ?_ (by rfl)
      refine E_local K n_at (by rfl) (by first | rfl | assumption) ?_ (by rfl)
      refine o_item_list (x := .tup [.int role', (Pt.op ch np).v]) cP (by omega) (by omega) (rn_get hxj) ?_ (fun _ _ => rfl)
      refine ⟨_, _, rfl, ?_⟩
      refine After.next ?_
      refine seq ?_
      refine S_if ?_
      refine B_cmp ?_ (by rfl)
      refine E_local K n_role (by rfl) (by first | rfl | assumption) ?_ (by rfl)
      refine E_glob K n_READS (by rfl) (gl_READS hK) (fun h => rI h _ _) ?_ (by rfl)
      refine o_ne hA (by omega) (by rfl) (by rfl) ?_
      rw [V.eq_int]
      refine ⟨_, rfl, ?_⟩
      refine ite_b (fun g1 => ?_) (fun g1 => ?_)
      · skip
        have g1' : role' ≠ 1 := by simpa using g1
        obtain ⟨dx, d1, d2, d3, d4, e1, e2, e3, e4, E⟩ := E'
        refine seq ?_
        refine S_expr ?_ K.quiet (by rfl)
        refine E_meth hA n_write ?_ (by rfl) (by rfl) (by rfl)
        refine E_local K n_self (by rfl) (by first | rfl | assumption) ?_ (by rfl)
        refine ⟨_, _, _, _, _, rfl, E.hs, E.hx, by rfl, m_write hK, ?_⟩
        refine L_cons ?_ (by rfl)
        refine E_local K n_operand (by rfl) (by first | rfl | assumption) ?_ (by rfl)
        refine L_cons ?_ (by rfl)
        refine E_sub ?_
        refine E_sub ?_
        refine E_local K n_others (by rfl) (by first | rfl | assumption) ?_ (by rfl)
        refine E_local K n_at (by rfl) (by first | rfl | assumption) ?_ (by rfl)
        refine o_item_list (x := .tup [.int role', o.v]) cO (by omega) (by omega) (rn_get hyj) ?_ (fun _ _ => rfl)
        refine E_int ?_
        refine o_item_tup (by decide) (by decide) (by first | rfl | assumption) ?_ (fun _ _ => rfl)
        refine L_cons ?_ (by rfl)
        refine E_local K n_value (by rfl) (by first | rfl | assumption) ?_ (by rfl)
        refine L_nil ?_
        refine sp_write hK (n := n + 2) ⟨dx, d1, d2, d3, d4, e1, e2, e3, e4, E⟩ (hsm'.up (by omega)) hcp hxq (fun H3 E3 => ?_)
        refine ⟨rfl, ?_⟩
        refine After.next ?_
        refine S_nil ?_
        refine After.next ?_
        refine seq ?_
        refine S_aug K n_at (by rfl) (by first | rfl | assumption) ?_
        refine E_int ?_
        refine o_iadd ?_
        refine After.next ?_
        refine S_nil ?_
        refine hg1 _ _ _ (TurnEnd.next ?_)
        refine ⟨(roles r.nm r.ps).length - (j + 1), (j + 1, writeP k' (.op ch np) o v1, H3), by omega, ⟨rfl, by omega, writeP_small hsm', E3, by rw [← hgo', goA_cons, if_pos g1']⟩, LSub.cons rfl (LSub.cons rfl (LSub.cons rfl (LSub.cons rfl (LSub.cons rfl (LSub.cons rfl (LSub.cons rfl LSub.nil)))))), Sub.refl _⟩
      · skip
        have g1' : ¬ role' ≠ 1 := by simpa using g1
        refine S_nil ?_
        refine After.next ?_
        refine seq ?_
        refine S_aug K n_at (by rfl) (by first | rfl | assumption) ?_
        refine E_int ?_
        refine o_iadd ?_
        refine After.next ?_
        refine S_nil ?_
        refine hg1 _ _ _ (TurnEnd.next ?_)
        refine ⟨(roles r.nm r.ps).length - (j + 1), (j + 1, k', H'), by omega, ⟨rfl, by omega, hsm'.up (by show _ ≤ nn + (j + 1); omega), E', by rw [← hgo', goA_cons, if_neg g1']⟩, LSub.cons rfl (LSub.cons rfl (LSub.cons rfl (LSub.cons rfl (LSub.cons rfl (LSub.cons rfl (LSub.cons rfl LSub.nil)))))), Sub.refl _⟩
    · skip
      have hF : k' = goA v1 k1 (roles r.nm r.ps) (roles q.nm q.ps) := by
        have hj' : (roles r.nm r.ps).length ≤ j := by have := of_decide_eq_false hw; omega
        rw [← hgo, List.drop_of_length_le hj']; rfl
      rw [← hF] at hAdv
      obtain ⟨dx, d1, d2, d3, d4, e1, e2, e3, e4, E⟩ := E'.shrink hrr
      refine S_nil ?_
      refine After.next ?_
      refine seq ?_
      refine S_if ?_
      refine B_val ?_ (by rfl)
      refine E_call hA K n_ends_arguments (by rfl) (gl_ends_arguments hK) (keep_ends_arguments hK) ?_ (by rfl) (by rfl) (by rfl)
      refine L_cons ?_ (by rfl)
      refine E_local K n_instruction (by rfl) (by first | rfl | assumption) ?_ (by rfl)
      refine L_nil ?_
      refine sp_ends hK (n := n + 2) ?_
      refine ⟨_, rfl, ?_⟩
      refine ite_b (fun g2 => ?_) (fun g2 => ?_)
      · skip
        refine seq ?_
        refine S_assign_attr n_outgoing ?_ (by rfl)
        refine E_dict0 fun D1 hD1 => ?_
        refine E_local K n_self (by rfl) (by first | rfl | assumption) ?_ (by rfl)
        refine ⟨_, _, _, _, rfl, (AH.set_ne _ _ (ne_none hD1 E.hs)).trans E.hs, (AH.set_ne _ _ (ne_none hD1 E.hx)).trans E.hx, at_outgoing hK, Nat.le_of_ble_eq_true rfl, ?_⟩
        have Eoutgoing1 := E.new4 hD1
        refine After.next ?_
        refine S_nil ?_
        refine After.next ?_
        refine seq ?_
        refine S_if ?_
        refine B_pure (decide (r.nm = .call) || decide (r.nm = .execute)) ?_ ?_
        · skip
          refine B_or ?_
          refine A_or_cons ?_
          refine B_cmp ?_ (by rfl)
          refine E_sub ?_
          refine E_local K n_instruction (by rfl) (by first | rfl | assumption) ?_ (by rfl)
          refine E_int ?_
          refine o_item_tup (by decide) (by decide) (by first | rfl | assumption) ?_ (fun _ _ => rfl)
          refine E_str ?_
          refine o_eq hA (by omega) (by rfl) (by rfl) ?_
          rw [show ("call" : String) = Nm.call.s from rfl, nm_eq]
          refine ⟨_, rfl, ?_⟩
          refine ite_b (fun q0 => ?_) (fun q0 => ?_)
          · skip
            exact ⟨by simp_all, rfl⟩
          · skip
            refine A_or_cons ?_
            refine B_cmp ?_ (by rfl)
            refine E_sub ?_
            refine E_local K n_instruction (by rfl) (by first | rfl | assumption) ?_ (by rfl)
            refine E_int ?_
            refine o_item_tup (by decide) (by decide) (by first | rfl | assumption) ?_ (fun _ _ => rfl)
            refine E_str ?_
            refine o_eq hA (by omega) (by rfl) (by rfl) ?_
            rw [show ("execute" : String) = Nm.execute.s from rfl, nm_eq]
            refine ⟨_, rfl, ?_⟩
            refine ite_b (fun q1 => ?_) (fun q1 => ?_)
            · skip
              exact ⟨by simp_all, rfl⟩
            · skip
              refine A_or_nil ?_
              exact ⟨by simp_all, rfl⟩
        refine ite_b (fun g3 => ?_) (fun g3 => ?_)
        · skip
          have g3 : r.nm = .call ∨ r.nm = .execute := by simpa using g3
          refine seq ?_
          refine S_assign_attr n_held ?_ (by rfl)
          refine E_dict0 fun D2 hD2 => ?_
          refine E_local K n_self (by rfl) (by first | rfl | assumption) ?_ (by rfl)
          refine ⟨_, _, _, _, rfl, (AH.set_ne _ _ (ne_none hD2 Eoutgoing1.hs)).trans Eoutgoing1.hs, (AH.set_ne _ _ (ne_none hD2 Eoutgoing1.hx)).trans Eoutgoing1.hx, at_held hK, Nat.le_of_ble_eq_true rfl, ?_⟩
          have Eheld2 := Eoutgoing1.new2 hD2
          refine After.next ?_
          refine seq ?_
          refine S_assign_attr n_value_of ?_ (by rfl)
          refine E_dict0 fun D3 hD3 => ?_
          refine E_local K n_self (by rfl) (by first | rfl | assumption) ?_ (by rfl)
          refine ⟨_, _, _, _, rfl, (AH.set_ne _ _ (ne_none hD3 Eheld2.hs)).trans Eheld2.hs, (AH.set_ne _ _ (ne_none hD3 Eheld2.hx)).trans Eheld2.hx, at_value_of hK, Nat.le_of_ble_eq_true rfl, ?_⟩
          have Evalue_of3 := Eheld2.new1 hD3
          refine After.next ?_
          refine seq ?_
          refine S_assign_attr n_incoming ?_ (by rfl)
          refine E_dict0 fun D4 hD4 => ?_
          refine E_local K n_self (by rfl) (by first | rfl | assumption) ?_ (by rfl)
          refine ⟨_, _, _, _, rfl, (AH.set_ne _ _ (ne_none hD4 Evalue_of3.hs)).trans Evalue_of3.hs, (AH.set_ne _ _ (ne_none hD4 Evalue_of3.hx)).trans Evalue_of3.hx, at_incoming hK, Nat.le_of_ble_eq_true rfl, ?_⟩
          have Eincoming4 := Evalue_of3.new3 hD4
          refine After.next ?_
          refine S_nil ?_
          refine After.next ?_
          refine S_nil ?_
          refine Back.next ?_
          exact ⟨_, Sub.refl _, h _ (by rw [hAdv, ended_tt _ g2 g3]; exact ⟨_, _, _, _, _, _, _, _, _, Eincoming4⟩)⟩
        · skip
          have g3 : ¬ (r.nm = .call ∨ r.nm = .execute) := by simpa using g3
          refine S_nil ?_
          refine After.next ?_
          refine S_nil ?_
          refine Back.next ?_
          exact ⟨_, Sub.refl _, h _ (by rw [hAdv, ended_tf _ g2 g3]; exact ⟨_, _, _, _, _, _, _, _, _, Eoutgoing1⟩)⟩
      · skip
        refine S_nil ?_
        refine After.next ?_
        refine seq ?_
        refine S_if ?_
        refine B_pure (decide (r.nm = .call) || decide (r.nm = .execute)) ?_ ?_
        · skip
          refine B_or ?_
          refine A_or_cons ?_
          refine B_cmp ?_ (by rfl)
          refine E_sub ?_
          refine E_local K n_instruction (by rfl) (by first | rfl | assumption) ?_ (by rfl)
          refine E_int ?_
          refine o_item_tup (by decide) (by decide) (by first | rfl | assumption) ?_ (fun _ _ => rfl)
          refine E_str ?_
          refine o_eq hA (by omega) (by rfl) (by rfl) ?_
          rw [show ("call" : String) = Nm.call.s from rfl, nm_eq]
          refine ⟨_, rfl, ?_⟩
          refine ite_b (fun q0 => ?_) (fun q0 => ?_)
          · skip
            exact ⟨by simp_all, rfl⟩
          · skip
            refine A_or_cons ?_
            refine B_cmp ?_ (by rfl)
            refine E_sub ?_
            refine E_local K n_instruction (by rfl) (by first | rfl | assumption) ?_ (by rfl)
            refine E_int ?_
            refine o_item_tup (by decide) (by decide) (by first | rfl | assumption) ?_ (fun _ _ => rfl)
            refine E_str ?_
            refine o_eq hA (by omega) (by rfl) (by rfl) ?_
            rw [show ("execute" : String) = Nm.execute.s from rfl, nm_eq]
            refine ⟨_, rfl, ?_⟩
            refine ite_b (fun q1 => ?_) (fun q1 => ?_)
            · skip
              exact ⟨by simp_all, rfl⟩
            · skip
              refine A_or_nil ?_
              exact ⟨by simp_all, rfl⟩
        refine ite_b (fun g3 => ?_) (fun g3 => ?_)
        · skip
          have g3 : r.nm = .call ∨ r.nm = .execute := by simpa using g3
          refine seq ?_
          refine S_assign_attr n_held ?_ (by rfl)
          refine E_dict0 fun D5 hD5 => ?_
          refine E_local K n_self (by rfl) (by first | rfl | assumption) ?_ (by rfl)
          refine ⟨_, _, _, _, rfl, (AH.set_ne _ _ (ne_none hD5 E.hs)).trans E.hs, (AH.set_ne _ _ (ne_none hD5 E.hx)).trans E.hx, at_held hK, Nat.le_of_ble_eq_true rfl, ?_⟩
          have Eheld5 := E.new2 hD5
          refine After.next ?_
          refine seq ?_
          refine S_assign_attr n_value_of ?_ (by rfl)
          refine E_dict0 fun D6 hD6 => ?_
          refine E_local K n_self (by rfl) (by first | rfl | assumption) ?_ (by rfl)
          refine ⟨_, _, _, _, rfl, (AH.set_ne _ _ (ne_none hD6 Eheld5.hs)).trans Eheld5.hs, (AH.set_ne _ _ (ne_none hD6 Eheld5.hx)).trans Eheld5.hx, at_value_of hK, Nat.le_of_ble_eq_true rfl, ?_⟩
          have Evalue_of6 := Eheld5.new1 hD6
          refine After.next ?_
          refine seq ?_
          refine S_assign_attr n_incoming ?_ (by rfl)
          refine E_dict0 fun D7 hD7 => ?_
          refine E_local K n_self (by rfl) (by first | rfl | assumption) ?_ (by rfl)
          refine ⟨_, _, _, _, rfl, (AH.set_ne _ _ (ne_none hD7 Evalue_of6.hs)).trans Evalue_of6.hs, (AH.set_ne _ _ (ne_none hD7 Evalue_of6.hx)).trans Evalue_of6.hx, at_incoming hK, Nat.le_of_ble_eq_true rfl, ?_⟩
          have Eincoming7 := Evalue_of6.new3 hD7
          refine After.next ?_
          refine S_nil ?_
          refine After.next ?_
          refine S_nil ?_
          refine Back.next ?_
          exact ⟨_, Sub.refl _, h _ (by rw [hAdv, ended_ft _ g2 g3]; exact ⟨_, _, _, _, _, _, _, _, _, Eincoming7⟩)⟩
        · skip
          have g3 : ¬ (r.nm = .call ∨ r.nm = .execute) := by simpa using g3
          refine S_nil ?_
          refine After.next ?_
          refine S_nil ?_
          refine Back.next ?_
          exact ⟨_, Sub.refl _, h _ (by rw [hAdv, ended_ff _ g2 g3]; exact ⟨_, _, _, _, _, _, _, _, _, E⟩)⟩
end
end Mine
namespace Mine
theorem copied_src {k : Ck} {r : Rw} (hr : opsOk r) (h : copied k r ≠ 0) : (∃ c1 n1 c2 n2, r = ⟨.get_variable, [.op c1 n1, .op c2 n2]⟩) ∨ (∃ c1 n1 c2 n2, r = ⟨.put_value, [.op c1 n1, .op c2 n2]⟩) := by
  by_cases h1 : r.nm = .get_variable
  · exact .inl (gv_shape hr h1)
  · by_cases h2 : r.nm = .put_value
    · exact .inr (pv_shape hr h2)
    · exfalso
      obtain ⟨nm, ps⟩ := r
      apply h
      cases nm <;> first | rfl | exact absurd rfl h1 | exact absurd rfl h2
theorem target_op {k : Ck} {r : Rw} (hr : opsOk r) (h : copied k r ≠ 0) : ∃ ch n, targetOf r = .op ch n := by
  rcases copied_src hr h with ⟨c1, n1, c2, n2, rfl⟩ | ⟨c1, n1, c2, n2, rfl⟩
  · exact ⟨_, _, rfl⟩
  · exact ⟨_, _, rfl⟩
theorem leftP_0 {k : Ck} {r : Rw} (h : copied k r = 0) : leftP k r = none := by simp [leftP, h]
theorem leftP_t {k : Ck} {r : Rw} {n : Int} (h : ¬ copied k r = 0) (ht : targetOf r = .op .t n) : leftP k r = some { k with vo := iput k.vo n (copied k r) } := by simp [leftP, h, ht]
theorem leftP_a {k : Ck} {r : Rw} {n : Int} (h : ¬ copied k r = 0) (ht : targetOf r = .op .a n) : leftP k r = if iget k.held n 0 = copied k r then some { k with out := iput k.out n (copied k r) } else none := by simp [leftP, h, ht]
theorem leftP_x {k : Ck} {r : Rw} {n : Int} {ch : Ch} (h : ¬ copied k r = 0) (ht : targetOf r = .op ch n) (h1 : ¬ ch = .t) (h2 : ¬ ch = .a) : leftP k r = none := by
  simp only [leftP, if_neg h, ht]
  all_goals (cases ch <;> first | rfl | exact absurd rfl h1 | exact absurd rfl h2)
theorem leftP_small {k k' : Ck} {r : Rw} {n : Nat} (h : k.small n) (e : leftP k r = some k') : k'.small (n + 1) := by
  obtain ⟨h1, h2, h3, h4⟩ := h
  unfold leftP at e
  dsimp only at e
  split at e
  · cases e
  · split at e
    · rename_i m _
      cases e
      have := iput_len k.vo m (copied k r)
      refine ⟨?_, ?_, ?_, ?_⟩ <;> (dsimp only; omega)
    · rename_i m _
      split at e
      · cases e
        have := iput_len k.out m (copied k r)
        refine ⟨?_, ?_, ?_, ?_⟩ <;> (dsimp only; omega)
      · cases e
    · cases e
theorem goA_small (v : Int) : ∀ (ps qs : List (Int × Pt)) (k : Ck) (n : Nat), k.small n → (goA v k ps qs).small (n + ps.length)
  | [], qs, k, n, h => by rw [show goA v k [] qs = k by cases qs <;> rfl]; exact h.up (by simp)
  | (role, p) :: ps, [], k, n, h => by rw [show goA v k ((role, p) :: ps) [] = k from rfl]; exact h.up (by simp)
  | (role, p) :: ps, (role', q) :: qs, k, n, h => by
    rw [goA_cons]
    have := goA_small v ps qs (if role ≠ 1 then writeP k p q v else k) (n + 1) (by split; exact writeP_small h; exact h.up (Nat.le_succ _))
    exact this.up (by simp; omega)
theorem roles_len (nm : Nm) (ps : List Pt) : (roles nm ps).length ≤ 2 := by cases nm <;> exact Nat.le_of_ble_eq_true rfl
theorem ended_small {k : Ck} {nm : Nm} {n : Nat} (h : k.small n) : (ended k nm).small n := by
  obtain ⟨h1, h2, h3, h4⟩ := h
  unfold ended
  dsimp only
  split <;> split <;> refine ⟨?_, ?_, ?_, ?_⟩ <;> ((try dsimp only [List.length_nil]); omega)
theorem advP_small {k : Ck} {r q : Rw} {n : Nat} (h : k.small n) : (advP k r q).small (n + 2) := by
  unfold advP
  dsimp only
  refine ended_small ((goA_small _ _ _ _ n ?_).up (by have := roles_len r.nm r.ps; omega))
  split <;> exact h
theorem initC_small : ∀ t, (initC t).small t
  | 0 => ⟨Nat.le_refl _, Nat.le_refl _, Nat.le_refl _, Nat.le_refl _⟩
  | t + 1 => by
    obtain ⟨h1, h2, h3, h4⟩ := initC_small t
    have a := iput_len (initC t).held (t + 1) ((initC t).nv + 1)
    have b := iput_len (initC t).inc (t + 1) ((initC t).nv + 1)
    exact ⟨by simp only [initC]; omega, by simp only [initC]; omega, by simp only [initC]; omega, by simp only [initC]; omega⟩
section
variable {c : Cx} (hK : c.K = hd.heap_1 c.w.params)
include hK
set_option maxHeartbeats 2000000 in
theorem sp_left_out {n : Nat} {Hr H : AH} {s : Addr} {k : Ck} {r : Rw} {Q : V → AH → Prop} (E : CkAt Hr H s k) (hsm : k.small 1000) (hr : opsOk r) (hy : ∀ k', leftP k r = some k' → ∀ H', CkAt Hr H' s k' → Q (.bool true) H') (hn : leftP k r = none → Q (.bool false) H) : FnSpec c (n + 13) 112 [.ref s, r.v] Q H := by
  obtain ⟨dx, d1, d2, d3, d4, e1, e2, e3, e4, E⟩ := E
  have hs := E.hs
  have hx := E.hx
  have h1 := E.h1
  have h2 := E.h2
  have h3 := E.h3
  have h4 := E.h4
  refine fn_enter (ks := ks_left_out) (by rw [hK]; rfl) (by rw [hK]; kernel_rfl) (KOk.of rfl (by kernel_rfl)) [Str.ofString "self", Str.ofString "instruction"] [215692019, 130896504364032243595113] (all2 fun v0 v1 => rfl) (by kernel_rfl) (by decide) (by rfl) (by decide) rfl rfl rfl (fun A L env hA K => ?_)
  refine seq ?_
  refine S_assign K n_value (by rfl) ?_ (by rfl)
  refine E_meth hA n_copied_value ?_ (by rfl) (by rfl) (by rfl)
  refine E_local K n_self (by rfl) (by first | rfl | assumption) ?_ (by rfl)
  refine ⟨_, _, _, _, _, rfl, E.hs, E.hx, by rfl, m_copied_value hK, ?_⟩
  refine L_cons ?_ (by rfl)
  refine E_local K n_instruction (by rfl) (by first | rfl | assumption) ?_ (by rfl)
  refine L_nil ?_
  refine sp_copied hK (n := n) ⟨dx, d1, d2, d3, d4, e1, e2, e3, e4, E⟩ hr ?_
  refine After.next ?_
  refine seq ?_
  refine S_if ?_
  refine B_cmp ?_ (by rfl)
  refine E_local K n_value (by rfl) (by first | rfl | assumption) ?_ (by rfl)
  refine E_int ?_
  refine o_eq hA (by omega) (by rfl) (by rfl) ?_
  rw [V.eq_int]
  refine ⟨_, rfl, ?_⟩
  refine ite_b (fun g0 => ?_) (fun g0 => ?_)
  · skip
    have g0 := of_decide_eq_true g0
    refine seq ?_
    refine S_return ?_
    refine E_bool ?_
    refine After.ret ?_
    refine After.ret ?_
    refine Back.ret ?_
    exact ⟨H, Sub.refl _, hn (leftP_0 g0)⟩
  · skip
    have g0 := of_decide_eq_false g0
    obtain ⟨ch, tn, htg⟩ := target_op hr g0
    refine S_nil ?_
    refine After.next ?_
    refine seq ?_
    refine S_assign K n_target (by rfl) ?_ (by rfl)
    refine E_pure (Pt.v (.op ch tn)) ?_ ?_
    · skip
      rcases copied_src hr g0 with ⟨c1, n1, c2, n2, rfl⟩ | ⟨c1, n1, c2, n2, rfl⟩
      · skip
        refine E_if ?_
        refine B_cmp ?_ (by rfl)
        refine E_sub ?_
        refine E_local K n_instruction (by rfl) (by first | rfl | assumption) ?_ (by rfl)
        refine E_int ?_
        refine o_item_tup (by decide) (by decide) (by first | rfl | assumption) ?_ (fun _ _ => rfl)
        refine E_str ?_
        refine o_eq hA (by omega) (by rfl) (by rfl) ?_
        rw [show ("get_variable" : String) = Nm.get_variable.s from rfl, nm_eq]
        refine ⟨_, rfl, ?_⟩
        refine ite_t ?_
        refine E_sub ?_
        refine E_local K n_instruction (by rfl) (by first | rfl | assumption) ?_ (by rfl)
        refine E_int ?_
        refine o_item_tup (x := Pt.v (.op c1 n1)) (by decide) (by decide) (by rfl) ?_ (fun _ _ => rfl)
        exact ⟨congrArg Pt.v htg, rfl⟩
      · skip
        refine E_if ?_
        refine B_cmp ?_ (by rfl)
        refine E_sub ?_
        refine E_local K n_instruction (by rfl) (by first | rfl | assumption) ?_ (by rfl)
        refine E_int ?_
        refine o_item_tup (by decide) (by decide) (by first | rfl | assumption) ?_ (fun _ _ => rfl)
        refine E_str ?_
        refine o_eq hA (by omega) (by rfl) (by rfl) ?_
        rw [show ("get_variable" : String) = Nm.get_variable.s from rfl, nm_eq]
        refine ⟨_, rfl, ?_⟩
        refine ite_f ?_
        refine E_sub ?_
        refine E_local K n_instruction (by rfl) (by first | rfl | assumption) ?_ (by rfl)
        refine E_int ?_
        refine o_item_tup (x := Pt.v (.op c2 n2)) (by decide) (by decide) (by rfl) ?_ (fun _ _ => rfl)
        exact ⟨congrArg Pt.v htg, rfl⟩
    refine After.next ?_
    refine seq ?_
    refine S_if ?_
    refine B_cmp ?_ (by rfl)
    refine E_sub ?_
    refine E_local K n_target (by rfl) (by first | rfl | assumption) ?_ (by rfl)
    refine E_int ?_
    refine o_item_tup (by decide) (by decide) (by first | rfl | assumption) ?_ (fun _ _ => rfl)
    refine E_str ?_
    refine o_eq hA (by omega) (by rfl) (by rfl) ?_
    rw [lit_ch ch "t" .t rfl]
    refine ⟨_, rfl, ?_⟩
    refine ite_b (fun ct => ?_) (fun ct => ?_)
    · skip
      have ct := of_decide_eq_true ct
      subst ct
      refine seq ?_
      refine S_assign_sub ?_ (by rfl)
      refine E_local K n_value (by rfl) (by first | rfl | assumption) ?_ (by rfl)
      refine E_attr n_value_of ?_
      refine E_local K n_self (by rfl) (by first | rfl | assumption) ?_ (by rfl)
      refine ⟨_, _, _, _, _, rfl, E.hs, E.hx, at_value_of hK, by rfl, ?_⟩
      refine E_sub ?_
      refine E_local K n_target (by rfl) (by first | rfl | assumption) ?_ (by rfl)
      refine E_int ?_
      refine o_item_tup (by decide) (by decide) (by first | rfl | assumption) ?_ (fun _ _ => rfl)
      refine s_dI h1 (by rw [dm_len]; exact hsm.1) (fun ep => ?_)
      rw [iput_rel]
      have E2 := E.set1 ep (iput k.vo tn (copied k r))
      refine After.next ?_
      refine seq ?_
      refine S_return ?_
      refine E_bool ?_
      refine After.ret ?_
      refine After.ret ?_
      refine Back.ret ?_
      exact ⟨_, Sub.refl _, hy _ (leftP_t g0 htg) _ ⟨dx, d1, d2, d3, d4, _, _, _, _, E2⟩⟩
    · skip
      have ct := of_decide_eq_false ct
      refine S_nil ?_
      refine After.next ?_
      refine seq ?_
      refine S_if ?_
      refine B_pure (decide (ch = .a) && decide (iget k.held tn 0 = copied k r)) ?_ ?_
      · skip
        refine B_and ?_
        refine A_and_cons ?_
        refine B_cmp ?_ (by rfl)
        refine E_sub ?_
        refine E_local K n_target (by rfl) (by first | rfl | assumption) ?_ (by rfl)
        refine E_int ?_
        refine o_item_tup (by decide) (by decide) (by first | rfl | assumption) ?_ (fun _ _ => rfl)
        refine E_str ?_
        refine o_eq hA (by omega) (by rfl) (by rfl) ?_
        rw [lit_ch ch "a" .a rfl]
        refine ⟨_, rfl, ?_⟩
        refine ite_b (fun q0 => ?_) (fun q0 => ?_)
        · skip
          refine A_and_cons ?_
          refine B_cmp ?_ (by rfl)
          refine E_get2 ?_ (by rfl) (by rfl)
          refine E_attr n_held ?_
          refine E_local K n_self (by rfl) (by first | rfl | assumption) ?_ (by rfl)
          refine ⟨_, _, _, _, _, rfl, E.hs, E.hx, at_held hK, by rfl, ?_⟩
          refine ⟨_, rfl, ⟨_, _, h2⟩, ?_⟩
          refine E_sub ?_
          refine E_local K n_target (by rfl) (by first | rfl | assumption) ?_ (by rfl)
          refine E_int ?_
          refine o_item_tup (by decide) (by decide) (by first | rfl | assumption) ?_ (fun _ _ => rfl)
          refine E_int ?_
          refine ⟨_, _, _, rfl, h2, ?_⟩
          rw [iget_rel]
          refine E_local K n_value (by rfl) (by first | rfl | assumption) ?_ (by rfl)
          refine o_eq hA (by omega) (by rfl) (by rfl) ?_
          rw [V.eq_int]
          refine ⟨_, rfl, ?_⟩
          refine ite_b (fun q1 => ?_) (fun q1 => ?_)
          · skip
            refine A_and_nil ?_
            exact ⟨by rw [q0]; exact q1.symm, rfl⟩
          · skip
            exact ⟨by rw [q0]; exact q1.symm, rfl⟩
        · skip
          exact ⟨by rw [q0]; rfl, rfl⟩
      refine ite_b (fun g2 => ?_) (fun g2 => ?_)
      · skip
        have g2' : ch = .a ∧ iget k.held tn 0 = copied k r := by simpa using g2
        obtain ⟨rfl, g2'⟩ := g2'
        refine seq ?_
        refine S_assign_sub ?_ (by rfl)
        refine E_local K n_value (by rfl) (by first | rfl | assumption) ?_ (by rfl)
        refine E_attr n_outgoing ?_
        refine E_local K n_self (by rfl) (by first | rfl | assumption) ?_ (by rfl)
        refine ⟨_, _, _, _, _, rfl, E.hs, E.hx, at_outgoing hK, by rfl, ?_⟩
        refine E_sub ?_
        refine E_local K n_target (by rfl) (by first | rfl | assumption) ?_ (by rfl)
        refine E_int ?_
        refine o_item_tup (by decide) (by decide) (by first | rfl | assumption) ?_ (fun _ _ => rfl)
        refine s_dI h4 (by rw [dm_len]; exact hsm.2.2.2) (fun ep => ?_)
        rw [iput_rel]
        have E2 := E.set4 ep (iput k.out tn (copied k r))
        refine After.next ?_
        refine seq ?_
        refine S_return ?_
        refine E_bool ?_
        refine After.ret ?_
        refine After.ret ?_
        refine Back.ret ?_
        exact ⟨_, Sub.refl _, hy _ (by rw [leftP_a g0 htg, if_pos g2']) _ ⟨dx, d1, d2, d3, d4, _, _, _, _, E2⟩⟩
      · skip
        have g2' : ¬ (ch = .a ∧ iget k.held tn 0 = copied k r) := by intro z; rw [decide_eq_true z.1, decide_eq_true z.2] at g2; cases g2
        refine S_nil ?_
        refine After.next ?_
        refine seq ?_
        refine S_return ?_
        refine E_bool ?_
        refine After.ret ?_
        refine Back.ret ?_
        refine ⟨H, Sub.refl _, hn ?_⟩
        by_cases ha : ch = .a
        · subst ha; rw [leftP_a g0 htg, if_neg (fun z => g2' ⟨rfl, z⟩)]
        · exact leftP_x g0 htg ct ha
end
end Mine
namespace Mine
theorem runC_nil (real : List Rw) (k : Ck) (j : Nat) : runC real k j [] = decide (j = real.length) := rfl
theorem runC_yes {real : List Rw} {k : Ck} {j : Nat} {r q : Rw} {rs : List Rw} (h : real[j]? = some q) (hm : matchP k r q = true) : runC real k j (r :: rs) = runC real (advP k r q) (j + 1) rs := by simp only [runC, h, hm, if_true]
theorem runC_no {real : List Rw} {k : Ck} {j : Nat} {r : Rw} {rs : List Rw} (h : ∀ q, real[j]? = some q → matchP k r q = false) : runC real k j (r :: rs) = match leftP k r with | some k' => runC real k' j rs | none => false := by
  rw [runC]
  cases e : real[j]? with
  | none => rfl
  | some q => simp only [h q e, Bool.false_eq_true, if_false]; try (cases leftP k r <;> rfl)
noncomputable def mt (k : Ck) (r : Rw) (real : List Rw) (j : Nat) : Bool := match real[j]? with | some q => matchP k r q | none => false
theorem mt_some {k : Ck} {r q : Rw} {real : List Rw} {j : Nat} (h : real[j]? = some q) : mt k r real j = matchP k r q := by simp only [mt, h]
theorem mt_none {k : Ck} {r : Rw} {real : List Rw} {j : Nat} (h : real[j]? = none) : mt k r real j = false := by simp only [mt, h]
theorem runC_left {real : List Rw} {k k' : Ck} {j : Nat} {r : Rw} {rs : List Rw} (h : ∀ q, real[j]? = some q → matchP k r q = false) (hl : leftP k r = some k') : runC real k j (r :: rs) = runC real k' j rs := by rw [runC_no h, hl]
theorem runC_bad {real : List Rw} {k : Ck} {j : Nat} {r : Rw} {rs : List Rw} (h : ∀ q, real[j]? = some q → matchP k r q = false) (hl : leftP k r = none) : runC real k j (r :: rs) = false := by rw [runC_no h, hl]
section
variable {c : Cx} (hK : c.K = hd.heap_1 c.w.params)
include hK
set_option maxHeartbeats 2000000 in
theorem sp_init {n : Nat} {Hr H : AH} {s dx : Addr} {ar : Nat} {Q : V → AH → Prop} (har : ar ≤ 100) (hs0 : H s = some (.inst 115 dx)) (hx0 : H dx = some (.ns [])) (hsub : Sub Hr H) (hrs : Hr s = none) (hrx : Hr dx = none) (h : ∀ H', CkAt Hr H' s (initC ar) → Q .none H') : FnSpec c (n + 13) 42 [.ref s, .int (ar : Int)] Q H := by
  have nsx : s ≠ dx := ne_kind hs0 hx0 (by simp)
  refine fn_enter (ks := ks___init__) (by rw [hK]; rfl) (by rw [hK]; kernel_rfl) (KOk.of rfl (by kernel_rfl)) [Str.ofString "self", Str.ofString "arity"] [215692019, 32725694817] (all2 fun v0 v1 => rfl) (by kernel_rfl) (by decide) (by rfl) (by decide) rfl rfl rfl (fun A L env hA K => ?_)
  have g0 := hx0
  refine seq ?_
  refine S_assign_attr n_next_value ?_ (by rfl)
  refine E_int ?_
  refine E_local K n_self (by rfl) (by first | rfl | assumption) ?_ (by rfl)
  refine ⟨_, _, _, _, rfl, hs0, hx0, at_next_value hK, Nat.le_of_ble_eq_true rfl, ?_⟩
  refine After.next ?_
  have s0 : (H.set dx (.ns [(940052543510446748398, .int 0)])) s = some (.inst 115 dx) := (AH.set_ne _ _ nsx).trans hs0
  have x0 : (H.set dx (.ns [(940052543510446748398, .int 0)])) dx = some (.ns [(940052543510446748398, .int 0)]) := AH.set_same _ _ _
  have b0 : Sub Hr (H.set dx (.ns [(940052543510446748398, .int 0)])) := hsub.other hrx
  show WS _ _ _ _ _ _ (H.set dx (.ns [(940052543510446748398, .int 0)]))
  generalize (H.set dx (.ns [(940052543510446748398, .int 0)])) = A0 at s0 x0 b0 ⊢
  refine seq ?_
  refine S_assign_attr n_value_of ?_ (by rfl)
  refine E_dict0 fun D1 hD1 => ?_
  refine E_local K n_self (by rfl) (by first | rfl | assumption) ?_ (by rfl)
  refine ⟨_, _, _, _, rfl, (AH.set_ne _ _ (ne_none hD1 s0)).trans s0, (AH.set_ne _ _ (ne_none hD1 x0)).trans x0, at_value_of hK, Nat.le_of_ble_eq_true rfl, ?_⟩
  refine After.next ?_
  have nD1 : D1 ≠ dx := (ne_none hD1 x0).symm
  have s1 : ((A0.set D1 (.dI 0 [])).set dx (.ns [(940052543510446748398, .int 0), (57912369945981174, .ref D1)])) s = some (.inst 115 dx) := (AH.set_ne _ _ nsx).trans ((AH.set_ne _ _ (ne_none hD1 s0)).trans s0)
  have x1 : ((A0.set D1 (.dI 0 [])).set dx (.ns [(940052543510446748398, .int 0), (57912369945981174, .ref D1)])) dx = some (.ns [(940052543510446748398, .int 0), (57912369945981174, .ref D1)]) := AH.set_same _ _ _
  have b1 : Sub Hr ((A0.set D1 (.dI 0 [])).set dx (.ns [(940052543510446748398, .int 0), (57912369945981174, .ref D1)])) := (b0.fresh hD1).other hrx
  have r1 : Hr D1 = none := by
    cases z : Hr D1 with
    | none => rfl
    | some o => rw [b0 _ _ z] at hD1; cases hD1
  have v11 : ((A0.set D1 (.dI 0 [])).set dx (.ns [(940052543510446748398, .int 0), (57912369945981174, .ref D1)])) D1 = some (.dI 0 (dm [])) := (AH.set_ne _ _ nD1).trans (AH.set_same _ _ _)
  show WS _ _ _ _ _ _ ((A0.set D1 (.dI 0 [])).set dx (.ns [(940052543510446748398, .int 0), (57912369945981174, .ref D1)]))
  generalize ((A0.set D1 (.dI 0 [])).set dx (.ns [(940052543510446748398, .int 0), (57912369945981174, .ref D1)])) = A1 at s1 x1 b1 v11 ⊢
  refine seq ?_
  refine S_assign_attr n_held ?_ (by rfl)
  refine E_dict0 fun D2 hD2 => ?_
  refine E_local K n_self (by rfl) (by first | rfl | assumption) ?_ (by rfl)
  refine ⟨_, _, _, _, rfl, (AH.set_ne _ _ (ne_none hD2 s1)).trans s1, (AH.set_ne _ _ (ne_none hD2 x1)).trans x1, at_held hK, Nat.le_of_ble_eq_true rfl, ?_⟩
  refine After.next ?_
  have nD2 : D2 ≠ dx := (ne_none hD2 x1).symm
  have s2 : ((A1.set D2 (.dI 0 [])).set dx (.ns [(940052543510446748398, .int 0), (57912369945981174, .ref D1), (211497704, .ref D2)])) s = some (.inst 115 dx) := (AH.set_ne _ _ nsx).trans ((AH.set_ne _ _ (ne_none hD2 s1)).trans s1)
  have x2 : ((A1.set D2 (.dI 0 [])).set dx (.ns [(940052543510446748398, .int 0), (57912369945981174, .ref D1), (211497704, .ref D2)])) dx = some (.ns [(940052543510446748398, .int 0), (57912369945981174, .ref D1), (211497704, .ref D2)]) := AH.set_same _ _ _
  have b2 : Sub Hr ((A1.set D2 (.dI 0 [])).set dx (.ns [(940052543510446748398, .int 0), (57912369945981174, .ref D1), (211497704, .ref D2)])) := (b1.fresh hD2).other hrx
  have r2 : Hr D2 = none := by
    cases z : Hr D2 with
    | none => rfl
    | some o => rw [b1 _ _ z] at hD2; cases hD2
  have v22 : ((A1.set D2 (.dI 0 [])).set dx (.ns [(940052543510446748398, .int 0), (57912369945981174, .ref D1), (211497704, .ref D2)])) D2 = some (.dI 0 (dm [])) := (AH.set_ne _ _ nD2).trans (AH.set_same _ _ _)
  have n12 : D1 ≠ D2 := ne_none hD2 v11
  have v21 : ((A1.set D2 (.dI 0 [])).set dx (.ns [(940052543510446748398, .int 0), (57912369945981174, .ref D1), (211497704, .ref D2)])) D1 = some (.dI 0 (dm [])) := (AH.set_ne _ _ nD1).trans ((AH.set_ne _ _ n12).trans v11)
  show WS _ _ _ _ _ _ ((A1.set D2 (.dI 0 [])).set dx (.ns [(940052543510446748398, .int 0), (57912369945981174, .ref D1), (211497704, .ref D2)]))
  generalize ((A1.set D2 (.dI 0 [])).set dx (.ns [(940052543510446748398, .int 0), (57912369945981174, .ref D1), (211497704, .ref D2)])) = A2 at s2 x2 b2 v21 v22 ⊢
  refine seq ?_
  refine S_assign_attr n_incoming ?_ (by rfl)
  refine E_dict0 fun D3 hD3 => ?_
  refine E_local K n_self (by rfl) (by first | rfl | assumption) ?_ (by rfl)
  refine ⟨_, _, _, _, rfl, (AH.set_ne _ _ (ne_none hD3 s2)).trans s2, (AH.set_ne _ _ (ne_none hD3 x2)).trans x2, at_incoming hK, Nat.le_of_ble_eq_true rfl, ?_⟩
  refine After.next ?_
  have nD3 : D3 ≠ dx := (ne_none hD3 x2).symm
  have s3 : ((A2.set D3 (.dI 0 [])).set dx (.ns [(940052543510446748398, .int 0), (57912369945981174, .ref D1), (211497704, .ref D2), (58471267585029993, .ref D3)])) s = some (.inst 115 dx) := (AH.set_ne _ _ nsx).trans ((AH.set_ne _ _ (ne_none hD3 s2)).trans s2)
  have x3 : ((A2.set D3 (.dI 0 [])).set dx (.ns [(940052543510446748398, .int 0), (57912369945981174, .ref D1), (211497704, .ref D2), (58471267585029993, .ref D3)])) dx = some (.ns [(940052543510446748398, .int 0), (57912369945981174, .ref D1), (211497704, .ref D2), (58471267585029993, .ref D3)]) := AH.set_same _ _ _
  have b3 : Sub Hr ((A2.set D3 (.dI 0 [])).set dx (.ns [(940052543510446748398, .int 0), (57912369945981174, .ref D1), (211497704, .ref D2), (58471267585029993, .ref D3)])) := (b2.fresh hD3).other hrx
  have r3 : Hr D3 = none := by
    cases z : Hr D3 with
    | none => rfl
    | some o => rw [b2 _ _ z] at hD3; cases hD3
  have v33 : ((A2.set D3 (.dI 0 [])).set dx (.ns [(940052543510446748398, .int 0), (57912369945981174, .ref D1), (211497704, .ref D2), (58471267585029993, .ref D3)])) D3 = some (.dI 0 (dm [])) := (AH.set_ne _ _ nD3).trans (AH.set_same _ _ _)
  have n13 : D1 ≠ D3 := ne_none hD3 v21
  have v31 : ((A2.set D3 (.dI 0 [])).set dx (.ns [(940052543510446748398, .int 0), (57912369945981174, .ref D1), (211497704, .ref D2), (58471267585029993, .ref D3)])) D1 = some (.dI 0 (dm [])) := (AH.set_ne _ _ nD1).trans ((AH.set_ne _ _ n13).trans v21)
  have n23 : D2 ≠ D3 := ne_none hD3 v22
  have v32 : ((A2.set D3 (.dI 0 [])).set dx (.ns [(940052543510446748398, .int 0), (57912369945981174, .ref D1), (211497704, .ref D2), (58471267585029993, .ref D3)])) D2 = some (.dI 0 (dm [])) := (AH.set_ne _ _ nD2).trans ((AH.set_ne _ _ n23).trans v22)
  show WS _ _ _ _ _ _ ((A2.set D3 (.dI 0 [])).set dx (.ns [(940052543510446748398, .int 0), (57912369945981174, .ref D1), (211497704, .ref D2), (58471267585029993, .ref D3)]))
  generalize ((A2.set D3 (.dI 0 [])).set dx (.ns [(940052543510446748398, .int 0), (57912369945981174, .ref D1), (211497704, .ref D2), (58471267585029993, .ref D3)])) = A3 at s3 x3 b3 v31 v32 v33 ⊢
  refine seq ?_
  refine S_assign_attr n_outgoing ?_ (by rfl)
  refine E_dict0 fun D4 hD4 => ?_
  refine E_local K n_self (by rfl) (by first | rfl | assumption) ?_ (by rfl)
  refine ⟨_, _, _, _, rfl, (AH.set_ne _ _ (ne_none hD4 s3)).trans s3, (AH.set_ne _ _ (ne_none hD4 x3)).trans x3, at_outgoing hK, Nat.le_of_ble_eq_true rfl, ?_⟩
  refine After.next ?_
  have nD4 : D4 ≠ dx := (ne_none hD4 x3).symm
  have s4 : ((A3.set D4 (.dI 0 [])).set dx (.ns [(940052543510446748398, .int 0), (57912369945981174, .ref D1), (211497704, .ref D2), (58471267585029993, .ref D3), (58471268105403119, .ref D4)])) s = some (.inst 115 dx) := (AH.set_ne _ _ nsx).trans ((AH.set_ne _ _ (ne_none hD4 s3)).trans s3)
  have x4 : ((A3.set D4 (.dI 0 [])).set dx (.ns [(940052543510446748398, .int 0), (57912369945981174, .ref D1), (211497704, .ref D2), (58471267585029993, .ref D3), (58471268105403119, .ref D4)])) dx = some (.ns [(940052543510446748398, .int 0), (57912369945981174, .ref D1), (211497704, .ref D2), (58471267585029993, .ref D3), (58471268105403119, .ref D4)]) := AH.set_same _ _ _
  have b4 : Sub Hr ((A3.set D4 (.dI 0 [])).set dx (.ns [(940052543510446748398, .int 0), (57912369945981174, .ref D1), (211497704, .ref D2), (58471267585029993, .ref D3), (58471268105403119, .ref D4)])) := (b3.fresh hD4).other hrx
  have r4 : Hr D4 = none := by
    cases z : Hr D4 with
    | none => rfl
    | some o => rw [b3 _ _ z] at hD4; cases hD4
  have v44 : ((A3.set D4 (.dI 0 [])).set dx (.ns [(940052543510446748398, .int 0), (57912369945981174, .ref D1), (211497704, .ref D2), (58471267585029993, .ref D3), (58471268105403119, .ref D4)])) D4 = some (.dI 0 (dm [])) := (AH.set_ne _ _ nD4).trans (AH.set_same _ _ _)
  have n14 : D1 ≠ D4 := ne_none hD4 v31
  have v41 : ((A3.set D4 (.dI 0 [])).set dx (.ns [(940052543510446748398, .int 0), (57912369945981174, .ref D1), (211497704, .ref D2), (58471267585029993, .ref D3), (58471268105403119, .ref D4)])) D1 = some (.dI 0 (dm [])) := (AH.set_ne _ _ nD1).trans ((AH.set_ne _ _ n14).trans v31)
  have n24 : D2 ≠ D4 := ne_none hD4 v32
  have v42 : ((A3.set D4 (.dI 0 [])).set dx (.ns [(940052543510446748398, .int 0), (57912369945981174, .ref D1), (211497704, .ref D2), (58471267585029993, .ref D3), (58471268105403119, .ref D4)])) D2 = some (.dI 0 (dm [])) := (AH.set_ne _ _ nD2).trans ((AH.set_ne _ _ n24).trans v32)
  have n34 : D3 ≠ D4 := ne_none hD4 v33
  have v43 : ((A3.set D4 (.dI 0 [])).set dx (.ns [(940052543510446748398, .int 0), (57912369945981174, .ref D1), (211497704, .ref D2), (58471267585029993, .ref D3), (58471268105403119, .ref D4)])) D3 = some (.dI 0 (dm [])) := (AH.set_ne _ _ nD3).trans ((AH.set_ne _ _ n34).trans v33)
  show WS _ _ _ _ _ _ ((A3.set D4 (.dI 0 [])).set dx (.ns [(940052543510446748398, .int 0), (57912369945981174, .ref D1), (211497704, .ref D2), (58471267585029993, .ref D3), (58471268105403119, .ref D4)]))
  generalize ((A3.set D4 (.dI 0 [])).set dx (.ns [(940052543510446748398, .int 0), (57912369945981174, .ref D1), (211497704, .ref D2), (58471267585029993, .ref D3), (58471268105403119, .ref D4)])) = A4 at s4 x4 b4 v41 v42 v43 v44 ⊢
  have E0 : CkAt Hr A4 s (initC 0) := ⟨dx, D1, D2, D3, D4, 0, 0, 0, 0, s4, x4, v41, v42, v43, v44, n12, n13, n14, n23, n24, n34, b4, hrs, hrx, r1, r2, r3, r4⟩
  refine seq ?_
  refine S_assign K n_number (by rfl) ?_ (by rfl)
  refine E_int ?_
  refine After.next ?_
  refine seq ?_
  refine S_while' (σ := Nat × AH) (fun m x => m = ar - x.1 ∧ x.1 ≤ ar ∧ CkAt Hr x.2 s (initC x.1)) (fun x => (fun t => [(3944329476846, .int ((t + 1 : Nat) : Int)), (215692019, .ref s), (32725694817, .int (ar : Int))]) x.1) (fun x => x.2) ar (0, A4) ⟨rfl, Nat.zero_le _, E0⟩ (LSub.refl _) (Sub.refl _) (fun m st hJ => ?_)
  obtain ⟨t, H'⟩ := st
  obtain ⟨rfl, ht, E⟩ := hJ
  dsimp only at ht E ⊢
  obtain ⟨dx', d1, d2, d3, d4, e1, e2, e3, e4, E⟩ := E
  refine B_cmp ?_ (by rfl)
  refine E_local K n_number (by rfl) (by first | rfl | assumption) ?_ (by rfl)
  refine E_local K n_arity (by rfl) (by first | rfl | assumption) ?_ (by rfl)
  refine o_le ?_
  refine ⟨_, rfl, ?_⟩
  refine ite_b (fun hw => ?_) (fun hw => ?_)
  · skip
    have ht2 : t + 1 ≤ ar := by have := of_decide_eq_true hw; omega
    have hsm := initC_small t
    refine WS.gen fun Qg1 hg1 => ?_
    refine seq ?_
    refine S_assign K n_value (by rfl) ?_ (by rfl)
    refine E_meth0 hA n_new_value ?_ (by rfl)
    refine E_local K n_self (by rfl) (by first | rfl | assumption) ?_ (by rfl)
    refine ⟨_, _, _, _, _, rfl, E.hs, E.hx, by rfl, m_new_value hK, ?_⟩
    refine sp_new_value hK (n := n) ⟨_, _, _, _, _, _, _, _, _, E⟩ (fun H1 E1 => ?_)
    clear E
    refine After.next ?_
    obtain ⟨dx2, d1, d2, d3, d4, e1, e2, e3, e4, E⟩ := E1
    refine seq ?_
    refine S_assign_sub ?_ (by rfl)
    refine E_local K n_value (by rfl) (by first | rfl | assumption) ?_ (by rfl)
    refine E_attr n_incoming ?_
    refine E_local K n_self (by rfl) (by first | rfl | assumption) ?_ (by rfl)
    refine ⟨_, _, _, _, _, rfl, E.hs, E.hx, at_incoming hK, by rfl, ?_⟩
    refine E_local K n_number (by rfl) (by first | rfl | assumption) ?_ (by rfl)
    refine s_dI E.h3 (by rw [dm_len]; have := hsm.2.2.1; show (initC t).inc.length ≤ 1000; omega) (fun ep => ?_)
    rw [iput_rel]
    have E2 := E.set3 ep (iput (initC t).inc ((t + 1 : Nat) : Int) ((initC t).nv + 1))
    refine After.next ?_
    refine seq ?_
    refine S_assign_sub ?_ (by rfl)
    refine E_local K n_value (by rfl) (by first | rfl | assumption) ?_ (by rfl)
    refine E_attr n_held ?_
    refine E_local K n_self (by rfl) (by first | rfl | assumption) ?_ (by rfl)
    refine ⟨_, _, _, _, _, rfl, E2.hs, E2.hx, at_held hK, by rfl, ?_⟩
    refine E_local K n_number (by rfl) (by first | rfl | assumption) ?_ (by rfl)
    refine s_dI E2.h2 (by rw [dm_len]; have := hsm.2.1; show (initC t).held.length ≤ 1000; omega) (fun ep2 => ?_)
    rw [iput_rel]
    have E3 := E2.set2 ep2 (iput (initC t).held ((t + 1 : Nat) : Int) ((initC t).nv + 1))
    refine After.next ?_
    refine seq ?_
    refine S_aug K n_number (by rfl) (by first | rfl | assumption) ?_
    refine E_int ?_
    refine o_iadd ?_
    refine After.next ?_
    refine S_nil ?_
    refine hg1 _ _ _ (TurnEnd.next ?_)
    refine ⟨ar - (t + 1), (t + 1, _), by omega, ⟨rfl, ht2, ⟨_, _, _, _, _, _, _, _, _, E3⟩⟩, ?_, Sub.refl _⟩
    exact LSub.cons (by show some (V.int _) = some (V.int _); congr 2) (LSub.cons rfl (LSub.cons rfl LSub.nil))
  · skip
    obtain rfl : t = ar := by have := of_decide_eq_false hw; omega
    refine S_nil ?_
    refine After.next ?_
    refine S_nil ?_
    refine Back.next ?_
    exact ⟨_, Sub.refl _, h _ ⟨_, _, _, _, _, _, _, _, _, E⟩⟩
set_option maxHeartbeats 4000000 in
theorem sp_check {n : Nat} {H : AH} {cde rl : Addr} {code real : List Rw} {ar : Nat} {Q : V → AH → Prop} (hc : H cde = some (.list (code.map Rw.v))) (hr : H rl = some (.list (real.map Rw.v))) (hwc : ∀ r ∈ code, rowOk r = true) (hwr : ∀ r ∈ real, opsOk r) (hbig : code.length ≤ 400) (hbr : real.length ≤ 400) (har : ar ≤ 100)
    (h : Q (.bool (checkP code real ar)) H) : FnSpec c (n + 17) 133 [.ref cde, .ref rl, .int (ar : Int)] Q H := by
  refine fn_enter (ks := ks_check_allocation) (by rw [hK]; rfl) (by rw [hK]; kernel_rfl) (KOk.of rfl (by kernel_rfl)) [Str.ofString "abstract", Str.ofString "real", Str.ofString "arity"] [65740964942901601, 228094706, 32725694817] (all3 fun v0 v1 v2 => rfl) (by kernel_rfl) (by decide) (by rfl) (by decide) rfl rfl rfl (fun A L env hA K => ?_)
  refine seq ?_
  refine S_assign K n_check (by rfl) ?_ (by rfl)
  refine E_new hA K n_AllocationCheck (by rfl) (gl_AllocationCheck hK) (keep_AllocationCheck hK) (makes_AC hK) (init_AC hK) (type_AC hK) ?_ (by rfl) (by rfl) (by rfl)
  refine L_cons ?_ (by rfl)
  refine E_local K n_arity (by rfl) (by first | rfl | assumption) ?_ (by rfl)
  refine L_nil ?_
  intro dx f1 f2
  have ndx : dx ≠ dx + 1 := Nat.ne_of_lt (Nat.lt_succ_self dx)
  refine sp_init hK (n := n + 2) (Hr := H) har (AH.set_same _ _ _) ((AH.set_ne _ _ ndx).trans (AH.set_same _ _ _)) (((Sub.refl H).fresh f1).fresh (by rw [AH.set_ne _ _ ndx.symm]; exact f2)) f2 f1 (fun H1 E1 => ⟨rfl, ?_⟩)
  generalize (dx + 1 : Addr) = s at E1 ⊢
  refine After.next ?_
  refine seq ?_
  refine S_assign K n_at (by rfl) ?_ (by rfl)
  refine E_int ?_
  refine After.next ?_
  refine seq ?_
  refine S_for2 hA K n_instruction (by rfl) ?_ (fun _ => rfl)
  refine E_local K n_abstract (by rfl) (by first | rfl | assumption) ?_ (by rfl)
  refine ⟨code.map Rw.v, Nat × Ck × AH, fun i x => x.1 ≤ i ∧ x.2.1.small (100 + 2 * i) ∧ CkAt H x.2.2 s x.2.1 ∧ runC real x.2.1 x.1 (code.drop i) = runC real (initC ar) 0 code, fun _ x => (fun j => [(14945, .int ((j : Nat) : Int)), (28931880035, .ref s), (65740964942901601, .ref cde), (228094706, .ref rl), (32725694817, .int (ar : Int))]) x.1, fun _ x => x.2.2, (0, initC ar, H1), ⟨Nat.le_refl _, (initC_small ar).up (by omega), E1, rfl⟩, LSub.refl _, Sub.refl _, .inr (.inl ⟨cde, rfl, fun _ x hJ => hJ.2.2.1.sub _ _ hc⟩), ?_, ?_⟩
  · skip
    intro i st v hv hJ
    obtain ⟨j, k, H'⟩ := st
    obtain ⟨hji, hsm, E, hrun⟩ := hJ
    dsimp only at hji hsm E hrun ⊢
    have hi : i < code.length := by have := lt_of_get hv; rw [List.length_map] at this; exact this
    obtain ⟨r, hri⟩ : ∃ r, code[i]? = some r := ⟨_, List.getElem?_eq_getElem hi⟩
    have hv' : v = r.v := by rw [List.getElem?_map, hri] at hv; exact (Option.some.inj hv).symm
    subst hv'
    rw [drop_one hri] at hrun
    have hok := hwc r (List.mem_of_getElem? hri)
    have hops := rowOk_ops hok
    have hrl := E.sub _ _ hr
    have EA := E
    obtain ⟨dx, d1, d2, d3, d4, e1, e2, e3, e4, E⟩ := E
    refine WS.gen fun Qg1 hg1 => ?_
    refine seq ?_
    refine S_if ?_
    refine B_pure (mt k r real j) ?_ ?_
    · skip
      refine B_and ?_
      refine A_and_cons ?_
      refine B_cmp ?_ (by rfl)
      refine E_local K n_at (by rfl) (by first | rfl | assumption) ?_ (by rfl)
      refine E_callb K n_len (by rfl) (gl_len hK) boot_len nn_len (by rfl) (fun _ h => nomatch h) ?_ (by rfl) (by rfl)
      refine L_cons ?_ (by rfl)
      refine E_local K n_real (by rfl) (by first | rfl | assumption) ?_ (by rfl)
      refine L_nil ?_
      refine b_len_list hrl (by rw [List.length_map]; omega) ?_
      rw [List.length_map]
      refine o_lt ?_
      refine ⟨_, rfl, ?_⟩
      refine ite_b (fun q0 => ?_) (fun q0 => ?_)
      · skip
        refine A_and_cons ?_
        refine B_val ?_ (by rfl)
        refine E_meth hA n_matches ?_ (by rfl) (by rfl) (by rfl)
        refine E_local K n_check (by rfl) (by first | rfl | assumption) ?_ (by rfl)
        obtain ⟨q, hq⟩ : ∃ q, real[j]? = some q := ⟨_, List.getElem?_eq_getElem (by have := of_decide_eq_true q0; omega)⟩
        refine ⟨_, _, _, _, _, rfl, E.hs, E.hx, by rfl, m_matches hK, ?_⟩
        refine L_cons ?_ (by rfl)
        refine E_local K n_instruction (by rfl) (by first | rfl | assumption) ?_ (by rfl)
        refine L_cons ?_ (by rfl)
        refine E_sub ?_
        refine E_local K n_real (by rfl) (by first | rfl | assumption) ?_ (by rfl)
        refine E_local K n_at (by rfl) (by first | rfl | assumption) ?_ (by rfl)
        refine o_item_list hrl (by omega) (by omega) (rows_get hq) ?_ (fun _ _ => rfl)
        refine L_nil ?_
        refine sp_matches hK (n := n + 1) EA hok (hwr q (List.mem_of_getElem? hq)) ?_
        refine ⟨_, rfl, ?_⟩
        refine ite_b (fun q1 => ?_) (fun q1 => ?_)
        · skip
          refine A_and_nil ?_
          exact ⟨by rw [mt_some hq]; exact q1.symm, rfl⟩
        · skip
          exact ⟨by rw [mt_some hq]; exact q1.symm, rfl⟩
      · skip
        exact ⟨by rw [mt_none (List.getElem?_eq_none (by have := of_decide_eq_false q0; omega))], rfl⟩
    refine ite_b (fun g1 => ?_) (fun g1 => ?_)
    · skip
      obtain ⟨q, hq, hm⟩ : ∃ q, real[j]? = some q ∧ matchP k r q = true := by
        cases e : real[j]? with
        | none => rw [mt_none e] at g1; cases g1
        | some q => rw [mt_some e] at g1; exact ⟨q, rfl, g1⟩
      have hjl := lt_of_get hq
      have hsh : sameShape r q = true := by
        cases e : sameShape r q with
        | true => rfl
        | false => simp only [matchP, e] at hm; cases hm
      refine seq ?_
      refine S_expr ?_ K.quiet (by rfl)
      refine E_meth hA n_advance ?_ (by rfl) (by rfl) (by rfl)
      refine E_local K n_check (by rfl) (by first | rfl | assumption) ?_ (by rfl)
      refine ⟨_, _, _, _, _, rfl, E.hs, E.hx, by rfl, m_advance hK, ?_⟩
      refine L_cons ?_ (by rfl)
      refine E_local K n_instruction (by rfl) (by first | rfl | assumption) ?_ (by rfl)
      refine L_cons ?_ (by rfl)
      refine E_sub ?_
      refine E_local K n_real (by rfl) (by first | rfl | assumption) ?_ (by rfl)
      refine E_local K n_at (by rfl) (by first | rfl | assumption) ?_ (by rfl)
      refine o_item_list hrl (by omega) (by omega) (rows_get hq) ?_ (fun _ _ => rfl)
      refine L_nil ?_
      refine sp_advance hK (n := n + 1) EA hsm (by omega) hok (hwr q (List.mem_of_getElem? hq)) hsh (fun H3 E3 => ?_)
      refine ⟨rfl, ?_⟩
      refine After.next ?_
      refine seq ?_
      refine S_aug K n_at (by rfl) (by first | rfl | assumption) ?_
      refine E_int ?_
      refine o_iadd ?_
      refine After.next ?_
      refine S_nil ?_
      refine After.next ?_
      refine S_nil ?_
      refine hg1 _ _ _ (TurnEnd.next ?_)
      refine ⟨(j + 1, advP k r q, H3), ⟨by show j + 1 ≤ i + 1; omega, (advP_small hsm).up (by omega), E3, by rw [← hrun, runC_yes hq hm]⟩, ?_, Sub.refl _⟩
      exact LSub.cons rfl (LSub.cons rfl (LSub.cons rfl (LSub.cons rfl (LSub.cons rfl LSub.nil))))
    · skip
      have hno : ∀ q, real[j]? = some q → matchP k r q = false := fun q e => by rw [mt_some e] at g1; exact g1
      refine seq ?_
      refine S_if ?_
      refine B_not ?_
      refine B_val ?_ (by rfl)
      refine E_meth hA n_left_out ?_ (by rfl) (by rfl) (by rfl)
      refine E_local K n_check (by rfl) (by first | rfl | assumption) ?_ (by rfl)
      refine ⟨_, _, _, _, _, rfl, E.hs, E.hx, by rfl, m_left_out hK, ?_⟩
      refine L_cons ?_ (by rfl)
      refine E_local K n_instruction (by rfl) (by first | rfl | assumption) ?_ (by rfl)
      refine L_nil ?_
      refine sp_left_out hK (n := n + 3) EA (hsm.up (by omega)) hops (fun k2 hl H3 E3 => ?_) (fun hl => ?_)
      · refine ⟨_, rfl, ?_⟩
        refine ite_f ?_
        refine S_nil ?_
        refine After.next ?_
        refine S_nil ?_
        refine After.next ?_
        refine S_nil ?_
        refine hg1 _ _ _ (TurnEnd.next ?_)
        refine ⟨(j, k2, H3), ⟨by show j ≤ i + 1; omega, (leftP_small hsm hl).up (by omega), E3, by rw [← hrun, runC_left hno hl]⟩, ?_, Sub.refl _⟩
        exact LSub.cons rfl (LSub.cons rfl (LSub.cons rfl (LSub.cons rfl (LSub.cons rfl LSub.nil))))
      · refine ⟨_, rfl, ?_⟩
        refine ite_t ?_
        refine seq ?_
        refine S_return ?_
        refine E_bool ?_
        refine After.ret ?_
        refine After.ret ?_
        refine After.ret ?_
        refine hg1 _ _ _ (TurnEnd.ret ?_)
        refine After.ret ?_
        refine Back.ret ?_
        exact ⟨H, EA.sub, by rw [checkP, ← hrun, runC_bad hno hl] at h; exact h⟩
  · skip
    intro st l H2 hJ hl hh
    obtain ⟨j, k, H'⟩ := st
    rw [List.length_map, List.drop_length] at hJ
    dsimp only at hJ hl hh
    refine WS.less (c := c) (loc' := [(14945, .int ((j : Nat) : Int)), (28931880035, .ref s), (65740964942901601, .ref cde), (228094706, .ref rl), (32725694817, .int (ar : Int))]) (H' := H') ?_ hl hh
    have hEs := hJ.2.2.1
    have hrl := hEs.sub _ _ hr
    refine After.next ?_
    refine seq ?_
    refine S_return ?_
    refine E_cmp ?_ (by rfl)
    refine E_local K n_at (by rfl) (by first | rfl | assumption) ?_ (by rfl)
    refine E_callb K n_len (by rfl) (gl_len hK) boot_len nn_len (by rfl) (fun _ h => nomatch h) ?_ (by rfl) (by rfl)
    refine L_cons ?_ (by rfl)
    refine E_local K n_real (by rfl) (by first | rfl | assumption) ?_ (by rfl)
    refine L_nil ?_
    refine b_len_list hrl (by rw [List.length_map]; omega) ?_
    rw [List.length_map]
    refine o_eq hA (by omega) (by rfl) (by rfl) ?_
    rw [V.eq_int, show decide ((j : Int) = (real.length : Nat)) = decide (j = real.length) from decide_eq_decide.mpr ⟨fun h => by omega, fun h => by omega⟩]
    refine After.ret ?_
    refine Back.ret ?_
    refine ⟨H, hEs.sub, ?_⟩
    rw [checkP, ← hJ.2.2.2] at h
    exact h
end
end Mine
namespace Mine
structure TpSt (Hr H : AH) (d e : Addr) : Prop where
  tp : ∃ l p q, H d = some (.list [.ref e, .int p, .int q]) ∧ H e = some (.list (intL l)) ∧ l.length ≤ 60 ∧ 0 ≤ p
  ne : d ≠ e
  sub : Sub Hr H
  rd : Hr d = none
  re : Hr e = none
theorem TpSt.more {Hr H H' : AH} {d e : Addr} (t : TpSt Hr H d e) (h : Sub H H') : TpSt Hr H' d e := by
  obtain ⟨l, p, q, h1, h2, h3, h4⟩ := t.tp
  exact ⟨⟨l, p, q, h _ _ h1, h _ _ h2, h3, h4⟩, t.ne, t.sub.trans h, t.rd, t.re⟩
theorem TpSt.ext {Hr H : AH} {d e x : Addr} (t : TpSt Hr H d e) (o : MObj) (hx : H x = none) : TpSt (Hr.set x o) (H.set x o) d e := by
  obtain ⟨l, p, q, h1, h2, h3, h4⟩ := t.tp
  have n1 := ne_none hx h1
  have n2 := ne_none hx h2
  exact ⟨⟨l, p, q, by rw [AH.set_ne _ _ n1]; exact h1, by rw [AH.set_ne _ _ n2]; exact h2, h3, h4⟩, t.ne, t.sub.set, by rw [AH.set_ne _ _ n1]; exact t.rd, by rw [AH.set_ne _ _ n2]; exact t.re⟩
theorem TpSt.setr {Hr H : AH} {d e x : Addr} {o0 : MObj} (t : TpSt Hr H d e) (o : MObj) (hx : Hr x = some o0) : TpSt (Hr.set x o) (H.set x o) d e := by
  obtain ⟨l, p, q, h1, h2, h3, h4⟩ := t.tp
  have n1 := (ne_none t.rd hx).symm
  have n2 := (ne_none t.re hx).symm
  exact ⟨⟨l, p, q, by rw [AH.set_ne _ _ n1]; exact h1, by rw [AH.set_ne _ _ n2]; exact h2, h3, h4⟩, t.ne, t.sub.set, by rw [AH.set_ne _ _ n1]; exact t.rd, by rw [AH.set_ne _ _ n2]; exact t.re⟩
theorem TpSt.shrink {Hr Hr' H : AH} {d e : Addr} (t : TpSt Hr H d e) (h : Sub Hr' Hr) : TpSt Hr' H d e := by
  have f : ∀ a, Hr a = none → Hr' a = none := fun a e => by
    cases z : Hr' a with
    | none => rfl
    | some o => rw [h _ _ z] at e; cases e
  exact ⟨t.tp, t.ne, h.trans t.sub, f _ t.rd, f _ t.re⟩
noncomputable def numOk (p : Pt) : Bool := match p with
  | .op .t k => decide (0 ≤ k) && decide (k ≤ 3)
  | .op .a n => decide (1 ≤ n) && decide (n ≤ 3)
  | _ => true
noncomputable def cOk (r : Rw) : Bool := rowOk r && r.ps.all numOk
noncomputable def useOk (u : Pt) : Prop := u = .op .y 1 ∨ ∃ k, u = .op .t k ∧ 0 ≤ k ∧ k ≤ 3
noncomputable def metV (l : List Int) : List V := l.map fun k => (Pt.op .t k).v
noncomputable def metOk (l : List Int) : Prop := ∀ k ∈ l, 0 ≤ k ∧ k ≤ 3
structure LS (Hr : AH) (d e m k : Addr) (met : List Int) (code : List Rw) (H : AH) : Prop where
  st : TpSt ((Hr.set m (.list (metV met))).set k (.list (code.map Rw.v))) H d e
  ne : m ≠ k
theorem LS.hk {Hr : AH} {d e m k : Addr} {met : List Int} {code : List Rw} {H : AH} (s : LS Hr d e m k met code H) : H k = some (.list (code.map Rw.v)) := s.st.sub _ _ (AH.set_same _ _ _)
theorem LS.rm {Hr : AH} {d e m k : Addr} {met : List Int} {code : List Rw} {H : AH} (s : LS Hr d e m k met code H) : ((Hr.set m (.list (metV met))).set k (.list (code.map Rw.v))) m = some (.list (metV met)) := by rw [AH.set_ne _ _ s.ne, AH.set_same]
theorem LS.hm {Hr : AH} {d e m k : Addr} {met : List Int} {code : List Rw} {H : AH} (s : LS Hr d e m k met code H) : H m = some (.list (metV met)) := s.st.sub _ _ s.rm
theorem LS.to {Hr : AH} {d e m k : Addr} {met : List Int} {code : List Rw} {H H' : AH} (s : LS Hr d e m k met code H) (t : TpSt ((Hr.set m (.list (metV met))).set k (.list (code.map Rw.v))) H' d e) : LS Hr d e m k met code H' := ⟨t, s.ne⟩
theorem LS.app {Hr : AH} {d e m k : Addr} {met : List Int} {code : List Rw} {H : AH} (s : LS Hr d e m k met code H) (rows : List Rw) : LS Hr d e m k met (code ++ rows) (H.set k (.list (code.map Rw.v ++ rows.map Rw.v))) := by
  refine ⟨?_, s.ne⟩
  have := s.st.setr (.list ((code ++ rows).map Rw.v)) (AH.set_same _ _ _)
  rw [set_set] at this
  rw [← List.map_append]
  exact this
theorem LS.app1 {Hr : AH} {d e m k : Addr} {met : List Int} {code : List Rw} {H : AH} (s : LS Hr d e m k met code H) (row : Rw) : LS Hr d e m k met (code ++ [row]) (H.set k (.list (code.map Rw.v ++ [row.v]))) := s.app [row]
theorem LS.met1 {Hr : AH} {d e m k : Addr} {met : List Int} {code : List Rw} {H : AH} (s : LS Hr d e m k met code H) (t : Int) : LS Hr d e m k (met ++ [t]) code (H.set m (.list (metV met ++ [(Pt.op .t t).v]))) := by
  refine ⟨?_, s.ne⟩
  have := s.st.setr (.list (metV (met ++ [t]))) s.rm
  rw [set_comm s.ne.symm, set_set] at this
  rw [show metV met ++ [(Pt.op .t t).v] = metV (met ++ [t]) by simp [metV]]
  exact this
theorem metOk.app {l : List Int} (h : metOk l) {t : Int} (h0 : 0 ≤ t) (h3 : t ≤ 3) : metOk (l ++ [t]) := fun k hk => by
  rcases List.mem_append.mp hk with h' | h'
  · exact h k h'
  · rw [List.mem_singleton.mp h']; exact ⟨h0, h3⟩
theorem cOk_app {l m : List Rw} (h : ∀ r ∈ l, cOk r = true) (g : ∀ r ∈ m, cOk r = true) : ∀ r ∈ l ++ m, cOk r = true := fun r hr => by
  rcases List.mem_append.mp hr with h' | h'
  · exact h r h'
  · exact g r h'
noncomputable def rowsP (way : Nat) (spot own use : Pt) : List Rw := match way with
  | 0 => [⟨.put_value, [use, spot]⟩]
  | 1 => [⟨.put_variable, [own, spot]⟩]
  | 2 => [⟨.put_constant, [.pr 5 7, spot]⟩]
  | 3 => [⟨.put_unsafe_value, [.op .y 1, spot]⟩]
  | 4 => [⟨.put_list, [own]⟩, ⟨.set_value, [use]⟩]
  | 5 => [⟨.put_structure, [.num 8, spot]⟩, ⟨.set_local_value, [use]⟩]
  | 6 => [⟨.mark, [own]⟩]
  | 7 => [⟨.cut_to, [use]⟩]
  | 8 => [⟨.builtin, [.num 3]⟩]
  | 9 => [⟨.get_level, [.op .y 2]⟩]
  | 10 => [⟨.unify_value, [use]⟩]
  | 11 => [⟨.get_variable, [own, use]⟩]
  | 12 => [⟨.get_constant, [.pr 4 3, use]⟩]
  | _ => [⟨.put_value, [use, own]⟩]
theorem rowsP_len (way : Nat) (spot own use : Pt) : (rowsP way spot own use).length ≤ 2 := by unfold rowsP; split <;> simp
theorem cOk1 {r : Rw} (h1 : r.nm.sort.length = r.ps.length) (h2 : ((r.nm.sort.zip r.ps).all fun x => dOk x.1 x.2) = true) (h3 : r.ps.all numOk = true) : [r].all cOk = true := by
  show ((decide _ && _) && _ && true) = true
  rw [decide_eq_true h1, h2, h3]; rfl
theorem cOk2 {r q : Rw} (h1 : r.nm.sort.length = r.ps.length) (h2 : ((r.nm.sort.zip r.ps).all fun x => dOk x.1 x.2) = true) (h3 : r.ps.all numOk = true) (g1 : q.nm.sort.length = q.ps.length) (g2 : ((q.nm.sort.zip q.ps).all fun x => dOk x.1 x.2) = true) (g3 : q.ps.all numOk = true) : [r, q].all cOk = true := by
  show ((decide _ && _) && _ && ((decide _ && _) && _ && true)) = true
  rw [decide_eq_true h1, h2, h3, decide_eq_true g1, g2, g3]; rfl
theorem dl1 {d : Dd} {p : Pt} (h : dOk d p = true) : (([d].zip [p]).all fun x => dOk x.1 x.2) = true := by show (dOk d p && true) = true; rw [h]; rfl
theorem dl2 {d e : Dd} {p q : Pt} (h : dOk d p = true) (g : dOk e q = true) : (([d, e].zip [p, q]).all fun x => dOk x.1 x.2) = true := by show (dOk d p && (dOk e q && true)) = true; rw [h, g]; rfl
theorem nl1 {p : Pt} (h : numOk p = true) : [p].all numOk = true := by show (numOk p && true) = true; rw [h]; rfl
theorem nl2 {p q : Pt} (h : numOk p = true) (g : numOk q = true) : [p, q].all numOk = true := by show (numOk p && (numOk q && true)) = true; rw [h, g]; rfl
theorem rowsP_ok {way : Nat} {a t : Int} {use : Pt} (ha : 1 ≤ a) (ha3 : a ≤ 3) (ht : 0 ≤ t) (ht3 : t ≤ 3) (hu : useOk use) : ∀ r ∈ rowsP way (.op .a a) (.op .t t) use, cOk r = true := by
  have key : (rowsP way (.op .a a) (.op .t t) use).all cOk = true := by
    have n1 : numOk (.op .a a) = true := by show (_ && _) = true; rw [decide_eq_true ha, decide_eq_true ha3]; rfl
    have n2 : numOk (.op .t t) = true := by show (_ && _) = true; rw [decide_eq_true ht, decide_eq_true ht3]; rfl
    have n3 : numOk use = true := by
      rcases hu with rfl | ⟨k, rfl, hk, hk3⟩
      · rfl
      · show (_ && _) = true; rw [decide_eq_true hk, decide_eq_true hk3]; rfl
    have d1 : dOk .r use = true ∧ dOk .u use = true := by rcases hu with rfl | ⟨k, rfl, _⟩ <;> exact ⟨rfl, rfl⟩
    obtain ⟨d1, d2⟩ := d1
    unfold rowsP
    split <;> first
      | rfl
      | exact cOk1 rfl (dl2 d1 rfl) (nl2 n3 n1)
      | exact cOk1 rfl (dl2 rfl rfl) (nl2 n2 n1)
      | exact cOk1 rfl (dl2 rfl rfl) (nl2 rfl n1)
      | exact cOk2 rfl (dl1 rfl) (nl1 n2) rfl (dl1 d1) (nl1 n3)
      | exact cOk2 rfl (dl2 rfl rfl) (nl2 rfl n1) rfl (dl1 d2) (nl1 n3)
      | exact cOk1 rfl (dl1 rfl) (nl1 n2)
      | exact cOk1 rfl (dl1 d1) (nl1 n3)
      | exact cOk1 rfl (dl2 rfl d1) (nl2 n2 n3)
      | exact cOk1 rfl (dl2 rfl d1) (nl2 rfl n3)
      | exact cOk1 rfl (dl2 d1 rfl) (nl2 n3 n2)
  exact List.all_eq_true.mp key
section
variable {c : Cx} (hK : c.K = hd.heap_1 c.w.params)
include hK
theorem sp_dig {n : Nat} {Hr H : AH} {d e : Addr} {lim : Int} {Q : V → AH → Prop} (t : TpSt Hr H d e) (hlim : 0 < lim) (hlim2 : lim < 1000) (h : ∀ r H', 0 ≤ r → r < lim → TpSt Hr H' d e → Q (.int r) H') : FnSpec c (n + 12) 140 [.ref d, .int lim] Q H := by
  obtain ⟨l, p, q, h1, h2, h3, h4⟩ := t.tp
  refine sp_digit hK (n := n) t.ne h1 h2 h4 h3 hlim hlim2 (fun r p' q' l' r0 r1 p0 hl => h r _ r0 r1 ⟨⟨l', p', q', TapeH_d, TapeH_e t.ne, by omega, p0⟩, t.ne, fun x o z => ?_, t.rd, t.re⟩)
  have e1 : x ≠ d := (ne_none t.rd z)
  have e2 : x ≠ e := (ne_none t.re z)
  rw [TapeH_ne e1 e2]
  exact t.sub _ _ z
theorem sp_use {n : Nat} {Hr H : AH} {d e m : Addr} {met : List Int} {Q : V → AH → Prop} (st : TpSt Hr H d e) (hm : Hr m = some (.list (metV met))) (hmo : metOk met) (hml : met.length ≤ 500) (h : ∀ u H', useOk u → TpSt Hr H' d e → Q u.v H') : FnSpec c (n + 13) 154 [.ref d, .ref m] Q H := by
  refine fn_enter (ks := ks__law_use) (by rw [hK]; rfl) (by rw [hK]; kernel_rfl) (KOk.of rfl (by kernel_rfl)) [Str.ofString "tape", Str.ofString "met"] [213659892, 1913581] (all2 fun v0 v1 => rfl) (by kernel_rfl) (by decide) (by rfl) (by decide) rfl rfl rfl (fun A L env hA K => ?_)
  refine seq ?_
  refine S_assign K n_figure (by rfl) ?_ (by rfl)
  refine E_call hA K n__law_digit (by rfl) (gl__law_digit hK) (keep__law_digit hK) ?_ (by rfl) (by rfl) (by rfl)
  refine L_cons ?_ (by rfl)
  refine E_local K n_tape (by rfl) (by first | rfl | assumption) ?_ (by rfl)
  refine L_cons ?_ (by rfl)
  refine E_int ?_
  refine L_nil ?_
  refine sp_dig hK (n := n + 0) st (by first | decide | omega) (by first | decide | omega) (fun r1 H1 r1a r1b st1 => ?_)
  refine After.next ?_
  refine seq ?_
  refine S_if ?_
  refine B_cmp ?_ (by rfl)
  refine E_local K n_figure (by rfl) (by first | rfl | assumption) ?_ (by rfl)
  refine E_int ?_
  refine o_gt ?_
  refine ⟨_, rfl, ?_⟩
  refine ite_b (fun g1 => ?_) (fun g1 => ?_)
  · skip
    have g1 := of_decide_eq_true g1
    refine seq ?_
    refine S_return ?_
    refine E_tuple ?_
    refine L_cons ?_ (by rfl)
    refine E_str ?_
    refine L_cons ?_ (by rfl)
    refine E_binop ?_
    refine E_local K n_figure (by rfl) (by first | rfl | assumption) ?_ (by rfl)
    refine E_int ?_
    refine o_sub ?_
    refine L_nil ?_
    refine ⟨Nat.le_of_ble_eq_true rfl, ?_⟩
    refine After.ret ?_
    refine After.ret ?_
    refine Back.ret ?_
    exact ⟨_, Sub.refl _, h (.op .t (r1 - 4)) _ (.inr ⟨_, rfl, by omega, by omega⟩) st1⟩
  · skip
    have g1 := of_decide_eq_false g1
    refine S_nil ?_
    refine After.next ?_
    refine seq ?_
    refine S_if ?_
    refine B_cmp ?_ (by rfl)
    refine E_local K n_met (by rfl) (by first | rfl | assumption) ?_ (by rfl)
    refine E_list ?_
    refine L_nil ?_
    refine ⟨Nat.le_of_ble_eq_true rfl, fun d1 hd1 => ?_⟩
    refine o_eq_nil hA (by omega) ((AH.set_ne _ _ (ne_none hd1 (st1.sub _ _ hm))).trans (st1.sub _ _ hm)) (AH.set_same _ _ _) (by unfold metV; rw [List.length_map]; omega) ?_
    refine ⟨_, rfl, ?_⟩
    refine ite_b (fun g2 => ?_) (fun g2 => ?_)
    · skip
      refine seq ?_
      refine S_return ?_
      refine E_tuple ?_
      refine L_cons ?_ (by rfl)
      refine E_str ?_
      refine L_cons ?_ (by rfl)
      refine E_int ?_
      refine L_nil ?_
      refine ⟨Nat.le_of_ble_eq_true rfl, ?_⟩
      refine After.ret ?_
      refine After.ret ?_
      refine Back.ret ?_
      exact ⟨_, Sub.refl _, h (.op .y 1) _ (.inl rfl) (st1.more ((Sub.refl _).fresh hd1))⟩
    · skip
      have hne : 0 < met.length := by
        cases met with
        | nil => simp [metV] at g2
        | cons a l => simp
      have hf0 := Int.fmod_nonneg_of_pos r1 (b := (met.length : Int)) (by omega)
      have hf1 := Int.fmod_lt_of_pos r1 (b := (met.length : Int)) (by omega)
      have hmD : (H1.set d1 (.list [])) m = some (.list (metV met)) := (AH.set_ne _ _ (ne_none hd1 (st1.sub _ _ hm))).trans (st1.sub _ _ hm)
      obtain ⟨tk, htk⟩ : ∃ tk, met[(r1.fmod (met.length : Int)).toNat]? = some tk := ⟨_, List.getElem?_eq_getElem (by omega)⟩
      refine S_nil ?_
      refine After.next ?_
      refine seq ?_
      refine S_return ?_
      refine E_sub ?_
      refine E_local K n_met (by rfl) (by first | rfl | assumption) ?_ (by rfl)
      refine E_binop ?_
      refine E_local K n_figure (by rfl) (by first | rfl | assumption) ?_ (by rfl)
      refine E_callb K n_len (by rfl) (gl_len hK) boot_len nn_len (by rfl) (fun _ h => nomatch h) ?_ (by rfl) (by rfl)
      refine L_cons ?_ (by rfl)
      refine E_local K n_met (by rfl) (by first | rfl | assumption) ?_ (by rfl)
      refine L_nil ?_
      refine b_len_list hmD (by unfold metV; rw [List.length_map]; omega) ?_
      rw [show (metV met).length = met.length by simp [metV]]
      refine o_mod (by omega) ?_
      refine o_item_list (x := (Pt.op .t tk).v) hmD hf0 (by omega) (by unfold metV; rw [List.getElem?_map, htk]; rfl) ?_ (fun _ _ => rfl)
      refine After.ret ?_
      refine Back.ret ?_
      exact ⟨_, Sub.refl _, h (.op .t tk) _ (.inr ⟨tk, rfl, hmo tk (List.mem_of_getElem? htk)⟩) (st1.more ((Sub.refl _).fresh hd1))⟩
set_option maxHeartbeats 4000000 in
theorem sp_head {n ar : Nat} {Hr H : AH} {d e m k : Addr} {Q : V → AH → Prop} (ls : LS Hr d e m k [] [] H) (har : ar ≤ 3) (h : ∀ met code H', LS Hr d e m k met code H' → metOk met → met.length ≤ ar → (∀ r ∈ code, cOk r = true) → code.length ≤ 2 * ar → Q .none H') : FnSpec c (n + 14) 161 [.ref d, .int (ar : Int), .ref m, .ref k] Q H := by
  refine fn_enter (ks := ks__law_head) (by rw [hK]; rfl) (by rw [hK]; kernel_rfl) (KOk.of rfl (by kernel_rfl)) [Str.ofString "tape", Str.ofString "arity", Str.ofString "met", Str.ofString "code"] [213659892, 32725694817, 1913581, 213465059] (all4 fun v0 v1 v2 v3 => rfl) (by kernel_rfl) (by decide) (by rfl) (by decide) rfl rfl rfl (fun A L env hA K => ?_)
  refine seq ?_
  refine S_for' (σ := List Int × List Rw × AH) (fun j x => LS Hr d e m k x.1 x.2.1 x.2.2 ∧ metOk x.1 ∧ x.1.length ≤ j ∧ (∀ r ∈ x.2.1, cOk r = true) ∧ x.2.1.length ≤ 2 * j) (fun _ _ => [(213659892, .ref d), (32725694817, .int (ar : Int)), (1913581, .ref m), (213465059, .ref k)]) (fun _ x => x.2.2) hA K n_number (by rfl) ?_ (fun _ => rfl)
  refine E_callb K n_range (by rfl) (gl_range hK) boot_range nn_range (by rfl) (fun _ h => nomatch h) ?_ (by rfl) (by rfl)
  refine L_cons ?_ (by rfl)
  refine E_int ?_
  refine L_cons ?_ (by rfl)
  refine E_binop ?_
  refine E_local K n_arity (by rfl) (by first | rfl | assumption) ?_ (by rfl)
  refine E_int ?_
  refine o_add ?_
  refine L_nil ?_
  refine b_range2 (fun dr hdr => ?_)
  have hN : ((ar : Int) + 1 - 1).toNat = ar := by omega
  refine ⟨_, ([], [], H.set dr (.rng 1 ((ar : Int) + 1))), ⟨ls.to (ls.st.more ((Sub.refl _).fresh hdr)), fun _ h => by simp at h, Nat.le_refl _, fun _ h => by simp at h, Nat.le_refl _⟩, LSub.refl _, Sub.refl _, .inr (.inr (.inl ⟨dr, 1, (ar : Int) + 1, rfl, AH.set_same _ _ _, by decide, by decide, by omega, by omega, rfl⟩)), ?_, ?_⟩
  · skip
    intro j x v hv hJ
    obtain ⟨met, code, H'⟩ := x
    obtain ⟨ls, hmo, hml, hco, hcl⟩ := hJ
    dsimp only at ls hmo hml hco hcl ⊢
    have hj : j < ar := by have := lt_of_get hv; rw [List.length_map, List.length_range, hN] at this; exact this
    have hv' : v = .int (1 + (j : Nat)) := by
      rw [List.getElem?_map, List.getElem?_range (by rw [hN]; exact hj)] at hv
      exact (Option.some.inj hv).symm
    subst hv'
    refine WS.gen fun Qg1 hg1 => ?_
    refine seq ?_
    refine S_assign K n_way (by rfl) ?_ (by rfl)
    refine E_call hA K n__law_digit (by rfl) (gl__law_digit hK) (keep__law_digit hK) ?_ (by rfl) (by rfl) (by rfl)
    refine L_cons ?_ (by rfl)
    refine E_local K n_tape (by rfl) (by first | rfl | assumption) ?_ (by rfl)
    refine L_cons ?_ (by rfl)
    refine E_int ?_
    refine L_nil ?_
    refine sp_dig hK (n := n + 1) ls.st (by first | decide | omega) (by first | decide | omega) (fun r1 H1 r1a r1b st1 => ?_)
    refine After.next ?_
    refine seq ?_
    refine S_assign K n_own (by rfl) ?_ (by rfl)
    refine E_tuple ?_
    refine L_cons ?_ (by rfl)
    refine E_str ?_
    refine L_cons ?_ (by rfl)
    refine E_call hA K n__law_digit (by rfl) (gl__law_digit hK) (keep__law_digit hK) ?_ (by rfl) (by rfl) (by rfl)
    refine L_cons ?_ (by rfl)
    refine E_local K n_tape (by rfl) (by first | rfl | assumption) ?_ (by rfl)
    refine L_cons ?_ (by rfl)
    refine E_int ?_
    refine L_nil ?_
    refine sp_dig hK (n := n + 1) st1 (by first | decide | omega) (by first | decide | omega) (fun r2 H2 r2a r2b st2 => ?_)
    refine L_nil ?_
    refine ⟨Nat.le_of_ble_eq_true rfl, ?_⟩
    refine After.next ?_
    refine seq ?_
    refine S_assign K n_use (by rfl) ?_ (by rfl)
    refine E_call hA K n__law_use (by rfl) (gl__law_use hK) (keep__law_use hK) ?_ (by rfl) (by rfl) (by rfl)
    refine L_cons ?_ (by rfl)
    refine E_local K n_tape (by rfl) (by first | rfl | assumption) ?_ (by rfl)
    refine L_cons ?_ (by rfl)
    refine E_local K n_met (by rfl) (by first | rfl | assumption) ?_ (by rfl)
    refine L_nil ?_
    refine sp_use hK (n := n) st2 ls.rm hmo (by omega) (fun u H3 hu st3 => ?_)
    have L0 := ls.to st3
    refine After.next ?_
    refine seq ?_
    refine S_if ?_
    refine B_cmp ?_ (by rfl)
    refine E_local K n_way (by rfl) (by first | rfl | assumption) ?_ (by rfl)
    refine E_int ?_
    refine o_eq hA (by omega) (by rfl) (by rfl) ?_
    rw [V.eq_int]
    refine ⟨_, rfl, ?_⟩
    refine ite_b (fun c1 => ?_) (fun c1 => ?_)
    · skip
      refine seq ?_
      refine S_expr ?_ K.quiet (by rfl)
      refine E_append ?_ (by rfl) (by rfl)
      refine E_local K n_code (by rfl) (by first | rfl | assumption) ?_ (by rfl)
      refine ⟨_, rfl, ⟨_, L0.hk⟩, ?_⟩
      refine E_tuple ?_
      refine L_cons ?_ (by rfl)
      refine E_str ?_
      refine L_cons ?_ (by rfl)
      refine E_local K n_own (by rfl) (by first | rfl | assumption) ?_ (by rfl)
      refine L_cons ?_ (by rfl)
      refine E_tuple ?_
      refine L_cons ?_ (by rfl)
      refine E_str ?_
      refine L_cons ?_ (by rfl)
      refine E_local K n_number (by rfl) (by first | rfl | assumption) ?_ (by rfl)
      refine L_nil ?_
      refine ⟨Nat.le_of_ble_eq_true rfl, ?_⟩
      refine L_nil ?_
      refine ⟨Nat.le_of_ble_eq_true rfl, ?_⟩
      refine ⟨_, L0.hk, by rw [List.length_map]; first | omega | (simp; omega), ?_⟩
      have L1 := L0.app1 ⟨.get_variable, [.op .t r2, .op .a (1 + (j : Nat))]⟩
      refine ⟨rfl, ?_⟩
      refine After.next ?_
      refine seq ?_
      refine S_expr ?_ K.quiet (by rfl)
      refine E_append ?_ (by rfl) (by rfl)
      refine E_local K n_met (by rfl) (by first | rfl | assumption) ?_ (by rfl)
      refine ⟨_, rfl, ⟨_, L1.hm⟩, ?_⟩
      refine E_local K n_own (by rfl) (by first | rfl | assumption) ?_ (by rfl)
      refine ⟨_, L1.hm, by unfold metV; rw [List.length_map]; omega, ?_⟩
      refine ⟨rfl, ?_⟩
      refine After.next ?_
      refine S_nil ?_
      refine After.next ?_
      refine S_nil ?_
      refine hg1 _ _ _ (TurnEnd.next ?_)
      refine ⟨(met ++ [r2], code ++ [⟨.get_variable, [.op .t r2, .op .a (1 + (j : Nat))]⟩], _), ⟨?_, ?_, ?_, cOk_app hco ?_, ?_⟩, LSub.cons rfl (LSub.cons rfl (LSub.cons rfl (LSub.cons rfl LSub.nil))), Sub.refl _⟩
      · first | exact (L1.met1 r2) | (have z := (L1.met1 r2); rw [List.append_assoc] at z; exact z)
      · first | exact hmo | exact hmo.app (by omega) (by omega)
      · first | (rw [List.length_append]; simp; omega) | (show met.length ≤ j + 1; omega)
      · intro r hr; simp only [List.mem_cons, List.not_mem_nil, or_false] at hr; rcases hu with rfl | ⟨uk, rfl, uk0, uk3⟩ <;> rcases hr with rfl | rfl <;> (simp [cOk, rowOk, Nm.sort, dOk, numOk]; try omega)
      · simp; omega
    · skip
      refine seq ?_
      refine S_if ?_
      refine B_cmp ?_ (by rfl)
      refine E_local K n_way (by rfl) (by first | rfl | assumption) ?_ (by rfl)
      refine E_int ?_
      refine o_eq hA (by omega) (by rfl) (by rfl) ?_
      rw [V.eq_int]
      refine ⟨_, rfl, ?_⟩
      refine ite_b (fun c2 => ?_) (fun c2 => ?_)
      · skip
        refine seq ?_
        refine S_expr ?_ K.quiet (by rfl)
        refine E_append ?_ (by rfl) (by rfl)
        refine E_local K n_code (by rfl) (by first | rfl | assumption) ?_ (by rfl)
        refine ⟨_, rfl, ⟨_, L0.hk⟩, ?_⟩
        refine E_tuple ?_
        refine L_cons ?_ (by rfl)
        refine E_str ?_
        refine L_cons ?_ (by rfl)
        refine E_tuple ?_
        refine L_cons ?_ (by rfl)
        refine E_str ?_
        refine L_cons ?_ (by rfl)
        refine E_local K n_number (by rfl) (by first | rfl | assumption) ?_ (by rfl)
        refine L_nil ?_
        refine ⟨Nat.le_of_ble_eq_true rfl, ?_⟩
        refine L_nil ?_
        refine ⟨Nat.le_of_ble_eq_true rfl, ?_⟩
        refine ⟨_, L0.hk, by rw [List.length_map]; first | omega | (simp; omega), ?_⟩
        have L1 := L0.app1 ⟨.get_list, [.op .a (1 + (j : Nat))]⟩
        refine ⟨rfl, ?_⟩
        refine After.next ?_
        refine seq ?_
        refine S_expr ?_ K.quiet (by rfl)
        refine E_append ?_ (by rfl) (by rfl)
        refine E_local K n_code (by rfl) (by first | rfl | assumption) ?_ (by rfl)
        refine ⟨_, rfl, ⟨_, L1.hk⟩, ?_⟩
        refine E_tuple ?_
        refine L_cons ?_ (by rfl)
        refine E_str ?_
        refine L_cons ?_ (by rfl)
        refine E_local K n_own (by rfl) (by first | rfl | assumption) ?_ (by rfl)
        refine L_nil ?_
        refine ⟨Nat.le_of_ble_eq_true rfl, ?_⟩
        refine ⟨_, L1.hk, by rw [List.length_map]; first | omega | (simp; omega), ?_⟩
        have L2 := L1.app1 ⟨.unify_variable, [.op .t r2]⟩
        refine ⟨rfl, ?_⟩
        refine After.next ?_
        refine seq ?_
        refine S_expr ?_ K.quiet (by rfl)
        refine E_append ?_ (by rfl) (by rfl)
        refine E_local K n_met (by rfl) (by first | rfl | assumption) ?_ (by rfl)
        refine ⟨_, rfl, ⟨_, L2.hm⟩, ?_⟩
        refine E_local K n_own (by rfl) (by first | rfl | assumption) ?_ (by rfl)
        refine ⟨_, L2.hm, by unfold metV; rw [List.length_map]; omega, ?_⟩
        refine ⟨rfl, ?_⟩
        refine After.next ?_
        refine S_nil ?_
        refine After.next ?_
        refine S_nil ?_
        refine After.next ?_
        refine S_nil ?_
        refine hg1 _ _ _ (TurnEnd.next ?_)
        refine ⟨(met ++ [r2], code ++ [⟨.get_list, [.op .a (1 + (j : Nat))]⟩, ⟨.unify_variable, [.op .t r2]⟩], _), ⟨?_, ?_, ?_, cOk_app hco ?_, ?_⟩, LSub.cons rfl (LSub.cons rfl (LSub.cons rfl (LSub.cons rfl LSub.nil))), Sub.refl _⟩
        · first | exact (L2.met1 r2) | (have z := (L2.met1 r2); rw [List.append_assoc] at z; exact z)
        · first | exact hmo | exact hmo.app (by omega) (by omega)
        · first | (rw [List.length_append]; simp; omega) | (show met.length ≤ j + 1; omega)
        · intro r hr; simp only [List.mem_cons, List.not_mem_nil, or_false] at hr; rcases hu with rfl | ⟨uk, rfl, uk0, uk3⟩ <;> rcases hr with rfl | rfl <;> (simp [cOk, rowOk, Nm.sort, dOk, numOk]; try omega)
        · simp; omega
      · skip
        refine seq ?_
        refine S_if ?_
        refine B_cmp ?_ (by rfl)
        refine E_local K n_way (by rfl) (by first | rfl | assumption) ?_ (by rfl)
        refine E_int ?_
        refine o_eq hA (by omega) (by rfl) (by rfl) ?_
        rw [V.eq_int]
        refine ⟨_, rfl, ?_⟩
        refine ite_b (fun c3 => ?_) (fun c3 => ?_)
        · skip
          refine seq ?_
          refine S_expr ?_ K.quiet (by rfl)
          refine E_append ?_ (by rfl) (by rfl)
          refine E_local K n_code (by rfl) (by first | rfl | assumption) ?_ (by rfl)
          refine ⟨_, rfl, ⟨_, L0.hk⟩, ?_⟩
          refine E_tuple ?_
          refine L_cons ?_ (by rfl)
          refine E_str ?_
          refine L_cons ?_ (by rfl)
          refine E_int ?_
          refine L_cons ?_ (by rfl)
          refine E_tuple ?_
          refine L_cons ?_ (by rfl)
          refine E_str ?_
          refine L_cons ?_ (by rfl)
          refine E_local K n_number (by rfl) (by first | rfl | assumption) ?_ (by rfl)
          refine L_nil ?_
          refine ⟨Nat.le_of_ble_eq_true rfl, ?_⟩
          refine L_nil ?_
          refine ⟨Nat.le_of_ble_eq_true rfl, ?_⟩
          refine ⟨_, L0.hk, by rw [List.length_map]; first | omega | (simp; omega), ?_⟩
          have L1 := L0.app1 ⟨.get_structure, [.num 8, .op .a (1 + (j : Nat))]⟩
          refine ⟨rfl, ?_⟩
          refine After.next ?_
          refine seq ?_
          refine S_expr ?_ K.quiet (by rfl)
          refine E_append ?_ (by rfl) (by rfl)
          refine E_local K n_code (by rfl) (by first | rfl | assumption) ?_ (by rfl)
          refine ⟨_, rfl, ⟨_, L1.hk⟩, ?_⟩
          refine E_tuple ?_
          refine L_cons ?_ (by rfl)
          refine E_str ?_
          refine L_cons ?_ (by rfl)
          refine E_local K n_use (by rfl) (by first | rfl | assumption) ?_ (by rfl)
          refine L_nil ?_
          refine ⟨Nat.le_of_ble_eq_true rfl, ?_⟩
          refine ⟨_, L1.hk, by rw [List.length_map]; first | omega | (simp; omega), ?_⟩
          have L2 := L1.app1 ⟨.unify_local_value, [u]⟩
          refine ⟨rfl, ?_⟩
          refine After.next ?_
          refine S_nil ?_
          refine After.next ?_
          refine S_nil ?_
          refine After.next ?_
          refine S_nil ?_
          refine After.next ?_
          refine S_nil ?_
          refine hg1 _ _ _ (TurnEnd.next ?_)
          refine ⟨(met, code ++ [⟨.get_structure, [.num 8, .op .a (1 + (j : Nat))]⟩, ⟨.unify_local_value, [u]⟩], _), ⟨?_, ?_, ?_, cOk_app hco ?_, ?_⟩, LSub.cons rfl (LSub.cons rfl (LSub.cons rfl (LSub.cons rfl LSub.nil))), Sub.refl _⟩
          · first | exact L2 | (have z := L2; rw [List.append_assoc] at z; exact z)
          · first | exact hmo | exact hmo.app (by omega) (by omega)
          · first | (rw [List.length_append]; simp; omega) | (show met.length ≤ j + 1; omega)
          · intro r hr; simp only [List.mem_cons, List.not_mem_nil, or_false] at hr; rcases hu with rfl | ⟨uk, rfl, uk0, uk3⟩ <;> rcases hr with rfl | rfl <;> (simp [cOk, rowOk, Nm.sort, dOk, numOk]; try omega)
          · simp; omega
        · skip
          refine seq ?_
          refine S_if ?_
          refine B_cmp ?_ (by rfl)
          refine E_local K n_way (by rfl) (by first | rfl | assumption) ?_ (by rfl)
          refine E_int ?_
          refine o_eq hA (by omega) (by rfl) (by rfl) ?_
          rw [V.eq_int]
          refine ⟨_, rfl, ?_⟩
          refine ite_b (fun c4 => ?_) (fun c4 => ?_)
          · skip
            refine seq ?_
            refine S_expr ?_ K.quiet (by rfl)
            refine E_append ?_ (by rfl) (by rfl)
            refine E_local K n_code (by rfl) (by first | rfl | assumption) ?_ (by rfl)
            refine ⟨_, rfl, ⟨_, L0.hk⟩, ?_⟩
            refine E_tuple ?_
            refine L_cons ?_ (by rfl)
            refine E_str ?_
            refine L_cons ?_ (by rfl)
            refine E_local K n_use (by rfl) (by first | rfl | assumption) ?_ (by rfl)
            refine L_cons ?_ (by rfl)
            refine E_tuple ?_
            refine L_cons ?_ (by rfl)
            refine E_str ?_
            refine L_cons ?_ (by rfl)
            refine E_local K n_number (by rfl) (by first | rfl | assumption) ?_ (by rfl)
            refine L_nil ?_
            refine ⟨Nat.le_of_ble_eq_true rfl, ?_⟩
            refine L_nil ?_
            refine ⟨Nat.le_of_ble_eq_true rfl, ?_⟩
            refine ⟨_, L0.hk, by rw [List.length_map]; first | omega | (simp; omega), ?_⟩
            have L1 := L0.app1 ⟨.get_value, [u, .op .a (1 + (j : Nat))]⟩
            refine ⟨rfl, ?_⟩
            refine After.next ?_
            refine S_nil ?_
            refine After.next ?_
            refine S_nil ?_
            refine After.next ?_
            refine S_nil ?_
            refine After.next ?_
            refine S_nil ?_
            refine After.next ?_
            refine S_nil ?_
            refine hg1 _ _ _ (TurnEnd.next ?_)
            refine ⟨(met, code ++ [⟨.get_value, [u, .op .a (1 + (j : Nat))]⟩], _), ⟨?_, ?_, ?_, cOk_app hco ?_, ?_⟩, LSub.cons rfl (LSub.cons rfl (LSub.cons rfl (LSub.cons rfl LSub.nil))), Sub.refl _⟩
            · first | exact L1 | (have z := L1; rw [List.append_assoc] at z; exact z)
            · first | exact hmo | exact hmo.app (by omega) (by omega)
            · first | (rw [List.length_append]; simp; omega) | (show met.length ≤ j + 1; omega)
            · intro r hr; simp only [List.mem_cons, List.not_mem_nil, or_false] at hr; rcases hu with rfl | ⟨uk, rfl, uk0, uk3⟩ <;> rcases hr with rfl | rfl <;> (simp [cOk, rowOk, Nm.sort, dOk, numOk]; try omega)
            · simp; omega
          · skip
            refine seq ?_
            refine S_expr ?_ K.quiet (by rfl)
            refine E_append ?_ (by rfl) (by rfl)
            refine E_local K n_code (by rfl) (by first | rfl | assumption) ?_ (by rfl)
            refine ⟨_, rfl, ⟨_, L0.hk⟩, ?_⟩
            refine E_tuple ?_
            refine L_cons ?_ (by rfl)
            refine E_str ?_
            refine L_cons ?_ (by rfl)
            refine E_tuple ?_
            refine L_cons ?_ (by rfl)
            refine E_int ?_
            refine L_cons ?_ (by rfl)
            refine E_int ?_
            refine L_nil ?_
            refine ⟨Nat.le_of_ble_eq_true rfl, ?_⟩
            refine L_cons ?_ (by rfl)
            refine E_tuple ?_
            refine L_cons ?_ (by rfl)
            refine E_str ?_
            refine L_cons ?_ (by rfl)
            refine E_local K n_number (by rfl) (by first | rfl | assumption) ?_ (by rfl)
            refine L_nil ?_
            refine ⟨Nat.le_of_ble_eq_true rfl, ?_⟩
            refine L_nil ?_
            refine ⟨Nat.le_of_ble_eq_true rfl, ?_⟩
            refine ⟨_, L0.hk, by rw [List.length_map]; first | omega | (simp; omega), ?_⟩
            have L1 := L0.app1 ⟨.get_constant, [.pr 4 3, .op .a (1 + (j : Nat))]⟩
            refine ⟨rfl, ?_⟩
            refine After.next ?_
            refine S_nil ?_
            refine After.next ?_
            refine S_nil ?_
            refine After.next ?_
            refine S_nil ?_
            refine After.next ?_
            refine S_nil ?_
            refine After.next ?_
            refine S_nil ?_
            refine hg1 _ _ _ (TurnEnd.next ?_)
            refine ⟨(met, code ++ [⟨.get_constant, [.pr 4 3, .op .a (1 + (j : Nat))]⟩], _), ⟨?_, ?_, ?_, cOk_app hco ?_, ?_⟩, LSub.cons rfl (LSub.cons rfl (LSub.cons rfl (LSub.cons rfl LSub.nil))), Sub.refl _⟩
            · first | exact L1 | (have z := L1; rw [List.append_assoc] at z; exact z)
            · first | exact hmo | exact hmo.app (by omega) (by omega)
            · first | (rw [List.length_append]; simp; omega) | (show met.length ≤ j + 1; omega)
            · intro r hr; simp only [List.mem_cons, List.not_mem_nil, or_false] at hr; rcases hu with rfl | ⟨uk, rfl, uk0, uk3⟩ <;> rcases hr with rfl | rfl <;> (simp [cOk, rowOk, Nm.sort, dOk, numOk]; try omega)
            · simp; omega
  · skip
    intro x l H2 hJ hl hh
    obtain ⟨met, code, H'⟩ := x
    rw [List.length_map, List.length_range, hN] at hJ
    obtain ⟨ls, hmo, hml, hco, hcl⟩ := hJ
    dsimp only at ls hmo hml hco hcl hh
    refine After.next ?_
    refine S_nil ?_
    refine Back.next ?_
    exact ⟨_, Sub.refl _, h met code H2 (ls.to (ls.st.more hh)) hmo hml hco hcl⟩
end
end Mine
namespace Mine
theorem Sub.none {a b : AH} {d : Addr} (h : Sub a b) (hd : b d = none) : a d = none := by
  cases z : a d with
  | none => rfl
  | some o => rw [h _ _ z] at hd; cases hd
structure RowsAt (spot own use : Pt) (H A : AH) (ds : List Addr) : Prop where
  up : Sub H A
  at' : ∀ j D, ds[j]? = some D → H D = none ∧ A D = some (.list ((rowsP j spot own use).map Rw.v))
theorem RowsAt.nil {spot own use : Pt} {H : AH} : RowsAt spot own use H H [] := ⟨Sub.refl _, fun j D h => by simp at h⟩
theorem row_next {P : AH → Prop} {spot own use : Pt} {H A : AH} {ds : List Addr} {d : Addr} (n : Nat) (R : RowsAt spot own use H A ds) (hn : ds.length = n) (k : ∀ A1, RowsAt spot own use H A1 (ds ++ [d]) → P A1) (hd : A d = none) : P (A.set d (.list ((rowsP n spot own use).map Rw.v))) := by
  subst hn
  refine k _ ⟨R.up.fresh hd, fun j D h => ?_⟩
  rw [List.getElem?_append] at h
  split at h
  · obtain ⟨h1, h2⟩ := R.at' j D h
    exact ⟨h1, (AH.set_ne _ _ (ne_none hd h2)).trans h2⟩
  · rename_i hj
    obtain rfl : j = ds.length := by
      have := (List.getElem?_eq_some_iff.mp h).1
      simp at this; omega
    rw [Nat.sub_self] at h
    obtain rfl : d = D := by simpa using h
    exact ⟨R.up.none hd, AH.set_same _ _ _⟩
theorem RowsAt.get {spot own use : Pt} {H A : AH} {ds : List Addr} (R : RowsAt spot own use H A ds) {j : Nat} (hj : j < ds.length) : ∃ D, (ds.map V.ref)[j]? = some (.ref D) ∧ H D = none ∧ A D = some (.list ((rowsP j spot own use).map Rw.v)) := by
  have e : ds[j]? = some ds[j] := List.getElem?_eq_getElem hj
  obtain ⟨h1, h2⟩ := R.at' _ _ e
  exact ⟨_, by rw [List.getElem?_map, e]; rfl, h1, h2⟩
theorem RowsAt.sub {spot own use : Pt} {H A : AH} {ds : List Addr} (R : RowsAt spot own use H A ds) (D : Addr) {x : MObj} (h : A D = some x) (hn : H D = none) : Sub (H.set D x) A := R.up.set' h
section
variable {c : Cx} (hK : c.K = hd.heap_1 c.w.params)
include hK
set_option maxHeartbeats 4000000 in
theorem sp_lrows {n way : Nat} {H : AH} {spot own use : Pt} {Q : V → AH → Prop} (hw : way < 14) (h : ∀ D, H D = none → Q (.ref D) (H.set D (.list ((rowsP way spot own use).map Rw.v)))) : FnSpec c (n + 12) 168 [.int ((way : Nat) : Int), spot.v, own.v, use.v] Q H := by
  refine fn_enter (ks := ks__law_rows) (by rw [hK]; rfl) (by rw [hK]; kernel_rfl) (KOk.of rfl (by kernel_rfl)) [Str.ofString "way", Str.ofString "spot", Str.ofString "own", Str.ofString "use"] [1994999, 245102707, 1817583, 1669621] (all4 fun v0 v1 v2 v3 => rfl) (by kernel_rfl) (by decide) (by rfl) (by decide) rfl rfl rfl (fun A L env hA K => ?_)
  refine seq ?_
  refine S_assign K n_rows (by rfl) ?_ (by rfl)
  refine E_list ?_
  have R0 := RowsAt.nil (spot := spot) (own := own) (use := use) (H := H)
  refine L_cons ?_ (by rfl)
  refine WE.gen fun Qr hQr => ?_
  refine E_list ?_
  refine L_cons ?_ (by rfl)
  refine E_tuple ?_
  refine L_cons ?_ (by rfl)
  refine E_str ?_
  refine L_cons ?_ (by rfl)
  refine E_local K n_use (by rfl) (by first | rfl | assumption) ?_ (by rfl)
  refine L_cons ?_ (by rfl)
  refine E_local K n_spot (by rfl) (by first | rfl | assumption) ?_ (by rfl)
  refine L_nil ?_
  refine ⟨Nat.le_of_ble_eq_true rfl, ?_⟩
  refine L_nil ?_
  refine ⟨Nat.le_of_ble_eq_true rfl, fun d1 hd1 => hQr _ _ ?_⟩
  clear hQr Qr
  show WL _ _ _ _ _ _ (H.set d1 (.list ((rowsP 0 spot own use).map Rw.v)))
  refine row_next (P := fun A => WL _ _ _ _ _ _ A) 0 R0 (by rfl) (fun A1 R1 => ?_) hd1
  clear hd1 R0
  change RowsAt _ _ _ _ _ [d1] at R1
  refine L_cons ?_ (by rfl)
  refine WE.gen fun Qr hQr => ?_
  refine E_list ?_
  refine L_cons ?_ (by rfl)
  refine E_tuple ?_
  refine L_cons ?_ (by rfl)
  refine E_str ?_
  refine L_cons ?_ (by rfl)
  refine E_local K n_own (by rfl) (by first | rfl | assumption) ?_ (by rfl)
  refine L_cons ?_ (by rfl)
  refine E_local K n_spot (by rfl) (by first | rfl | assumption) ?_ (by rfl)
  refine L_nil ?_
  refine ⟨Nat.le_of_ble_eq_true rfl, ?_⟩
  refine L_nil ?_
  refine ⟨Nat.le_of_ble_eq_true rfl, fun d2 hd2 => hQr _ _ ?_⟩
  clear hQr Qr
  show WL _ _ _ _ _ _ (A1.set d2 (.list ((rowsP 1 spot own use).map Rw.v)))
  refine row_next (P := fun A => WL _ _ _ _ _ _ A) 1 R1 (by rfl) (fun A2 R2 => ?_) hd2
  clear hd2 R1
  change RowsAt _ _ _ _ _ [d1, d2] at R2
  refine L_cons ?_ (by rfl)
  refine WE.gen fun Qr hQr => ?_
  refine E_list ?_
  refine L_cons ?_ (by rfl)
  refine E_tuple ?_
  refine L_cons ?_ (by rfl)
  refine E_str ?_
  refine L_cons ?_ (by rfl)
  refine E_tuple ?_
  refine L_cons ?_ (by rfl)
  refine E_int ?_
  refine L_cons ?_ (by rfl)
  refine E_int ?_
  refine L_nil ?_
  refine ⟨Nat.le_of_ble_eq_true rfl, ?_⟩
  refine L_cons ?_ (by rfl)
  refine E_local K n_spot (by rfl) (by first | rfl | assumption) ?_ (by rfl)
  refine L_nil ?_
  refine ⟨Nat.le_of_ble_eq_true rfl, ?_⟩
  refine L_nil ?_
  refine ⟨Nat.le_of_ble_eq_true rfl, fun d3 hd3 => hQr _ _ ?_⟩
  clear hQr Qr
  show WL _ _ _ _ _ _ (A2.set d3 (.list ((rowsP 2 spot own use).map Rw.v)))
  refine row_next (P := fun A => WL _ _ _ _ _ _ A) 2 R2 (by rfl) (fun A3 R3 => ?_) hd3
  clear hd3 R2
  change RowsAt _ _ _ _ _ [d1, d2, d3] at R3
  refine L_cons ?_ (by rfl)
  refine WE.gen fun Qr hQr => ?_
  refine E_list ?_
  refine L_cons ?_ (by rfl)
  refine E_tuple ?_
  refine L_cons ?_ (by rfl)
  refine E_str ?_
  refine L_cons ?_ (by rfl)
  refine E_tuple ?_
  refine L_cons ?_ (by rfl)
  refine E_str ?_
  refine L_cons ?_ (by rfl)
  refine E_int ?_
  refine L_nil ?_
  refine ⟨Nat.le_of_ble_eq_true rfl, ?_⟩
  refine L_cons ?_ (by rfl)
  refine E_local K n_spot (by rfl) (by first | rfl | assumption) ?_ (by rfl)
  refine L_nil ?_
  refine ⟨Nat.le_of_ble_eq_true rfl, ?_⟩
  refine L_nil ?_
  refine ⟨Nat.le_of_ble_eq_true rfl, fun d4 hd4 => hQr _ _ ?_⟩
  clear hQr Qr
  show WL _ _ _ _ _ _ (A3.set d4 (.list ((rowsP 3 spot own use).map Rw.v)))
  refine row_next (P := fun A => WL _ _ _ _ _ _ A) 3 R3 (by rfl) (fun A4 R4 => ?_) hd4
  clear hd4 R3
  change RowsAt _ _ _ _ _ [d1, d2, d3, d4] at R4
  refine L_cons ?_ (by rfl)
  refine WE.gen fun Qr hQr => ?_
  refine E_list ?_
  refine L_cons ?_ (by rfl)
  refine E_tuple ?_
  refine L_cons ?_ (by rfl)
  refine E_str ?_
  refine L_cons ?_ (by rfl)
  refine E_local K n_own (by rfl) (by first | rfl | assumption) ?_ (by rfl)
  refine L_nil ?_
  refine ⟨Nat.le_of_ble_eq_true rfl, ?_⟩
  refine L_cons ?_ (by rfl)
  refine E_tuple ?_
  refine L_cons ?_ (by rfl)
  refine E_str ?_
  refine L_cons ?_ (by rfl)
  refine E_local K n_use (by rfl) (by first | rfl | assumption) ?_ (by rfl)
  refine L_nil ?_
  refine ⟨Nat.le_of_ble_eq_true rfl, ?_⟩
  refine L_nil ?_
  refine ⟨Nat.le_of_ble_eq_true rfl, fun d5 hd5 => hQr _ _ ?_⟩
  clear hQr Qr
  show WL _ _ _ _ _ _ (A4.set d5 (.list ((rowsP 4 spot own use).map Rw.v)))
  refine row_next (P := fun A => WL _ _ _ _ _ _ A) 4 R4 (by rfl) (fun A5 R5 => ?_) hd5
  clear hd5 R4
  change RowsAt _ _ _ _ _ [d1, d2, d3, d4, d5] at R5
  refine L_cons ?_ (by rfl)
  refine WE.gen fun Qr hQr => ?_
  refine E_list ?_
  refine L_cons ?_ (by rfl)
  refine E_tuple ?_
  refine L_cons ?_ (by rfl)
  refine E_str ?_
  refine L_cons ?_ (by rfl)
  refine E_int ?_
  refine L_cons ?_ (by rfl)
  refine E_local K n_spot (by rfl) (by first | rfl | assumption) ?_ (by rfl)
  refine L_nil ?_
  refine ⟨Nat.le_of_ble_eq_true rfl, ?_⟩
  refine L_cons ?_ (by rfl)
  refine E_tuple ?_
  refine L_cons ?_ (by rfl)
  refine E_str ?_
  refine L_cons ?_ (by rfl)
  refine E_local K n_use (by rfl) (by first | rfl | assumption) ?_ (by rfl)
  refine L_nil ?_
  refine ⟨Nat.le_of_ble_eq_true rfl, ?_⟩
  refine L_nil ?_
  refine ⟨Nat.le_of_ble_eq_true rfl, fun d6 hd6 => hQr _ _ ?_⟩
  clear hQr Qr
  show WL _ _ _ _ _ _ (A5.set d6 (.list ((rowsP 5 spot own use).map Rw.v)))
  refine row_next (P := fun A => WL _ _ _ _ _ _ A) 5 R5 (by rfl) (fun A6 R6 => ?_) hd6
  clear hd6 R5
  change RowsAt _ _ _ _ _ [d1, d2, d3, d4, d5, d6] at R6
  refine L_cons ?_ (by rfl)
  refine WE.gen fun Qr hQr => ?_
  refine E_list ?_
  refine L_cons ?_ (by rfl)
  refine E_tuple ?_
  refine L_cons ?_ (by rfl)
  refine E_str ?_
  refine L_cons ?_ (by rfl)
  refine E_local K n_own (by rfl) (by first | rfl | assumption) ?_ (by rfl)
  refine L_nil ?_
  refine ⟨Nat.le_of_ble_eq_true rfl, ?_⟩
  refine L_nil ?_
  refine ⟨Nat.le_of_ble_eq_true rfl, fun d7 hd7 => hQr _ _ ?_⟩
  clear hQr Qr
  show WL _ _ _ _ _ _ (A6.set d7 (.list ((rowsP 6 spot own use).map Rw.v)))
  refine row_next (P := fun A => WL _ _ _ _ _ _ A) 6 R6 (by rfl) (fun A7 R7 => ?_) hd7
  clear hd7 R6
  change RowsAt _ _ _ _ _ [d1, d2, d3, d4, d5, d6, d7] at R7
  refine L_cons ?_ (by rfl)
  refine WE.gen fun Qr hQr => ?_
  refine E_list ?_
  refine L_cons ?_ (by rfl)
  refine E_tuple ?_
  refine L_cons ?_ (by rfl)
  refine E_str ?_
  refine L_cons ?_ (by rfl)
  refine E_local K n_use (by rfl) (by first | rfl | assumption) ?_ (by rfl)
  refine L_nil ?_
  refine ⟨Nat.le_of_ble_eq_true rfl, ?_⟩
  refine L_nil ?_
  refine ⟨Nat.le_of_ble_eq_true rfl, fun d8 hd8 => hQr _ _ ?_⟩
  clear hQr Qr
  show WL _ _ _ _ _ _ (A7.set d8 (.list ((rowsP 7 spot own use).map Rw.v)))
  refine row_next (P := fun A => WL _ _ _ _ _ _ A) 7 R7 (by rfl) (fun A8 R8 => ?_) hd8
  clear hd8 R7
  change RowsAt _ _ _ _ _ [d1, d2, d3, d4, d5, d6, d7, d8] at R8
  refine L_cons ?_ (by rfl)
  refine WE.gen fun Qr hQr => ?_
  refine E_list ?_
  refine L_cons ?_ (by rfl)
  refine E_tuple ?_
  refine L_cons ?_ (by rfl)
  refine E_str ?_
  refine L_cons ?_ (by rfl)
  refine E_int ?_
  refine L_nil ?_
  refine ⟨Nat.le_of_ble_eq_true rfl, ?_⟩
  refine L_nil ?_
  refine ⟨Nat.le_of_ble_eq_true rfl, fun d9 hd9 => hQr _ _ ?_⟩
  clear hQr Qr
  show WL _ _ _ _ _ _ (A8.set d9 (.list ((rowsP 8 spot own use).map Rw.v)))
  refine row_next (P := fun A => WL _ _ _ _ _ _ A) 8 R8 (by rfl) (fun A9 R9 => ?_) hd9
  clear hd9 R8
  change RowsAt _ _ _ _ _ [d1, d2, d3, d4, d5, d6, d7, d8, d9] at R9
  refine L_cons ?_ (by rfl)
  refine WE.gen fun Qr hQr => ?_
  refine E_list ?_
  refine L_cons ?_ (by rfl)
  refine E_tuple ?_
  refine L_cons ?_ (by rfl)
  refine E_str ?_
  refine L_cons ?_ (by rfl)
  refine E_tuple ?_
  refine L_cons ?_ (by rfl)
  refine E_str ?_
  refine L_cons ?_ (by rfl)
  refine E_int ?_
  refine L_nil ?_
  refine ⟨Nat.le_of_ble_eq_true rfl, ?_⟩
  refine L_nil ?_
  refine ⟨Nat.le_of_ble_eq_true rfl, ?_⟩
  refine L_nil ?_
  refine ⟨Nat.le_of_ble_eq_true rfl, fun d10 hd10 => hQr _ _ ?_⟩
  clear hQr Qr
  show WL _ _ _ _ _ _ (A9.set d10 (.list ((rowsP 9 spot own use).map Rw.v)))
  refine row_next (P := fun A => WL _ _ _ _ _ _ A) 9 R9 (by rfl) (fun A10 R10 => ?_) hd10
  clear hd10 R9
  change RowsAt _ _ _ _ _ [d1, d2, d3, d4, d5, d6, d7, d8, d9, d10] at R10
  refine L_cons ?_ (by rfl)
  refine WE.gen fun Qr hQr => ?_
  refine E_list ?_
  refine L_cons ?_ (by rfl)
  refine E_tuple ?_
  refine L_cons ?_ (by rfl)
  refine E_str ?_
  refine L_cons ?_ (by rfl)
  refine E_local K n_use (by rfl) (by first | rfl | assumption) ?_ (by rfl)
  refine L_nil ?_
  refine ⟨Nat.le_of_ble_eq_true rfl, ?_⟩
  refine L_nil ?_
  refine ⟨Nat.le_of_ble_eq_true rfl, fun d11 hd11 => hQr _ _ ?_⟩
  clear hQr Qr
  show WL _ _ _ _ _ _ (A10.set d11 (.list ((rowsP 10 spot own use).map Rw.v)))
  refine row_next (P := fun A => WL _ _ _ _ _ _ A) 10 R10 (by rfl) (fun A11 R11 => ?_) hd11
  clear hd11 R10
  change RowsAt _ _ _ _ _ [d1, d2, d3, d4, d5, d6, d7, d8, d9, d10, d11] at R11
  refine L_cons ?_ (by rfl)
  refine WE.gen fun Qr hQr => ?_
  refine E_list ?_
  refine L_cons ?_ (by rfl)
  refine E_tuple ?_
  refine L_cons ?_ (by rfl)
  refine E_str ?_
  refine L_cons ?_ (by rfl)
  refine E_local K n_own (by rfl) (by first | rfl | assumption) ?_ (by rfl)
  refine L_cons ?_ (by rfl)
  refine E_local K n_use (by rfl) (by first | rfl | assumption) ?_ (by rfl)
  refine L_nil ?_
  refine ⟨Nat.le_of_ble_eq_true rfl, ?_⟩
  refine L_nil ?_
  refine ⟨Nat.le_of_ble_eq_true rfl, fun d12 hd12 => hQr _ _ ?_⟩
  clear hQr Qr
  show WL _ _ _ _ _ _ (A11.set d12 (.list ((rowsP 11 spot own use).map Rw.v)))
  refine row_next (P := fun A => WL _ _ _ _ _ _ A) 11 R11 (by rfl) (fun A12 R12 => ?_) hd12
  clear hd12 R11
  change RowsAt _ _ _ _ _ [d1, d2, d3, d4, d5, d6, d7, d8, d9, d10, d11, d12] at R12
  refine L_cons ?_ (by rfl)
  refine WE.gen fun Qr hQr => ?_
  refine E_list ?_
  refine L_cons ?_ (by rfl)
  refine E_tuple ?_
  refine L_cons ?_ (by rfl)
  refine E_str ?_
  refine L_cons ?_ (by rfl)
  refine E_tuple ?_
  refine L_cons ?_ (by rfl)
  refine E_int ?_
  refine L_cons ?_ (by rfl)
  refine E_int ?_
  refine L_nil ?_
  refine ⟨Nat.le_of_ble_eq_true rfl, ?_⟩
  refine L_cons ?_ (by rfl)
  refine E_local K n_use (by rfl) (by first | rfl | assumption) ?_ (by rfl)
  refine L_nil ?_
  refine ⟨Nat.le_of_ble_eq_true rfl, ?_⟩
  refine L_nil ?_
  refine ⟨Nat.le_of_ble_eq_true rfl, fun d13 hd13 => hQr _ _ ?_⟩
  clear hQr Qr
  show WL _ _ _ _ _ _ (A12.set d13 (.list ((rowsP 12 spot own use).map Rw.v)))
  refine row_next (P := fun A => WL _ _ _ _ _ _ A) 12 R12 (by rfl) (fun A13 R13 => ?_) hd13
  clear hd13 R12
  change RowsAt _ _ _ _ _ [d1, d2, d3, d4, d5, d6, d7, d8, d9, d10, d11, d12, d13] at R13
  refine L_cons ?_ (by rfl)
  refine WE.gen fun Qr hQr => ?_
  refine E_list ?_
  refine L_cons ?_ (by rfl)
  refine E_tuple ?_
  refine L_cons ?_ (by rfl)
  refine E_str ?_
  refine L_cons ?_ (by rfl)
  refine E_local K n_use (by rfl) (by first | rfl | assumption) ?_ (by rfl)
  refine L_cons ?_ (by rfl)
  refine E_local K n_own (by rfl) (by first | rfl | assumption) ?_ (by rfl)
  refine L_nil ?_
  refine ⟨Nat.le_of_ble_eq_true rfl, ?_⟩
  refine L_nil ?_
  refine ⟨Nat.le_of_ble_eq_true rfl, fun d14 hd14 => hQr _ _ ?_⟩
  clear hQr Qr
  show WL _ _ _ _ _ _ (A13.set d14 (.list ((rowsP 13 spot own use).map Rw.v)))
  refine row_next (P := fun A => WL _ _ _ _ _ _ A) 13 R13 (by rfl) (fun A14 R14 => ?_) hd14
  clear hd14 R13
  change RowsAt _ _ _ _ _ [d1, d2, d3, d4, d5, d6, d7, d8, d9, d10, d11, d12, d13, d14] at R14
  refine L_nil ?_
  refine ⟨Nat.le_of_ble_eq_true rfl, fun d15 hd15 => ?_⟩
  refine After.next ?_
  refine seq ?_
  refine S_return ?_
  refine E_sub ?_
  refine E_local K n_rows (by rfl) (by first | rfl | assumption) ?_ (by rfl)
  refine E_local K n_way (by rfl) (by first | rfl | assumption) ?_ (by rfl)
  obtain ⟨D, e1, e2, e3⟩ := R14.get hw
  refine o_item_list (x := .ref D) (AH.set_same _ _ _) (by omega) (by omega) (by rw [Int.toNat_natCast]; exact e1) ?_ (fun _ _ => rfl)
  refine After.ret ?_
  exact Back.ret ⟨_, (R14.sub D e3 e2).fresh hd15, h D e2⟩
set_option maxHeartbeats 4000000 in
theorem sp_stretch {n m0 c0 : Nat} {Hr H : AH} {d e m k : Addr} {met0 : List Int} {code0 : List Rw} {Q : V → AH → Prop} (ls : LS Hr d e m k met0 code0 H) (hmo0 : metOk met0) (hml0 : met0.length = m0) (hm0 : m0 ≤ 100) (hco0 : ∀ r ∈ code0, cOk r = true) (hcl0 : code0.length = c0) (hc0 : c0 ≤ 100) (h : ∀ met code H', LS Hr d e m k met code H' → metOk met → met.length ≤ m0 + 4 → (∀ r ∈ code, cOk r = true) → code.length ≤ c0 + 9 → 0 < code.length → Q .none H') : FnSpec c (n + 14) 175 [.ref d, .ref m, .ref k] Q H := by
  refine fn_enter (ks := ks__law_stretch) (by rw [hK]; rfl) (by rw [hK]; kernel_rfl) (KOk.of rfl (by kernel_rfl)) [Str.ofString "tape", Str.ofString "met", Str.ofString "code"] [213659892, 1913581, 213465059] (all3 fun v0 v1 v2 => rfl) (by kernel_rfl) (by decide) (by rfl) (by decide) rfl rfl rfl (fun A L env hA K => ?_)
  refine seq ?_
  refine S_for' (σ := List Int × List Rw × AH) (fun j x => LS Hr d e m k x.1 x.2.1 x.2.2 ∧ metOk x.1 ∧ x.1.length ≤ m0 + j ∧ (∀ r ∈ x.2.1, cOk r = true) ∧ x.2.1.length ≤ c0 + 2 * j) (fun _ _ => [(213659892, .ref d), (1913581, .ref m), (213465059, .ref k)]) (fun _ x => x.2.2) hA K n_lap (by rfl) ?_ (fun _ => rfl)
  refine E_callb K n_range (by rfl) (gl_range hK) boot_range nn_range (by rfl) (fun _ h => nomatch h) ?_ (by rfl) (by rfl)
  refine L_cons ?_ (by rfl)
  refine E_binop ?_
  refine E_binop ?_
  refine E_int ?_
  refine E_call hA K n__law_digit (by rfl) (gl__law_digit hK) (keep__law_digit hK) ?_ (by rfl) (by rfl) (by rfl)
  refine L_cons ?_ (by rfl)
  refine E_local K n_tape (by rfl) (by first | rfl | assumption) ?_ (by rfl)
  refine L_cons ?_ (by rfl)
  refine E_int ?_
  refine L_nil ?_
  refine sp_dig hK (n := n + 1) ls.st (by first | decide | omega) (by first | decide | omega) (fun r0 H0 r0a r0b st0 => ?_)
  refine o_add ?_
  refine E_int ?_
  refine o_mod (by decide) ?_
  have hf0 := Int.fmod_nonneg_of_pos (2 + r0) (b := 5) (by decide)
  have hf1 := Int.fmod_lt_of_pos (2 + r0) (b := 5) (by decide)
  generalize (2 + r0).fmod 5 = laps at hf0 hf1 ⊢
  refine L_nil ?_
  refine b_range1 (fun dr hdr => ?_)
  have hN : (laps - 0).toNat ≤ 4 := by omega
  have ls0 := ls.to st0
  refine ⟨_, (met0, code0, H0.set dr (.rng 0 laps)), ⟨ls0.to (ls0.st.more ((Sub.refl _).fresh hdr)), hmo0, Nat.le_of_eq hml0, hco0, Nat.le_of_eq hcl0⟩, LSub.refl _, Sub.refl _, .inr (.inr (.inl ⟨dr, 0, laps, rfl, AH.set_same _ _ _, by decide, by decide, by omega, by omega, rfl⟩)), ?_, ?_⟩
  clear ls ls0 st0
  · skip
    intro j x v hv hJ
    obtain ⟨met, code, H'⟩ := x
    obtain ⟨ls, hmo, hml, hco, hcl⟩ := hJ
    dsimp only at ls hmo hml hco hcl ⊢
    have hj : j < 4 := by have := lt_of_get hv; rw [List.length_map, List.length_range] at this; omega
    refine WS.gen fun Qg1 hg1 => ?_
    refine seq ?_
    refine S_assign K n_way (by rfl) ?_ (by rfl)
    refine E_call hA K n__law_digit (by rfl) (gl__law_digit hK) (keep__law_digit hK) ?_ (by rfl) (by rfl) (by rfl)
    refine L_cons ?_ (by rfl)
    refine E_local K n_tape (by rfl) (by first | rfl | assumption) ?_ (by rfl)
    refine L_cons ?_ (by rfl)
    refine E_int ?_
    refine L_nil ?_
    refine sp_dig hK (n := n + 1) ls.st (by first | decide | omega) (by first | decide | omega) (fun r1 H1 r1a r1b st1 => ?_)
    obtain ⟨wy, rfl⟩ : ∃ wy : Nat, r1 = wy := ⟨r1.toNat, by omega⟩
    refine After.next ?_
    refine seq ?_
    refine S_assign K n_spot (by rfl) ?_ (by rfl)
    refine E_tuple ?_
    refine L_cons ?_ (by rfl)
    refine E_str ?_
    refine L_cons ?_ (by rfl)
    refine E_binop ?_
    refine E_int ?_
    refine E_call hA K n__law_digit (by rfl) (gl__law_digit hK) (keep__law_digit hK) ?_ (by rfl) (by rfl) (by rfl)
    refine L_cons ?_ (by rfl)
    refine E_local K n_tape (by rfl) (by first | rfl | assumption) ?_ (by rfl)
    refine L_cons ?_ (by rfl)
    refine E_int ?_
    refine L_nil ?_
    refine sp_dig hK (n := n + 1) st1 (by first | decide | omega) (by first | decide | omega) (fun r2 H2 r2a r2b st2 => ?_)
    refine o_add ?_
    refine L_nil ?_
    refine ⟨Nat.le_of_ble_eq_true rfl, ?_⟩
    refine After.next ?_
    refine seq ?_
    refine S_assign K n_own (by rfl) ?_ (by rfl)
    refine E_tuple ?_
    refine L_cons ?_ (by rfl)
    refine E_str ?_
    refine L_cons ?_ (by rfl)
    refine E_call hA K n__law_digit (by rfl) (gl__law_digit hK) (keep__law_digit hK) ?_ (by rfl) (by rfl) (by rfl)
    refine L_cons ?_ (by rfl)
    refine E_local K n_tape (by rfl) (by first | rfl | assumption) ?_ (by rfl)
    refine L_cons ?_ (by rfl)
    refine E_int ?_
    refine L_nil ?_
    refine sp_dig hK (n := n + 1) st2 (by first | decide | omega) (by first | decide | omega) (fun r3 H3 r3a r3b st3 => ?_)
    refine L_nil ?_
    refine ⟨Nat.le_of_ble_eq_true rfl, ?_⟩
    refine After.next ?_
    refine seq ?_
    refine S_assign K n_use (by rfl) ?_ (by rfl)
    refine E_call hA K n__law_use (by rfl) (gl__law_use hK) (keep__law_use hK) ?_ (by rfl) (by rfl) (by rfl)
    refine L_cons ?_ (by rfl)
    refine E_local K n_tape (by rfl) (by first | rfl | assumption) ?_ (by rfl)
    refine L_cons ?_ (by rfl)
    refine E_local K n_met (by rfl) (by first | rfl | assumption) ?_ (by rfl)
    refine L_nil ?_
    refine sp_use hK (n := n) st3 ls.rm hmo (by omega) (fun u H4 hu st4 => ?_)
    have L0 := ls.to st4
    refine After.next ?_
    refine seq ?_
    refine S_expr ?_ K.quiet (by rfl)
    refine E_extend ?_ (by rfl) (by rfl)
    refine E_local K n_code (by rfl) (by first | rfl | assumption) ?_ (by rfl)
    refine ⟨_, rfl, ⟨_, L0.hk⟩, ?_⟩
    refine E_call hA K n__law_rows (by rfl) (gl__law_rows hK) (keep__law_rows hK) ?_ (by rfl) (by rfl) (by rfl)
    refine L_cons ?_ (by rfl)
    refine E_local K n_way (by rfl) (by first | rfl | assumption) ?_ (by rfl)
    refine L_cons ?_ (by rfl)
    refine E_local K n_spot (by rfl) (by first | rfl | assumption) ?_ (by rfl)
    refine L_cons ?_ (by rfl)
    refine E_local K n_own (by rfl) (by first | rfl | assumption) ?_ (by rfl)
    refine L_cons ?_ (by rfl)
    refine E_local K n_use (by rfl) (by first | rfl | assumption) ?_ (by rfl)
    refine L_nil ?_
    refine sp_lrows hK (n := n + 1) (way := wy) (spot := .op .a (1 + r2)) (own := .op .t r3) (use := u) (by omega) (fun D hD => ?_)
    have L1 := L0.to (L0.st.more ((Sub.refl _).fresh (o := .list ((rowsP wy (.op .a (1 + r2)) (.op .t r3) u).map Rw.v)) hD))
    refine ⟨_, D, _, L1.hk, by rw [List.length_map]; omega, rfl, AH.set_same _ _ _, by rw [List.length_map]; have := rowsP_len wy (.op .a (1 + r2)) (.op .t r3) u; omega, ?_⟩
    have L2 := L1.app (rowsP wy (.op .a (1 + r2)) (.op .t r3) u)
    refine ⟨rfl, ?_⟩
    refine After.next ?_
    refine seq ?_
    refine S_if ?_
    refine B_cmp ?_ (by rfl)
    refine E_local K n_way (by rfl) (by first | rfl | assumption) ?_ (by rfl)
    refine E_list ?_
    refine L_cons ?_ (by rfl)
    refine E_int ?_
    refine L_cons ?_ (by rfl)
    refine E_int ?_
    refine L_cons ?_ (by rfl)
    refine E_int ?_
    refine L_cons ?_ (by rfl)
    refine E_int ?_
    refine L_cons ?_ (by rfl)
    refine E_int ?_
    refine L_nil ?_
    refine ⟨Nat.le_of_ble_eq_true rfl, fun d1 hd1 => ?_⟩
    refine o_in_list hA (by omega) (AH.set_same _ _ _) (by rfl) (by rfl) ?_
    refine ⟨_, rfl, ?_⟩
    refine ite_b (fun gw => ?_) (fun gw => ?_)
    · skip
      have L3 := L2.to (L2.st.more ((Sub.refl _).fresh (o := .list [.int 1, .int 4, .int 6, .int 11, .int 13]) hd1))
      refine seq ?_
      refine S_expr ?_ K.quiet (by rfl)
      refine E_append ?_ (by rfl) (by rfl)
      refine E_local K n_met (by rfl) (by first | rfl | assumption) ?_ (by rfl)
      refine ⟨_, rfl, ⟨_, L3.hm⟩, ?_⟩
      refine E_local K n_own (by rfl) (by first | rfl | assumption) ?_ (by rfl)
      refine ⟨_, L3.hm, by unfold metV; rw [List.length_map]; omega, ?_⟩
      refine ⟨rfl, ?_⟩
      refine After.next ?_
      refine S_nil ?_
      refine After.next ?_
      refine S_nil ?_
      refine hg1 _ _ _ (TurnEnd.next ?_)
      refine ⟨(met ++ [r3], code ++ rowsP wy (.op .a (1 + r2)) (.op .t r3) u, _), ⟨L3.met1 r3, ?_, ?_, cOk_app hco (rowsP_ok (by omega) (by omega) r3a (by omega) hu), ?_⟩, LSub.cons rfl (LSub.cons rfl (LSub.cons rfl LSub.nil)), Sub.refl _⟩
      · first | exact hmo | exact hmo.app (by omega) (by omega)
      · first | (rw [List.length_append]; simp; omega) | (show met.length ≤ m0 + (j + 1); omega)
      · have := rowsP_len wy (.op .a (1 + r2)) (.op .t r3) u; show (code ++ _).length ≤ _; rw [List.length_append]; omega
    · skip
      have L3 := L2.to (L2.st.more ((Sub.refl _).fresh (o := .list [.int 1, .int 4, .int 6, .int 11, .int 13]) hd1))
      refine S_nil ?_
      refine After.next ?_
      refine S_nil ?_
      refine hg1 _ _ _ (TurnEnd.next ?_)
      refine ⟨(met, code ++ rowsP wy (.op .a (1 + r2)) (.op .t r3) u, _), ⟨L3, ?_, ?_, cOk_app hco (rowsP_ok (by omega) (by omega) r3a (by omega) hu), ?_⟩, LSub.cons rfl (LSub.cons rfl (LSub.cons rfl LSub.nil)), Sub.refl _⟩
      · first | exact hmo | exact hmo.app (by omega) (by omega)
      · first | (rw [List.length_append]; simp; omega) | (show met.length ≤ m0 + (j + 1); omega)
      · have := rowsP_len wy (.op .a (1 + r2)) (.op .t r3) u; show (code ++ _).length ≤ _; rw [List.length_append]; omega
  · skip
    intro x l H2 hJ hl hh
    obtain ⟨met, code, H'⟩ := x
    rw [List.length_map, List.length_range] at hJ
    obtain ⟨ls, hmo, hml, hco, hcl⟩ := hJ
    dsimp only at ls hmo hml hco hcl hh
    have ls2 := ls.to (ls.st.more hh)
    refine WS.less (c := c) (loc' := [(213659892, .ref d), (1913581, .ref m), (213465059, .ref k)]) (H' := H2) ?_ hl (Sub.refl _)
    refine After.next ?_
    refine seq ?_
    refine S_expr ?_ K.quiet (by rfl)
    refine E_append ?_ (by rfl) (by rfl)
    refine E_local K n_code (by rfl) (by first | rfl | assumption) ?_ (by rfl)
    refine ⟨_, rfl, ⟨_, ls2.hk⟩, ?_⟩
    refine E_sub ?_
    refine E_list ?_
    refine L_cons ?_ (by rfl)
    refine E_tuple ?_
    refine L_cons ?_ (by rfl)
    refine E_str ?_
    refine L_cons ?_ (by rfl)
    refine E_int ?_
    refine L_cons ?_ (by rfl)
    refine E_int ?_
    refine L_nil ?_
    refine ⟨Nat.le_of_ble_eq_true rfl, ?_⟩
    refine L_cons ?_ (by rfl)
    refine E_tuple ?_
    refine L_cons ?_ (by rfl)
    refine E_str ?_
    refine L_cons ?_ (by rfl)
    refine E_int ?_
    refine L_nil ?_
    refine ⟨Nat.le_of_ble_eq_true rfl, ?_⟩
    refine L_nil ?_
    refine ⟨Nat.le_of_ble_eq_true rfl, fun d2 hd2 => ?_⟩
    refine E_call hA K n__law_digit (by rfl) (gl__law_digit hK) (keep__law_digit hK) ?_ (by rfl) (by rfl) (by rfl)
    refine L_cons ?_ (by rfl)
    refine E_local K n_tape (by rfl) (by first | rfl | assumption) ?_ (by rfl)
    refine L_cons ?_ (by rfl)
    refine E_int ?_
    refine L_nil ?_
    have ls3 := ls2.st.ext (.list [.tup [.str "call", .int 9, .int 1], .tup [.str "execute", .int 9]]) hd2
    refine sp_dig hK (n := n + 1) ls3 (by first | decide | omega) (by first | decide | omega) (fun r5 H5 r5a r5b st5 => ?_)
    have hd2k : ((Hr.set m (.list (metV met))).set k (.list (code.map Rw.v))) d2 = none := ls2.st.sub.none hd2
    have ls4 := ls2.to (st5.shrink ((Sub.refl _).fresh hd2k))
    obtain ⟨row, hrow, hrok⟩ : ∃ row : Rw, ([.tup [.str "call", .int 9, .int 1], .tup [.str "execute", .int 9]] : List V)[r5.toNat]? = some row.v ∧ cOk row = true := by
      obtain rfl | rfl : r5 = 0 ∨ r5 = 1 := by omega
      · exact ⟨⟨.call, [.num 9, .num 1]⟩, rfl, rfl⟩
      · exact ⟨⟨.execute, [.num 9]⟩, rfl, rfl⟩
    refine o_item_list (st5.sub _ _ (AH.set_same _ _ _)) (by omega) (by omega) hrow ?_ (fun _ _ => rfl)
    refine ⟨_, ls4.hk, by rw [List.length_map]; omega, ?_⟩
    have ls5 := ls4.app1 row
    refine ⟨rfl, ?_⟩
    refine After.next ?_
    refine S_nil ?_
    refine Back.next ?_
    exact ⟨_, Sub.refl _, h met (code ++ [row]) _ ls5 hmo (by omega) (cOk_app hco (fun r hr => by rw [List.mem_singleton.mp hr]; exact hrok)) (by simp; omega) (by simp)⟩
end
end Mine
namespace Mine
noncomputable def mapPt (homes : List Int) : Pt → Pt
  | .op .t k => .op .x (homes.getD k.toNat 0)
  | .op .a n => .op .x n
  | p => p
noncomputable def realRow (homes : List Int) (r : Rw) : Rw := ⟨r.nm, r.ps.map (mapPt homes)⟩
theorem homes_get {homes : List Int} {k : Int} (h : homes.length = 4) (h0 : 0 ≤ k) (h3 : k ≤ 3) : (intL homes)[k.toNat]? = some (.int (homes.getD k.toNat 0)) := by
  have hk : k.toNat < homes.length := by omega
  rw [intL, List.getElem?_map, List.getElem?_eq_getElem hk, List.getD_eq_getElem?_getD, List.getElem?_eq_getElem hk]; rfl
theorem take_snoc {α : Type} {l : List α} {j : Nat} {x : α} (h : l[j]? = some x) : l.take (j + 1) = l.take j ++ [x] := by rw [List.take_add_one, h]; rfl
theorem sub_swap {H : AH} {R M : Addr} {o n l : MObj} (h : M ≠ R) (hM : (H.set R o) M = none) : Sub (H.set R n) (((H.set R o).set M l).set R n) := by
  rw [set_comm h, set_set]
  exact (Sub.refl _).fresh (by rw [AH.set_ne _ _ h] at hM ⊢; exact hM)
noncomputable def setRow (r : Rw) (i : Nat) (x : Int) : Rw := ⟨r.nm, r.ps.set i (.op .x x)⟩
noncomputable def altered (real : List Rw) (at' i : Nat) (x : Int) : List Rw := real.take at' ++ (match real[at']? with | some r => [setRow r i x] | none => []) ++ real.drop (at' + 1)
theorem sorts_nodup : (sortsL.map fun x => Str.ofString x.1).Nodup := by decide +kernel
section
variable {c : Cx} (hK : c.K = hd.heap_1 c.w.params)
include hK
set_option maxHeartbeats 4000000 in
theorem sp_real {n : Nat} {H : AH} {cde hom : Addr} {code : List Rw} {homes : List Int} {Q : V → AH → Prop} (hc : H cde = some (.list (code.map Rw.v))) (hh : H hom = some (.list (intL homes))) (hhl : homes.length = 4) (hbig : code.length ≤ 900) (hlen : ∀ r ∈ code, r.ps.length ≤ 2) (hnum : ∀ r ∈ code, ∀ p ∈ r.ps, numOk p = true) (h : ∀ D, H D = none → Q (.ref D) (H.set D (.list ((code.map (realRow homes)).map Rw.v)))) : FnSpec c (n + 12) 182 [.ref cde, .ref hom] Q H := by
  refine fn_enter (ks := ks__law_real) (by rw [hK]; rfl) (by rw [hK]; kernel_rfl) (KOk.of rfl (by kernel_rfl)) [Str.ofString "code", Str.ofString "homes"] [213465059, 31083689960] (all2 fun v0 v1 => rfl) (by kernel_rfl) (by decide) (by rfl) (by decide) rfl rfl rfl (fun A L env hA K => ?_)
  refine seq ?_
  refine S_assign K n_real (by rfl) ?_ (by rfl)
  refine E_list ?_
  refine L_nil ?_
  refine ⟨Nat.le_of_ble_eq_true rfl, fun R hR => ?_⟩
  refine After.next ?_
  have nRc := (ne_none hR hc)
  have nRh := (ne_none hR hh)
  refine seq ?_
  refine S_for' (σ := Unit) (fun i _ => True) (fun _ _ => [(228094706, .ref R), (213465059, .ref cde), (31083689960, .ref hom)]) (fun i _ => (H.set R (.list (((code.take i).map (realRow homes)).map Rw.v)))) hA K n_row (by rfl) ?_ (fun _ => rfl)
  refine E_local K n_code (by rfl) (by first | rfl | assumption) ?_ (by rfl)
  refine ⟨code.map Rw.v, (), trivial, LSub.refl _, Sub.refl _, .inr (.inl ⟨cde, rfl, fun _ _ _ => (AH.set_ne _ _ nRc).trans hc⟩), ?_, ?_⟩
  · skip
    intro i _ v hv _
    obtain ⟨row, hrow⟩ : ∃ row, code[i]? = some row := by
      have := lt_of_get hv; rw [List.length_map] at this; exact ⟨_, List.getElem?_eq_getElem this⟩
    have hv' : v = row.v := by rw [List.getElem?_map, hrow] at hv; exact (Option.some.inj hv).symm
    subst hv'
    have hrn := hnum row (List.mem_of_getElem? hrow)
    have hrl : row.ps.length ≤ 2 := hlen row (List.mem_of_getElem? hrow)
    have hil := lt_of_get hrow
    refine seq ?_
    refine S_assign K n_made (by rfl) ?_ (by rfl)
    refine E_list ?_
    refine L_nil ?_
    refine ⟨Nat.le_of_ble_eq_true rfl, fun M hM => ?_⟩
    refine After.next ?_
    have hRo : (H.set R (.list (((code.take i).map (realRow homes)).map Rw.v))) R = some (.list (((code.take i).map (realRow homes)).map Rw.v)) := AH.set_same _ _ _
    have hho : (H.set R (.list (((code.take i).map (realRow homes)).map Rw.v))) hom = some (.list (intL homes)) := (AH.set_ne _ _ nRh).trans hh
    have nMR := (ne_none hM hRo).symm
    have nMh := (ne_none hM hho).symm
    refine seq ?_
    refine S_for' (σ := Unit) (fun j _ => True) (fun _ _ => [(213463277, .ref M), (1964018, row.v), (228094706, .ref R), (213465059, .ref cde), (31083689960, .ref hom)]) (fun j _ => ((H.set R (.list (((code.take i).map (realRow homes)).map Rw.v))).set M (.list ((V.str row.nm.s :: (row.ps.map (mapPt homes)).map Pt.v).take j)))) hA K n_part (by rfl) ?_ (fun _ => rfl)
    refine E_local K n_row (by rfl) (by first | rfl | assumption) ?_ (by rfl)
    refine ⟨V.str row.nm.s :: row.ps.map Pt.v, (), trivial, LSub.refl _, Sub.refl _, .inl rfl, ?_, ?_⟩
    · skip
      intro j _ v hv _
      have hjl : j < row.ps.length + 1 := by have := lt_of_get hv; simpa using this
      have hMj : ((H.set R (.list (((code.take i).map (realRow homes)).map Rw.v))).set M (.list ((V.str row.nm.s :: (row.ps.map (mapPt homes)).map Pt.v).take j))) M = some (.list ((V.str row.nm.s :: (row.ps.map (mapPt homes)).map Pt.v).take j)) := AH.set_same _ _ _
      have hhj : ((H.set R (.list (((code.take i).map (realRow homes)).map Rw.v))).set M (.list ((V.str row.nm.s :: (row.ps.map (mapPt homes)).map Pt.v).take j))) hom = some (.list (intL homes)) := (AH.set_ne _ _ nMh.symm).trans hho
      have hlj : ((V.str row.nm.s :: (row.ps.map (mapPt homes)).map Pt.v).take j).length ≤ 3 := by rw [List.length_take]; simp; omega
      have hcase : (v = .str row.nm.s ∧ (V.str row.nm.s :: (row.ps.map (mapPt homes)).map Pt.v)[j]? = some v) ∨ ∃ p, p ∈ row.ps ∧ v = p.v ∧ (V.str row.nm.s :: (row.ps.map (mapPt homes)).map Pt.v)[j]? = some (mapPt homes p).v := by
        cases j with
        | zero => left; simp at hv; exact ⟨hv.symm, by simp [hv]⟩
        | succ j =>
          right
          rw [List.getElem?_cons_succ, List.getElem?_map] at hv
          obtain ⟨p, hp, e⟩ := Option.map_eq_some_iff.mp hv
          exact ⟨p, List.mem_of_getElem? hp, e.symm, by rw [List.getElem?_cons_succ, List.getElem?_map, List.getElem?_map, hp]; rfl⟩
      rcases hcase with ⟨rfl, hout⟩ | ⟨p, hp, rfl, hout⟩
      · skip
        refine seq ?_
        refine S_if ?_
        refine B_pure false ?_ ?_
        · skip
          refine B_and ?_
          refine A_and_cons ?_
          refine B_val ?_ (by rfl)
          refine E_callb K n_isinstance (by rfl) (gl_isinstance hK) boot_isinstance nn_isinstance (by rfl) (fun _ h => nomatch h) ?_ (by rfl) (by rfl)
          refine L_cons ?_ (by rfl)
          refine E_local K n_part (by rfl) (by first | rfl | assumption) ?_ (by rfl)
          refine L_cons ?_ (by rfl)
          refine E_ty K n_tuple (by rfl) (gl_tuple hK) boot_tuple nn_tuple (by rfl) ?_
          refine L_nil ?_
          refine b_isi_str ?_
          refine ⟨_, rfl, ?_⟩
          exact ite_f ⟨rfl, rfl⟩
        refine ite_f ?_
        refine seq ?_
        refine S_if ?_
        refine B_pure false ?_ ?_
        · skip
          refine B_and ?_
          refine A_and_cons ?_
          refine B_val ?_ (by rfl)
          refine E_callb K n_isinstance (by rfl) (gl_isinstance hK) boot_isinstance nn_isinstance (by rfl) (fun _ h => nomatch h) ?_ (by rfl) (by rfl)
          refine L_cons ?_ (by rfl)
          refine E_local K n_part (by rfl) (by first | rfl | assumption) ?_ (by rfl)
          refine L_cons ?_ (by rfl)
          refine E_ty K n_tuple (by rfl) (gl_tuple hK) boot_tuple nn_tuple (by rfl) ?_
          refine L_nil ?_
          refine b_isi_str ?_
          refine ⟨_, rfl, ?_⟩
          exact ite_f ⟨rfl, rfl⟩
        refine ite_f ?_
        refine S_nil ?_
        refine After.next ?_
        refine S_nil ?_
        refine After.next ?_
        refine seq ?_
        refine S_expr ?_ K.quiet (by rfl)
        refine E_append ?_ (by rfl) (by rfl)
        refine E_local K n_made (by rfl) (by first | rfl | assumption) ?_ (by rfl)
        refine ⟨_, rfl, ⟨_, hMj⟩, ?_⟩
        refine E_local K n_part (by rfl) (by first | rfl | assumption) ?_ (by rfl)
        refine ⟨_, hMj, by omega, ?_⟩
        refine ⟨rfl, ?_⟩
        refine After.next ?_
        refine S_nil ?_
        refine TurnEnd.next ⟨(), trivial, LSub.cons rfl (LSub.cons rfl (LSub.cons rfl (LSub.cons rfl (LSub.cons rfl LSub.nil)))), Sub.of_eq ?_⟩
        rw [set_set, take_snoc hout]
        try rfl
      · cases p with
        | op ch np =>
          refine seq ?_
          refine S_if ?_
          refine B_pure (decide (ch = .t)) ?_ ?_
          · skip
            refine B_and ?_
            refine A_and_cons ?_
            refine B_val ?_ (by rfl)
            refine E_callb K n_isinstance (by rfl) (gl_isinstance hK) boot_isinstance nn_isinstance (by rfl) (fun _ h => nomatch h) ?_ (by rfl) (by rfl)
            refine L_cons ?_ (by rfl)
            refine E_local K n_part (by rfl) (by first | rfl | assumption) ?_ (by rfl)
            refine L_cons ?_ (by rfl)
            refine E_ty K n_tuple (by rfl) (gl_tuple hK) boot_tuple nn_tuple (by rfl) ?_
            refine L_nil ?_
            refine b_isi_tup ?_
            refine ⟨_, rfl, ?_⟩
            refine ite_t ?_
            refine A_and_cons ?_
            refine B_cmp ?_ (by rfl)
            refine E_sub ?_
            refine E_local K n_part (by rfl) (by first | rfl | assumption) ?_ (by rfl)
            refine E_int ?_
            refine o_item_tup (by decide) (by decide) (by first | rfl | assumption) ?_ (fun _ _ => rfl)
            refine E_str ?_
            refine o_eq hA (by omega) (by rfl) (by rfl) ?_
            rw [lit_ch ch "t" .t rfl]
            refine ⟨_, rfl, ?_⟩
            refine ite_b (fun b1 => ?_) (fun b1 => ?_)
            · exact A_and_nil ⟨b1.symm, rfl⟩
            · exact ⟨b1.symm, rfl⟩
          refine ite_b (fun g1 => ?_) (fun g1 => ?_)
          · skip
            have g1 := of_decide_eq_true g1
            subst g1
            have hk := hrn _ hp
            simp only [numOk, Bool.and_eq_true, decide_eq_true_eq] at hk
            refine seq ?_
            refine S_assign K n_part (by rfl) ?_ (by rfl)
            refine E_tuple ?_
            refine L_cons ?_ (by rfl)
            refine E_str ?_
            refine L_cons ?_ (by rfl)
            refine E_sub ?_
            refine E_local K n_homes (by rfl) (by first | rfl | assumption) ?_ (by rfl)
            refine E_sub ?_
            refine E_local K n_part (by rfl) (by first | rfl | assumption) ?_ (by rfl)
            refine E_int ?_
            refine o_item_tup (x := .int np) (by decide) (by decide) (by rfl) ?_ (fun _ _ => rfl)
            refine o_item_list hhj (by omega) (by omega) (homes_get hhl hk.1 hk.2) ?_ (fun _ _ => rfl)
            refine L_nil ?_
            refine ⟨Nat.le_of_ble_eq_true rfl, ?_⟩
            refine After.next ?_
            refine S_nil ?_
            refine After.next ?_
            refine seq ?_
            refine S_expr ?_ K.quiet (by rfl)
            refine E_append ?_ (by rfl) (by rfl)
            refine E_local K n_made (by rfl) (by first | rfl | assumption) ?_ (by rfl)
            refine ⟨_, rfl, ⟨_, hMj⟩, ?_⟩
            refine E_local K n_part (by rfl) (by first | rfl | assumption) ?_ (by rfl)
            refine ⟨_, hMj, by omega, ?_⟩
            refine ⟨rfl, ?_⟩
            refine After.next ?_
            refine S_nil ?_
            refine TurnEnd.next ⟨(), trivial, LSub.cons rfl (LSub.cons rfl (LSub.cons rfl (LSub.cons rfl (LSub.cons rfl LSub.nil)))), Sub.of_eq ?_⟩
            rw [set_set, take_snoc hout]
            try rfl
          · skip
            have g1 := of_decide_eq_false g1
            refine seq ?_
            refine S_if ?_
            refine B_pure (decide (ch = .a)) ?_ ?_
            · skip
              refine B_and ?_
              refine A_and_cons ?_
              refine B_val ?_ (by rfl)
              refine E_callb K n_isinstance (by rfl) (gl_isinstance hK) boot_isinstance nn_isinstance (by rfl) (fun _ h => nomatch h) ?_ (by rfl) (by rfl)
              refine L_cons ?_ (by rfl)
              refine E_local K n_part (by rfl) (by first | rfl | assumption) ?_ (by rfl)
              refine L_cons ?_ (by rfl)
              refine E_ty K n_tuple (by rfl) (gl_tuple hK) boot_tuple nn_tuple (by rfl) ?_
              refine L_nil ?_
              refine b_isi_tup ?_
              refine ⟨_, rfl, ?_⟩
              refine ite_t ?_
              refine A_and_cons ?_
              refine B_cmp ?_ (by rfl)
              refine E_sub ?_
              refine E_local K n_part (by rfl) (by first | rfl | assumption) ?_ (by rfl)
              refine E_int ?_
              refine o_item_tup (by decide) (by decide) (by first | rfl | assumption) ?_ (fun _ _ => rfl)
              refine E_str ?_
              refine o_eq hA (by omega) (by rfl) (by rfl) ?_
              rw [lit_ch ch "a" .a rfl]
              refine ⟨_, rfl, ?_⟩
              refine ite_b (fun b1 => ?_) (fun b1 => ?_)
              · exact A_and_nil ⟨b1.symm, rfl⟩
              · exact ⟨b1.symm, rfl⟩
            refine ite_b (fun g2 => ?_) (fun g2 => ?_)
            · skip
              have g2 := of_decide_eq_true g2
              subst g2
              refine seq ?_
              refine S_assign K n_part (by rfl) ?_ (by rfl)
              refine E_tuple ?_
              refine L_cons ?_ (by rfl)
              refine E_str ?_
              refine L_cons ?_ (by rfl)
              refine E_sub ?_
              refine E_local K n_part (by rfl) (by first | rfl | assumption) ?_ (by rfl)
              refine E_int ?_
              refine o_item_tup (x := .int np) (by decide) (by decide) (by rfl) ?_ (fun _ _ => rfl)
              refine L_nil ?_
              refine ⟨Nat.le_of_ble_eq_true rfl, ?_⟩
              refine After.next ?_
              refine S_nil ?_
              refine After.next ?_
              refine S_nil ?_
              refine After.next ?_
              refine seq ?_
              refine S_expr ?_ K.quiet (by rfl)
              refine E_append ?_ (by rfl) (by rfl)
              refine E_local K n_made (by rfl) (by first | rfl | assumption) ?_ (by rfl)
              refine ⟨_, rfl, ⟨_, hMj⟩, ?_⟩
              refine E_local K n_part (by rfl) (by first | rfl | assumption) ?_ (by rfl)
              refine ⟨_, hMj, by omega, ?_⟩
              refine ⟨rfl, ?_⟩
              refine After.next ?_
              refine S_nil ?_
              refine TurnEnd.next ⟨(), trivial, LSub.cons rfl (LSub.cons rfl (LSub.cons rfl (LSub.cons rfl (LSub.cons rfl LSub.nil)))), Sub.of_eq ?_⟩
              rw [set_set, take_snoc hout]
              try rfl
            · skip
              have g2 := of_decide_eq_false g2
              have hmp : mapPt homes (.op ch np) = .op ch np := by cases ch <;> first | rfl | exact absurd rfl g1 | exact absurd rfl g2
              rw [hmp] at hout
              refine S_nil ?_
              refine After.next ?_
              refine S_nil ?_
              refine After.next ?_
              refine seq ?_
              refine S_expr ?_ K.quiet (by rfl)
              refine E_append ?_ (by rfl) (by rfl)
              refine E_local K n_made (by rfl) (by first | rfl | assumption) ?_ (by rfl)
              refine ⟨_, rfl, ⟨_, hMj⟩, ?_⟩
              refine E_local K n_part (by rfl) (by first | rfl | assumption) ?_ (by rfl)
              refine ⟨_, hMj, by omega, ?_⟩
              refine ⟨rfl, ?_⟩
              refine After.next ?_
              refine S_nil ?_
              refine TurnEnd.next ⟨(), trivial, LSub.cons rfl (LSub.cons rfl (LSub.cons rfl (LSub.cons rfl (LSub.cons rfl LSub.nil)))), Sub.of_eq ?_⟩
              rw [set_set, take_snoc hout]
              try rfl
        | num i1 =>
          refine seq ?_
          refine S_if ?_
          refine B_pure false ?_ ?_
          · skip
            refine B_and ?_
            refine A_and_cons ?_
            refine B_val ?_ (by rfl)
            refine E_callb K n_isinstance (by rfl) (gl_isinstance hK) boot_isinstance nn_isinstance (by rfl) (fun _ h => nomatch h) ?_ (by rfl) (by rfl)
            refine L_cons ?_ (by rfl)
            refine E_local K n_part (by rfl) (by first | rfl | assumption) ?_ (by rfl)
            refine L_cons ?_ (by rfl)
            refine E_ty K n_tuple (by rfl) (gl_tuple hK) boot_tuple nn_tuple (by rfl) ?_
            refine L_nil ?_
            refine b_isi_int ?_
            refine ⟨_, rfl, ?_⟩
            exact ite_f ⟨rfl, rfl⟩
          refine ite_f ?_
          refine seq ?_
          refine S_if ?_
          refine B_pure false ?_ ?_
          · skip
            refine B_and ?_
            refine A_and_cons ?_
            refine B_val ?_ (by rfl)
            refine E_callb K n_isinstance (by rfl) (gl_isinstance hK) boot_isinstance nn_isinstance (by rfl) (fun _ h => nomatch h) ?_ (by rfl) (by rfl)
            refine L_cons ?_ (by rfl)
            refine E_local K n_part (by rfl) (by first | rfl | assumption) ?_ (by rfl)
            refine L_cons ?_ (by rfl)
            refine E_ty K n_tuple (by rfl) (gl_tuple hK) boot_tuple nn_tuple (by rfl) ?_
            refine L_nil ?_
            refine b_isi_int ?_
            refine ⟨_, rfl, ?_⟩
            exact ite_f ⟨rfl, rfl⟩
          refine ite_f ?_
          refine S_nil ?_
          refine After.next ?_
          refine S_nil ?_
          refine After.next ?_
          refine seq ?_
          refine S_expr ?_ K.quiet (by rfl)
          refine E_append ?_ (by rfl) (by rfl)
          refine E_local K n_made (by rfl) (by first | rfl | assumption) ?_ (by rfl)
          refine ⟨_, rfl, ⟨_, hMj⟩, ?_⟩
          refine E_local K n_part (by rfl) (by first | rfl | assumption) ?_ (by rfl)
          refine ⟨_, hMj, by omega, ?_⟩
          refine ⟨rfl, ?_⟩
          refine After.next ?_
          refine S_nil ?_
          refine TurnEnd.next ⟨(), trivial, LSub.cons rfl (LSub.cons rfl (LSub.cons rfl (LSub.cons rfl (LSub.cons rfl LSub.nil)))), Sub.of_eq ?_⟩
          rw [set_set, take_snoc hout]
          try rfl
        | pr i1 i2 =>
          refine seq ?_
          refine S_if ?_
          refine B_pure false ?_ ?_
          · skip
            refine B_and ?_
            refine A_and_cons ?_
            refine B_val ?_ (by rfl)
            refine E_callb K n_isinstance (by rfl) (gl_isinstance hK) boot_isinstance nn_isinstance (by rfl) (fun _ h => nomatch h) ?_ (by rfl) (by rfl)
            refine L_cons ?_ (by rfl)
            refine E_local K n_part (by rfl) (by first | rfl | assumption) ?_ (by rfl)
            refine L_cons ?_ (by rfl)
            refine E_ty K n_tuple (by rfl) (gl_tuple hK) boot_tuple nn_tuple (by rfl) ?_
            refine L_nil ?_
            refine b_isi_tup ?_
            refine ⟨_, rfl, ?_⟩
            refine ite_t ?_
            refine A_and_cons ?_
            refine B_cmp ?_ (by rfl)
            refine E_sub ?_
            refine E_local K n_part (by rfl) (by first | rfl | assumption) ?_ (by rfl)
            refine E_int ?_
            refine o_item_tup (by decide) (by decide) (by first | rfl | assumption) ?_ (fun _ _ => rfl)
            refine E_str ?_
            refine o_eq hA (by omega) (by rfl) (by rfl) ?_
            rw [V.eq_int_str]
            refine ⟨_, rfl, ?_⟩
            exact ite_f ⟨rfl, rfl⟩
          refine ite_f ?_
          refine seq ?_
          refine S_if ?_
          refine B_pure false ?_ ?_
          · skip
            refine B_and ?_
            refine A_and_cons ?_
            refine B_val ?_ (by rfl)
            refine E_callb K n_isinstance (by rfl) (gl_isinstance hK) boot_isinstance nn_isinstance (by rfl) (fun _ h => nomatch h) ?_ (by rfl) (by rfl)
            refine L_cons ?_ (by rfl)
            refine E_local K n_part (by rfl) (by first | rfl | assumption) ?_ (by rfl)
            refine L_cons ?_ (by rfl)
            refine E_ty K n_tuple (by rfl) (gl_tuple hK) boot_tuple nn_tuple (by rfl) ?_
            refine L_nil ?_
            refine b_isi_tup ?_
            refine ⟨_, rfl, ?_⟩
            refine ite_t ?_
            refine A_and_cons ?_
            refine B_cmp ?_ (by rfl)
            refine E_sub ?_
            refine E_local K n_part (by rfl) (by first | rfl | assumption) ?_ (by rfl)
            refine E_int ?_
            refine o_item_tup (by decide) (by decide) (by first | rfl | assumption) ?_ (fun _ _ => rfl)
            refine E_str ?_
            refine o_eq hA (by omega) (by rfl) (by rfl) ?_
            rw [V.eq_int_str]
            refine ⟨_, rfl, ?_⟩
            exact ite_f ⟨rfl, rfl⟩
          refine ite_f ?_
          refine S_nil ?_
          refine After.next ?_
          refine S_nil ?_
          refine After.next ?_
          refine seq ?_
          refine S_expr ?_ K.quiet (by rfl)
          refine E_append ?_ (by rfl) (by rfl)
          refine E_local K n_made (by rfl) (by first | rfl | assumption) ?_ (by rfl)
          refine ⟨_, rfl, ⟨_, hMj⟩, ?_⟩
          refine E_local K n_part (by rfl) (by first | rfl | assumption) ?_ (by rfl)
          refine ⟨_, hMj, by omega, ?_⟩
          refine ⟨rfl, ?_⟩
          refine After.next ?_
          refine S_nil ?_
          refine TurnEnd.next ⟨(), trivial, LSub.cons rfl (LSub.cons rfl (LSub.cons rfl (LSub.cons rfl (LSub.cons rfl LSub.nil)))), Sub.of_eq ?_⟩
          rw [set_set, take_snoc hout]
          try rfl
    · skip
      intro _ l H2 _ hl hh2
      refine After.next ?_
      have hlen2 : (V.str row.nm.s :: row.ps.map Pt.v).length = row.ps.length + 1 := by simp
      have e3 : (V.str row.nm.s :: (row.ps.map (mapPt homes)).map Pt.v).take (row.ps.length + 1) = (V.str row.nm.s :: (row.ps.map (mapPt homes)).map Pt.v) := List.take_of_length_le (by simp)
      rw [hlen2, e3] at hh2
      refine WS.less (c := c) (loc' := [(213463277, .ref M), (1964018, row.v), (228094706, .ref R), (213465059, .ref cde), (31083689960, .ref hom)]) (H' := (H.set R (.list (((code.take i).map (realRow homes)).map Rw.v))).set M (.list (V.str row.nm.s :: (row.ps.map (mapPt homes)).map Pt.v))) ?_ hl hh2
      refine seq ?_
      refine S_expr ?_ K.quiet (by rfl)
      refine E_append ?_ (by rfl) (by rfl)
      refine E_local K n_real (by rfl) (by first | rfl | assumption) ?_ (by rfl)
      refine ⟨_, rfl, ⟨_, (AH.set_ne _ _ nMR.symm).trans hRo⟩, ?_⟩
      refine E_callb K n_tuple (by rfl) (gl_tuple hK) boot_tuple nn_tuple (by rfl) (fun _ h => nomatch h) ?_ (by rfl) (by rfl)
      refine L_cons ?_ (by rfl)
      refine E_local K n_made (by rfl) (by first | rfl | assumption) ?_ (by rfl)
      refine L_nil ?_
      refine b_tuple (AH.set_same _ _ _) (by simp; omega) ?_
      refine ⟨_, (AH.set_ne _ _ nMR.symm).trans hRo, by simp; omega, ?_⟩
      refine ⟨rfl, ?_⟩
      refine After.next ?_
      refine S_nil ?_
      refine TurnEnd.next ⟨(), trivial, LSub.cons rfl (LSub.cons rfl (LSub.cons rfl LSub.nil)), ?_⟩
      rw [take_snoc hrow]
      rw [List.map_append, List.map_append]
      exact sub_swap nMR hM
  · skip
    intro _ l H2 _ hl hh2
    refine After.next ?_
    rw [List.length_map, List.take_length] at hh2
    refine WS.less (c := c) (loc' := [(228094706, .ref R), (213465059, .ref cde), (31083689960, .ref hom)]) (H' := H.set R (.list ((code.map (realRow homes)).map Rw.v))) ?_ hl hh2
    refine seq ?_
    refine S_return ?_
    refine E_local K n_real (by rfl) (by first | rfl | assumption) ?_ (by rfl)
    refine After.ret ?_
    exact Back.ret ⟨_, Sub.refl _, h R hR⟩
end
end Mine
namespace Mine
section
variable {c : Cx} {A : Around} {L : Addr} {loc : Loc} {H : AH} {env : Env} {ks : List (Nat × NameKind)}
theorem S_assign_comp {Q : Fl → Loc → AH → Prop} {y : Str} {iy : Nat} {py spos : Pos} (K : EnvOk env L ks) (hiy : nid y = some iy) (hky : ks.lookup iy = some .local) {elt iter : Expr} {ifs : List Expr} {x : Str} {i : Nat} {px pos : Pos} {scope : Scope} {cl : List (Str × Addr)} {ksC : List (Nat × NameKind)} {n : Nat} (hA : AOk n A)
    (hclos : closureFor scope env = pure cl) (hcell : ∀ y ∈ scope.names, y.2 ≠ .cell) (hkind : scope.kind = .function) (hnames : ∀ y ∈ scope.names, y.2 = .local → scope.names.lookup y.1 = some .local)
    (hi : nid x = some i) (hk : ksC.lookup i = some .local) (KC : ∀ C, EnvOk (compEnvC scope cl C env) C ksC)
    (h : WE c A L loc (eval iter env) (CIter c A env scope cl elt ifs i fun D H' => Q .next ((iy, .ref D) :: loc) H') H)
    (hs : ∀ x, foldedSetIterable iter env x = pure x) (hsw : swapsWith (.ListComp elt [⟨.Name x px, iter, ifs, 0⟩] scope pos) (some (.Name y py)) spos.line env = pure true) :
    WS c A L (exec (.Assign [.Name y py] (.ListComp elt [⟨.Name x px, iter, ifs, 0⟩] scope pos) spos) env) Q loc H := fun s a => by
  rw [exec_Assign_Name_used _ _ _ _ hsw]
  refine wpAny_bind (wpAny_standAt (wpAny_bind ?_))
  show wpAny _ A (do let _ ← comprehension (.ListComp elt [⟨.Name x px, iter, ifs, 0⟩] scope pos) scope env _ (newList []) false (eval iter env) (some (assign (.Name y py) env))) _ _ s
  refine wpAny_bind (wpAny_mono (comp_core (use := some (assign (.Name y py) env)) (R := fun _ s' => SPost c L H s Q .next s') hA hclos hcell hkind hnames hi hk KC h hs a fun H1 s1 s2 loc2 H2 C D a1 S1 a2 S2 hLC nC f => ?_) (fun _ s' hq => wpAny_pure (wpAny_pure hq)) fun _ _ e => e)
  obtain ⟨aO, SO⟩ := comp_leave a1 a2 S2 hLC nC
  obtain ⟨m, hm, _⟩ := a2.ns
  show wpAny c.M A (assign (.Name y py) env (.ref D)) _ _ _
  refine PyProof.Rows.assign_Name (store_wp K hiy hky aO (rR _ D) fun s4 a4 S4 => ?_)
  obtain ⟨oC, esC, epC, gC, rC⟩ := hm
  have hm4 : s4.heap.Ns C m := ⟨oC, esC, epC, S4.keep C _ gC hLC.symm a2.noL, rC⟩
  refine ⟨m, hm4, fun h' hs' => ?_⟩
  obtain ⟨a5, S5⟩ := comp_gone a4 (SO.trans S4) hLC nC (a1.noBase nC) a2.noL hm4 hs'
  exact ⟨.next, _, H2, rfl, a5, S1.trans S5, f⟩
end
end Mine
namespace Mine
inductive CT : List (Option Expr) → List Expr → List (String × String) → Prop
  | nil : CT [] [] []
  | cons {a b : String} {k k' : Nat} {p p' : Pos} {ks : List (Option Expr)} {vs : List Expr} {l : List (String × String)} : CT ks vs l → CT (some (.Constant (.str (Str.ofString a)) k p) :: ks) (.Constant (.str (Str.ofString b)) k' p' :: vs) ((a, b) :: l)
theorem CT.shape {ks : List (Option Expr)} {vs : List Expr} {l : List (String × String)} (h : CT ks vs l) : ks.all (·.isSome) = true ∧ ks.length = vs.length ∧ l.length = ks.length := by
  induction h with
  | nil => exact ⟨rfl, rfl, rfl⟩
  | cons _ ih => obtain ⟨h1, h2, h3⟩ := ih; exact ⟨by simpa using h1, by simp [h2], by simp [h3]⟩
theorem CT.give {prog : Program} {w : World} {A : Around} {env : Env} {pos : Pos} {ks : List (Option Expr)} {vs : List Expr} {l : List (String × String)} (h : CT ks vs l) : AllGive prog w A (pairTrees ks vs env pos) l := by
  induction h with
  | nil => exact .nil
  | cons _ ih => exact .cons gives_const gives_const' ih
theorem AllGive.app {prog : Program} {w : World} {A : Around} {ps : List (Sem Value × Sem Value)} {l : List (String × String)} (h : AllGive prog w A ps l) : ∀ n, AllGive prog w A (ps.take n) (l.take n) ∧ AllGive prog w A (ps.drop n) (l.drop n) := by
  induction h with
  | nil => intro n; simp only [List.take_nil, List.drop_nil]; exact ⟨.nil, .nil⟩
  | cons h1 h2 h3 ih =>
    intro n
    cases n with
    | zero => exact ⟨.nil, .cons h1 h2 h3⟩
    | succ n => exact ⟨.cons h1 h2 (ih n).1, (ih n).2⟩
theorem AllGive.len {prog : Program} {w : World} {A : Around} {ps : List (Sem Value × Sem Value)} {l : List (String × String)} (h : AllGive prog w A ps l) : ps.length = l.length := by
  induction h with
  | nil => rfl
  | cons _ _ _ ih => simp [ih]
theorem E_dictC {c : Cx} {A : Around} {L : Addr} {loc : Loc} {H : AH} {env : Env} {Q : V → AH → Prop} {keys : List (Option Expr)} {values : List Expr} {pos : Pos} {l : List (String × String)} (hc : CT keys values l) (h17 : 17 < l.length) (h31 : l.length < 32) (hn : (l.map fun x => Str.ofString x.1).Nodup)
    (h : ∀ d, H d = none → Q (.ref d) (H.set d (.dS (l.map fun x => (Str.ofString x.1, V.str x.2))))) : WE c A L loc (eval (.Dict keys values pos) env) Q H := by
  obtain ⟨s1, s2, s3⟩ := hc.shape
  have g : AllGive c.prog c.w A (pairTrees keys values env pos) l := hc.give
  have gl := g.len
  have e1 : pairTrees keys values env pos = (pairTrees keys values env pos).take 16 ++ (pairTrees keys values env pos)[16]'(by omega) :: (pairTrees keys values env pos).drop 17 := by
    rw [← List.drop_eq_getElem_cons (by omega), List.take_append_drop]
  have e2 : l = l.take 16 ++ [l[16]'(by omega)] ++ l.drop 17 := by
    rw [List.append_assoc, List.singleton_append, ← List.drop_eq_getElem_cons (by omega), List.take_append_drop]
  have t1 : (pairTrees keys values env pos).take 17 = (pairTrees keys values env pos).take 16 ++ [(pairTrees keys values env pos)[16]'(by omega)] := by
    rw [List.take_add_one, List.getElem?_eq_getElem (by omega)]; rfl
  have t2 : l.take 17 = l.take 16 ++ [l[16]'(by omega)] := by
    rw [List.take_add_one, List.getElem?_eq_getElem (by omega)]; rfl
  refine E_dictS (as := (pairTrees keys values env pos).take 16) (p := (pairTrees keys values env pos)[16]'(by omega)) (bs := (pairTrees keys values env pos).drop 17) (la := l.take 16) (q := l[16]'(by omega)) (lb := l.drop 17) ?_ ?_ ?_ ?_ ?_ ?_ ?_ ?_ ?_ ?_
  · rw [zip_pairTrees keys values env pos s1 s2]
    conv => lhs; rw [e1]
    rw [List.map_append, List.map_cons]
  · rw [List.length_take]; omega
  · rw [List.length_drop]; omega
  · intro z
    have := congrArg List.length z
    rw [List.length_drop] at this; simp at this; omega
  · rw [← t1, ← t2]; exact (g.app 17).1
  · exact (g.app 17).2
  · rw [← e2]; exact hn
  · rw [List.length_take]; omega
  · rw [List.length_drop]; omega
  · rw [← e2]; exact h
section
variable {c : Cx} (hK : c.K = hd.heap_1 c.w.params)
include hK
set_option maxHeartbeats 4000000 in
theorem sp_altered {n : Nat} {Hr H : AH} {d e rl : Addr} {real : List Rw} {Q : V → AH → Prop} (st : TpSt Hr H d e) (hr : Hr rl = some (.list (real.map Rw.v))) (hl0 : 0 < real.length) (hbig : real.length ≤ 400) (hlen : ∀ r ∈ real, 1 ≤ r.ps.length ∧ r.ps.length ≤ 2)
    (h : ∀ (at0 ix : Nat) (x : Int) (D : Addr) (H' : AH), at0 < real.length → 1 ≤ x → x ≤ 7 → TpSt Hr H' d e → H' D = none → Q (.ref D) (H'.set D (.list ((altered real at0 ix x).map Rw.v)))) : FnSpec c (n + 13) 189 [.ref d, .ref rl] Q H := by
  refine fn_enter (ks := ks__law_altered) (by rw [hK]; rfl) (by rw [hK]; kernel_rfl) (KOk.of rfl (by kernel_rfl)) [Str.ofString "tape", Str.ofString "real"] [213659892, 228094706] (all2 fun v0 v1 => rfl) (by kernel_rfl) (by decide) (by rfl) (by decide) rfl rfl rfl (fun A L env hA K => ?_)
  refine seq ?_
  refine S_assign K n_at (by rfl) ?_ (by rfl)
  refine E_call hA K n__law_digit (by rfl) (gl__law_digit hK) (keep__law_digit hK) ?_ (by rfl) (by rfl) (by rfl)
  refine L_cons ?_ (by rfl)
  refine E_local K n_tape (by rfl) (by first | rfl | assumption) ?_ (by rfl)
  refine L_cons ?_ (by rfl)
  refine E_callb K n_len (by rfl) (gl_len hK) boot_len nn_len (by rfl) (fun _ h => nomatch h) ?_ (by rfl) (by rfl)
  refine L_cons ?_ (by rfl)
  refine E_local K n_real (by rfl) (by first | rfl | assumption) ?_ (by rfl)
  refine L_nil ?_
  refine b_len_list (st.sub _ _ hr) (by rw [List.length_map]; omega) ?_
  rw [List.length_map]
  refine L_nil ?_
  refine sp_dig hK (n := n) (lim := (real.length : Nat)) st (by omega) (by omega) (fun r1 H1 r1a r1b st1 => ?_)
  obtain ⟨at0, rfl⟩ : ∃ at0 : Nat, r1 = at0 := ⟨r1.toNat, by omega⟩
  obtain ⟨row, hrow⟩ : ∃ row, real[at0]? = some row := ⟨_, List.getElem?_eq_getElem (by omega)⟩
  have hrl : row.ps.length ≤ 2 := (hlen row (List.mem_of_getElem? hrow)).2
  have hrl0 : 1 ≤ row.ps.length := (hlen row (List.mem_of_getElem? hrow)).1
  refine After.next ?_
  refine seq ?_
  refine S_assign K n_made (by rfl) ?_ (by rfl)
  refine E_callb K n_list (by rfl) (gl_list hK) boot_list nn_list (by rfl) (fun _ h => nomatch h) ?_ (by rfl) (by rfl)
  refine L_cons ?_ (by rfl)
  refine E_sub ?_
  refine E_local K n_real (by rfl) (by first | rfl | assumption) ?_ (by rfl)
  refine E_local K n_at (by rfl) (by first | rfl | assumption) ?_ (by rfl)
  refine o_item_list (st1.sub _ _ hr) (by omega) (by omega) (rows_get hrow) ?_ (fun _ _ => rfl)
  refine L_nil ?_
  refine b_list (l := (V.str row.nm.s :: row.ps.map Pt.v)) (by simp; omega) (fun M hM => ?_)
  have st2 := st1.ext (.list (V.str row.nm.s :: row.ps.map Pt.v)) hM
  refine After.next ?_
  refine seq ?_
  refine S_assign_sub ?_ (by rfl)
  refine E_tuple ?_
  refine L_cons ?_ (by rfl)
  refine E_str ?_
  refine L_cons ?_ (by rfl)
  refine E_binop ?_
  refine E_int ?_
  refine E_call hA K n__law_digit (by rfl) (gl__law_digit hK) (keep__law_digit hK) ?_ (by rfl) (by rfl) (by rfl)
  refine L_cons ?_ (by rfl)
  refine E_local K n_tape (by rfl) (by first | rfl | assumption) ?_ (by rfl)
  refine L_cons ?_ (by rfl)
  refine E_int ?_
  refine L_nil ?_
  refine sp_dig hK (n := n + 0) st2 (by first | decide | omega) (by first | decide | omega) (fun r3 H3 r3a r3b st3 => ?_)
  refine o_add ?_
  refine L_nil ?_
  refine ⟨Nat.le_of_ble_eq_true rfl, ?_⟩
  refine E_local K n_made (by rfl) (by first | rfl | assumption) ?_ (by rfl)
  refine E_binop ?_
  refine E_int ?_
  refine E_call hA K n__law_digit (by rfl) (gl__law_digit hK) (keep__law_digit hK) ?_ (by rfl) (by rfl) (by rfl)
  refine L_cons ?_ (by rfl)
  refine E_local K n_tape (by rfl) (by first | rfl | assumption) ?_ (by rfl)
  refine L_cons ?_ (by rfl)
  refine E_binop ?_
  refine E_callb K n_len (by rfl) (gl_len hK) boot_len nn_len (by rfl) (fun _ h => nomatch h) ?_ (by rfl) (by rfl)
  refine L_cons ?_ (by rfl)
  refine E_local K n_made (by rfl) (by first | rfl | assumption) ?_ (by rfl)
  refine L_nil ?_
  refine b_len_list (st3.sub _ _ (AH.set_same _ _ _)) (by simp; omega) ?_
  rw [show (((V.str row.nm.s :: row.ps.map Pt.v)).length : Int) = (row.ps.length : Nat) + 1 by simp]
  refine E_int ?_
  refine o_sub ?_
  refine L_nil ?_
  refine sp_dig hK (n := n) st3 (by omega) (by omega) (fun r4 H4 r4a r4b st4 => ?_)
  obtain ⟨ix, rfl⟩ : ∃ ix : Nat, r4 = ix := ⟨r4.toNat, by omega⟩
  refine o_add ?_
  refine s_list (st4.sub _ _ (AH.set_same _ _ _)) (by omega) (by omega) (by rw [show ((1 : Int) + (ix : Nat)).toNat = ix + 1 by omega]; simp; omega) ?_
  rw [show ((1 : Int) + (ix : Nat)).toNat = ix + 1 by omega]
  have st5 := st4.setr (.list ((V.str row.nm.s :: row.ps.map Pt.v).set (ix + 1) (.tup [.str "x", .int (1 + r3)]))) (AH.set_same _ _ _)
  rw [set_set] at st5
  have hrM : (Hr.set M (.list ((V.str row.nm.s :: row.ps.map Pt.v).set (ix + 1) (.tup [.str "x", .int (1 + r3)])))) rl = some (.list (real.map Rw.v)) := (AH.set_ne _ _ (ne_none hM (st1.sub _ _ hr))).trans hr
  have hrow2 : ((V.str row.nm.s :: row.ps.map Pt.v).set (ix + 1) (.tup [.str "x", .int (1 + r3)])) = V.str row.nm.s :: ((row.ps.set ix (.op .x (1 + r3))).map Pt.v) := by rw [List.set_cons_succ, List.map_set]; rfl
  rw [hrow2] at st5 hrM ⊢
  generalize (H4.set M (.list (V.str row.nm.s :: ((row.ps.set ix (.op .x (1 + r3))).map Pt.v)))) = H5 at st5 ⊢
  have hM5 := st5.sub _ _ (AH.set_same _ _ _)
  have hr5 := st5.sub _ _ hrM
  refine After.next ?_
  refine seq ?_
  refine S_return ?_
  refine E_binop ?_
  refine E_binop ?_
  refine E_slice_to ?_ (fun _ _ => rfl)
  refine E_local K n_real (by rfl) (by first | rfl | assumption) ?_ (by rfl)
  refine E_local K n_at (by rfl) (by first | rfl | assumption) ?_ (by rfl)
  refine ⟨rl, _, (at0 : Nat), rfl, hr5, by rw [List.length_map]; omega, rfl, by omega, fun F1 hF1 => ?_⟩
  refine E_list ?_
  refine L_cons ?_ (by rfl)
  refine E_callb K n_tuple (by rfl) (gl_tuple hK) boot_tuple nn_tuple (by rfl) (fun _ h => nomatch h) ?_ (by rfl) (by rfl)
  refine L_cons ?_ (by rfl)
  refine E_local K n_made (by rfl) (by first | rfl | assumption) ?_ (by rfl)
  refine L_nil ?_
  refine b_tuple (l := V.str row.nm.s :: ((row.ps.set ix (.op .x (1 + r3))).map Pt.v)) ((AH.set_ne _ _ (ne_none hF1 hM5)).trans hM5) (by simp; omega) ?_
  refine L_nil ?_
  refine ⟨Nat.le_of_ble_eq_true rfl, fun F3 hF3 => ?_⟩
  refine o_addl ((AH.set_ne _ _ (ne_none hF3 (AH.set_same _ _ _))).trans (AH.set_same _ _ _)) (AH.set_same _ _ _) (by simp; omega) (fun F4 hF4 => ?_)
  refine E_slice_from ?_ (fun _ _ => rfl)
  refine E_local K n_real (by rfl) (by first | rfl | assumption) ?_ (by rfl)
  refine E_binop ?_
  refine E_local K n_at (by rfl) (by first | rfl | assumption) ?_ (by rfl)
  refine E_int ?_
  refine o_add ?_
  rw [show ((at0 : Int) + 1) = ((at0 + 1 : Nat) : Int) by omega]
  refine ⟨rl, _, ((at0 + 1 : Nat) : Int), rfl, (AH.set_ne _ _ (ne_none hF4 ((AH.set_ne _ _ (ne_none hF3 ((AH.set_ne _ _ (ne_none hF1 hr5)).trans hr5))).trans ((AH.set_ne _ _ (ne_none hF1 hr5)).trans hr5)))).trans ((AH.set_ne _ _ (ne_none hF3 ((AH.set_ne _ _ (ne_none hF1 hr5)).trans hr5))).trans ((AH.set_ne _ _ (ne_none hF1 hr5)).trans hr5)), by rw [List.length_map]; omega, rfl, by omega, fun F5 hF5 => ?_⟩
  refine o_addl ((AH.set_ne _ _ (ne_none hF5 (AH.set_same _ _ _))).trans (AH.set_same _ _ _)) (AH.set_same _ _ _) (by simp; omega) (fun F6 hF6 => ?_)
  refine After.ret ?_
  refine Back.ret ?_
  have st6 := (((st5.more ((Sub.refl _).fresh hF1)).more ((Sub.refl _).fresh hF3)).more ((Sub.refl _).fresh hF4)).more ((Sub.refl _).fresh (o := .list (List.drop (((at0 + 1 : Nat) : Int)).toNat (real.map Rw.v))) hF5)
  have stH : TpSt Hr _ d e := st6.shrink ((Sub.refl Hr).fresh (st1.sub.none hM))
  have hA6 : (List.take (((at0 : Nat) : Int)).toNat (real.map Rw.v) ++ [V.tup (V.str row.nm.s :: ((row.ps.set ix (.op .x (1 + r3))).map Pt.v))]) ++ List.drop (((at0 + 1 : Nat) : Int)).toNat (real.map Rw.v) = (altered real at0 ix (1 + r3)).map Rw.v := by
    simp only [altered, hrow, Int.toNat_natCast, List.map_append, List.map_take, List.map_drop, List.map_cons, List.map_nil]; rfl
  refine ⟨_, Sub.refl _, ?_⟩
  rw [hA6]
  exact h at0 ix (1 + r3) F6 _ (by omega) (by omega) (by omega) stH hF6
end
end Mine
namespace Mine
theorem E_dictL {c : Cx} {A : Around} {L : Addr} {H : AH} {env : Env} (keys : List (Option Expr)) (values : List Expr) (pos : Pos) (QQ : V → AH → Prop) (loc : Loc) (hc : CT keys values sortsL) (hh : ∀ d, H d = none → QQ (.ref d) (H.set d (.dS sortsV))) : WE c A L loc (eval (.Dict keys values pos) env) QQ H :=
  E_dictC hc (by simp [sortsL]) (by simp [sortsL]) sorts_nodup hh
section
variable {c : Cx} (hK : c.K = hd.heap_1 c.w.params)
include hK
theorem sp_sorts {n : Nat} {H : AH} {Q : V → AH → Prop} (h : ∀ D, H D = none → Q (.ref D) (H.set D (.dS sortsV))) : FnSpec c (n + 12) 147 [] Q H := by
  refine fn_enter (ks := []) (by rw [hK]; rfl) (by rw [hK]; kernel_rfl) (KOk.of rfl rfl) [] [] (fun vs hv => ?_) rfl (by decide) (by rfl) (by decide) rfl rfl rfl (fun A L env hA K => ?_)
  · cases vs with
    | nil => rfl
    | cons _ _ => cases hv
  refine seq ?_
  refine S_return ?_
  refine E_dictL _ _ _ _ _ ?_ ?_
  · exact .cons (.cons (.cons (.cons (.cons (.cons (.cons (.cons (.cons (.cons (.cons (.cons (.cons (.cons (.cons (.cons (.cons (.cons (.cons (.cons (.cons (.cons .nil)))))))))))))))))))))
  · intro D hD
    refine After.ret ?_
    exact Back.ret ⟨_, Sub.refl _, h D hD⟩
end
end Mine
namespace Mine
theorem ints_rel {h : Heap} : ∀ {vs : List Value} {ns : List Int}, IntsAre vs ns → RelL h vs (intL ns)
  | [], [], _ => rfl
  | [], _ :: _, x => by cases x
  | _ :: _, [], x => by cases x
  | v :: vs, n :: ns, x => by
    cases x
    rename_i t r
    exact ⟨_, _, rfl, ⟨_, rfl⟩, ints_rel r⟩
section
variable {c : Cx} {A : Around} {L : Addr} {loc : Loc} {H : AH} {env : Env} {Q : V → AH → Prop}
theorem E_slice_base {value e : Expr} {p pos : Pos} {a : Addr} {vs : List Value} {ns : List Int} {k : Int} (hL : c.h₀.IsList a vs.toArray) (hI : IntsAre vs ns) (hl : ns.length ≤ 1000) (hk : 0 ≤ k)
    (h : WE c A L loc (eval value env) (fun x H1 => WE c A L loc (eval e env) (fun y H2 => x = .ref a ∧ y = .int k ∧ ∀ f, H2 f = none → Q (.ref f) (H2.set f (.list (intL (ns.take k.toNat))))) H1) H)
    (ht : ∀ o r, letTemporaryGo value o r = pure ()) :
    WE c A L loc (eval (.Subscript value (.Slice none (some e) none p) pos) env) Q H := fun s a0 =>
  wpAny_Subscript_list_slice (wpAny_mono (h s a0) (fun v s1 r => by
    obtain ⟨x, H1, r1, a1, S1, r⟩ := r
    rw [evalPart_none]
    refine wpAny_pure (wpAny_mono (r s1 a1) (fun w s2 q => ?_) fun _ _ e => e)
    obtain ⟨y, H2, r2, a2, S2, rfl, rfl, q⟩ := q
    have e1 : v = .ref a := r1
    obtain ⟨u, e2⟩ := r2
    subst e1 e2
    obtain ⟨o, g0, gc, n, gd⟩ := hL
    have g := a2.base _ _ g0
    have z : RelL s2.heap vs (intL ns) := ints_rel hI
    have hlen : vs.length = ns.length := by rw [z.length]; simp [intL]
    refine ⟨a, vs.toArray, none, some k, rfl, ⟨_, g, gc, n, gd⟩, by simp only [List.size_toArray]; rw [hlen, sizeLine_eq]; omega, .none, .int _ _, ?_⟩
    have a3 := a2.push { cls := .type "slice", data := .fields #[.none, .int k u, .none] }
    have hsz : s2.heap.objs.size + 1 = (s2.heap.push { cls := .type "slice", data := .fields #[.none, .int k u, .none] }).objs.size := by simp
    rw [hsz]
    refine ⟨.ref _, _, rR _ _, a3.new _ (.list (intL (ns.take k.toNat))) (RelO.list_mk (vs := vs.take k.toNat) (n := 0) ?_ ?_), ((S1.trans S2).trans (Step.push ..)).trans (Step.new ..), q _ a3.fresh⟩
    · rw [Heap.get?_push_size _ rfl, kms_pick_eq]
      have : kms_pick vs none (some k) = vs.take k.toNat := by
        unfold kms_pick kms_lo kms_hi
        simp only [List.drop_zero, Nat.sub_zero]
        rw [if_neg (by omega)]
        rcases Nat.le_total k.toNat vs.length with h1 | h1
        · rw [Nat.min_eq_left h1]
        · rw [Nat.min_eq_right h1, List.take_of_length_le (Nat.le_refl _), List.take_of_length_le h1]
      simp [this]
    · have : intL (ns.take k.toNat) = (intL ns).take k.toNat := by simp [intL, List.map_take]
      rw [this]
      exact RelL.mono (fun b it t => tups_push _ _ _ (tups_push _ _ _ t)) _ _ z.take) fun _ _ e => e) ht
end
noncomputable def bodyOf (K : Frag) (a : Addr) : List Stmt := match K.lookup a with
  | some ⟨_, _, .func fd, _⟩ => (match fd.body with | .stmts b => b | _ => [])
  | _ => []
theorem bodyOf_is {K : Frag} {f : Addr} {oc : Value} {od : Option Addr} {osl : Array (Option Value)} {name qual : Str} {params : Arguments} {body : List Stmt} {scope : Scope} {dV kV doc pm cdv ct : Value} {an : Option Addr}
    (ho : K.lookup f = some ⟨oc, od, .func (fnX name qual params body scope [] dV kV doc pm an cdv ct), osl⟩) : bodyOf K f = body := by
  unfold bodyOf; rw [ho]
end Mine
namespace Mine
noncomputable def goes (code real : List Rw) : Prop := real.length = code.length ∧ ∀ (j : Nat) (r q : Rw), code[j]? = some r → real[j]? = some q → rowR r q = true
theorem rowR_iff {r q : Rw} : rowR r q = true ↔ r.nm = q.nm ∧ r.ps.length = q.ps.length ∧ ∀ (j : Nat) (p o : Pt), r.ps[j]? = some p → q.ps[j]? = some o → ptR p o = true := by
  unfold rowR
  rw [Bool.and_eq_true, Bool.and_eq_true, decide_eq_true_eq, decide_eq_true_eq, List.all_eq_true]
  constructor
  · rintro ⟨h1, h2, h3⟩
    exact ⟨h1, h2, fun j p o hp hq => h3 (p, o) (List.mem_of_getElem? (zip_get hp hq))⟩
  · rintro ⟨h1, h2, h3⟩
    refine ⟨h1, h2, fun x hx => ?_⟩
    obtain ⟨j, hj⟩ := List.mem_iff_getElem?.mp hx
    obtain ⟨a, b⟩ := x
    obtain ⟨h4, h5⟩ := List.getElem?_zip_eq_some.mp hj
    exact h3 j a b h4 h5
theorem cOk_row {r : Rw} (h : cOk r = true) : rowOk r = true := ((Bool.and_eq_true _ _).mp h).1
theorem cOk_num {r : Rw} (h : cOk r = true) : ∀ p ∈ r.ps, numOk p = true := List.all_eq_true.mp ((Bool.and_eq_true _ _).mp h).2
theorem ptR_x {p : Pt} {m : Int} (h : 1 ≤ m) : ptR p (.op .x m) = true := by
  unfold ptR
  rw [show (Pt.op Ch.x m).is .x = true from rfl, show (Pt.op Ch.x m).n = m from rfl, decide_eq_true h]; rfl
theorem ptR_map {homes : List Int} (hh : ∀ k : Nat, k < 4 → 1 ≤ homes.getD k 0) {p : Pt} (hp : numOk p = true) : ptR p (mapPt homes p) = true := by
  cases p with
  | op ch n =>
    cases ch with
    | t =>
      simp only [numOk, Bool.and_eq_true, decide_eq_true_eq] at hp
      have := hh n.toNat (by omega)
      exact ptR_x this
    | a =>
      simp only [numOk, Bool.and_eq_true, decide_eq_true_eq] at hp
      exact ptR_x hp.1
    | y => simp [ptR, mapPt, Pt.is]
    | x => simp [ptR, mapPt, Pt.is]
    | g => simp [ptR, mapPt, Pt.is]
  | num i => simp [ptR, mapPt, Pt.is]
  | pr i j => simp [ptR, mapPt, Pt.is]
theorem goes_real {homes : List Int} (hh : ∀ k : Nat, k < 4 → 1 ≤ homes.getD k 0) {code : List Rw} (hc : ∀ r ∈ code, cOk r = true) : goes code (code.map (realRow homes)) := by
  refine ⟨List.length_map _, fun j r q hr hq => ?_⟩
  rw [List.getElem?_map, hr] at hq
  cases hq
  refine rowR_iff.mpr ⟨rfl, (List.length_map _).symm, fun i p o hp ho => ?_⟩
  simp only [realRow] at ho
  rw [List.getElem?_map, hp] at ho
  cases ho
  exact ptR_map hh (cOk_num (hc r (List.mem_of_getElem? hr)) p (List.mem_of_getElem? hp))
theorem altered_set (real : List Rw) (a i : Nat) (x : Int) {r : Rw} (h : real[a]? = some r) : altered real a i x = real.set a (setRow r i x) := by
  have ha := lt_of_get h
  unfold altered
  rw [h]
  rw [List.set_eq_take_append_cons_drop, if_pos ha, List.append_assoc]; rfl
theorem goes_altered {code real : List Rw} (h : goes code real) {a i : Nat} {x : Int} (ha : a < real.length) (hx : 1 ≤ x) : goes code (altered real a i x) := by
  obtain ⟨r0, hr0⟩ : ∃ r, real[a]? = some r := ⟨_, List.getElem?_eq_getElem ha⟩
  rw [altered_set real a i x hr0]
  refine ⟨by rw [List.length_set]; exact h.1, fun j r q hr hq => ?_⟩
  by_cases hj : a = j
  · subst hj
    rw [List.getElem?_set_self ha] at hq
    cases hq
    obtain ⟨h1, h2, h3⟩ := rowR_iff.mp (h.2 a r r0 hr hr0)
    refine rowR_iff.mpr ⟨h1, by simp only [setRow, List.length_set]; exact h2, fun k p o hp ho => ?_⟩
    simp only [setRow] at ho
    by_cases hk : i = k
    · subst hk
      have hi : i < r0.ps.length := by have := lt_of_get ho; rw [List.length_set] at this; exact this
      rw [List.getElem?_set_self hi] at ho
      cases ho
      exact ptR_x hx
    · rw [List.getElem?_set_ne hk] at ho
      exact h3 k p o hp ho
  · rw [List.getElem?_set_ne hj] at hq
    exact h.2 j r q hr hq
theorem ptR_op {d : Dd} {p o : Pt} (h : ptR p o = true) (hd : dOk d p = true) (hn : d ≠ .dot) : o.isOp = true ∧ (p.is .y = false → ∃ m, o = .op .x m) := by
  obtain ⟨ch, n, rfl, hc⟩ := dOk_op hd hn
  unfold ptR at h
  rw [Bool.or_eq_true] at h
  rcases h with h | h
  · rw [Bool.and_eq_true] at h
    cases o with
    | op c2 m => have := h.1; simp [Pt.is] at this; subst this; exact ⟨rfl, fun _ => ⟨_, rfl⟩⟩
    | num i => simp [Pt.is] at h
    | pr i j => simp [Pt.is] at h
  · simp only [Bool.and_eq_true, decide_eq_true_eq] at h
    obtain ⟨⟨h1, h2⟩, rfl⟩ := h
    refine ⟨rfl, fun hy => ?_⟩
    rcases hc with rfl | rfl | rfl
    · simp [Pt.is] at h1
    · simp [Pt.is] at h2
    · simp [Pt.is] at hy
theorem fit_of {r q : Rw} (hr : rowOk r = true) (h : rowR r q = true) : fit r q ∧ opsOk q := by
  obtain ⟨h1, h2, h3⟩ := rowR_iff.mp h
  have ho := rowOk_ops hr
  unfold rowOk at hr
  rw [Bool.and_eq_true] at hr
  have hall := List.all_eq_true.mp hr.2
  refine ⟨⟨h1, h2, fun j d p o hd hp hq hn hy => (ptR_op (h3 j p o hp hq) (hall (d, p) (List.mem_of_getElem? (zip_get hd hp))) hn).2 hy⟩, ?_, fun d o hm hn => ?_⟩
  · rw [← h1, ← h2]; exact ho.1
  · rw [← h1] at hm
    obtain ⟨j, hj⟩ := List.mem_iff_getElem?.mp hm
    obtain ⟨h4, h5⟩ := List.getElem?_zip_eq_some.mp hj
    obtain ⟨p, hp⟩ : ∃ p, r.ps[j]? = some p := ⟨_, List.getElem?_eq_getElem (by rw [h2]; exact lt_of_get h5)⟩
    exact (ptR_op (h3 j p o hp h5) (hall (d, p) (List.mem_of_getElem? (zip_get h4 hp))) hn).1
end Mine
namespace Mine
noncomputable abbrev ks_law : List (Nat × NameKind) := [(4016016503283, .local), (213659892, .cell), (32725694817, .local), (8343942089460726387, .local), (31083689960, .local), (1847532, .local), (30815368801, .local), (1913581, .local), (213465059, .local), (228094706, .local), (1077535652750948857439, .globalImplicit), (27329802482, .globalImplicit), (7260813351137605215, .globalImplicit), (15833991479104921182697055, .globalImplicit), (7837274447038412383, .globalImplicit), (15231871306885064767862367, .globalImplicit), (4497569642910407764792553894409315, .globalImplicit), (1068815540620784858719, .globalImplicit), (1069111133601674065503, .globalImplicit)]
noncomputable abbrev ks_lawC : List (Nat × NameKind) := [(6190, .local), (1847532, .local), (1077535652750948857439, .globalImplicit), (213659892, .cell)]
theorem sw1 {env : Env} {L : Addr} {ks : List (Nat × NameKind)} {elt : Expr} {gens : List Comprehension} {scope : Scope} {pos py : Pos} {y : Str} {i : Nat} {ln : Nat} (K : EnvOk env L ks) (hi : nid y = some i) (hk : ks.lookup i = some .local) (hl : (py.line == pos.line) = true) (ha : (scope.names.any fun (n, k) => n == y && (k == .local || k == .cell)) = false) : swapsWith (.ListComp elt gens scope pos) (some (.Name y py)) ln env = pure true := by
  have ky : env.kindOf y = some .local := (K.ks y i hi).trans hk
  have hb : env.blockKind = .function := by unfold Env.blockKind; rw [K.fn]; rfl
  unfold swapsWith
  simp only [Expr.pos, hb, ky, hl, ha]
  rfl
noncomputable def Plain : Prop := ∀ (code real : List Rw) (ar : Nat), (∀ r ∈ code, cOk r = true) → goes code real → checkP code real ar = keeps ar code real
theorem TpSt.rd_ne {Hr H : AH} {d e x : Addr} {o : MObj} (t : TpSt Hr H d e) (h : Hr x = some o) : x ≠ d ∧ x ≠ e := ⟨ne_none t.rd h, ne_none t.re h⟩
theorem V.eq_bool (a b : Bool) : V.eq (.bool a) (.bool b) = (a == b) := by cases a <;> cases b <;> rfl
section
variable {c : Cx} (hK : c.K = hd.heap_1 c.w.params)
include hK
set_option maxHeartbeats 4000000 in
theorem law_ws {n : Nat} {A : Around} {L : Addr} {env : Env} {H : AH} {dt a : Addr} {vs : List Value} {ns : List Int} (plain : Plain) (hA : AOk (n + 20) A) (K : EnvOk env L ks_law) (hce : env.cells.lookup (Str.ofString "tape") = some dt) (hdt : H dt = some (.cell none)) (hL : c.h₀.IsList a vs.toArray) (hI : IntsAre vs ns) (hl : ns.length ≤ 63) :
    WS c A L (execs (bodyOf c.K 234) env) (fun f l H' => f = .ret (.bool true)) [(4016016503283, .ref a)] H := by
  rw [show bodyOf c.K 234 = _ from bodyOf_is (by rw [hK]; rfl)]
  refine seq ?_
  refine S_assign_cell K n_tape (by rfl) hce ?_ (by rfl)
  refine E_list ?_
  refine L_cons ?_ (by rfl)
  refine E_slice_base (k := 60) hL hI (by omega) (by decide) ?_ (fun _ _ => rfl)
  refine E_local K n_script (by rfl) (by first | rfl | assumption) ?_ (by rfl)
  refine E_int ?_
  refine ⟨rfl, rfl, fun e he => ?_⟩
  refine L_cons ?_ (by rfl)
  refine E_int ?_
  refine L_cons ?_ (by rfl)
  refine E_int ?_
  refine L_nil ?_
  refine ⟨Nat.le_of_ble_eq_true rfl, fun d hd => ?_⟩
  have nte : dt ≠ e := ne_none he hdt
  have nde : d ≠ e := by rintro rfl; rw [AH.set_same] at hd; cases hd
  have fd : H d = none := by rw [AH.set_ne _ _ nde] at hd; exact hd
  have ntd : dt ≠ d := ne_none fd hdt
  refine ⟨⟨none, ?_⟩, ?_⟩
  · rw [AH.set_ne _ _ ntd, AH.set_ne _ _ nte]; exact hdt
  refine After.next ?_
  have st0 : TpSt (H.set dt (.cell (some (.ref d)))) (((H.set e (.list (intL (ns.take (60 : Int).toNat)))).set d (.list [.ref e, .int 0, .int 0])).set dt (.cell (some (.ref d)))) d e := by
    refine ⟨⟨ns.take (60 : Int).toNat, 0, 0, ?_, ?_, ?_, Int.le_refl _⟩, nde, ?_, ?_, ?_⟩
    · rw [AH.set_ne _ _ ntd.symm, AH.set_same]
    · rw [AH.set_ne _ _ nte.symm, AH.set_ne _ _ nde.symm, AH.set_same]
    · rw [List.length_take]; exact Nat.min_le_left _ _
    · exact (((Sub.refl H).fresh he).fresh hd).set
    · rw [AH.set_ne _ _ ntd.symm]; exact fd
    · rw [AH.set_ne _ _ nte.symm]; exact he
  show WS _ _ _ _ _ _ (((H.set e (.list (intL (ns.take (60 : Int).toNat)))).set d (.list [.ref e, .int 0, .int 0])).set dt (.cell (some (.ref d))))
  generalize (((H.set e (.list (intL (ns.take (60 : Int).toNat)))).set d (.list [.ref e, .int 0, .int 0])).set dt (.cell (some (.ref d)))) = A0 at st0 ⊢
  have ht0 : (H.set dt (.cell (some (.ref d)))) dt = some (.cell (some (.ref d))) := AH.set_same _ _ _
  generalize (H.set dt (.cell (some (.ref d)))) = Hr at st0 ht0
  clear hd he fd nte nde ntd
  refine seq ?_
  refine S_assign K n_arity (by rfl) ?_ (by rfl)
  refine E_call hA K n__law_digit (by rfl) (gl__law_digit hK) (keep__law_digit hK) ?_ (by rfl) (by rfl) (by rfl)
  refine L_cons ?_ (by rfl)
  refine E_cell K n_tape (by rfl) hce (st0.sub _ _ ht0) ?_ (by rfl)
  refine L_cons ?_ (by rfl)
  refine E_int ?_
  refine L_nil ?_
  refine sp_dig hK (n := n + 8) st0 (by first | decide | omega) (by first | decide | omega) (fun r1 H1 r1a r1b st1 => ?_)
  obtain ⟨ar, rfl⟩ : ∃ ar : Nat, r1 = ar := ⟨r1.toNat, by omega⟩
  refine After.next ?_
  refine seq ?_
  refine S_assign K n_stretches (by rfl) ?_ (by rfl)
  refine E_binop ?_
  refine E_int ?_
  refine E_call hA K n__law_digit (by rfl) (gl__law_digit hK) (keep__law_digit hK) ?_ (by rfl) (by rfl) (by rfl)
  refine L_cons ?_ (by rfl)
  refine E_cell K n_tape (by rfl) hce (st1.sub _ _ ht0) ?_ (by rfl)
  refine L_cons ?_ (by rfl)
  refine E_int ?_
  refine L_nil ?_
  refine sp_dig hK (n := n + 8) st1 (by first | decide | omega) (by first | decide | omega) (fun r2 H2 r2a r2b st2 => ?_)
  refine o_add ?_
  refine After.next ?_
  refine seq ?_
  refine S_assign K n_homes (by rfl) ?_ (by rfl)
  refine E_list ?_
  refine L_cons ?_ (by rfl)
  refine E_int ?_
  refine L_cons ?_ (by rfl)
  refine E_int ?_
  refine L_cons ?_ (by rfl)
  refine E_int ?_
  refine L_cons ?_ (by rfl)
  refine E_int ?_
  refine L_nil ?_
  refine ⟨Nat.le_of_ble_eq_true rfl, fun hom hhom => ?_⟩
  refine After.next ?_
  have st3 := st2.ext (.list (intL [4, 5, 6, 7])) hhom
  have nth := ne_none hhom (st2.sub _ _ ht0)
  have hh3 : (Hr.set hom (.list (intL [4, 5, 6, 7]))) hom = some (.list (intL [4, 5, 6, 7])) := AH.set_same _ _ _
  have ht3 : (Hr.set hom (.list (intL [4, 5, 6, 7]))) dt = some (.cell (some (.ref d))) := (AH.set_ne _ _ nth).trans ht0
  generalize (Hr.set hom (.list (intL [4, 5, 6, 7]))) = Hr3 at st3 hh3 ht3
  show WS _ _ _ _ _ _ (H2.set hom (.list (intL [4, 5, 6, 7])))
  generalize (H2.set hom (.list (intL [4, 5, 6, 7]))) = A3 at st3 ⊢
  refine seqJ (fun l H1 => ∃ hm hs Hr', LSub [(31083689960, .ref hm), (8343942089460726387, .int (1 + r2)), (32725694817, .int (ar : Nat)), (4016016503283, .ref a)] l ∧ hs.length = 4 ∧ (∀ x ∈ hs, (1 : Int) ≤ x) ∧ TpSt Hr' H1 d e ∧ Hr' hm = some (.list (intL hs)) ∧ Hr' dt = some (.cell (some (.ref d)))) ?_ ?_
  · skip
    refine S_if ?_
    refine B_cmp ?_ (by rfl)
    refine E_call hA K n__law_digit (by rfl) (gl__law_digit hK) (keep__law_digit hK) ?_ (by rfl) (by rfl) (by rfl)
    refine L_cons ?_ (by rfl)
    refine E_cell K n_tape (by rfl) hce (st3.sub _ _ ht3) ?_ (by rfl)
    refine L_cons ?_ (by rfl)
    refine E_int ?_
    refine L_nil ?_
    refine sp_dig hK (n := n + 8) st3 (by first | decide | omega) (by first | decide | omega) (fun r4 H4 r4a r4b st4 => ?_)
    refine E_int ?_
    refine o_eq hA (by omega) (by rfl) (by rfl) ?_
    refine ⟨_, rfl, ?_⟩
    refine ite_b (fun g => ?_) (fun g => ?_)
    · skip
      refine seq ?_
      refine S_assign_comp K n_homes (by rfl) (ksC := ks_lawC) (cl := [(Str.ofString "tape", dt)]) hA ?_ (by decide) rfl (by decide) n_lap (by rfl) (fun C => relabel_of K rfl (by kernel_rfl)) ?_ (fun _ => rfl) (sw1 K n_homes (by rfl) (by rfl) (by kernel_rfl))
      · unfold closureFor
        simp only [List.forIn_cons, List.forIn_nil, cellOf, hce]
        rfl
      refine E_callb K n_range (by rfl) (gl_range hK) boot_range nn_range (by rfl) (fun _ h => nomatch h) ?_ (by rfl) (by rfl)
      refine L_cons ?_ (by rfl)
      refine E_int ?_
      refine L_nil ?_
      refine b_range1 (fun dr hdr => ?_)
      refine ⟨dr, 0, 4, rfl, AH.set_same _ _ _, by decide, by decide, by decide, by decide, fun D hD => ?_⟩
      have st5 := st4.more ((Sub.refl H4).fresh (o := .rng 0 4) hdr)
      have st6 := st5.ext (.list (intL [])) hD
      have hDr := st5.sub.none hD
      have ntD := ne_none hDr ht3
      refine ⟨List Int × AH, fun j x => TpSt (Hr3.set D (.list (intL x.1))) x.2 d e ∧ x.1.length = j ∧ ∀ y ∈ x.1, (1 : Int) ≤ y, fun _ x => x.2, ([], _), ⟨st6, rfl, fun _ h => by simp at h⟩, Sub.refl _, ?_, ?_⟩
      · intro C j x hj hJ hC
        obtain ⟨l, H'⟩ := x
        obtain ⟨tj, hlj, hlx⟩ := hJ
        dsimp only at tj hlj hlx hC ⊢
        have KC := relabel_of (C := C) (scope := { kind := .function, names := [(Str.ofString ".0", .local), (Str.ofString "lap", .local), (Str.ofString "_law_digit", .globalImplicit), (Str.ofString "tape", .free)], isGenerator := false, isCoroutine := false }) (cl := [(Str.ofString "tape", dt)]) (ksC := ks_lawC) K rfl (by kernel_rfl)
        have htj : (Hr3.set D (.list (intL l))) dt = some (.cell (some (.ref d))) := (AH.set_ne _ _ ntD).trans ht3
        show WB _ _ _ _ _ _ _
        refine T_nil ?_
        refine ite_t ?_
        refine E_binop ?_
        refine E_int ?_
        refine E_call hA KC n__law_digit (by rfl) (gl__law_digit hK) (keep__law_digit hK) ?_ (by rfl) (by rfl) (by rfl)
        refine L_cons ?_ (by rfl)
        refine E_cell KC n_tape (by rfl) (by rfl) (tj.sub _ _ htj) ?_ (by rfl)
        refine L_cons ?_ (by rfl)
        refine E_int ?_
        refine L_nil ?_
        refine sp_dig hK (n := n + 8) tj (by decide) (by decide) (fun r7 H7 r7a r7b st7 => ?_)
        refine o_add ?_
        have hDD := st7.sub _ _ (AH.set_same _ _ _)
        have st8 := st7.setr (.list (intL (l ++ [1 + r7]))) (AH.set_same _ _ _)
        rw [set_set] at st8
        refine ⟨intL l, hDD, by unfold intL; rw [List.length_map]; omega, (l ++ [1 + r7], _), ⟨st8, by simp [hlj], fun y hy => ?_⟩, Sub.of_eq ?_⟩
        · rcases List.mem_append.mp hy with h | h
          · exact hlx y h
          · rw [List.mem_singleton.mp h]; omega
        · simp only [intL, List.map_append, List.map_cons, List.map_nil]; rfl
      · intro x H' hJ hS
        obtain ⟨l, H2'⟩ := x
        obtain ⟨tj, hlj, hlx⟩ := hJ
        dsimp only at tj hlj hlx hS
        refine After.next ?_
        refine S_nil ?_
        exact ⟨rfl, D, l, _, LSub.cons rfl (LSub.cons rfl (LSub.cons rfl (LSub.cons rfl LSub.nil))), hlj, hlx, tj.more hS, AH.set_same _ _ _, (AH.set_ne _ _ ntD).trans ht3⟩
    · skip
      refine S_nil ?_
      exact ⟨rfl, hom, [4, 5, 6, 7], Hr3, LSub.cons rfl (LSub.cons rfl (LSub.cons rfl (LSub.cons rfl LSub.nil))), rfl, by decide, st4, hh3, ht3⟩
  · skip
    intro l H1' hM
    obtain ⟨hm, hs, Hr', hl', hsl, hs1, st3', hh3', ht3'⟩ := hM
    refine WS.less (loc' := [(31083689960, .ref hm), (8343942089460726387, .int (1 + r2)), (32725694817, .int (ar : Nat)), (4016016503283, .ref a)]) (H' := H1') ?_ hl' (Sub.refl _)
    clear st3 st2 st1 st0 hh3 ht3
    refine seq ?_
    refine S_assign K n_alter (by rfl) ?_ (by rfl)
    refine E_cmp ?_ (by rfl)
    refine E_call hA K n__law_digit (by rfl) (gl__law_digit hK) (keep__law_digit hK) ?_ (by rfl) (by rfl) (by rfl)
    refine L_cons ?_ (by rfl)
    refine E_cell K n_tape (by rfl) hce (st3'.sub _ _ ht3') ?_ (by rfl)
    refine L_cons ?_ (by rfl)
    refine E_int ?_
    refine L_nil ?_
    refine sp_dig hK (n := n + 8) st3' (by first | decide | omega) (by first | decide | omega) (fun r5 H5 r5a r5b st5 => ?_)
    refine E_int ?_
    refine o_eq hA (by omega) (by rfl) (by rfl) ?_
    refine After.next ?_
    generalize V.eq (.int r5) (.int 3) = alt
    refine seq ?_
    refine S_assign K n_met (by rfl) ?_ (by rfl)
    refine E_list ?_
    refine L_nil ?_
    refine ⟨Nat.le_of_ble_eq_true rfl, fun m hm0 => ?_⟩
    refine After.next ?_
    refine seq ?_
    refine S_assign K n_code (by rfl) ?_ (by rfl)
    refine E_list ?_
    refine L_nil ?_
    refine ⟨Nat.le_of_ble_eq_true rfl, fun k hk0 => ?_⟩
    refine After.next ?_
    have nmk : m ≠ k := by rintro rfl; rw [AH.set_same] at hk0; cases hk0
    have ls0 : LS Hr' d e m k [] [] ((H5.set m (.list [])).set k (.list [])) := ⟨(st5.ext (.list []) hm0).ext (.list []) hk0, nmk⟩
    have rm0 : Hr' m = none := st5.sub.none hm0
    have rk0 : Hr' k = none := by
      have z := (st5.ext (.list []) hm0).sub.none hk0
      rw [AH.set_ne _ _ nmk.symm] at z; exact z
    show WS _ _ _ _ _ _ ((H5.set m (.list [])).set k (.list []))
    generalize ((H5.set m (.list [])).set k (.list [])) = A6 at ls0 ⊢
    have htL : ∀ (mm : Addr) (l1 : List V) (l2 : List V), Hr' mm = none → ((Hr'.set mm (.list l1)).set k (.list l2)) dt = some (.cell (some (.ref d))) := fun mm l1 l2 hmm => by
      rw [AH.set_ne _ _ (ne_none rk0 ht3'), AH.set_ne _ _ (ne_none hmm ht3')]; exact ht3'
    have hhL : ∀ (mm : Addr) (l1 : List V) (l2 : List V), Hr' mm = none → ((Hr'.set mm (.list l1)).set k (.list l2)) hm = some (.list (intL hs)) := fun mm l1 l2 hmm => by
      rw [AH.set_ne _ _ (ne_none rk0 hh3'), AH.set_ne _ _ (ne_none hmm hh3')]; exact hh3'
    refine seq ?_
    refine S_expr ?_ K.quiet (by rfl)
    refine E_call hA K n__law_head (by rfl) (gl__law_head hK) (keep__law_head hK) ?_ (by rfl) (by rfl) (by rfl)
    refine L_cons ?_ (by rfl)
    refine E_cell K n_tape (by rfl) hce (ls0.st.sub _ _ (htL m _ _ rm0)) ?_ (by rfl)
    refine L_cons ?_ (by rfl)
    refine E_local K n_arity (by rfl) (by first | rfl | assumption) ?_ (by rfl)
    refine L_cons ?_ (by rfl)
    refine E_local K n_met (by rfl) (by first | rfl | assumption) ?_ (by rfl)
    refine L_cons ?_ (by rfl)
    refine E_local K n_code (by rfl) (by first | rfl | assumption) ?_ (by rfl)
    refine L_nil ?_
    refine sp_head hK (n := n + 6) ls0 (by omega) (fun met1 code1 H6 ls1 hmo1 hml1 hco1 hcl1 => ?_)
    refine ⟨rfl, ?_⟩
    refine After.next ?_
    refine seq ?_
    refine S_for' (σ := Addr × List Int × List Rw × AH) (fun j x => LS Hr' d e x.1 k x.2.1 x.2.2.1 x.2.2.2 ∧ Hr' x.1 = none ∧ metOk x.2.1 ∧ x.2.1.length ≤ 10 ∧ (∀ r ∈ x.2.2.1, cOk r = true) ∧ x.2.2.1.length ≤ 6 + 9 * j ∧ (0 < j → 0 < x.2.2.1.length)) (fun _ x => [(213465059, .ref k), (1913581, .ref x.1), (30815368801, .bool alt), (31083689960, .ref hm), (8343942089460726387, .int (1 + r2)), (32725694817, .int (ar : Nat)), (4016016503283, .ref a)]) (fun _ x => x.2.2.2) hA K n_lap (by rfl) ?_ (fun _ => rfl)
    refine E_callb K n_range (by rfl) (gl_range hK) boot_range nn_range (by rfl) (fun _ h => nomatch h) ?_ (by rfl) (by rfl)
    refine L_cons ?_ (by rfl)
    refine E_local K n_stretches (by rfl) (by first | rfl | assumption) ?_ (by rfl)
    refine L_nil ?_
    refine b_range1 (fun dr hdr => ?_)
    have hN : (1 + r2 - 0).toNat ≤ 2 := by omega
    have hN1 : 0 < (1 + r2 - 0).toNat := by omega
    refine ⟨_, (m, met1, code1, H6.set dr (.rng 0 (1 + r2))), ⟨ls1.to (ls1.st.more ((Sub.refl _).fresh hdr)), rm0, hmo1, by show met1.length ≤ 10; omega, hco1, by show code1.length ≤ 6 + 9 * 0; omega, fun h => absurd h (Nat.lt_irrefl 0)⟩, LSub.cons rfl (LSub.cons rfl (LSub.cons rfl (LSub.cons rfl (LSub.cons rfl (LSub.cons rfl (LSub.cons rfl LSub.nil)))))), Sub.refl _, .inr (.inr (.inl ⟨dr, 0, 1 + r2, rfl, AH.set_same _ _ _, by decide, by decide, by omega, by omega, rfl⟩)), ?_, ?_⟩
    clear ls1 ls0
    · skip
      intro j x v hv hJ
      obtain ⟨mm, met, code, H'⟩ := x
      obtain ⟨ls, rmm, hmo, hml, hco, hcl, _⟩ := hJ
      dsimp only at ls rmm hmo hml hco hcl ⊢
      have hj : j < 2 := by have := lt_of_get hv; rw [List.length_map, List.length_range] at this; omega
      refine seq ?_
      refine S_expr ?_ K.quiet (by rfl)
      refine E_call hA K n__law_stretch (by rfl) (gl__law_stretch hK) (keep__law_stretch hK) ?_ (by rfl) (by rfl) (by rfl)
      refine L_cons ?_ (by rfl)
      refine E_cell K n_tape (by rfl) hce (ls.st.sub _ _ (htL mm _ _ rmm)) ?_ (by rfl)
      refine L_cons ?_ (by rfl)
      refine E_local K n_met (by rfl) (by first | rfl | assumption) ?_ (by rfl)
      refine L_cons ?_ (by rfl)
      refine E_local K n_code (by rfl) (by first | rfl | assumption) ?_ (by rfl)
      refine L_nil ?_
      refine sp_stretch hK (n := n + 6) ls hmo rfl (by omega) hco rfl (by omega) (fun met2 code2 H7 ls7 hmo7 hml7 hco7 hcl7 hc0 => ?_)
      refine ⟨rfl, ?_⟩
      refine After.next ?_
      refine seq ?_
      refine S_assign K n_met (by rfl) ?_ (by rfl)
      refine E_list ?_
      refine L_nil ?_
      refine ⟨Nat.le_of_ble_eq_true rfl, fun m2 hm2 => ?_⟩
      refine After.next ?_
      refine S_nil ?_
      have rm2 : Hr' m2 = none := by
        have z := ls7.st.sub.none hm2
        by_cases h1 : m2 = k
        · subst h1; exact rk0
        · rw [AH.set_ne _ _ h1] at z
          by_cases h2 : m2 = mm
          · subst h2; exact rmm
          · rw [AH.set_ne _ _ h2] at z; exact z
      have nk2 : m2 ≠ k := by rintro rfl; rw [ls7.hk] at hm2; cases hm2
      have ls8 : LS Hr' d e m2 k [] code2 (H7.set m2 (.list [])) := by
        refine ⟨?_, nk2⟩
        have z := (ls7.st.shrink (Hr' := Hr'.set k (.list (code2.map Rw.v))) (((Sub.refl Hr').fresh rmm).set)).ext (.list []) hm2
        rw [set_comm nk2.symm] at z
        exact z
      refine TurnEnd.next ⟨(m2, [], code2, _), ⟨ls8, rm2, fun _ h => by simp at h, Nat.zero_le _, hco7, by show code2.length ≤ 6 + 9 * (j + 1); omega, fun _ => hc0⟩, LSub.cons rfl (LSub.cons rfl (LSub.cons rfl (LSub.cons rfl (LSub.cons rfl (LSub.cons rfl (LSub.cons rfl LSub.nil)))))), Sub.refl _⟩
    · skip
      intro x l H2' hJ hl2 hh2
      obtain ⟨mm, met, code, H'⟩ := x
      rw [List.length_map, List.length_range] at hJ
      obtain ⟨ls, rmm, hmo, hml, hco, hcl, hcp⟩ := hJ
      dsimp only at ls rmm hmo hml hco hcl hcp hl2 hh2
      have hcp := hcp hN1
      refine After.next ?_
      refine WS.less (c := c) (loc' := [(213465059, .ref k), (1913581, .ref mm), (30815368801, .bool alt), (31083689960, .ref hm), (8343942089460726387, .int (1 + r2)), (32725694817, .int (ar : Nat)), (4016016503283, .ref a)]) (H' := H') ?_ hl2 hh2
      have hclen : code.length ≤ 24 := by omega
      have hhm := ls.st.sub _ _ (hhL mm _ _ rmm)
      refine seq ?_
      refine S_assign K n_real (by rfl) ?_ (by rfl)
      refine E_call hA K n__law_real (by rfl) (gl__law_real hK) (keep__law_real hK) ?_ (by rfl) (by rfl) (by rfl)
      refine L_cons ?_ (by rfl)
      refine E_local K n_code (by rfl) (by first | rfl | assumption) ?_ (by rfl)
      refine L_cons ?_ (by rfl)
      refine E_local K n_homes (by rfl) (by first | rfl | assumption) ?_ (by rfl)
      refine L_nil ?_
      refine sp_real hK (n := n + 8) ls.hk hhm hsl (by omega) (fun r hr => by have := (rowOk_ops (cOk_row (hco r hr))).1; have := (sort_len r.nm).1; omega) (fun r hr => cOk_num (hco r hr)) (fun R hR => ?_)
      refine After.next ?_
      have hgo : goes code (code.map (realRow hs)) := goes_real (fun i hi => by
        rw [List.getD_eq_getElem?_getD, List.getElem?_eq_getElem (by omega)]; exact hs1 _ (List.getElem_mem _)) hco
      have st8 := ls.st.ext (.list ((code.map (realRow hs)).map Rw.v)) hR
      have hk8 : (H'.set R (.list ((code.map (realRow hs)).map Rw.v))) k = some (.list (code.map Rw.v)) := (AH.set_ne _ _ (ne_none hR ls.hk)).trans ls.hk
      have hrR : (((Hr'.set mm (.list (metV met))).set k (.list (code.map Rw.v))).set R (.list ((code.map (realRow hs)).map Rw.v))) R = some (.list ((code.map (realRow hs)).map Rw.v)) := AH.set_same _ _ _
      have rR : ((Hr'.set mm (.list (metV met))).set k (.list (code.map Rw.v))) R = none := ls.st.sub.none hR
      have hrk : (((Hr'.set mm (.list (metV met))).set k (.list (code.map Rw.v))).set R (.list ((code.map (realRow hs)).map Rw.v))) k = some (.list (code.map Rw.v)) := (AH.set_ne _ _ (ne_none rR (AH.set_same _ _ _))).trans (AH.set_same _ _ _)
      have htR : (((Hr'.set mm (.list (metV met))).set k (.list (code.map Rw.v))).set R (.list ((code.map (realRow hs)).map Rw.v))) dt = some (.cell (some (.ref d))) := (AH.set_ne _ _ (ne_none rR (htL mm _ _ rmm))).trans (htL mm _ _ rmm)
      refine seqJ (fun l H1 => ∃ R2 real, LSub [(228094706, .ref R2), (213465059, .ref k), (32725694817, .int (ar : Nat))] l ∧ goes code real ∧ H1 k = some (.list (code.map Rw.v)) ∧ H1 R2 = some (.list (real.map Rw.v))) ?_ ?_
      · skip
        refine S_if ?_
        refine B_val ?_ (by rfl)
        refine E_local K n_alter (by rfl) (by first | rfl | assumption) ?_ (by rfl)
        refine ⟨alt, rfl, ?_⟩
        refine ite_b (fun _ => ?_) (fun _ => ?_)
        · skip
          refine seq ?_
          refine S_assign K n_real (by rfl) ?_ (by rfl)
          refine E_call hA K n__law_altered (by rfl) (gl__law_altered hK) (keep__law_altered hK) ?_ (by rfl) (by rfl) (by rfl)
          refine L_cons ?_ (by rfl)
          refine E_cell K n_tape (by rfl) hce (st8.sub _ _ htR) ?_ (by rfl)
          refine L_cons ?_ (by rfl)
          refine E_local K n_real (by rfl) (by first | rfl | assumption) ?_ (by rfl)
          refine L_nil ?_
          refine sp_altered hK (n := n + 7) st8 hrR (by rw [List.length_map]; omega) (by rw [List.length_map]; omega) (fun r hr => ?_) (fun at0 ix x D H9 hat hx1 hx7 st9 hD9 => ?_)
          · obtain ⟨j, hj⟩ := List.mem_iff_getElem?.mp hr
            rw [List.getElem?_map] at hj
            obtain ⟨r0, hr0, e⟩ := Option.map_eq_some_iff.mp hj
            have e1 := (rowOk_ops (cOk_row (hco r0 (List.mem_of_getElem? hr0)))).1
            have e2 := sort_len r0.nm
            rw [← e]; simp only [realRow, List.length_map]; omega
          refine After.next ?_
          refine S_nil ?_
          exact ⟨rfl, D, _, LSub.cons rfl (LSub.cons rfl (LSub.cons rfl LSub.nil)), goes_altered hgo hat hx1, (AH.set_ne _ _ (ne_none hD9 (st9.sub _ _ hrk))).trans (st9.sub _ _ hrk), AH.set_same _ _ _⟩
        · refine S_nil ?_
          exact ⟨rfl, R, _, LSub.cons rfl (LSub.cons rfl (LSub.cons rfl LSub.nil)), hgo, hk8, AH.set_same _ _ _⟩
      · skip
        intro l3 H10 hM2
        obtain ⟨R2, real, hl3, hg2, hk10, hr10⟩ := hM2
        refine WS.less (loc' := [(228094706, .ref R2), (213465059, .ref k), (32725694817, .int (ar : Nat))]) (H' := H10) ?_ hl3 (Sub.refl _)
        have hwr : ∀ r ∈ real, opsOk r := fun q hq => by
          obtain ⟨j, hj⟩ := List.mem_iff_getElem?.mp hq
          obtain ⟨r, hr⟩ : ∃ r, code[j]? = some r := ⟨_, List.getElem?_eq_getElem (by rw [← hg2.1]; exact lt_of_get hj)⟩
          exact (fit_of (cOk_row (hco r (List.mem_of_getElem? hr))) (hg2.2 j r q hr hj)).2
        refine seq ?_
        refine S_return ?_
        refine E_cmp ?_ (by rfl)
        refine E_call hA K n_check_allocation (by rfl) (gl_check_allocation hK) (keep_check_allocation hK) ?_ (by rfl) (by rfl) (by rfl)
        refine L_cons ?_ (by rfl)
        refine E_local K n_code (by rfl) (by first | rfl | assumption) ?_ (by rfl)
        refine L_cons ?_ (by rfl)
        refine E_local K n_real (by rfl) (by first | rfl | assumption) ?_ (by rfl)
        refine L_cons ?_ (by rfl)
        refine E_local K n_arity (by rfl) (by first | rfl | assumption) ?_ (by rfl)
        refine L_nil ?_
        refine sp_check hK (n := n + 3) hk10 hr10 (fun r hr => cOk_row (hco r hr)) hwr (by omega) (by rw [hg2.1]; omega) (by omega) ?_
        refine E_call hA K n__law_keeps (by rfl) (gl__law_keeps hK) (keep__law_keeps hK) ?_ (by rfl) (by rfl) (by rfl)
        refine L_cons ?_ (by rfl)
        refine E_call0 hA K n__law_sorts (by rfl) (gl__law_sorts hK) (keep__law_sorts hK) ?_ (by rfl)
        refine sp_sorts hK (n := n + 8) (fun S hS => ?_)
        refine L_cons ?_ (by rfl)
        refine E_local K n_code (by rfl) (by first | rfl | assumption) ?_ (by rfl)
        refine L_cons ?_ (by rfl)
        refine E_local K n_real (by rfl) (by first | rfl | assumption) ?_ (by rfl)
        refine L_cons ?_ (by rfl)
        refine E_local K n_arity (by rfl) (by first | rfl | assumption) ?_ (by rfl)
        refine L_nil ?_
        refine sp_keeps hK (n := n + 4) ⟨AH.set_same _ _ _, (AH.set_ne _ _ (ne_none hS hk10)).trans hk10, (AH.set_ne _ _ (ne_none hS hr10)).trans hr10, fun r hr => rowOk_ops (cOk_row (hco r hr)), hwr, hg2.1, by omega⟩ (fun j r q hr hq => (fit_of (cOk_row (hco r (List.mem_of_getElem? hr))) (hg2.2 j r q hr hq)).1) ?_
        refine o_eq hA (by omega) (by rfl) (by rfl) ?_
        rw [plain code real ar hco hg2, V.eq_bool, beq_self_eq_true]
        exact After.ret rfl
end
end Mine
namespace Mine
theorem runC_lt {real : List Rw} : ∀ (rs : List Rw) (k : Ck) (j : Nat), j + rs.length < real.length → runC real k j rs = false
  | [], k, j, h => by rw [runC_nil]; exact decide_eq_false (by simp at h; omega)
  | r :: rs, k, j, h => by
    simp only [List.length_cons] at h
    by_cases hm : mt k r real j = true
    · cases e : real[j]? with
      | none => rw [mt_none e] at hm; cases hm
      | some q =>
        rw [mt_some e] at hm
        rw [runC_yes e hm]
        exact runC_lt rs _ _ (by omega)
    · have hno : ∀ q, real[j]? = some q → matchP k r q = false := fun q e => by rw [mt_some e] at hm; simpa using hm
      cases hl : leftP k r with
      | none => exact runC_bad hno hl
      | some k' => rw [runC_left hno hl]; exact runC_lt rs _ _ (by omega)
theorem runC_step {real : List Rw} {k : Ck} {j : Nat} {r q : Rw} {rs : List Rw} (hq : real[j]? = some q) (hl : j + rs.length + 1 = real.length) : runC real k j (r :: rs) = (matchP k r q && runC real (advP k r q) (j + 1) rs) := by
  by_cases hm : matchP k r q = true
  · rw [runC_yes hq hm, hm, Bool.true_and]
  · have hm : matchP k r q = false := by simpa using hm
    have hno : ∀ q', real[j]? = some q' → matchP k r q' = false := fun q' e => by rw [hq] at e; cases e; exact hm
    rw [hm, Bool.false_and]
    cases h2 : leftP k r with
    | none => exact runC_bad hno h2
    | some k' => rw [runC_left hno h2]; exact runC_lt rs _ _ (by omega)
noncomputable def val (F : Nat → Int) : Og → Int | .none => 0 | .at i => F i | .given m => m
noncomputable def Good (ar : Int) (P : Nat → Prop) (j : Nat) : Og → Prop | .none => True | .at i => i < j ∧ P i | .given m => 1 ≤ m ∧ m ≤ ar
structure Inv (ar : Int) (code real : List Rw) (j : Nat) (k : Ck) (F : Nat → Int) (P : Nat → Prop) : Prop where
  nv : 0 ≤ ar ∧ ar ≤ k.nv
  lo : ∀ i, i < j → P i → ar < F i ∧ F i ≤ k.nv
  inj : ∀ i i', i < j → i' < j → P i → P i' → F i = F i' → i = i'
  vo : ∀ t, Good ar P j (origin ar code j (.op .t t)) ∧ iget k.vo t 0 = val F (origin ar code j (.op .t t))
  held : ∀ m, 1 ≤ m → Good ar P j (origin ar real j (.op .x m)) ∧ iget k.held m 0 = val F (origin ar real j (.op .x m))
  inc : ∀ m, 1 ≤ m → Good ar P j (origin ar code j (.op .g m)) ∧ iget k.inc m 0 = val F (origin ar code j (.op .g m))
  out : ∀ m, 1 ≤ m → ihas k.out m = true → Good ar P j (origin ar code j (.op .a m)) ∧ iget k.out m 0 = val F (origin ar code j (.op .a m))
  keys : ∀ m, ihas k.out m = true ↔ ∃ i r, beginOf code j ≤ i ∧ i < j ∧ code[i]? = some r ∧ Pt.op .a m ∈ touched r onlyw
  nz : ∀ m, ihas k.held m = true → iget k.held m 0 ≠ 0
theorem val_inj {ar : Int} {code real : List Rw} {j : Nat} {k : Ck} {F : Nat → Int} {P : Nat → Prop} (I : Inv ar code real j k F P) {a b : Og} (ha : Good ar P j a) (hb : Good ar P j b) (h : val F a = val F b) : a = b := by
  have nv := I.nv
  cases a with
  | none => cases b with
    | none => rfl
    | «at» i => have := I.lo i hb.1 hb.2; simp only [val] at h; omega
    | given m => have := hb; simp only [Good] at this; simp only [val] at h; omega
  | «at» i => cases b with
    | none => have := I.lo i ha.1 ha.2; simp only [val] at h; omega
    | «at» i' => rw [I.inj i i' ha.1 hb.1 ha.2 hb.2 h]
    | given m => have := I.lo i ha.1 ha.2; have := hb; simp only [Good] at this; simp only [val] at h; omega
  | given m => cases b with
    | none => have := ha; simp only [Good] at this; simp only [val] at h; omega
    | «at» i => have := I.lo i hb.1 hb.2; have := ha; simp only [Good] at this; simp only [val] at h; omega
    | given m' => simp only [val] at h; rw [h]
theorem val_zero {ar : Int} {code real : List Rw} {j : Nat} {k : Ck} {F : Nat → Int} {P : Nat → Prop} (I : Inv ar code real j k F P) {a : Og} (ha : Good ar P j a) : val F a = 0 ↔ a = .none :=
  ⟨fun h => val_inj I ha (b := .none) trivial h, fun h => by rw [h]; rfl⟩
theorem iget_none {l : List (Int × Int)} {k d : Int} (h : ihas l k = false) : iget l k d = d := by
  unfold ihas at h
  unfold iget
  rw [List.find?_eq_none.mpr (fun x hx => by have := List.any_eq_false.mp h x hx; simpa using this)]; rfl
theorem sr_t {k : Ck} {n m : Int} : sameRead k (.op .t n) (.op .x m) = true ↔ (ihas k.held m = true ∧ iget k.held m 0 = iget k.vo n 0) := by
  show (if ¬ (true = true) ∨ ihas k.held m = false then false else decide (iget k.held m 0 = iget k.vo n 0)) = true ↔ _
  cases h : ihas k.held m <;> simp
theorem sr_a {k : Ck} {n m : Int} : sameRead k (.op .a n) (.op .x m) = true ↔ (ihas k.held m = true ∧ n = m ∧ iget k.held m 0 = iget k.inc n 0) := by
  show (if ¬ (true = true) ∨ ihas k.held m = false then false else if n = m then decide (iget k.held m 0 = iget k.inc n 0) else false) = true ↔ _
  cases h : ihas k.held m <;> simp
theorem rr_t {ar : Int} {code real : List Rw} {j : Nat} {n : Int} {q : Pt} : readRight ar code real j (.op .t n) q = true ↔ (origin ar code j (.op .t n) ≠ .none ∧ origin ar real j q = origin ar code j (.op .t n)) := by
  show (!decide (origin ar code j (.op .t n) = Og.none) && decide (origin ar real j q = origin ar code j (.op .t n))) = true ↔ _
  simp
theorem rr_a {ar : Int} {code real : List Rw} {j : Nat} {n : Int} {q : Pt} : readRight ar code real j (.op .a n) q = true ↔ (q = .op .x n ∧ origin ar code j (.op .g n) ≠ .none ∧ origin ar real j q = origin ar code j (.op .g n)) := by
  show (if (!decide (q = Pt.op .x n)) = true then false else (!decide (origin ar code j (.op .g n) = Og.none) && decide (origin ar real j q = origin ar code j (.op .g n)))) = true ↔ _
  by_cases h : q = .op .x n <;> simp [h]
theorem read_key {ar : Int} {code real : List Rw} {j : Nat} {k : Ck} {F : Nat → Int} {P : Nat → Prop} (I : Inv ar code real j k F P) {m : Int} (hm : 1 ≤ m) {due : Og} (gd : Good ar P j due) :
    (ihas k.held m = true ∧ iget k.held m 0 = val F due) ↔ (due ≠ .none ∧ origin ar real j (.op .x m) = due) := by
  obtain ⟨g1, h1⟩ := I.held m hm
  constructor
  · rintro ⟨hh, he⟩
    have nz := I.nz m hh
    exact ⟨fun e => nz (by rw [he, e]; rfl), val_inj I g1 gd (by rw [← h1]; exact he)⟩
  · rintro ⟨hd, ho⟩
    have he : iget k.held m 0 = val F due := by rw [h1, ho]
    refine ⟨?_, he⟩
    cases hh : ihas k.held m with
    | true => rfl
    | false =>
      rw [iget_none hh] at he
      exact absurd ((val_zero I gd).mp he.symm) hd
theorem read_eq {ar : Int} {code real : List Rw} {j : Nat} {k : Ck} {F : Nat → Int} {P : Nat → Prop} (I : Inv ar code real j k F P) {ch : Ch} {n m : Int} (hc : ch = .t ∨ (ch = .a ∧ 1 ≤ n)) (hm : 1 ≤ m) :
    sameRead k (.op ch n) (.op .x m) = readRight ar code real j (.op ch n) (.op .x m) := by
  rw [Bool.eq_iff_iff]
  rcases hc with rfl | ⟨rfl, hn⟩
  · obtain ⟨g2, h2⟩ := I.vo n
    rw [sr_t, rr_t, h2]; exact read_key I hm g2
  · obtain ⟨g2, h2⟩ := I.inc n hn
    rw [sr_a, rr_a, h2]
    constructor
    · rintro ⟨a1, rfl, a2⟩; exact ⟨rfl, (read_key I hm g2).mp ⟨a1, a2⟩⟩
    · rintro ⟨e, a2⟩
      cases e
      obtain ⟨b1, b2⟩ := (read_key I hm g2).mpr a2
      exact ⟨b1, rfl, b2⟩
end Mine
namespace Mine
noncomputable def posL (ar : Int) (code real : List Rw) (j : Nat) (d : Dd) (p o : Pt) : Bool := if d = .dot ∨ p.is .y = true then decide (p = o) else if d = .w then !badA p o else readRight ar code real j p o
noncomputable def posC (k : Ck) (d : Dd) (p o : Pt) : Bool := samePt p o && (if d = .dot then true else if d = .w then sameWrite p o else sameRead k p o)
theorem ptR_cases {p o : Pt} (h : ptR p o = true) : (∃ m, 1 ≤ m ∧ o = .op .x m) ∨ (p.is .t = false ∧ p.is .a = false ∧ o = p) := by
  unfold ptR at h
  rw [Bool.or_eq_true] at h
  rcases h with h | h
  · left
    rw [Bool.and_eq_true] at h
    cases o with
    | op c2 m =>
      have h1 : c2 = .x := by have := h.1; simpa [Pt.is] using this
      subst h1
      exact ⟨m, of_decide_eq_true h.2, rfl⟩
    | num i => exact absurd h.1 (by simp [Pt.is])
    | pr i j => exact absurd h.1 (by simp [Pt.is])
  · right
    simp only [Bool.and_eq_true, decide_eq_true_eq] at h
    exact ⟨by simpa using h.1.1, by simpa using h.1.2, h.2⟩
theorem pos_eq {ar : Int} {code real : List Rw} {j : Nat} {k : Ck} {F : Nat → Int} {P : Nat → Prop} (I : Inv ar code real j k F P) {d : Dd} {p o : Pt} (hd : dOk d p = true) (hp : numOk p = true) (ho : ptR p o = true) : posC k d p o = posL ar code real j d p o := by
  by_cases hdot : d = .dot
  · subst hdot
    have hs : samePt p o = decide (p = o) := by cases p <;> first | rfl | (simp [dOk] at hd)
    unfold posC posL
    rw [if_pos rfl, if_pos (.inl rfl), hs, Bool.and_true]
  · obtain ⟨ch, n, rfl, hc⟩ := dOk_op hd hdot
    have hdw : ¬ d = .dot := hdot
    unfold posC posL
    rw [if_neg hdot]
    rcases hc with rfl | rfl | rfl
    · rcases ptR_cases ho with ⟨m, hm, rfl⟩ | ⟨h1, _, _⟩
      · rw [if_neg (show ¬ (d = .dot ∨ (Pt.op .t n).is .y = true) from by rintro (z | z); exact hdot z; cases z)]
        have e1 : samePt (.op .t n) (.op .x m) = true := rfl
        rw [e1, Bool.true_and]
        by_cases hw : d = .w
        · rw [if_pos hw, if_pos hw]; rfl
        · rw [if_neg hw, if_neg hw]; exact read_eq I (.inl rfl) hm
      · simp [Pt.is] at h1
    · rcases ptR_cases ho with ⟨m, hm, rfl⟩ | ⟨_, h1, _⟩
      · rw [if_neg (show ¬ (d = .dot ∨ (Pt.op .a n).is .y = true) from by rintro (z | z); exact hdot z; cases z)]
        have e1 : samePt (.op .a n) (.op .x m) = true := rfl
        rw [e1, Bool.true_and]
        simp only [numOk, Bool.and_eq_true, decide_eq_true_eq] at hp
        by_cases hw : d = .w
        · rw [if_pos hw, if_pos hw]
          show decide (Pt.op .x m = Pt.op .x n) = !(!decide (Pt.op .x m = Pt.op .x n))
          rw [Bool.not_not]
        · rw [if_neg hw, if_neg hw]; exact read_eq I (.inr ⟨rfl, hp.1⟩) hm
      · simp [Pt.is] at h1
    · rw [if_pos (show d = .dot ∨ (Pt.op .y n).is .y = true from .inr rfl)]
      have e1 : samePt (.op .y n) o = decide (Pt.op .y n = o) := rfl
      have e2 : sameWrite (.op .y n) o = decide (o = Pt.op .y n) := rfl
      have e3 : sameRead k (.op .y n) o = decide (o = Pt.op .y n) := rfl
      rw [e1, e2, e3]
      by_cases h : Pt.op .y n = o
      · subst h; split <;> simp
      · rw [decide_eq_false h, Bool.false_and]
end Mine
namespace Mine
noncomputable def chk (k : Ck) (ρ : Int) (p o : Pt) : Bool := if ρ = 2 then sameWrite p o else sameRead k p o
theorem goM_nil (k : Ck) (r : Rw) (wr : List Pt) : goM k r [] [] wr = argsStand k r.nm := rfl
theorem goM_read (k : Ck) (r : Rw) {ρ ρ' : Int} (h : ρ ≠ 2) (p o : Pt) (ps qs : List (Int × Pt)) (wr : List Pt) : goM k r ((ρ, p) :: ps) ((ρ', o) :: qs) wr = (sameRead k p o && goM k r ps qs wr) := by
  rw [goM_cons]
  cases e : sameRead k p o with
  | false => rw [if_pos ⟨h, rfl⟩]; rfl
  | true => rw [if_neg (fun z => by cases z.2), if_neg (fun z => h z.1), if_neg (fun z => h z.1)]; rfl
theorem goM_write (k : Ck) (r : Rw) {ρ' : Int} (p o : Pt) : goM k r [(2, p)] [(ρ', o)] [] = (sameWrite p o && argsStand k r.nm) := by
  rw [goM_cons, if_neg (fun z => z.1 rfl)]
  cases e : sameWrite p o with
  | false => rw [if_pos ⟨rfl, rfl⟩]; rfl
  | true =>
    rw [if_neg (fun z => by cases z.2)]
    cases h : o.is .x with
    | false => rw [if_neg (fun z => by cases z.2)]; rfl
    | true => rw [if_pos ⟨rfl, rfl⟩, if_neg (by simp)]; rfl
theorem goM_two (k : Ck) (r : Rw) {ρ1 ρ2 : Int} (p1 p2 o1 o2 : Pt) : goM k r [(2, p1), (2, p2)] [(ρ1, o1), (ρ2, o2)] [] = (sameWrite p1 o1 && (sameWrite p2 o2 && (if o1.is .x = true ∧ o2 = o1 then twice r else argsStand k r.nm))) := by
  rw [goM_cons, if_neg (fun z => z.1 rfl)]
  cases e : sameWrite p1 o1 with
  | false => rw [if_pos ⟨rfl, rfl⟩]; rfl
  | true =>
    rw [if_neg (fun z => by cases z.2), Bool.true_and]
    cases h : o1.is .x with
    | false =>
      rw [if_neg (fun z => by cases z.2), goM_write, if_neg (fun z => by cases z.1)]
    | true =>
      rw [if_pos ⟨rfl, rfl⟩, if_neg (by simp), goM_cons, if_neg (fun z => z.1 rfl)]
      cases e2 : sameWrite p2 o2 with
      | false => rw [if_pos ⟨rfl, rfl⟩]; rfl
      | true =>
        rw [if_neg (fun z => by cases z.2), Bool.true_and]
        by_cases ho : o2 = o1
        · subst ho
          rw [if_pos ⟨rfl, h⟩, if_pos (by simp), if_pos ⟨rfl, rfl⟩]
        · rw [if_neg (show ¬ (true = true ∧ o2 = o1) from fun z => ho z.2)]
          cases h2 : o2.is .x with
          | false => rw [if_neg (fun z => by cases z.2)]; rfl
          | true => rw [if_pos ⟨rfl, rfl⟩, if_neg (by simpa using ho)]; rfl
section
variable {ar : Int} {code real : List Rw} {j : Nat}
theorem spots_one {d : Dd} {p o : Pt} {wr : List (Int × Pt)} (h : d ≠ .w ∨ wr = []) : spots ar code real j [d] [p] [o] wr = posL ar code real j d p o := by
  unfold posL
  by_cases h1 : d = .dot ∨ p.is .y = true
  · rw [spots_dot h1, if_pos h1]
    by_cases hp : p = o
    · rw [if_neg (fun z => z hp), decide_eq_true hp]; rfl
    · rw [if_pos hp, decide_eq_false hp]
  · have h1' : ¬ d = .dot ∧ p.is .y = false := ⟨fun z => h1 (.inl z), by simpa using fun z => h1 (.inr z)⟩
    rw [if_neg h1]
    by_cases hw : d = .w
    · obtain rfl : wr = [] := h.resolve_left (fun z => z hw)
      rw [spots_w h1' hw, if_pos hw]
      cases badA p o with
      | true => rfl
      | false =>
        show (if pget [] o.n p ≠ p then false else spots ar code real j [] [] [] (pput [] o.n p)) = _
        rw [if_neg (show ¬ (pget [] o.n p ≠ p) from fun z => z rfl)]; rfl
    · rw [spots_r h1' hw, if_neg hw]
      cases readRight ar code real j p o <;> rfl
theorem spots_cons {d : Dd} {p o : Pt} {ds : List Dd} {ps os : List Pt} : spots ar code real j (d :: ds) (p :: ps) (o :: os) [] = (posL ar code real j d p o && spots ar code real j ds ps os (if d = .w ∧ p.is .y = false then [(o.n, p)] else [])) := by
  unfold posL
  by_cases h1 : d = .dot ∨ p.is .y = true
  · rw [spots_dot h1, if_pos h1]
    have e : (if d = .w ∧ p.is .y = false then [(o.n, p)] else []) = ([] : List (Int × Pt)) := if_neg (fun z => by rcases h1 with h | h; rw [z.1] at h; cases h; rw [z.2] at h; cases h)
    rw [e]
    by_cases hp : p = o
    · rw [if_neg (fun z => z hp), decide_eq_true hp]; rfl
    · rw [if_pos hp, decide_eq_false hp]; rfl
  · have h1' : ¬ d = .dot ∧ p.is .y = false := ⟨fun z => h1 (.inl z), by simpa using fun z => h1 (.inr z)⟩
    rw [if_neg h1]
    by_cases hw : d = .w
    · rw [spots_w h1' hw, if_pos hw, if_pos (show d = .w ∧ p.is .y = false from ⟨hw, h1'.2⟩)]
      cases badA p o with
      | true => rfl
      | false =>
        show (if pget [] o.n p ≠ p then false else spots ar code real j ds ps os (pput [] o.n p)) = _
        rw [if_neg (show ¬ (pget [] o.n p ≠ p) from fun z => z rfl)]; rfl
    · rw [spots_r h1' hw, if_neg hw, if_neg (show ¬ (d = .w ∧ p.is .y = false) from fun z => hw z.1)]
      cases readRight ar code real j p o <;> rfl
end
end Mine
namespace Mine
noncomputable def places (r q : Rw) : List (Dd × Pt × Pt) := r.nm.sort.zip (r.ps.zip q.ps)
noncomputable def twoOk (r q : Rw) : Bool := match r.nm, r.ps, q.ps with
  | .put_variable, [p1, p2], [o1, o2] => if o1.is .x = true ∧ o2 = o1 then decide (p1 = p2) else true
  | _, _, _ => true
noncomputable def Sq (k : Ck) (nm : Nm) (ps qs : List Pt) : Prop := (((ps.zip qs).all fun x => samePt x.1 x.2) && goM k ⟨nm, ps⟩ (roles nm ps) (roles nm qs) []) = ((places ⟨nm, ps⟩ ⟨nm, qs⟩).all (fun x => posC k x.1 x.2.1 x.2.2) && (twoOk ⟨nm, ps⟩ ⟨nm, qs⟩ && argsStand k nm))
section
variable {k : Ck} {nm : Nm} {p o p1 p2 o1 o2 : Pt} {d d' : Dd}
theorem sq1 {l : List (Int × Nat)} (hs : nm.sort = [d]) (hr : nm.rl = l) (ht : twoOk ⟨nm, [p]⟩ ⟨nm, [o]⟩ = true)
    (e : (samePt p o && goM k ⟨nm, [p]⟩ (l.map fun x => (x.1, [p].getD x.2 (.num 0))) (l.map fun x => (x.1, [o].getD x.2 (.num 0))) []) = (posC k d p o && argsStand k nm)) : Sq k nm [p] [o] := by
  unfold Sq roles places
  rw [hs, hr, ht]
  simp only [List.zip_cons_cons, List.zip_nil_right, List.all_cons, List.all_nil, Bool.and_true, Bool.true_and]
  exact e
theorem sq2 {l : List (Int × Nat)} (hs : nm.sort = [d, d']) (hr : nm.rl = l) (ht : twoOk ⟨nm, [p1, p2]⟩ ⟨nm, [o1, o2]⟩ = true)
    (e : (samePt p1 o1 && samePt p2 o2 && goM k ⟨nm, [p1, p2]⟩ (l.map fun x => (x.1, [p1, p2].getD x.2 (.num 0))) (l.map fun x => (x.1, [o1, o2].getD x.2 (.num 0))) []) = (posC k d p1 o1 && posC k d' p2 o2 && argsStand k nm)) : Sq k nm [p1, p2] [o1, o2] := by
  unfold Sq roles places
  rw [hs, hr, ht]
  simp only [List.zip_cons_cons, List.zip_nil_right, List.all_cons, List.all_nil, Bool.and_true, Bool.true_and]
  exact e
theorem pc_r : posC k .r p o = (samePt p o && sameRead k p o) := rfl
theorem pc_u : posC k .u p o = (samePt p o && sameRead k p o) := rfl
theorem pc_w : posC k .w p o = (samePt p o && sameWrite p o) := rfl
theorem pc_d : posC k .dot p o = samePt p o := Bool.and_true _
theorem m_r (hs : nm.sort = [.r]) (hr : nm.rl = [(1, 0)]) (ht : twoOk ⟨nm, [p]⟩ ⟨nm, [o]⟩ = true) : Sq k nm [p] [o] := sq1 hs hr ht (by
  show (samePt p o && goM k _ [(1, p)] [(1, o)] []) = _
  rw [goM_read k _ (by decide), goM_nil, pc_r, Bool.and_assoc])
theorem m_u (hs : nm.sort = [.u]) (hr : nm.rl = [(3, 0)]) (ht : twoOk ⟨nm, [p]⟩ ⟨nm, [o]⟩ = true) : Sq k nm [p] [o] := sq1 hs hr ht (by
  show (samePt p o && goM k _ [(3, p)] [(3, o)] []) = _
  rw [goM_read k _ (by decide), goM_nil, pc_u, Bool.and_assoc])
theorem m_w (hs : nm.sort = [.w]) (hr : nm.rl = [(2, 0)]) (ht : twoOk ⟨nm, [p]⟩ ⟨nm, [o]⟩ = true) : Sq k nm [p] [o] := sq1 hs hr ht (by
  show (samePt p o && goM k _ [(2, p)] [(2, o)] []) = _
  rw [goM_write, pc_w, Bool.and_assoc])
theorem m_d (hs : nm.sort = [.dot]) (hr : nm.rl = []) (ht : twoOk ⟨nm, [p]⟩ ⟨nm, [o]⟩ = true) : Sq k nm [p] [o] := sq1 hs hr ht (by
  show (samePt p o && goM k _ [] [] []) = _
  rw [goM_nil, pc_d])
theorem b5 (a b c d e : Bool) : (a && b && (c && (d && e))) = (a && d && (b && c) && e) := by cases a <;> cases b <;> cases c <;> cases d <;> rfl
theorem b6 (a b c d e : Bool) : (a && b && (c && (d && e))) = (a && c && (b && d) && e) := by cases a <;> cases b <;> cases c <;> cases d <;> rfl
theorem m_wr (hs : nm.sort = [.w, .r]) (hr : nm.rl = [(1, 1), (2, 0)]) (ht : twoOk ⟨nm, [p1, p2]⟩ ⟨nm, [o1, o2]⟩ = true) : Sq k nm [p1, p2] [o1, o2] := sq2 hs hr ht (by
  show (samePt p1 o1 && samePt p2 o2 && goM k _ [(1, p2), (2, p1)] [(1, o2), (2, o1)] []) = _
  rw [goM_read k _ (by decide), goM_write, pc_w, pc_r]; exact b5 _ _ _ _ _)
theorem m_rr (hs : nm.sort = [.r, .r]) (hr : nm.rl = [(1, 0), (1, 1)]) (ht : twoOk ⟨nm, [p1, p2]⟩ ⟨nm, [o1, o2]⟩ = true) : Sq k nm [p1, p2] [o1, o2] := sq2 hs hr ht (by
  show (samePt p1 o1 && samePt p2 o2 && goM k _ [(1, p1), (1, p2)] [(1, o1), (1, o2)] []) = _
  rw [goM_read k _ (by decide), goM_read k _ (by decide), goM_nil, pc_r, pc_r]; exact b6 _ _ _ _ _)
theorem m_rw (hs : nm.sort = [.r, .w]) (hr : nm.rl = [(1, 0), (2, 1)]) (ht : twoOk ⟨nm, [p1, p2]⟩ ⟨nm, [o1, o2]⟩ = true) : Sq k nm [p1, p2] [o1, o2] := sq2 hs hr ht (by
  show (samePt p1 o1 && samePt p2 o2 && goM k _ [(1, p1), (2, p2)] [(1, o1), (2, o2)] []) = _
  rw [goM_read k _ (by decide), goM_write, pc_r, pc_w]; exact b6 _ _ _ _ _)
theorem m_dr (hs : nm.sort = [.dot, .r]) (hr : nm.rl = [(1, 1)]) (ht : twoOk ⟨nm, [p1, p2]⟩ ⟨nm, [o1, o2]⟩ = true) : Sq k nm [p1, p2] [o1, o2] := sq2 hs hr ht (by
  show (samePt p1 o1 && samePt p2 o2 && goM k _ [(1, p2)] [(1, o2)] []) = _
  rw [goM_read k _ (by decide), goM_nil, pc_d, pc_r]; simp only [Bool.and_assoc])
theorem m_dw (hs : nm.sort = [.dot, .w]) (hr : nm.rl = [(2, 1)]) (ht : twoOk ⟨nm, [p1, p2]⟩ ⟨nm, [o1, o2]⟩ = true) : Sq k nm [p1, p2] [o1, o2] := sq2 hs hr ht (by
  show (samePt p1 o1 && samePt p2 o2 && goM k _ [(2, p2)] [(2, o2)] []) = _
  rw [goM_write, pc_d, pc_w]; simp only [Bool.and_assoc])
theorem m_dd (hs : nm.sort = [.dot, .dot]) (hr : nm.rl = []) (ht : twoOk ⟨nm, [p1, p2]⟩ ⟨nm, [o1, o2]⟩ = true) : Sq k nm [p1, p2] [o1, o2] := sq2 hs hr ht (by
  show (samePt p1 o1 && samePt p2 o2 && goM k _ [] [] []) = _
  rw [goM_nil, pc_d, pc_d])
theorem m_pv : Sq k .put_variable [p1, p2] [o1, o2] := by
  show (samePt p1 o1 && (samePt p2 o2 && true) && goM k _ [(2, p1), (2, p2)] [(2, o1), (2, o2)] []) = (posC k .w p1 o1 && (posC k .w p2 o2 && true) && ((if o1.is .x = true ∧ o2 = o1 then decide (p1 = p2) else true) && true))
  rw [goM_two, pc_w, pc_w, show twice ⟨.put_variable, [p1, p2]⟩ = decide (p1 = p2) from rfl, show argsStand k (Rw.mk .put_variable [p1, p2]).nm = true from rfl, Bool.and_true, Bool.and_true, Bool.and_true]
  generalize (if o1.is .x = true ∧ o2 = o1 then decide (p1 = p2) else true) = x
  generalize samePt p1 o1 = a
  generalize samePt p2 o2 = b
  generalize sameWrite p1 o1 = d
  generalize sameWrite p2 o2 = e
  revert a b d e x; decide
end
theorem matchP_eq {k : Ck} {r q : Rw} (h1 : r.nm.sort.length = r.ps.length) (hn : r.nm = q.nm) (h2 : r.ps.length = q.ps.length) :
    matchP k r q = ((places r q).all (fun x => posC k x.1 x.2.1 x.2.2) && (twoOk r q && argsStand k r.nm)) := by
  obtain ⟨nm, ps⟩ := r
  obtain ⟨nm', qs⟩ := q
  replace hn : nm = nm' := hn
  subst hn
  replace h1 : ps.length = nm.sort.length := h1.symm
  replace h2 : qs.length = ps.length := h2.symm
  have key : matchP k ⟨nm, ps⟩ ⟨nm, qs⟩ = (((ps.zip qs).all fun x => samePt x.1 x.2) && goM k ⟨nm, ps⟩ (roles nm ps) (roles nm qs) []) := by
    unfold matchP sameShape
    simp only [h2, decide_true, Bool.true_and]
    cases ((ps.zip qs).all fun x => samePt x.1 x.2) <;> rfl
  rw [key]
  show Sq k nm ps qs
  clear key
  have c : nm.sort.length = 1 ∨ nm.sort.length = 2 := by cases nm <;> first | exact .inl rfl | exact .inr rfl
  rcases c with c | c
  · obtain ⟨p, rfl⟩ := len1 (h1.trans c)
    obtain ⟨o, rfl⟩ := len1 (h2 : qs.length = 1)
    cases nm <;> first | exact m_r rfl rfl rfl | exact m_w rfl rfl rfl | exact m_u rfl rfl rfl | exact m_d rfl rfl rfl | exact absurd c (by decide)
  · obtain ⟨p1, p2, rfl⟩ := len2 (h1.trans c)
    obtain ⟨o1, o2, rfl⟩ := len2 (h2 : qs.length = 2)
    cases nm <;> first | exact m_pv | exact m_rw rfl rfl rfl | exact m_wr rfl rfl rfl | exact m_dr rfl rfl rfl | exact m_dw rfl rfl rfl | exact m_rr rfl rfl rfl | exact m_dd rfl rfl rfl | exact absurd c (by decide)
section
variable {ar : Int} {code real : List Rw} {j : Nat}
theorem spots_ww {p1 p2 o1 o2 : Pt} (hp1 : dOk .w p1 = true) (hp2 : dOk .w p2 = true) (h1 : ptR p1 o1 = true) (h2 : ptR p2 o2 = true) :
    spots ar code real j [.w, .w] [p1, p2] [o1, o2] [] = (posL ar code real j .w p1 o1 && (posL ar code real j .w p2 o2 && (if o1.is .x = true ∧ o2 = o1 then decide (p1 = p2) else true))) := by
  rw [spots_cons]
  cases hb : posL ar code real j .w p1 o1 with
  | false => rfl
  | true =>
    rw [Bool.true_and, Bool.true_and]
    by_cases hy : p1.is .y = true
    · rw [if_neg (fun z => by rw [hy] at z; cases z.2), spots_one (.inr rfl)]
      have : p1 = o1 := by
        unfold posL at hb
        rw [if_pos (Or.inr hy)] at hb
        exact of_decide_eq_true hb
      have hx : ¬ (o1.is .x = true ∧ o2 = o1) := fun z => by
        rw [← this] at z
        cases p1 <;> simp [Pt.is] at z hy
        rename_i c n; rw [hy] at z; cases z.1
      rw [if_neg hx, Bool.and_true]
    · have hy' : p1.is .y = false := by simpa using hy
      rw [if_pos ⟨rfl, hy'⟩]
      obtain ⟨m1, rfl⟩ := (ptR_op h1 hp1 (by decide)).2 hy'
      unfold posL
      by_cases hy2 : p2.is .y = true
      · rw [spots_dot (.inr hy2), if_pos (Or.inr hy2)]
        by_cases e : p2 = o2
        · rw [if_neg (fun z => z e), decide_eq_true e, Bool.true_and]
          rw [if_neg (fun z => by
            rw [← e] at z
            have := z.2
            rw [this] at hy2; cases hy2)]; rfl
        · rw [if_pos e, decide_eq_false e]; rfl
      · have hy2' : p2.is .y = false := by simpa using hy2
        obtain ⟨m2, rfl⟩ := (ptR_op h2 hp2 (by decide)).2 hy2'
        have n2 : ¬ (Dd.w = Dd.dot ∨ p2.is .y = true) := by
          rintro (z | z)
          · cases z
          · exact hy2 z
        rw [spots_w ⟨by decide, hy2'⟩ rfl, if_neg n2, if_pos rfl]
        cases badA p2 (.op .x m2) with
        | true => rfl
        | false =>
          show (if pget [(m1, p1)] m2 p2 ≠ p2 then false else true) = (true && _)
          rw [Bool.true_and]
          by_cases e : m2 = m1
          · subst e
            rw [if_pos (show (Pt.op Ch.x m2).is .x = true ∧ Pt.op Ch.x m2 = Pt.op Ch.x m2 from ⟨rfl, rfl⟩)]
            have : pget [(m2, p1)] m2 p2 = p1 := by simp [pget]
            rw [this]
            by_cases e2 : p1 = p2
            · rw [if_neg (fun z => z e2), decide_eq_true e2]
            · rw [if_pos e2, decide_eq_false e2]
          · have : pget [(m1, p1)] m2 p2 = p2 := by
              have : ¬ m1 = m2 := fun z => e z.symm
              simp [pget, this]
            rw [this, if_neg (fun z => z rfl), if_neg (fun z => e (by cases z.2; rfl))]
theorem r_one {nm : Nm} {d : Dd} {p o : Pt} (hs : nm.sort = [d]) (ht : twoOk ⟨nm, [p]⟩ ⟨nm, [o]⟩ = true) : spots ar code real j nm.sort [p] [o] [] = ((places ⟨nm, [p]⟩ ⟨nm, [o]⟩).all (fun x => posL ar code real j x.1 x.2.1 x.2.2) && twoOk ⟨nm, [p]⟩ ⟨nm, [o]⟩) := by
  unfold places
  rw [ht, hs, spots_one (.inr rfl), Bool.and_true]
  exact (Bool.and_true _).symm
theorem r_two {nm : Nm} {d d' : Dd} {p1 p2 o1 o2 : Pt} (hs : nm.sort = [d, d']) (hd : d ≠ .w ∨ d' ≠ .w) (ht : twoOk ⟨nm, [p1, p2]⟩ ⟨nm, [o1, o2]⟩ = true) : spots ar code real j nm.sort [p1, p2] [o1, o2] [] = ((places ⟨nm, [p1, p2]⟩ ⟨nm, [o1, o2]⟩).all (fun x => posL ar code real j x.1 x.2.1 x.2.2) && twoOk ⟨nm, [p1, p2]⟩ ⟨nm, [o1, o2]⟩) := by
  unfold places
  rw [ht, hs, Bool.and_true, spots_cons]
  show _ = (posL ar code real j d p1 o1 && (posL ar code real j d' p2 o2 && true))
  rw [Bool.and_true, spots_one]
  rcases hd with hd | hd
  · exact .inr (if_neg fun z => hd z.1)
  · exact .inl hd
theorem rowRight_eq {r q : Rw} (hr : code[j]? = some r) (hq : real[j]? = some q) (hk : rowOk r = true) (hR : rowR r q = true) :
    rowRight ar code real j = ((places r q).all (fun x => posL ar code real j x.1 x.2.1 x.2.2) && twoOk r q) := by
  obtain ⟨hn, h2, h3⟩ := rowR_iff.mp hR
  unfold rowOk at hk
  rw [Bool.and_eq_true] at hk
  have h1 := of_decide_eq_true hk.1
  have hd := List.all_eq_true.mp hk.2
  have key : rowRight ar code real j = spots ar code real j r.nm.sort r.ps q.ps [] := by
    unfold rowRight; rw [hr, hq]
  rw [key]
  clear key hk hR hr hq
  obtain ⟨nm, ps⟩ := r
  obtain ⟨nm', qs⟩ := q
  replace hn : nm = nm' := hn
  subst hn
  replace h1 : ps.length = nm.sort.length := h1.symm
  replace h2 : qs.length = ps.length := h2.symm
  by_cases hv : nm = .put_variable
  · subst hv
    obtain ⟨p1, p2, rfl⟩ := len2 (show ps.length = 2 from h1)
    obtain ⟨o1, o2, rfl⟩ := len2 (show qs.length = 2 from h2)
    have a1 := spots_ww (ar := ar) (code := code) (real := real) (j := j) (hd (.w, p1) (.head _)) (hd (.w, p2) (.tail _ (.head _))) (h3 0 p1 o1 rfl rfl) (h3 1 p2 o2 rfl rfl)
    refine a1.trans ?_
    show _ = ((posL ar code real j .w p1 o1 && (posL ar code real j .w p2 o2 && true)) && _)
    rw [Bool.and_true, Bool.and_assoc]; rfl
  clear hd h3
  have c : nm.sort.length = 1 ∨ nm.sort.length = 2 := by cases nm <;> first | exact .inl rfl | exact .inr rfl
  rcases c with c | c
  · obtain ⟨p, rfl⟩ := len1 (h1.trans c)
    obtain ⟨o, rfl⟩ := len1 (h2 : qs.length = 1)
    cases nm <;> first | exact r_one rfl rfl | exact absurd c (by decide)
  · obtain ⟨p1, p2, rfl⟩ := len2 (h1.trans c)
    obtain ⟨o1, o2, rfl⟩ := len2 (h2 : qs.length = 2)
    cases nm <;> first | exact r_two rfl (.inr (by decide)) rfl | exact r_two rfl (.inl (by decide)) rfl | exact absurd c (by decide) | exact absurd rfl hv
end
end Mine
namespace Mine
theorem touched_mem {r : Rw} {f : Dd → Bool} {o : Pt} : o ∈ touched r f ↔ ∃ d, (d, o) ∈ r.nm.sort.zip r.ps ∧ f d = true := by
  unfold touched
  constructor
  · intro h
    obtain ⟨x, hx, rfl⟩ := List.mem_map.mp h
    obtain ⟨a, b⟩ := List.mem_filter.mp hx
    exact ⟨x.1, a, b⟩
  · rintro ⟨d, a, b⟩
    exact List.mem_map.mpr ⟨(d, o), List.mem_filter.mpr ⟨a, b⟩, rfl⟩
theorem touched_ps {r : Rw} {f : Dd → Bool} {o : Pt} (h : o ∈ touched r f) : o ∈ r.ps := by
  obtain ⟨d, a, _⟩ := touched_mem.mp h
  exact (List.of_mem_zip a).2
theorem a_pos {r : Rw} {f : Dd → Bool} {m : Int} (hc : cOk r = true) (h : Pt.op .a m ∈ touched r f) : 1 ≤ m := by
  have := cOk_num hc _ (touched_ps h)
  simp only [numOk, Bool.and_eq_true, decide_eq_true_eq] at this
  exact this.1
theorem ihas_mem {l : List (Int × Int)} {m : Int} : ihas l m = true ↔ ∃ x ∈ l, x.1 = m := by
  unfold ihas
  rw [List.any_eq_true]
  simp
theorem out_all {l : List (Int × Int)} {f : Int → Bool} : (l.all fun x => f x.1) = true ↔ ∀ m, ihas l m = true → f m = true := by
  rw [List.all_eq_true]
  constructor
  · intro h m hm
    obtain ⟨x, hx, rfl⟩ := ihas_mem.mp hm
    exact h x hx
  · intro h x hx
    exact h x.1 (ihas_mem.mpr ⟨x, hx, rfl⟩)
theorem mem_slice {α : Type} {l : List α} {b j : Nat} {x : α} : x ∈ (l.take j).drop b ↔ ∃ i, b ≤ i ∧ i < j ∧ l[i]? = some x := by
  rw [List.mem_iff_getElem?]
  constructor
  · rintro ⟨i, h⟩
    rw [List.getElem?_drop, List.getElem?_take] at h
    by_cases hi : b + i < j
    · rw [if_pos hi] at h; exact ⟨b + i, by omega, hi, h⟩
    · rw [if_neg hi] at h; cases h
  · rintro ⟨i, h1, h2, h3⟩
    refine ⟨i - b, ?_⟩
    rw [List.getElem?_drop, List.getElem?_take, show b + (i - b) = i by omega, if_pos h2, h3]
theorem argRight_iff {ar : Int} {code real : List Rw} {j : Nat} {p : Pt} : argRight ar code real j p = true ↔ ∀ m, p = .op .a m → origin ar real j (.op .x m) = origin ar code j (.op .a m) := by
  unfold argRight
  cases p with
  | op c n => cases c <;> simp [isA]
  | num i => simp [isA]
  | pr i k => simp [isA]
theorem argsStand_eq {ar : Int} {code real : List Rw} {j : Nat} {k : Ck} {F : Nat → Int} {P : Nat → Prop} (I : Inv ar code real j k F P) (hc : ∀ r ∈ code, cOk r = true) {r : Rw} (hr : code[j]? = some r) :
    argsStand k r.nm = argsRight ar code real j := by
  unfold argsStand argsRight
  rw [hr]
  show (if r.nm.takes then _ else true) = (if r.nm.takes then _ else true)
  cases r.nm.takes with
  | false => rfl
  | true =>
    rw [if_pos rfl, if_pos rfl, Bool.eq_iff_iff, out_all (f := fun m => decide (iget k.held m 0 = iget k.out m 0)), List.all_eq_true]
    constructor
    · intro h r' hr'
      obtain ⟨i, h1, h2, h3⟩ := mem_slice.mp hr'
      refine List.all_eq_true.mpr fun p hp => argRight_iff.mpr fun m e => ?_
      subst e
      have hm := a_pos (hc r' (List.mem_of_getElem? h3)) hp
      have hk : ihas k.out m = true := (I.keys m).mpr ⟨i, r', h1, h2, h3, hp⟩
      have he := of_decide_eq_true (h m hk)
      obtain ⟨g1, e1⟩ := I.held m hm
      obtain ⟨g2, e2⟩ := I.out m hm hk
      exact val_inj I g1 g2 (by rw [← e1, ← e2]; exact he)
    · intro h m hk
      obtain ⟨i, r', h1, h2, h3, hp⟩ := (I.keys m).mp hk
      have hm := a_pos (hc r' (List.mem_of_getElem? h3)) hp
      have hb := argRight_iff.mp (List.all_eq_true.mp (h r' (mem_slice.mpr ⟨i, h1, h2, h3⟩)) _ hp) m rfl
      obtain ⟨g1, e1⟩ := I.held m hm
      obtain ⟨g2, e2⟩ := I.out m hm hk
      exact decide_eq_true (by rw [e1, e2, hb])
theorem all_congr {α : Type} {l : List α} {f g : α → Bool} (h : ∀ x ∈ l, f x = g x) : l.all f = l.all g := by
  induction l with
  | nil => rfl
  | cons x l ih => rw [List.all_cons, List.all_cons, h x (List.mem_cons_self ..), ih fun y hy => h y (List.mem_cons_of_mem _ hy)]
theorem place_of {r q : Rw} (hk : cOk r = true) (hR : rowR r q = true) {x : Dd × Pt × Pt} (hx : x ∈ places r q) : (x.1, x.2.1) ∈ r.nm.sort.zip r.ps ∧ (x.1, x.2.2) ∈ q.nm.sort.zip q.ps ∧ dOk x.1 x.2.1 = true ∧ numOk x.2.1 = true ∧ ptR x.2.1 x.2.2 = true := by
  obtain ⟨hn, h2, h3⟩ := rowR_iff.mp hR
  obtain ⟨j, hj⟩ := List.mem_iff_getElem?.mp hx
  obtain ⟨d, p, o⟩ := x
  obtain ⟨h4, h5⟩ := List.getElem?_zip_eq_some.mp hj
  obtain ⟨h6, h7⟩ := List.getElem?_zip_eq_some.mp h5
  have hr := cOk_row hk
  unfold rowOk at hr
  rw [Bool.and_eq_true] at hr
  have m1 : (d, p) ∈ r.nm.sort.zip r.ps := List.mem_of_getElem? (zip_get h4 h6)
  exact ⟨m1, by rw [← hn]; exact List.mem_of_getElem? (zip_get h4 h7), List.all_eq_true.mp hr.2 _ m1, cOk_num hk _ (List.mem_of_getElem? h6), h3 j p o h6 h7⟩
theorem row_eq {ar : Int} {code real : List Rw} {j : Nat} {k : Ck} {F : Nat → Int} {P : Nat → Prop} (I : Inv ar code real j k F P) (hc : ∀ r ∈ code, cOk r = true) {r q : Rw} (hr : code[j]? = some r) (hq : real[j]? = some q) (hR : rowR r q = true) :
    matchP k r q = (rowRight ar code real j && argsRight ar code real j) := by
  have hk := hc r (List.mem_of_getElem? hr)
  obtain ⟨hn, h2, h3⟩ := rowR_iff.mp hR
  rw [matchP_eq (rowOk_ops (cOk_row hk)).1 hn h2, rowRight_eq hr hq (cOk_row hk) hR, argsStand_eq I hc hr, Bool.and_assoc]
  rw [all_congr (g := fun x => posL ar code real j x.1 x.2.1 x.2.2) fun x hx => by
    obtain ⟨_, _, a, b, c⟩ := place_of hk hR hx
    exact pos_eq I a b c]
end Mine
namespace Mine
theorem iget_iput (l : List (Int × Int)) (k v m d : Int) : iget (iput l k v) m d = if m = k then v else iget l m d := by
  unfold iget iput
  by_cases h : (l.any fun p => decide (p.1 = k)) = true
  · rw [if_pos h, List.find?_map]
    have e : ((fun p : Int × Int => decide (p.1 = m)) ∘ fun p => if p.1 = k then (p.1, v) else p) = fun p => decide (p.1 = m) := by
      funext p; simp only [Function.comp_apply]; split <;> rfl
    rw [e]
    cases hf : l.find? (fun p => decide (p.1 = m)) with
    | none =>
      by_cases hm : m = k
      · subst hm
        obtain ⟨x, hx, hy⟩ := List.any_eq_true.mp h
        exact absurd hy (by have := List.find?_eq_none.mp hf x hx; exact this)
      · rw [if_neg hm]; rfl
    | some x =>
      have hx : x.1 = m := of_decide_eq_true (by have := List.find?_some hf; exact this)
      by_cases hm : m = k
      · rw [if_pos hm]
        simp only [Option.map_some, Option.getD_some]
        rw [if_pos (by rw [hx, hm])]
      · rw [if_neg hm]
        simp only [Option.map_some, Option.getD_some]
        rw [if_neg (by rw [hx]; exact hm)]
  · rw [if_neg h, List.find?_append]
    by_cases hm : m = k
    · subst hm
      have hf : l.find? (fun p => decide (p.1 = m)) = none := List.find?_eq_none.mpr fun x hx hy => h (List.any_eq_true.mpr ⟨x, hx, hy⟩)
      rw [hf, if_pos rfl]
      simp
    · have : ¬ k = m := fun e => hm e.symm
      rw [if_neg hm]
      simp [this]
theorem ihas_iput (l : List (Int × Int)) (k v m : Int) : ihas (iput l k v) m = (decide (m = k) || ihas l m) := by
  unfold ihas iput
  by_cases h : (l.any fun p => decide (p.1 = k)) = true
  · rw [if_pos h, List.any_map]
    have e : ((fun p : Int × Int => decide (p.1 = m)) ∘ fun p => if p.1 = k then (p.1, v) else p) = fun p => decide (p.1 = m) := by
      funext p; simp only [Function.comp_apply]; split <;> rfl
    rw [e]
    by_cases hm : m = k
    · subst hm; rw [h]; simp
    · rw [decide_eq_false hm]; rfl
  · rw [if_neg h, List.any_append]
    by_cases hm : m = k
    · subst hm; simp
    · have : ¬ k = m := fun e => hm e.symm
      rw [decide_eq_false hm]; simp [this]
noncomputable def gp (x : Pt × Pt) : Prop := (∃ n m, x = (.op .t n, .op .x m) ∧ 1 ≤ m) ∨ (∃ n, x = (.op .a n, .op .x n) ∧ 1 ≤ n) ∨ (∃ n, x = (.op .y n, .op .y n))
noncomputable def goW (v : Int) (k : Ck) (W : List (Pt × Pt)) : Ck := W.foldl (fun k x => writeP k x.1 x.2 v) k
theorem goW_cons (v : Int) (k : Ck) (x : Pt × Pt) (W : List (Pt × Pt)) : goW v k (x :: W) = goW v (writeP k x.1 x.2 v) W := rfl
theorem goW_inc (v : Int) : ∀ (W : List (Pt × Pt)) (k : Ck), (∀ x ∈ W, gp x) → (goW v k W).inc = k.inc ∧ (goW v k W).nv = k.nv
  | [], k, _ => ⟨rfl, rfl⟩
  | x :: W, k, h => by
    rw [goW_cons]
    obtain ⟨a, b⟩ := goW_inc v W (writeP k x.1 x.2 v) fun y hy => h y (List.mem_cons_of_mem _ hy)
    rw [a, b]
    rcases h x (List.mem_cons_self ..) with ⟨n, m, rfl, _⟩ | ⟨n, rfl, _⟩ | ⟨n, rfl⟩ <;> exact ⟨rfl, rfl⟩
theorem or_if {p q : Prop} [Decidable p] [Decidable q] [Decidable (p ∨ q)] {a b : Int} : (if q then a else if p then a else b) = if p ∨ q then a else b := by
  by_cases hp : p <;> by_cases hq : q <;> simp [hp, hq]
theorem goW_vo (v : Int) : ∀ (W : List (Pt × Pt)) (k : Ck), (∀ x ∈ W, gp x) → ∀ t, iget (goW v k W).vo t 0 = if Pt.op .t t ∈ W.map (·.1) then v else iget k.vo t 0
  | [], k, _, t => rfl
  | x :: W, k, h, t => by
    rw [goW_cons, goW_vo v W _ (fun y hy => h y (List.mem_cons_of_mem _ hy)) t]
    have e : iget (writeP k x.1 x.2 v).vo t 0 = if Pt.op .t t = x.1 then v else iget k.vo t 0 := by
      rcases h x (List.mem_cons_self ..) with ⟨n, m, rfl, _⟩ | ⟨n, rfl, _⟩ | ⟨n, rfl⟩
      · show iget (iput k.vo n v) t 0 = _
        rw [iget_iput]; simp
      · show iget k.vo t 0 = _
        simp
      · show iget k.vo t 0 = _
        simp
    rw [e, or_if]
    simp only [List.map_cons, List.mem_cons]
theorem goW_held (v : Int) : ∀ (W : List (Pt × Pt)) (k : Ck), (∀ x ∈ W, gp x) → ∀ t, iget (goW v k W).held t 0 = if Pt.op .x t ∈ W.map (·.2) then v else iget k.held t 0
  | [], k, _, t => rfl
  | x :: W, k, h, t => by
    rw [goW_cons, goW_held v W _ (fun y hy => h y (List.mem_cons_of_mem _ hy)) t]
    have e : iget (writeP k x.1 x.2 v).held t 0 = if Pt.op .x t = x.2 then v else iget k.held t 0 := by
      rcases h x (List.mem_cons_self ..) with ⟨n, m, rfl, _⟩ | ⟨n, rfl, _⟩ | ⟨n, rfl⟩
      · show iget (iput k.held m v) t 0 = _
        rw [iget_iput]; simp
      · show iget (iput k.held n v) t 0 = _
        rw [iget_iput]; simp
      · show iget k.held t 0 = _
        simp
    rw [e, or_if]
    simp only [List.map_cons, List.mem_cons]
theorem goW_nz (v : Int) (hv : v ≠ 0) : ∀ (W : List (Pt × Pt)) (k : Ck), (∀ x ∈ W, gp x) → (∀ t, ihas k.held t = true → iget k.held t 0 ≠ 0) → ∀ t, ihas (goW v k W).held t = true → iget (goW v k W).held t 0 ≠ 0
  | [], k, _, hk => hk
  | x :: W, k, h, hk => by
    rw [goW_cons]
    refine goW_nz v hv W _ (fun y hy => h y (List.mem_cons_of_mem _ hy)) fun t ht => ?_
    rcases h x (List.mem_cons_self ..) with ⟨n, m, rfl, _⟩ | ⟨n, rfl, _⟩ | ⟨n, rfl⟩
    · change ihas (iput k.held m v) t = true at ht
      show iget (iput k.held m v) t 0 ≠ 0
      rw [iget_iput]; rw [ihas_iput] at ht
      by_cases e : t = m
      · rw [if_pos e]; exact hv
      · rw [if_neg e]; rw [decide_eq_false e] at ht; exact hk t ht
    · change ihas (iput k.held n v) t = true at ht
      show iget (iput k.held n v) t 0 ≠ 0
      rw [iget_iput]; rw [ihas_iput] at ht
      by_cases e : t = n
      · rw [if_pos e]; exact hv
      · rw [if_neg e]; rw [decide_eq_false e] at ht; exact hk t ht
    · exact hk t ht
theorem goW_out (v : Int) : ∀ (W : List (Pt × Pt)) (k : Ck), (∀ x ∈ W, gp x) → ∀ t, iget (goW v k W).out t 0 = if Pt.op .a t ∈ W.map (·.1) then v else iget k.out t 0
  | [], k, _, t => rfl
  | x :: W, k, h, t => by
    rw [goW_cons, goW_out v W _ (fun y hy => h y (List.mem_cons_of_mem _ hy)) t]
    have e : iget (writeP k x.1 x.2 v).out t 0 = if Pt.op .a t = x.1 then v else iget k.out t 0 := by
      rcases h x (List.mem_cons_self ..) with ⟨n, m, rfl, _⟩ | ⟨n, rfl, _⟩ | ⟨n, rfl⟩
      · show iget k.out t 0 = _
        simp
      · show iget (iput k.out n v) t 0 = _
        rw [iget_iput]; simp
      · show iget k.out t 0 = _
        simp
    rw [e, or_if]
    simp only [List.map_cons, List.mem_cons]
theorem goW_keys (v : Int) : ∀ (W : List (Pt × Pt)) (k : Ck), (∀ x ∈ W, gp x) → ∀ t, ihas (goW v k W).out t = true ↔ (Pt.op .a t ∈ W.map (·.1) ∨ ihas k.out t = true)
  | [], k, _, t => by simp [goW]
  | x :: W, k, h, t => by
    rw [goW_cons, goW_keys v W _ (fun y hy => h y (List.mem_cons_of_mem _ hy)) t]
    have e : ihas (writeP k x.1 x.2 v).out t = true ↔ (Pt.op .a t = x.1 ∨ ihas k.out t = true) := by
      rcases h x (List.mem_cons_self ..) with ⟨n, m, rfl, _⟩ | ⟨n, rfl, _⟩ | ⟨n, rfl⟩
      · show ihas k.out t = true ↔ _
        simp
      · show ihas (iput k.out n v) t = true ↔ _
        rw [ihas_iput]; simp
      · show ihas k.out t = true ↔ _
        simp
    rw [e]
    simp only [List.map_cons, List.mem_cons]
    constructor
    · rintro (a | a | a)
      · exact .inl (.inr a)
      · exact .inl (.inl a)
      · exact .inr a
    · rintro ((a | a) | a)
      · exact .inr (.inl a)
      · exact .inl a
      · exact .inr (.inr a)
noncomputable def wrote (r q : Rw) : List (Pt × Pt) := ((places r q).filter fun x => wu x.1).map (·.2)
theorem zip3_fst (f : Dd → Bool) : ∀ (ds : List Dd) (ps qs : List Pt), ps.length = qs.length → (((ds.zip (ps.zip qs)).filter fun x => f x.1).map (·.2)).map (·.1) = ((ds.zip ps).filter fun x => f x.1).map (·.2)
  | [], _, _, _ => rfl
  | _ :: _, [], [], _ => rfl
  | d :: ds, p :: ps, o :: qs, h => by
    have ih := zip3_fst f ds ps qs (by simpa using h)
    simp only [List.zip_cons_cons, List.filter_cons]
    cases f d with
    | true => simp only [if_true, List.map_cons, ih]
    | false => simp only [Bool.false_eq_true, if_false, ih]
theorem zip3_snd (f : Dd → Bool) : ∀ (ds : List Dd) (ps qs : List Pt), ps.length = qs.length → (((ds.zip (ps.zip qs)).filter fun x => f x.1).map (·.2)).map (·.2) = ((ds.zip qs).filter fun x => f x.1).map (·.2)
  | [], _, _, _ => rfl
  | _ :: _, [], [], _ => rfl
  | d :: ds, p :: ps, o :: qs, h => by
    have ih := zip3_snd f ds ps qs (by simpa using h)
    simp only [List.zip_cons_cons, List.filter_cons]
    cases f d with
    | true => simp only [if_true, List.map_cons, ih]
    | false => simp only [Bool.false_eq_true, if_false, ih]
theorem wrote_fst {r q : Rw} (h : r.ps.length = q.ps.length) : (wrote r q).map (·.1) = touched r wu := zip3_fst wu _ _ _ h
theorem wrote_snd {r q : Rw} (hn : r.nm = q.nm) (h : r.ps.length = q.ps.length) : (wrote r q).map (·.2) = touched q wu := by
  have := zip3_snd wu r.nm.sort _ _ h
  unfold touched
  rw [← hn]; exact this
theorem goA_eq {v : Int} {k : Ck} {r q : Rw} (h1 : r.nm.sort.length = r.ps.length) (hn : r.nm = q.nm) (h2 : r.ps.length = q.ps.length) : goA v k (roles r.nm r.ps) (roles q.nm q.ps) = goW v k (wrote r q) := by
  obtain ⟨nm, ps⟩ := r
  obtain ⟨nm', qs⟩ := q
  replace hn : nm = nm' := hn
  subst hn
  replace h1 : ps.length = nm.sort.length := h1.symm
  replace h2 : qs.length = ps.length := h2.symm
  cases nm
  all_goals first
    | (have e1 := len1 (show ps.length = 1 from h1)
       obtain ⟨p, rfl⟩ := e1
       obtain ⟨o, rfl⟩ := len1 (show qs.length = 1 from h2)
       rfl)
    | (have e1 := len2 (show ps.length = 2 from h1)
       obtain ⟨p1, p2, rfl⟩ := e1
       obtain ⟨o1, o2, rfl⟩ := len2 (show qs.length = 2 from h2)
       rfl)
end Mine
namespace Mine
noncomputable def srcOg (ar : Int) (rows : List Rw) (j : Nat) : Pt → Og
  | .op c n => if c ≠ .y then origin ar rows j (giv (.op c n)) else .at j
  | _ => .at j
noncomputable def newOg (ar : Int) (rows : List Rw) (j : Nat) (r : Rw) : Og := match source r.nm r.ps with | some p => srcOg ar rows j p | none => .at j
theorem origin_step {ar : Int} {rows : List Rw} {j : Nat} {o : Pt} {r : Rw} (h : rows[j]? = some r) (hn : ¬ (r.nm = .call ∨ r.nm = .execute)) : origin ar rows (j + 1) o = if o ∈ touched r wu then newOg ar rows j r else origin ar rows j o := by
  obtain ⟨nm, ps⟩ := r
  simp only [origin, h, if_neg hn]
  split
  · unfold newOg source srcOg
    split <;> first | rfl | skip
    rename_i e1 e2
    split
    · rename_i e
      split at e
      · rename_i h1 h2
        cases e
        split
        · rename_i c n; exact (e1 _ c n h1 h2).elim
        · rfl
      · rename_i h1 h2
        cases e
        split
        · rename_i c n; exact (e2 c n _ h1 h2).elim
        · rfl
      · cases e
    · rfl
  · rfl
noncomputable def srcV (k : Ck) : Pt → Int
  | .op .t n => iget k.vo n 0
  | .op .a n => iget k.inc n 0
  | _ => 0
theorem copied_eq (k : Ck) (r : Rw) : copied k r = match source r.nm r.ps with | some p => srcV k p | none => 0 := by
  unfold copied srcV
  cases source r.nm r.ps with
  | none => rfl
  | some p => cases p with
    | op c n => cases c <;> rfl
    | num i => rfl
    | pr i j => rfl
section
variable {ar : Int} {code real : List Rw} {j : Nat} {k : Ck} {F : Nat → Int} {P : Nat → Prop}
theorem src_eq (I : Inv ar code real j k F P) {p o : Pt} (hd : dOk .r p = true) (hp : numOk p = true) (ho : ptR p o = true) (hc : posC k .r p o = true) :
    (srcV k p = 0 ∧ srcOg ar code j p = .at j ∧ srcOg ar real j o = .at j) ∨ (srcV k p ≠ 0 ∧ srcOg ar real j o = srcOg ar code j p ∧ Good ar P j (srcOg ar code j p) ∧ val F (srcOg ar code j p) = srcV k p) := by
  obtain ⟨ch, n, rfl, hch⟩ := dOk_op hd (by decide)
  unfold posC at hc
  rw [if_neg (by decide), if_neg (by decide), Bool.and_eq_true] at hc
  obtain ⟨h1, h2⟩ := hc
  rcases hch with rfl | rfl | rfl
  · rcases ptR_cases ho with ⟨m, hm, rfl⟩ | ⟨a, _, _⟩
    · right
      obtain ⟨g, e⟩ := I.vo n
      obtain ⟨b1, b2⟩ := sr_t.mp h2
      have h3 := (rr_t.mp ((read_eq I (.inl rfl) hm).symm.trans h2)).2
      exact ⟨fun z => I.nz m b1 (b2.trans z), h3, g, e.symm⟩
    · simp [Pt.is] at a
  · rcases ptR_cases ho with ⟨m, hm, rfl⟩ | ⟨_, a, _⟩
    · right
      simp only [numOk, Bool.and_eq_true, decide_eq_true_eq] at hp
      obtain ⟨g, e⟩ := I.inc n hp.1
      obtain ⟨b1, b2, b3⟩ := sr_a.mp h2
      have h3 := (rr_a.mp ((read_eq I (.inr ⟨rfl, hp.1⟩) hm).symm.trans h2)).2.2
      exact ⟨fun z => I.nz m b1 (b3.trans z), h3, g, e.symm⟩
    · simp [Pt.is] at a
  · left
    have e : o = .op .y n := of_decide_eq_true h2
    rw [e]
    exact ⟨rfl, rfl, rfl⟩
theorem new_eq (I : Inv ar code real j k F P) {r q : Rw} (hk : cOk r = true) (hR : rowR r q = true) (hm : (places r q).all (fun x => posC k x.1 x.2.1 x.2.2) = true) :
    (copied k r = 0 ∧ newOg ar code j r = .at j ∧ newOg ar real j q = .at j) ∨ (copied k r ≠ 0 ∧ newOg ar real j q = newOg ar code j r ∧ Good ar P j (newOg ar code j r) ∧ val F (newOg ar code j r) = copied k r) := by
  obtain ⟨hn, h2, h3⟩ := rowR_iff.mp hR
  have h1 := (rowOk_ops (cOk_row hk)).1
  have hpl := fun {x} (hx : x ∈ places r q) => place_of hk hR hx
  have hm' := List.all_eq_true.mp hm
  rw [copied_eq]
  unfold newOg
  clear hm hk hR h3
  obtain ⟨nm, ps⟩ := r
  obtain ⟨nm', qs⟩ := q
  replace hn : nm = nm' := hn
  subst hn
  replace h1 : ps.length = nm.sort.length := h1.symm
  replace h2 : qs.length = ps.length := h2.symm
  cases nm
  case get_variable =>
    obtain ⟨p1, p2, rfl⟩ := len2 (show ps.length = 2 from h1)
    obtain ⟨o1, o2, rfl⟩ := len2 (show qs.length = 2 from h2)
    have hx : (Dd.r, p2, o2) ∈ places ⟨.get_variable, [p1, p2]⟩ ⟨.get_variable, [o1, o2]⟩ := by simp [places, Nm.sort]
    obtain ⟨_, _, a, b, c⟩ := hpl hx
    exact src_eq I a b c (hm' _ hx)
  case put_value =>
    obtain ⟨p1, p2, rfl⟩ := len2 (show ps.length = 2 from h1)
    obtain ⟨o1, o2, rfl⟩ := len2 (show qs.length = 2 from h2)
    have hx : (Dd.r, p1, o1) ∈ places ⟨.put_value, [p1, p2]⟩ ⟨.put_value, [o1, o2]⟩ := by simp [places, Nm.sort]
    obtain ⟨_, _, a, b, c⟩ := hpl hx
    exact src_eq I a b c (hm' _ hx)
  all_goals exact .inl ⟨rfl, rfl, rfl⟩
theorem gp_of {d : Dd} {p o : Pt} (hw : wu d = true) (hd : dOk d p = true) (hp : numOk p = true) (ho : ptR p o = true) (hc : posC k d p o = true) : gp (p, o) := by
  have hnd : d ≠ .dot := by rintro rfl; cases hw
  obtain ⟨ch, n, rfl, hch⟩ := dOk_op hd hnd
  unfold posC at hc
  rw [if_neg hnd, Bool.and_eq_true] at hc
  obtain ⟨h1, h2⟩ := hc
  rcases hch with rfl | rfl | rfl
  · rcases ptR_cases ho with ⟨m, hm, rfl⟩ | ⟨a, _, _⟩
    · exact .inl ⟨n, m, rfl, hm⟩
    · simp [Pt.is] at a
  · simp only [numOk, Bool.and_eq_true, decide_eq_true_eq] at hp
    cases d with
    | dot => exact absurd rfl hnd
    | r => cases hw
    | u => simp [dOk] at hd
    | w =>
      rw [if_pos rfl] at h2
      have e : o = .op .x n := of_decide_eq_true h2
      exact .inr (.inl ⟨n, by rw [e], hp.1⟩)
  · have e : Pt.op .y n = o := of_decide_eq_true h1
    exact .inr (.inr ⟨n, by rw [← e]⟩)
theorem gp_wrote {r q : Rw} (hk : cOk r = true) (hR : rowR r q = true) (hm : (places r q).all (fun x => posC k x.1 x.2.1 x.2.2) = true) : ∀ x ∈ wrote r q, gp x := by
  intro x hx
  obtain ⟨y, hy, rfl⟩ := List.mem_map.mp hx
  obtain ⟨h1, h2⟩ := List.mem_filter.mp hy
  obtain ⟨_, _, a, b, c⟩ := place_of hk hR h1
  exact gp_of h2 a b c (List.all_eq_true.mp hm _ h1)
theorem onlyw_a {r : Rw} (hk : cOk r = true) {m : Int} : Pt.op .a m ∈ touched r wu ↔ Pt.op .a m ∈ touched r onlyw := by
  rw [touched_mem, touched_mem]
  have hr := cOk_row hk
  unfold rowOk at hr
  rw [Bool.and_eq_true] at hr
  have hd := List.all_eq_true.mp hr.2
  constructor
  · rintro ⟨d, a, b⟩
    refine ⟨d, a, ?_⟩
    have := hd _ a
    cases d with
    | dot => cases b
    | r => cases b
    | w => rfl
    | u => simp [dOk] at this
  · rintro ⟨d, a, b⟩
    refine ⟨d, a, ?_⟩
    cases d with
    | dot => cases b
    | r => cases b
    | w => rfl
    | u => cases b
end
end Mine
namespace Mine
section
variable {ar : Int} {code real : List Rw} {j : Nat} {k : Ck} {F : Nat → Int} {P : Nat → Prop}
structure Mid (ar : Int) (code real : List Rw) (j : Nat) (k : Ck) (F : Nat → Int) (P : Nat → Prop) : Prop where
  nv : 0 ≤ ar ∧ ar ≤ k.nv
  lo : ∀ i, i < j + 1 → P i → ar < F i ∧ F i ≤ k.nv
  inj : ∀ i i', i < j + 1 → i' < j + 1 → P i → P i' → F i = F i' → i = i'
  vo : ∀ t, Good ar P (j + 1) (origin ar code (j + 1) (.op .t t)) ∧ iget k.vo t 0 = val F (origin ar code (j + 1) (.op .t t))
  held : ∀ m, 1 ≤ m → Good ar P (j + 1) (origin ar real (j + 1) (.op .x m)) ∧ iget k.held m 0 = val F (origin ar real (j + 1) (.op .x m))
  inc : ∀ m, 1 ≤ m → Good ar P (j + 1) (origin ar code (j + 1) (.op .g m)) ∧ iget k.inc m 0 = val F (origin ar code (j + 1) (.op .g m))
  out : ∀ m, 1 ≤ m → ihas k.out m = true → Good ar P (j + 1) (origin ar code (j + 1) (.op .a m)) ∧ iget k.out m 0 = val F (origin ar code (j + 1) (.op .a m))
  keys : ∀ m, ihas k.out m = true ↔ ∃ i r, beginOf code j ≤ i ∧ i < j + 1 ∧ code[i]? = some r ∧ Pt.op .a m ∈ touched r onlyw
  nz : ∀ m, ihas k.held m = true → iget k.held m 0 ≠ 0
theorem mid_of (I : Inv ar code real j k F P) {r q : Rw} (hr : code[j]? = some r) (hq : real[j]? = some q) (hk : cOk r = true) (hn : ¬ (r.nm = .call ∨ r.nm = .execute)) (hnq : ¬ (q.nm = .call ∨ q.nm = .execute))
    {W : List (Pt × Pt)} (hW : ∀ x ∈ W, gp x) (hf : W.map (·.1) = touched r wu) (hs : W.map (·.2) = touched q wu)
    {n' v : Int} (hv : v ≠ 0) {O : Og} (hO1 : newOg ar code j r = O) (hO2 : newOg ar real j q = O) {F' : Nat → Int} {P' : Nat → Prop}
    (hnv : ar ≤ n') (hlo : ∀ i, i < j + 1 → P' i → ar < F' i ∧ F' i ≤ n') (hinj : ∀ i i', i < j + 1 → i' < j + 1 → P' i → P' i' → F' i = F' i' → i = i')
    (hmo : ∀ o, Good ar P j o → Good ar P' (j + 1) o ∧ val F' o = val F o) (hgO : Good ar P' (j + 1) O) (hvO : val F' O = v) :
    Mid ar code real j (goW v { k with nv := n' } W) F' P' := by
  obtain ⟨i1, i2⟩ := goW_inc v W { k with nv := n' } hW
  have hg : ∀ m, Pt.op .g m ∉ touched r wu := fun m z => by
    rw [← hf] at z
    obtain ⟨x, hx, e⟩ := List.mem_map.mp z
    rcases hW x hx with ⟨a, b, rfl, _⟩ | ⟨a, rfl, _⟩ | ⟨a, rfl⟩ <;> cases e
  refine ⟨⟨I.nv.1, by rw [i2]; exact hnv⟩, fun i h1 h2 => by rw [i2]; exact hlo i h1 h2, hinj, fun t => ?_, fun m hm => ?_, fun m hm => ?_, fun m hm hk2 => ?_, fun m => ?_, ?_⟩
  · rw [goW_vo v W _ hW, origin_step hr hn, hf, hO1]
    split
    · exact ⟨hgO, hvO.symm⟩
    · obtain ⟨a, b⟩ := I.vo t
      obtain ⟨c, d⟩ := hmo _ a
      exact ⟨c, by rw [d]; exact b⟩
  · rw [goW_held v W _ hW, origin_step hq hnq, hs, hO2]
    split
    · exact ⟨hgO, hvO.symm⟩
    · obtain ⟨a, b⟩ := I.held m hm
      obtain ⟨c, d⟩ := hmo _ a
      exact ⟨c, by rw [d]; exact b⟩
  · rw [i1, origin_step hr hn, if_neg (hg m)]
    obtain ⟨a, b⟩ := I.inc m hm
    obtain ⟨c, d⟩ := hmo _ a
    exact ⟨c, by rw [d]; exact b⟩
  · rw [goW_out v W _ hW, origin_step hr hn, hf, hO1]
    have h3 := (goW_keys v W _ hW m).mp hk2
    rw [hf] at h3
    split
    · exact ⟨hgO, hvO.symm⟩
    · rename_i hno
      obtain ⟨a, b⟩ := I.out m hm (h3.resolve_left hno)
      obtain ⟨c, d⟩ := hmo _ a
      exact ⟨c, by rw [d]; exact b⟩
  · rw [goW_keys v W _ hW m, hf, onlyw_a hk]
    show _ ∨ ihas k.out m = true ↔ _
    rw [I.keys m]
    constructor
    · rintro (a | ⟨i, r', a, b, c, d⟩)
      · exact ⟨j, r, beginOf_le code j, Nat.lt_succ_self j, hr, a⟩
      · exact ⟨i, r', a, Nat.lt_succ_of_lt b, c, d⟩
    · rintro ⟨i, r', a, b, c, d⟩
      by_cases e : i = j
      · subst e
        rw [hr] at c; cases c
        exact .inl d
      · exact .inr ⟨i, r', a, by omega, c, d⟩
  · exact goW_nz v hv W { k with nv := n' } hW I.nz
theorem mid_step (I : Inv ar code real j k F P) {r q : Rw} (hr : code[j]? = some r) (hq : real[j]? = some q) (hk : cOk r = true) (hR : rowR r q = true) (hm : (places r q).all (fun x => posC k x.1 x.2.1 x.2.2) = true) (hn : ¬ (r.nm = .call ∨ r.nm = .execute)) :
    ∃ F' P', Mid ar code real j (goA (if copied k r = 0 then k.nv + 1 else copied k r) (if copied k r = 0 then { k with nv := k.nv + 1 } else k) (roles r.nm r.ps) (roles q.nm q.ps)) F' P' := by
  obtain ⟨e1, e2, _⟩ := rowR_iff.mp hR
  have hnq : ¬ (q.nm = .call ∨ q.nm = .execute) := by rw [← e1]; exact hn
  rw [goA_eq (rowOk_ops (cOk_row hk)).1 e1 e2]
  have hW := gp_wrote hk hR hm
  have nv := I.nv
  rcases new_eq I hk hR hm with ⟨c0, o1, o2⟩ | ⟨c0, o1, o2, o3⟩
  · rw [if_pos c0, if_pos c0]
    refine ⟨fun i => if i = j then k.nv + 1 else F i, fun i => i = j ∨ P i, mid_of I hr hq hk hn hnq hW (wrote_fst e2) (wrote_snd e1 e2) (by omega) o1 o2 (by omega) (fun i h1 h2 => ?_) (fun i i' h1 h2 h3 h4 h5 => ?_) (fun o ho => ?_) ⟨Nat.lt_succ_self j, .inl rfl⟩ (by show (if j = j then _ else _) = _; rw [if_pos rfl])⟩
    · by_cases e : i = j
      · simp only [if_pos e]; omega
      · simp only [if_neg e]
        have := I.lo i (by omega) (h2.resolve_left e)
        omega
    · by_cases e : i = j
      · by_cases e' : i' = j
        · rw [e, e']
        · simp only [if_pos e, if_neg e'] at h5
          have := I.lo i' (by omega) (h4.resolve_left e')
          omega
      · by_cases e' : i' = j
        · simp only [if_neg e, if_pos e'] at h5
          have := I.lo i (by omega) (h3.resolve_left e)
          omega
        · simp only [if_neg e, if_neg e'] at h5
          exact I.inj i i' (by omega) (by omega) (h3.resolve_left e) (h4.resolve_left e') h5
    · cases o with
      | none => exact ⟨trivial, rfl⟩
      | given m => exact ⟨ho, rfl⟩
      | «at» i =>
        refine ⟨⟨Nat.lt_succ_of_lt ho.1, .inr ho.2⟩, ?_⟩
        show (if i = j then _ else _) = F i
        rw [if_neg (by have := ho.1; omega)]
  · rw [if_neg c0, if_neg c0]
    have hg : ∀ o, Good ar P j o → Good ar (fun i => i < j ∧ P i) (j + 1) o ∧ val F o = val F o := fun o ho => by
      cases o with
      | none => exact ⟨trivial, rfl⟩
      | given m => exact ⟨ho, rfl⟩
      | «at» i => exact ⟨⟨Nat.lt_succ_of_lt ho.1, ho⟩, rfl⟩
    exact ⟨F, fun i => i < j ∧ P i, mid_of (n' := k.nv) I hr hq hk hn hnq hW (wrote_fst e2) (wrote_snd e1 e2) c0 rfl o1 nv.2 (fun i _ h2 => I.lo i h2.1 h2.2) (fun i i' _ _ h3 h4 h5 => I.inj i i' h3.1 h4.1 h3.2 h4.2 h5) hg (hg _ o2).1 o3⟩
theorem inv_step (I : Inv ar code real j k F P) {r q : Rw} (hr : code[j]? = some r) (hq : real[j]? = some q) (hk : cOk r = true) (hR : rowR r q = true) (hm : (places r q).all (fun x => posC k x.1 x.2.1 x.2.2) = true) :
    ∃ F' P', Inv ar code real (j + 1) (advP k r q) F' P' := by
  have nv := I.nv
  by_cases hn : r.nm = .call ∨ r.nm = .execute
  · have ht : r.nm.takes = true := by rcases hn with h | h <;> rw [h] <;> rfl
    have hnq : q.nm = .call ∨ q.nm = .execute := by rw [← (rowR_iff.mp hR).1]; exact hn
    have hb : beginOf code (j + 1) = j + 1 := by rw [beginOf, hr]; simp only [ht, if_true]
    refine ⟨F, fun _ => False, ?_⟩
    have e : advP k r q = ended (goA (if copied k r = 0 then k.nv + 1 else copied k r) (if copied k r = 0 then { k with nv := k.nv + 1 } else k) (roles r.nm r.ps) (roles q.nm q.ps)) r.nm := rfl
    have hr0 : roles r.nm r.ps = [] := by rcases hn with h | h <;> rw [h] <;> rfl
    have hg0 : goA (if copied k r = 0 then k.nv + 1 else copied k r) (if copied k r = 0 then { k with nv := k.nv + 1 } else k) (roles r.nm r.ps) (roles q.nm q.ps) = (if copied k r = 0 then { k with nv := k.nv + 1 } else k) := by rw [hr0]; rfl
    rw [e, hg0, ended_tt _ ht hn]
    refine ⟨⟨nv.1, ?_⟩, fun _ _ z => z.elim, fun _ _ _ _ z => z.elim, fun t => ?_, fun m _ => ?_, fun m _ => ?_, fun m _ z => (by cases z), fun m => ?_, fun m z => by cases z⟩
    · show ar ≤ (if copied k r = 0 then { k with nv := k.nv + 1 } else k : Ck).nv
      split
      · show ar ≤ k.nv + 1
        omega
      · exact nv.2
    · rw [origin_end hr hn]; exact ⟨trivial, rfl⟩
    · rw [origin_end hq hnq]; exact ⟨trivial, rfl⟩
    · rw [origin_end hr hn]; exact ⟨trivial, rfl⟩
    · rw [hb]
      exact ⟨fun z => (by cases z), fun ⟨i, _, a, b, _⟩ => by omega⟩
  · obtain ⟨F', P', M⟩ := mid_step I hr hq hk hR hm hn
    refine ⟨F', P', ?_⟩
    have e : advP k r q = ended (goA (if copied k r = 0 then k.nv + 1 else copied k r) (if copied k r = 0 then { k with nv := k.nv + 1 } else k) (roles r.nm r.ps) (roles q.nm q.ps)) r.nm := rfl
    rw [e]
    generalize goA (if copied k r = 0 then k.nv + 1 else copied k r) (if copied k r = 0 then { k with nv := k.nv + 1 } else k) (roles r.nm r.ps) (roles q.nm q.ps) = k2 at M
    cases ht : r.nm.takes with
    | true =>
      have hb : beginOf code (j + 1) = j + 1 := by rw [beginOf, hr]; simp only [ht, if_true]
      rw [ended_tf _ ht hn]
      refine ⟨M.nv, M.lo, M.inj, M.vo, M.held, M.inc, fun m _ z => (by cases z), fun m => ?_, M.nz⟩
      rw [hb]
      exact ⟨fun z => (by cases z), fun ⟨i, _, a, b, _⟩ => by omega⟩
    | false =>
      have hb : beginOf code (j + 1) = beginOf code j := by rw [beginOf, hr]; simp only [ht, Bool.false_eq_true, if_false]
      rw [ended_ff _ ht hn]
      refine ⟨M.nv, M.lo, M.inj, M.vo, M.held, M.inc, M.out, fun m => ?_, M.nz⟩
      rw [hb]; exact M.keys m
theorem init_inv (ar : Nat) (code real : List Rw) : Inv ar code real 0 (initC ar) (fun _ => 0) (fun _ => False) := by
  have key : ∀ n : Nat, (initC n).nv = n ∧ (initC n).vo = [] ∧ (initC n).out = [] ∧ (∀ m : Int, iget (initC n).inc m 0 = if 1 ≤ m ∧ m ≤ n then m else 0) ∧ (∀ m : Int, iget (initC n).held m 0 = if 1 ≤ m ∧ m ≤ n then m else 0) ∧ (∀ m : Int, ihas (initC n).held m = true → 1 ≤ m ∧ m ≤ n) := by
    intro n
    induction n with
    | zero =>
      refine ⟨rfl, rfl, rfl, fun m => ?_, fun m => ?_, fun m z => by cases z⟩
      · rw [if_neg (by omega)]; rfl
      · rw [if_neg (by omega)]; rfl
    | succ n ih =>
      obtain ⟨a, b, c, d, e, f⟩ := ih
      refine ⟨?_, b, c, fun m => ?_, fun m => ?_, fun m z => ?_⟩
      · show (initC n).nv + 1 = _
        rw [a]; omega
      · show iget (iput (initC n).inc (n + 1) ((initC n).nv + 1)) m 0 = _
        rw [iget_iput, d, a]
        by_cases h : m = (n : Int) + 1
        · rw [if_pos h, if_pos (by omega), h]
        · rw [if_neg h]
          by_cases h2 : 1 ≤ m ∧ m ≤ (n : Int)
          · rw [if_pos h2, if_pos (by omega)]
          · rw [if_neg h2, if_neg (by omega)]
      · show iget (iput (initC n).held (n + 1) ((initC n).nv + 1)) m 0 = _
        rw [iget_iput, e, a]
        by_cases h : m = (n : Int) + 1
        · rw [if_pos h, if_pos (by omega), h]
        · rw [if_neg h]
          by_cases h2 : 1 ≤ m ∧ m ≤ (n : Int)
          · rw [if_pos h2, if_pos (by omega)]
          · rw [if_neg h2, if_neg (by omega)]
      · change ihas (iput (initC n).held (n + 1) ((initC n).nv + 1)) m = true at z
        rw [ihas_iput, Bool.or_eq_true] at z
        rcases z with z | z
        · have := of_decide_eq_true z; omega
        · have := f m z; omega
  obtain ⟨a, b, c, d, e, f⟩ := key ar
  refine ⟨⟨by omega, by omega⟩, fun i h => by omega, fun i i' h => by omega, fun t => ?_, fun m hm => ?_, fun m hm => ?_, fun m _ z => ?_, fun m => ?_, fun m z => ?_⟩
  · rw [b]; exact ⟨trivial, rfl⟩
  · rw [e]
    show Good _ _ _ (if Ch.x ≠ Ch.t ∧ m ≤ (ar : Int) then Og.given m else Og.none) ∧ _ = val _ (if Ch.x ≠ Ch.t ∧ m ≤ (ar : Int) then Og.given m else Og.none)
    by_cases h : m ≤ (ar : Int)
    · rw [if_pos (show 1 ≤ m ∧ m ≤ (ar : Int) from ⟨hm, h⟩), if_pos ⟨by decide, h⟩]; exact ⟨⟨hm, h⟩, rfl⟩
    · rw [if_neg (show ¬ (1 ≤ m ∧ m ≤ (ar : Int)) from fun z => h z.2), if_neg (fun z => h z.2)]; exact ⟨trivial, rfl⟩
  · rw [d]
    show Good _ _ _ (if Ch.g ≠ Ch.t ∧ m ≤ (ar : Int) then Og.given m else Og.none) ∧ _ = val _ (if Ch.g ≠ Ch.t ∧ m ≤ (ar : Int) then Og.given m else Og.none)
    by_cases h : m ≤ (ar : Int)
    · rw [if_pos (show 1 ≤ m ∧ m ≤ (ar : Int) from ⟨hm, h⟩), if_pos ⟨by decide, h⟩]; exact ⟨⟨hm, h⟩, rfl⟩
    · rw [if_neg (show ¬ (1 ≤ m ∧ m ≤ (ar : Int)) from fun z => h z.2), if_neg (fun z => h z.2)]; exact ⟨trivial, rfl⟩
  · rw [c] at z; cases z
  · rw [c]
    exact ⟨fun z => (by cases z), fun ⟨i, _, _, h, _⟩ => by omega⟩
  · have := f m z
    rw [e, if_pos this]; omega
end
theorem run_eq {ar : Int} {code real : List Rw} (hc : ∀ r ∈ code, cOk r = true) (hg : goes code real) : ∀ (rs : List Rw) (j : Nat) (k : Ck) (F : Nat → Int) (P : Nat → Prop), code.drop j = rs → j + rs.length = code.length → Inv ar code real j k F P →
    (runC real k j rs = true ↔ ∀ i, j ≤ i → i < code.length → (rowRight ar code real i && argsRight ar code real i) = true) := by
  intro rs
  induction rs with
  | nil =>
    intro j k F P _ hl _
    have : j = code.length := hl
    rw [runC_nil]
    refine ⟨fun _ i h1 h2 => by omega, fun _ => decide_eq_true (by rw [hg.1]; exact this)⟩
  | cons r rs ih =>
    intro j k F P hd hl I
    simp only [List.length_cons] at hl
    have hr : code[j]? = some r := by
      have : (code.drop j)[0]? = some r := by rw [hd]; rfl
      rw [List.getElem?_drop] at this; exact this
    obtain ⟨q, hq⟩ : ∃ q, real[j]? = some q := ⟨_, List.getElem?_eq_getElem (by rw [hg.1]; omega)⟩
    have hR := hg.2 j r q hr hq
    have hk := hc r (List.mem_of_getElem? hr)
    have hd2 : code.drop (j + 1) = rs := by
      have : (code.drop j).drop 1 = rs := by rw [hd]; rfl
      rw [List.drop_drop] at this; exact this
    rw [runC_step hq (by rw [hg.1]; omega), Bool.and_eq_true]
    have hm := row_eq I hc hr hq hR
    constructor
    · rintro ⟨h1, h2⟩ i hi hi2
      have hp : (places r q).all (fun x => posC k x.1 x.2.1 x.2.2) = true := by
        rw [matchP_eq (rowOk_ops (cOk_row hk)).1 (rowR_iff.mp hR).1 (rowR_iff.mp hR).2.1, Bool.and_eq_true] at h1
        exact h1.1
      obtain ⟨F', P', I'⟩ := inv_step I hr hq hk hR hp
      by_cases e : i = j
      · subst e; rw [← hm]; exact h1
      · exact (ih (j + 1) _ F' P' hd2 (by omega) I').mp h2 i (by omega) hi2
    · intro h
      have h1 : matchP k r q = true := by rw [hm]; exact h j (Nat.le_refl _) (by omega)
      have hp : (places r q).all (fun x => posC k x.1 x.2.1 x.2.2) = true := by
        rw [matchP_eq (rowOk_ops (cOk_row hk)).1 (rowR_iff.mp hR).1 (rowR_iff.mp hR).2.1, Bool.and_eq_true] at h1
        exact h1.1
      obtain ⟨F', P', I'⟩ := inv_step I hr hq hk hR hp
      exact ⟨h1, (ih (j + 1) _ F' P' hd2 (by omega) I').mpr fun i hi hi2 => h i (by omega) hi2⟩
theorem plain : Plain := by
  intro code real ar hc hg
  rw [Bool.eq_iff_iff]
  unfold checkP keeps
  rw [run_eq hc hg code 0 _ _ _ rfl (Nat.zero_add _) (init_inv ar code real), List.all_eq_true]
  constructor
  · intro h i hi
    exact h i (Nat.zero_le _) (List.mem_range.mp hi)
  · intro h i _ hi
    exact h i (List.mem_range.mpr hi)
end Mine
namespace Mine
theorem law_aok (env : Env) : AOk 20 (callerA.deeper env) := ⟨rfl, by show 1 + claimMargin + 1 + 20 < 900; decide +kernel, by show 4 + 3 + 10 * 20 < 9000; decide⟩
theorem law_join {p : Program} {w : World} {s₁ : Shared} {mg mb : Str → Option Value} {q : Program} {loose : List Str} {mean : ExcName → Option Value} (T : Top q loose mean mg mb s₁.heap) (KX : (hd.heap_1 w.params).In s₁.heap)
    {a : Addr} {vs : List Value} {ns : List Int} (hL : s₁.heap.IsList a vs.toArray) (hI : IntsAre vs ns) (hl : ns.length ≤ 63) {name : Str} {scope : Scope} {fa : Addr} {cd : Value} {h₁ : Heap} {tk : Nat} {m : Str → Option Value}
    (F : Fr s₁.heap s₁.heap.objs.size h₁ m) (hm : m (Str.ofString "script") = some (.ref a)) {o : Obj} (N : News s₁.heap s₁.heap.objs.size h₁ [(s₁.heap.objs.size + 1, o)]) {v' : Option Value} (ho : o.data = .cell v')
    (hsc : KOk scope ks_law) (hce : (cellsFrom (s₁.heap.objs.size + 1) scope.names []).lookup (Str.ofString "tape") = some (s₁.heap.objs.size + 1)) {body : List Stmt} (hb : bodyOf (hd.heap_1 w.params) 234 = body) {Q : Flow → Shared → Prop} {E : Value → Shared → Prop}
    (hQ : ∀ s', (∀ b o, s₁.heap.get? b = some o → s'.heap.get? b = some o) → s'.os = s₁.os → s'.gens = s₁.gens → Q (.ret (.bool true)) s') :
    wpAny (model p w) (callerA.deeper (envOfC name scope s₁.heap.objs.size fa cd)) (execs body (envOfC name scope s₁.heap.objs.size fa cd)) Q E { heap := h₁, gens := s₁.gens, drawn := s₁.drawn, toks := tk, os := s₁.os } := by
  subst hb
  let c : Cx := ⟨p, w, hd.heap_1 w.params, s₁.heap, KX, mg, mb, T.g, T.b, T.builtins, T.nolimit⟩
  let H : AH := fun x => if x = s₁.heap.objs.size + 1 then some (.cell none) else none
  have K : EnvOk (envOfC name scope s₁.heap.objs.size fa cd) s₁.heap.objs.size ks_law := ⟨hsc.1, rfl, rfl, rfl, hsc.2⟩
  have hN := N _ (List.mem_singleton.mpr rfl)
  have main := law_ws (c := c) rfl (n := 0) (A := callerA.deeper (envOfC name scope s₁.heap.objs.size fa cd)) (H := H) plain (law_aok _) K hce (by show (if _ = _ then _ else _) = _; rw [if_pos rfl]) hL hI hl
  have ab : Abs c s₁.heap.objs.size [(4016016503283, .ref a)] H { heap := h₁, gens := s₁.gens, drawn := s₁.drawn, toks := tk, os := s₁.os } := by
    refine ⟨F.keep, F.above, ⟨m, F.ns, fun x i v hx hv => ?_⟩, fun x ob hx => ?_⟩
    · simp only [List.lookup_cons, List.lookup_nil] at hv
      split at hv
      · rename_i e
        cases hv
        have e1 : i = 4016016503283 := by simpa using e
        subst e1
        rw [nid_inj hx n_script]
        exact ⟨_, hm, rfl⟩
      · cases hv
    · change (if x = s₁.heap.objs.size + 1 then _ else _) = _ at hx
      split at hx
      · rename_i e
        cases hx
        subst e
        exact ⟨Nat.le_succ _, Nat.succ_ne_self _, o, v', hN.1, ho, fun _ h => by cases h⟩
      · cases hx
  refine wpAny_mono (main _ ab) (fun f s' h => ?_) fun _ _ e => e.elim
  obtain ⟨x, l, H', r, ab', st, rfl⟩ := h
  obtain ⟨v, rfl, r⟩ := r
  obtain rfl : v = .bool true := r
  obtain ⟨h', t', e⟩ := st.rest
  exact hQ s' ab'.base (by rw [e]) (by rw [e])
theorem law_post (args xs : List WData) : PySem.Challenge.rw_rh0071_01.row.claim.post args (.bool true) xs = true := by
  show (WShape.has [] (.bool true) .bool && (WTm.eq .res (.lit (.bool true))).holds [] { args := args, res := some (.bool true), after := xs }) = true
  rw [Bool.and_eq_true]
  refine ⟨by rfl, holdsW_of_value ?_⟩
  simp [WTm.value, same]
end Mine
local macro_rules | `(tactic| k_qdec) => `(tactic| decide +kernel)
set_option maxRecDepth 100000 in
set_option maxHeartbeats 8000000 in
theorem PySem.Challenge.cw_rh0071_01_holds : PySem.Challenge.rw_rh0071_01.Holds :=
  Mine.hd (by
  w_strict k_go0
  rename_i hL _ _ _ hI _ _ _ _ _ _ _ F _ ho N _
  refine Mine.law_join ‹Top _ _ _ _ _ _› ‹Frag.In _ _› hL hI (by omega) F (by rfl) N ho (Mine.KOk.of rfl (by kernel_rfl)) (by rfl) (Mine.bodyOf_is (by rfl)) (fun s' h1 h2 h3 => ?_)
  exact ⟨.inl ⟨.bool true, .bool true, [], rfl, fun _ => rfl, .bool true, Mine.law_post _ _, fun _ => ⟨List.nodup_nil, fun _ h => nomatch h⟩⟩, h1, h2, by rw [h3]; assumption⟩)
