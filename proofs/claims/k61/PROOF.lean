import PyProof.Rows.All
import HandS.ForMost
import HandS.Exc
import HandS.ExcOwn
import HandS.WordsExc
import HandS.IsInst
import HandS.CallSlots
import HandS.TupAny
import HandS.Flow
import HandS.Deep
import HandS.ExcInit
import HandS.ExcField
import HandS.ExcIs
import KE.KDictKeyed
import KE.KeyNested
import HandS.TupMul
import HandS.Flt
import HandS.Wide
import PyProof.WalkInts
import PyProof.MaxThree
import KE.KTupSum
import HandS.SetFor
import HandS.SortInts
import HandS.Strs
import PyProof.WalksMore
import PyProof.FactsAll.subtypes_4
import PyProof.Rows.SortStr
import PyProof.Rows.SortKeyStr
import HandS.Conv
import HandS.CallRecv
import HandS.Text
import HandS.Iter
import KE.GoesMore
import KE.GoesEnum
import PyProof.Rows.StrRev
import HandS.CallLocal
import PyProof.Rows.RuleN_isinstance
import HandS.SetKeys
import HandS.More
import HandS.TupLen
import HandS.Zip
import HandS.Style
import HandS.TryOnly
import PySem.Challenge.RW_seekwright_k61_whole_walks_of_trees
set_option Elab.async false
set_option linter.all false
set_option maxRecDepth 100000
section SNK
/-! NK: dicts whose keys are tuples of numbers, texts, None and such tuples, over the layer. -/
namespace Mp
open PySem PySem.Spec PyProof.Rows L2

section
variable (K : PySem.W.Frag) (H : Hp)
mutual
/-- the value is the key -/
inductive NV : V → NestedKey → Prop
  | non : NV .non .none
  | int (i : Int) : NV (.int i) (.num i)
  | str (x : Str) : NV (.str x) (.text x)
  | tup {a : Addr} {vs : List V} {ks : List NestedKey} (h : SqT K H a vs) (r : NVs vs ks) : NV (.ref a) (.tup ks)
inductive NVs : List V → List NestedKey → Prop
  | nil : NVs [] []
  | cons {v : V} {k : NestedKey} {vs : List V} {ks : List NestedKey} (r : NV v k) (t : NVs vs ks) : NVs (v :: vs) (k :: ks)
end
end
section
variable {X : Cx} {pins : List (Addr × Obj)} {σ : L2.St} {H : Hp} {s : Shared}
mutual
theorem NV.is (I : Inv X pins σ H s) : ∀ {v : V} {k : NestedKey} {u : Value}, NV X.K H v k → RelV v u → NestedIs s.heap k u
  | _, .none, u, h, r => by
    cases h
    have r : u = Value.none := r
    rw [r]; exact .none
  | _, .num i, u, h, r => by
    cases h
    obtain ⟨t, rfl⟩ := r
    exact .int i t
  | _, .text x, u, h, r => by
    cases h
    obtain ⟨t, rfl⟩ := r
    exact .text x t
  | _, .tup ks, u, h, r => by
    cases h with
    | @tup a vs _ hs q =>
      have r : u = Value.ref a := r
      subst r
      obtain ⟨its, rv, ⟨o, h1, h2, n, h3⟩, _⟩ := I.tuple hs
      exact .tup h1 h2 h3 (NVs.are I q (by simpa using rv))
theorem NVs.are (I : Inv X pins σ H s) : ∀ {vs : List V} {ks : List NestedKey} {us : List Value}, NVs X.K H vs ks → Vals vs us → NestedAll s.heap ks us
  | _, [], _, h, r => by
    cases h
    cases r
    exact .nil
  | _, k :: ks, _, h, r => by
    cases h with
    | cons q t =>
      cases r with
      | cons r1 r2 => exact .cons (NV.is I q r1) (NVs.are I t r2)
end
end
/-- what stands in the dict at a: its keys, where they stand, its values -/
abbrev Ws := List (NestedKey × Addr × V)
def relW (p : NestedKey × Addr × V) (q : NestedKey × Addr × Value) : Prop := p.1 = q.1 ∧ p.2.1 = q.2.1 ∧ RelV p.2.2 q.2.2
def entN (w : World) (x : NestedKey × Addr × Value) : DictEntry := ⟨x.1.hash w, .ref x.2.1, x.2.2⟩
def DNp (w : World) (a : Addr) (ws : Ws) (h : Heap) : Prop := (a == sysModules) = false ∧ ∃ xs, Paired relW ws xs ∧ ∃ o es ep, h.get? a = some o ∧ o.ExactDict ∧ o.data = .dict es ep ∧ es.toList = xs.map (entN w) ∧ (xs.map (·.1)).Nodup
def DNO (w : World) (a : Addr) (ws : Ws) : HO := .ext (DNp w a ws)
def atW (ws : Ws) (k : NestedKey) : Option V := (ws.find? fun x => decide (x.1 = k)).map (·.2.2)
def putW (ws : Ws) (k : NestedKey) (b : Addr) (v : V) : Ws := if (atW ws k).isSome then ws.map fun x => if x.1 = k then (x.1, x.2.1, v) else x else ws ++ [(k, b, v)]
theorem atW_rel {ws : Ws} {xs : List (NestedKey × Addr × Value)} (r : Paired relW ws xs) (k : NestedKey) : RelO (atW ws k) ((atKey xs k).map (·.2)) := by
  induction r with
  | nil => exact trivial
  | @cons p q ps qs h t ih =>
    by_cases e : p.1 = k
    · have e' : q.1 = k := by rw [← h.1]; exact e
      simp [atW, atKey, List.find?_cons, e, e']
      exact h.2.2
    · have e' : ¬ q.1 = k := by rw [← h.1]; exact e
      simpa [atW, atKey, List.find?_cons, e, e'] using ih
theorem isSome_rel {ws : Ws} {xs : List (NestedKey × Addr × Value)} (r : Paired relW ws xs) (k : NestedKey) : (atW ws k).isSome = (atKey xs k).isSome := by
  have z := (atW_rel r k).isSome_eq
  rwa [Option.isSome_map] at z
theorem snoc_rel {ws : Ws} {xs : List (NestedKey × Addr × Value)} (r : Paired relW ws xs) {p : NestedKey × Addr × V} {q : NestedKey × Addr × Value} (h : relW p q) : Paired relW (ws ++ [p]) (xs ++ [q]) := by
  induction r with
  | nil => exact .cons h .nil
  | cons h t ih => exact .cons h ih
theorem chg_rel {ws : Ws} {xs : List (NestedKey × Addr × Value)} (r : Paired relW ws xs) {k : NestedKey} {v : V} {u : Value} (rv : RelV v u) : Paired relW (ws.map fun x => if x.1 = k then (x.1, x.2.1, v) else x) (xs.map (putAt k u)) := by
  induction r with
  | nil => exact .nil
  | @cons p q ps qs h t ih =>
    refine .cons ?_ ih
    unfold putAt
    dsimp only
    by_cases e : p.1 = k
    · have e' : q.1 = k := by rw [← h.1]; exact e
      rw [if_pos e, if_pos e']
      exact ⟨h.1, h.2.1, rv⟩
    · have e' : ¬ q.1 = k := by rw [← h.1]; exact e
      rw [if_neg e, if_neg e']
      exact h
theorem putW_rel {ws : Ws} {xs : List (NestedKey × Addr × Value)} (r : Paired relW ws xs) {k : NestedKey} {b : Addr} {v : V} {u : Value} (rv : RelV v u) : Paired relW (putW ws k b v) (storedH xs k b u) := by
  unfold putW storedH
  rw [isSome_rel r k]
  split
  · exact chg_rel r rv
  · exact snoc_rel r ⟨rfl, rfl, rv⟩
/-- all keys stand -/
def KeysW (K : PySem.W.Frag) (H : Hp) (ws : Ws) : Prop := ∀ x ∈ ws, NV K H (.ref x.2.1) x.1 ∧ x.1.depth ≤ 8
section
variable {X : Cx} {pins : List (Addr × Obj)} {σ : L2.St} {H : Hp} {s : Shared} {a b : Addr} {ws : Ws} {k : NestedKey} {v : V} {u r : Value} {A : Around} {E : Value → Shared → Prop}
abbrev NKd (X : Cx) := nestedKind X.prog X.w
theorem dn_of (I : Inv X pins σ H s) (e : H a = some (DNO X.w a ws)) (hk : KeysW X.K H ws) : (a == sysModules) = false ∧ ∃ xs, Paired relW ws xs ∧ s.heap.DictOfH (NKd X) a xs := by
  obtain ⟨hs, xs, rel, o, es, ep, h1, h2, h3, h4, h5⟩ := (I.hok a _ e).1
  refine ⟨hs, xs, rel, o, es, ep, h1, h2, h3, h4, ?_, h5⟩
  clear h4 h5
  have all : ∀ {ws : Ws} {xs : List (NestedKey × Addr × Value)}, Paired relW ws xs → KeysW X.K H ws → ∀ x ∈ xs, (NKd X).is s.heap x.1 x.2.1 := by
    intro ws xs q
    induction q with
    | nil => intro _ x hx; exact nomatch hx
    | @cons p q ps qs hq t ih =>
      intro kk x hx
      rcases List.mem_cons.mp hx with z | hx
      · subst z
        obtain ⟨n, d⟩ := kk p List.mem_cons_self
        rw [← hq.1, ← hq.2.1]
        exact ⟨n.is I rfl, d⟩
      · exact ih (fun y hy => kk y (List.mem_cons_of_mem _ hy)) x hx
  exact all rel hk
theorem dno_new {h' : Heap} {H' : Hp} {xs : List (NestedKey × Addr × Value)} (hs : (a == sysModules) = false) (rel : Paired relW ws xs) (dd : h'.DictOfH (NKd X) a xs) : ObjOk X.prog X.w H' h' a (DNO X.w a ws) := by
  obtain ⟨o, es, ep, h1, h2, h3, h4, _, h5⟩ := dd
  refine ⟨⟨hs, xs, rel, o, es, ep, h1, h2, h3, h4, h5⟩, ⟨o, h1⟩, fun g1 g2 p keep => ?_⟩
  obtain ⟨hs, xs, rel, o, es, ep, h1, h2⟩ := p
  exact ⟨hs, xs, rel, o, es, ep, keep o h1, h2⟩
theorem room8 (hu : A.units + 64 < cLine) : (NKd X).room A.in1 := by
  show A.in1.units + 8 < cLine
  have : A.in1.units ≤ A.units + 1 := by first | exact Nat.le_refl _ | simp [Around.in1]
  omega
theorem key8 (I : Inv X pins σ H s) (n : NV X.K H (.ref b) k) (d : k.depth ≤ 8) : (NKd X).is s.heap k b := ⟨n.is I rfl, d⟩
/-- d[k], there -/
theorem n_get {Q : Value → Shared → Prop} (hu : A.units + 64 < cLine) (I : Inv X pins σ H s) (e : H a = some (DNO X.w a ws)) (hk : KeysW X.K H ws) (n : NV X.K H (.ref b) k) (d : k.depth ≤ 8) (g : atW ws k = some v)
    (h : ∀ w' s', Inv X pins σ H s' → RelV v w' → Q w' s') : wpAny (model X.prog X.w) A (getItem (.ref a) (.ref b)) Q E s := by
  obtain ⟨_, xs, rel, dd⟩ := dn_of I e hk
  obtain ⟨w', hw, rw'⟩ := RelO.some_of (v := v) (o := (atKey xs k).map (·.2)) (by rw [← g]; exact atW_rel rel k)
  obtain ⟨p, hp, hp2⟩ := Option.map_eq_some_iff.mp hw
  refine wpAny_getItem_heap (room8 hu) (key8 I n d) dd hp ?_
  rw [hp2]
  exact h w' _ (I.tok _) rw'
theorem n_in {Q : Value → Shared → Prop} (hu : A.units + 64 < cLine) (I : Inv X pins σ H s) (e : H a = some (DNO X.w a ws)) (hk : KeysW X.K H ws) (n : NV X.K H (.ref b) k) (d : k.depth ≤ 8)
    (h : ∀ s', Inv X pins σ H s' → Q (.bool (atW ws k).isSome) s') : wpAny (model X.prog X.w) A (compareOp .In (.ref b) (.ref a)) Q E s := by
  obtain ⟨hs, xs, rel, dd⟩ := dn_of I e hk
  refine wpAny_in_heap (room8 hu) (key8 I n d) hs dd ?_
  rw [← isSome_rel rel k]
  exact h _ (I.tok _)
theorem n_notin {Q : Value → Shared → Prop} (hu : A.units + 64 < cLine) (I : Inv X pins σ H s) (e : H a = some (DNO X.w a ws)) (hk : KeysW X.K H ws) (n : NV X.K H (.ref b) k) (d : k.depth ≤ 8)
    (h : ∀ s', Inv X pins σ H s' → Q (.bool (!(atW ws k).isSome)) s') : wpAny (model X.prog X.w) A (compareOp .NotIn (.ref b) (.ref a)) Q E s := by
  obtain ⟨hs, xs, rel, dd⟩ := dn_of I e hk
  refine wpAny_notIn_heap (room8 hu) (key8 I n d) hs dd ?_
  rw [← isSome_rel rel k]
  exact h _ (I.tok _)
theorem n_set {Q : Unit → Shared → Prop} (hu : A.units + 64 < cLine) (I : Inv X pins σ H s) (e : H a = some (DNO X.w a ws)) (hk : KeysW X.K H ws) (n : NV X.K H (.ref b) k) (d : k.depth ≤ 8) (hl : ws.length ≤ sizeLine) (rv : RelV v r)
    (h : ∀ s', Inv X pins σ (upd H a (DNO X.w a (putW ws k b v))) s' → Q () s') : wpAny (model X.prog X.w) A (setItem (.ref a) (.ref b) r) Q E s := by
  obtain ⟨hs, xs, rel, dd⟩ := dn_of I e hk
  refine wpAny_setItem_heap (hsz := by rw [← Paired.length rel]; exact hl) (room8 hu) (key8 I n d) dd fun h' dd' sb => h _ ?_
  have he : ∃ q, h'.get? a = some q := let ⟨q, _, _, hq, _⟩ := dd'; ⟨q, hq⟩
  exact d_write I (by rw [e]; exact True.intro) sb he (dno_new hs (putW_rel rel rv) dd')
theorem n_get1 {Q : Value → Shared → Prop} (hu : A.units + 64 < cLine) (I : Inv X pins σ H s) (e : H a = some (DNO X.w a ws)) (hk : KeysW X.K H ws) (n : NV X.K H (.ref b) k) (d : k.depth ≤ 8)
    (h : ∀ w' s', Inv X pins σ H s' → RelV ((atW ws k).getD .non) w' → Q w' s') : wpAny (model X.prog X.w) A (call (.builtin "dict.get") [.ref a, .ref b]) Q E s := by
  obtain ⟨hs, xs, rel, dd⟩ := dn_of I e hk
  exact call_meetsIn PySem.F.slot_dict_get dd.typeIs PySem.F.entry_dict_get (PySem.F.args_dict_get_2 _ _) (meetsH_dict_get (NKd X) a b hs) ⟨room8 hu, k, xs, key8 I n d, dd, h _ _ (I.tok _) ((atW_rel rel k).getD rfl)⟩
theorem n_get2 {y : V} {Q : Value → Shared → Prop} (hu : A.units + 64 < cLine) (I : Inv X pins σ H s) (e : H a = some (DNO X.w a ws)) (hk : KeysW X.K H ws) (n : NV X.K H (.ref b) k) (d : k.depth ≤ 8) (ry : RelV y r)
    (h : ∀ w' s', Inv X pins σ H s' → RelV ((atW ws k).getD y) w' → Q w' s') : wpAny (model X.prog X.w) A (call (.builtin "dict.get") [.ref a, .ref b, r]) Q E s := by
  obtain ⟨hs, xs, rel, dd⟩ := dn_of I e hk
  exact call_meetsIn PySem.F.slot_dict_get dd.typeIs PySem.F.entry_dict_get (PySem.F.args_dict_get_3 _ _ _) (meetsH_dict_get_default (NKd X) a b hs r) ⟨room8 hu, k, xs, key8 I n d, dd, h _ _ (I.tok _) ((atW_rel rel k).getD ry)⟩
theorem n_setd {y : V} {Q : Value → Shared → Prop} (hu : A.units + 64 < cLine) (I : Inv X pins σ H s) (e : H a = some (DNO X.w a ws)) (hk : KeysW X.K H ws) (n : NV X.K H (.ref b) k) (d : k.depth ≤ 8) (hl : ws.length ≤ sizeLine) (ry : RelV y r)
    (h1 : ∀ v, atW ws k = some v → ∀ w' s', Inv X pins σ H s' → RelV v w' → Q w' s') (h2 : atW ws k = none → ∀ s', Inv X pins σ (upd H a (DNO X.w a (putW ws k b y))) s' → Q r s') :
    wpAny (model X.prog X.w) A (call (.builtin "dict.setdefault") [.ref a, .ref b, r]) Q E s := by
  obtain ⟨hs, xs, rel, dd⟩ := dn_of I e hk
  have rk := atW_rel rel k
  refine call_setdefault_heap (hsz := by rw [← Paired.length rel]; exact hl) (room8 hu) (key8 I n d) hs dd (fun p hp => ?_) fun hn h' dd' sb => ?_
  · rw [hp] at rk
    cases hw : atW ws k with
    | none => rw [hw] at rk; exact rk.elim
    | some v =>
      rw [hw] at rk
      exact h1 v hw _ _ (I.tok _) rk
  · have hw : atW ws k = none := by
      rw [hn] at rk
      cases hw : atW ws k with
      | none => rfl
      | some v => rw [hw] at rk; exact rk.elim
    have he : ∃ q, h'.get? a = some q := let ⟨q, _, _, hq, _⟩ := dd'; ⟨q, hq⟩
    exact h2 hw _ (d_write I (by rw [e]; exact True.intro) sb he (dno_new hs (putW_rel rel ry) dd'))
end
end Mp
end SNK
section SMinMax
/-! MinMax: max, min of a tuple of ints; min of four ints; // by great ints. -/
namespace Mp.Mm
open PySem PySem.Spec PyProof.Rows L2
section
variable {prog : Program} {w : World} {A : Around} {E : Value → Shared → Prop} {s : Shared} {l : Addr} {xs : Array (Int × Tok)} {Q : Value → Shared → Prop}
theorem old2 {h : Heap} {b : Addr} {o : PySem.Obj} {I : Addr} (e : h.get? b = some o) (hI : I = h.objs.size) : b ∉ [I] := fun z => by
  have e1 := List.mem_singleton.mp z
  have lt := Heap.lt_size e
  rw [e1, hI] at lt
  exact Nat.lt_irrefl _ lt
theorem max_tup (hh : A.handled = none) (hl : s.heap.IsTuple l (intItems xs)) (hne : 0 < xs.size)
    (h : ∀ v h' tk, (intItems xs)[argBest (fun i j => decide (numAt xs i > numAt xs j)) (xs.size - 1)]? = some v → (∀ b o, s.heap.get? b = some o → h'.get? b = some o) → Q v { s with heap := h', toks := tk }) :
    wpAny (model prog w) A (call (.builtin "max") [.ref l]) Q E s := by
  refine call_max_walk (wpAny_pyIter_tuple hl ?_)
  have lt : l < s.heap.objs.size := let ⟨o, e, _⟩ := hl; Heap.lt_size e
  refine ⟨_, [_, l], [_], _, _, _, _, rfl, Walks.tuple (A := A.in1) hh _ l (Nat.ne_of_lt lt) (intItems xs), ⟨⟨_, Heap.get?_push_size _ rfl, rfl, rfl⟩, hl.push _⟩, fun d hd => ?_, by simpa [intItems] using hne, CmpOf.ints_gt (numAt xs) (fun _ _ => intItems_at), fun v h' tk hP hk => ?_⟩
  · show d < (s.heap.push _).objs.size
    rw [Heap.size_push]
    rcases List.mem_cons.mp hd with rfl | hd
    · exact Nat.lt_succ_self _
    · rw [List.mem_singleton.mp hd]; exact Nat.lt_succ_of_lt lt
  · exact h v h' tk (by simpa [intItems] using hP) fun b o e => hk b o (old2 e rfl) (Heap.get?_push_of_some _ e)
theorem min_tup (hh : A.handled = none) (hl : s.heap.IsTuple l (intItems xs)) (hne : 0 < xs.size)
    (h : ∀ v h' tk, (intItems xs)[argBest (fun i j => decide (numAt xs i < numAt xs j)) (xs.size - 1)]? = some v → (∀ b o, s.heap.get? b = some o → h'.get? b = some o) → Q v { s with heap := h', toks := tk }) :
    wpAny (model prog w) A (call (.builtin "min") [.ref l]) Q E s := by
  refine call_min_walk (wpAny_pyIter_tuple hl ?_)
  have lt : l < s.heap.objs.size := let ⟨o, e, _⟩ := hl; Heap.lt_size e
  refine ⟨_, [_, l], [_], _, _, _, _, rfl, Walks.tuple (A := A.in1) hh _ l (Nat.ne_of_lt lt) (intItems xs), ⟨⟨_, Heap.get?_push_size _ rfl, rfl, rfl⟩, hl.push _⟩, fun d hd => ?_, by simpa [intItems] using hne, CmpOf.ints_lt (numAt xs) (fun _ _ => intItems_at), fun v h' tk hP hk => ?_⟩
  · show d < (s.heap.push _).objs.size
    rw [Heap.size_push]
    rcases List.mem_cons.mp hd with rfl | hd
    · exact Nat.lt_succ_self _
    · rw [List.mem_singleton.mp hd]; exact Nat.lt_succ_of_lt lt
  · exact h v h' tk (by simpa [intItems] using hP) fun b o e => hk b o (old2 e rfl) (Heap.get?_push_of_some _ e)
theorem ints_back {its : List Value} {ns : List Int} (hi : IntsAre its ns) : ∃ xs : Array (Int × Tok), its.toArray = intItems xs ∧ ns = (List.range xs.size).map (numAt xs) ∧ xs.size = ns.length := by
  obtain ⟨xs, e⟩ := hi.allInts.items
  have hn : numsOf (intItems xs).toList = ns := by rw [← e]; exact hi.numsOf
  rw [nums_intItems] at hn
  refine ⟨xs, e, ?_, by rw [← hn]; simp⟩
  rw [← hn]
  refine List.ext_getElem? fun i => ?_
  rw [List.getElem?_map, List.getElem?_map]
  by_cases c : i < xs.size
  · rw [List.getElem?_range c, Array.getElem?_toList, Array.getElem?_eq_getElem c]
    simp [numAt, c]
  · rw [List.getElem?_eq_none (by simpa using Nat.le_of_not_lt c), List.getElem?_eq_none (by simpa using Nat.le_of_not_lt c)]; rfl
end
section
variable {prog : Program} {w : World} {A : Around} {E : Value → Shared → Prop} {s : Shared}
theorem args4 (a b c d : Value) : argsOk "min" ⟨[a, b, c, d], []⟩ := by unfold argsOk; kernel_rfl
/-- min(a, b, c, d) -/
theorem min_four {a b c d : Int × Tok} {Q : Value → Shared → Prop} (hh : A.handled = none)
    (h : ∀ h' tk m t', (∀ b o, s.heap.get? b = some o → h'.get? b = some o) → m ∈ [a.1, b.1, c.1, d.1] → (∀ y ∈ [a.1, b.1, c.1, d.1], m ≤ y) → Q (.int m t') { s with heap := h', toks := tk }) :
    wpAny (model prog w) A (call (.builtin "min") [.int a.1 a.2, .int b.1 b.2, .int c.1 c.2, .int d.1 d.2]) Q E s := by
  have name : (toString "min" ++ toString ".loop" : String) = "min.loop" := by decide
  refine call_function_tree F.kind_min F.plain_min F.entry_min (args4 _ _ _ _) ?_
  show wpAny _ A.in1 (Builtin.Builtins.bindParams "min" ["key", "default"] 0 ⟨[], []⟩ >>= _) _ _ s
  refine wpAny_bind (wpAny_of_eq (show Builtin.Builtins.bindParams "min" ["key", "default"] 0 ⟨[], []⟩ = pure [none, none] from rfl) ?_)
  show wpAny _ A.in1 (newTuple [.int a.1 a.2, .int b.1 b.2, .int c.1 c.2, .int d.1 d.2] >>= _) _ _ s
  refine wpAny_bind (wpAny_newObj_type ?_)
  have hT : (s.heap.push { cls := .type "tuple", data := .seq #[.int a.1 a.2, .int b.1 b.2, .int c.1 c.2, .int d.1 d.2] }).IsTuple s.heap.objs.size (intItems #[a, b, c, d]) := ⟨_, Heap.get?_push_size _ rfl, rfl, 0, by simp [intItems]⟩
  refine wpAny_bind (wpAny_pyIter_tuple (s := { s with heap := s.heap.push { cls := .type "tuple", data := .seq #[.int a.1 a.2, .int b.1 b.2, .int c.1 c.2, .int d.1 d.2] } }) hT ?_)
  refine wpAny_bind (wpAny_newObj_type ?_)
  rw [name]
  have z1 : (s.heap.push { cls := .type "tuple", data := .seq #[.int a.1 a.2, .int b.1 b.2, .int c.1 c.2, .int d.1 d.2] }).objs.size = s.heap.objs.size + 1 := Heap.size_push ..
  have W := Walks.tuple (prog := prog) (w := w) (A := A.in1) hh (s.heap.push { cls := .type "tuple", data := .seq #[.int a.1 a.2, .int b.1 b.2, .int c.1 c.2, .int d.1 d.2] }).objs.size s.heap.objs.size (by rw [z1]; exact Nat.ne_of_lt (Nat.lt_succ_self _)) (intItems #[a, b, c, d])
  generalize hh1 : (s.heap.push { cls := .type "tuple", data := .seq #[.int a.1 a.2, .int b.1 b.2, .int c.1 c.2, .int d.1 d.2] }) = h1 at hT W z1 ⊢
  dsimp only
  have z2 : (h1.push { cls := .type "tuple_iterator", data := .fields #[.ref s.heap.objs.size, .int 0 0] }).objs.size = h1.objs.size + 1 := Heap.size_push ..
  refine wpAny_pure ⟨plainId_quiet F.plain_min_loop _, codeAny_min_loop_first W _ (CmpOf.ints_lt (numAt #[a, b, c, d]) (fun _ _ => intItems_at)) _ ?_ (by simp [intItems]) (W.frame _ _ _ ⟨⟨_, Heap.get?_push_size _ rfl, rfl, rfl⟩, hT.push _⟩ fun b _ o e => Heap.get?_push_of_some _ e) (Heap.get?_push_size _ rfl) fun v h' tk hP hk => ?_⟩
  · rw [z2]
    intro hm
    rcases List.mem_cons.mp hm with e | hm
    · exact Nat.succ_ne_self _ e
    · have e : h1.objs.size + 1 = s.heap.objs.size := List.mem_singleton.mp hm
      rw [z1] at e
      exact absurd (show (s.heap.objs.size + 1 + 1 : Nat) = s.heap.objs.size from e) (by omega)
  · have hv : (intItems #[a, b, c, d])[argBest (fun i j => decide (numAt #[a, b, c, d] i < numAt #[a, b, c, d] j)) 3]? = some v := by
      have : (intItems #[a, b, c, d]).size - 1 = 3 := by simp [intItems]
      rw [← this]; exact hP
    obtain ⟨t, rfl⟩ := intItems_at hv
    obtain ⟨g1, g2⟩ := argBest_lt (numAt #[a, b, c, d]) 3
    have all : ∀ y ∈ [a.1, b.1, c.1, d.1], ∃ j, j ≤ 3 ∧ numAt #[a, b, c, d] j = y := fun y hy => by
      simp only [List.mem_cons, List.not_mem_nil, or_false] at hy
      rcases hy with rfl | rfl | rfl | rfl
      · exact ⟨0, by omega, by simp [numAt]⟩
      · exact ⟨1, by omega, by simp [numAt]⟩
      · exact ⟨2, by omega, by simp [numAt]⟩
      · exact ⟨3, by omega, by simp [numAt]⟩
    have mem : ∀ j, j ≤ 3 → numAt #[a, b, c, d] j ∈ [a.1, b.1, c.1, d.1] := fun j hj => by
      have : j = 0 ∨ j = 1 ∨ j = 2 ∨ j = 3 := by omega
      rcases this with rfl | rfl | rfl | rfl <;> simp [numAt]
    refine h _ _ _ t (fun b o e => ?_) (mem _ g1) fun y hy => ?_
    · have lt := Heap.lt_size e
      refine hk b o (fun z => ?_) (fun z => ?_) (Heap.get?_push_of_some _ (Heap.get?_push_of_some _ ?_))
      · have e : b = h1.objs.size := List.mem_singleton.mp z
        rw [e, z1] at lt
        exact absurd (show (s.heap.objs.size + 1 : Nat) < s.heap.objs.size from lt) (by omega)
      · rw [z, z2, z1] at lt
        exact absurd (show (s.heap.objs.size + 1 + 1 : Nat) < s.heap.objs.size from lt) (by omega)
      · rw [← hh1]; exact Heap.get?_push_of_some _ e
    · obtain ⟨j, hj, rfl⟩ := all y hy
      exact g2 j hj
end
section
variable {X : Cx}
def rMin4 : List V → Hp → VK → Prop := fun vs H Q => ∃ a b c d : Int, vs = [.int a, .int b, .int c, .int d] ∧ ∀ m, m ∈ [a, b, c, d] → (∀ y ∈ [a, b, c, d], m ≤ y) → Q (.int m) H
theorem cr_min4 (hc : X.calm = true) : CallR X (.builtin "min") rMin4 := by
  intro pins s σ H vs us Q I r h
  obtain ⟨a, b, c, d, rfl, q⟩ := h
  cases r with
  | cons r1 r =>
    cases r with
    | cons r2 r =>
      cases r with
      | cons r3 r =>
        cases r with
        | cons r4 r =>
          cases r
          obtain ⟨t1, rfl⟩ := r1
          obtain ⟨t2, rfl⟩ := r2
          obtain ⟨t3, rfl⟩ := r3
          obtain ⟨t4, rfl⟩ := r4
          exact min_four (a := (a, t1)) (b := (b, t2)) (c := (c, t3)) (d := (d, t4)) (I.ok.hd hc) fun h' tk m t' hk h1 h2 => ⟨.int m, H, I.kept hk, ⟨t', rfl⟩, q m h1 h2⟩
def rMaxT (K : PySem.W.Frag) : List V → Hp → VK → Prop := fun vs H Q => ∃ (a : Addr) (ns : List Int), vs = [V.ref a] ∧ SqT K H a (ns.map V.int) ∧ 0 < ns.length ∧ ∀ m, m ∈ ns → (∀ y, y ∈ ns → y ≤ m) → Q (.int m) H
def rMinT (K : PySem.W.Frag) : List V → Hp → VK → Prop := fun vs H Q => ∃ (a : Addr) (ns : List Int), vs = [V.ref a] ∧ SqT K H a (ns.map V.int) ∧ 0 < ns.length ∧ ∀ m, m ∈ ns → (∀ y, y ∈ ns → m ≤ y) → Q (.int m) H
/-- sum(xs) of a tuple of ints -/
def rSumT (K : PySem.W.Frag) : List V → Hp → VK → Prop := fun vs H Q => ∃ (a : Addr) (ns : List Int), vs = [V.ref a] ∧ SqT K H a (ns.map V.int) ∧ Q (.int ns.sum) H
theorem cr_sumT (hc : X.calm = true) : CallR X (.builtin "sum") (rSumT X.K) := by
  intro pins s σ H vs us Q I r h
  obtain ⟨a, ns, rfl, hs, q⟩ := h
  obtain ⟨its, rv, hl, _⟩ := I.tuple hs
  rw [Vals.ref1 r]
  have hi := rv.ints
  have hl : s.heap.IsTuple a its.toArray := hl
  obtain ⟨xs, e⟩ := hi.allInts.items
  have hn : numsOf (intItems xs).toList = ns := by rw [← e]; exact hi.numsOf
  rw [nums_intItems] at hn
  rw [e] at hl
  refine PySem.W.ktm_sumG (I.ok.hd hc) hl fun h' tk t' hk => ?_
  rw [preSum_eq, List.take_of_length_le (by simp), hn]
  exact ⟨.int _, H, I.kept hk, ⟨_, rfl⟩, q⟩
theorem cr_maxT (hc : X.calm = true) : CallR X (.builtin "max") (rMaxT X.K) := by
  intro pins s σ H vs us Q I r h
  obtain ⟨a, ns, rfl, hs, hne, q⟩ := h
  obtain ⟨its, rv, hl, _⟩ := I.tuple hs
  rw [Vals.ref1 r]
  obtain ⟨xs, e, en, hsz⟩ := ints_back rv.ints
  have hl' : s.heap.IsTuple a its.toArray := hl
  rw [e] at hl'
  refine max_tup (I.ok.hd hc) hl' (by omega) fun v h' tk hv hk => ?_
  obtain ⟨t, rfl⟩ := intItems_at hv
  obtain ⟨h1, h2⟩ := argBest_gt (numAt xs) (xs.size - 1)
  refine ⟨.int _, H, I.kept hk, ⟨t, rfl⟩, q _ ?_ fun y hy => ?_⟩
  · rw [en]; exact List.mem_map.mpr ⟨_, List.mem_range.mpr (by omega), rfl⟩
  · rw [en] at hy
    obtain ⟨j, hj, rfl⟩ := List.mem_map.mp hy
    exact h2 j (by have := List.mem_range.mp hj; omega)
theorem cr_minT (hc : X.calm = true) : CallR X (.builtin "min") (rMinT X.K) := by
  intro pins s σ H vs us Q I r h
  obtain ⟨a, ns, rfl, hs, hne, q⟩ := h
  obtain ⟨its, rv, hl, _⟩ := I.tuple hs
  rw [Vals.ref1 r]
  obtain ⟨xs, e, en, hsz⟩ := ints_back rv.ints
  have hl' : s.heap.IsTuple a its.toArray := hl
  rw [e] at hl'
  refine min_tup (I.ok.hd hc) hl' (by omega) fun v h' tk hv hk => ?_
  obtain ⟨t, rfl⟩ := intItems_at hv
  obtain ⟨h1, h2⟩ := argBest_lt (numAt xs) (xs.size - 1)
  refine ⟨.int _, H, I.kept hk, ⟨t, rfl⟩, q _ ?_ fun y hy => ?_⟩
  · rw [en]; exact List.mem_map.mpr ⟨_, List.mem_range.mpr (by omega), rfl⟩
  · rw [en] at hy
    obtain ⟨j, hj, rfl⟩ := List.mem_map.mp hy
    exact h2 j (by have := List.mem_range.mp hj; omega)
end
end Mp.Mm
end SMinMax
section SSetS
set_option maxHeartbeats 4000000
/-! SetS: set(xs) of ints and texts, sorted of such a set, of any number below 4095. -/
namespace Mp.Se
open PySem PySem.Spec PyProof.Rows L2

/-- the key that a value is -/
def kv : Value → Key
  | .int i _ => .inl i
  | .str x _ => .inr x
  | _ => .inl 0
def ke (e : Int × Value) : Key := kv e.2
theorem kv_is {k : Key} {v : Value} (h : keyIs k v = true) : kv v = k := by
  rcases keyIs_shape h with ⟨i, t, rfl, rfl⟩ | ⟨x, t, rfl, rfl⟩ <;> rfl
theorem scan_is {k : Key} {v : Value} (h : keyIs k v = true) : v.scannable = true := by
  rcases keyIs_shape h with ⟨i, t, rfl, rfl⟩ | ⟨x, t, rfl, rfl⟩ <;> rfl
/-- an entry in order -/
def Ok (w : World) (e : Int × Value) : Prop := keyIs (ke e) e.2 = true ∧ e.1 = keyH w (ke e)
/-- the set at a has the keys ks, each once -/
def SM (w : World) (h : Heap) (a : Addr) (ks : List Key) : Prop :=
  ∃ o es ep t, h.get? a = some o ∧ o.ExactSet ∧ o.data = .set es ep t ∧ (∀ e ∈ es.toList, Ok w e) ∧ (es.toList.map ke).Perm ks ∧ ks.Nodup ∧
    es.size < scanBound ∧ t.fits es.size = true ∧ Ris t.place.toList ∧ (w.params.followText "set-order" = true ∨ t.led = true)
section
variable {P : Program} {w : World} {h h' : Heap} {a : Addr} {ks : List Key}
theorem SM.at (R : SM w h a ks) (k : ∀ o, h.get? a = some o → h'.get? a = some o) : SM w h' a ks := by
  obtain ⟨o, es, ep, t, ho, r⟩ := R
  exact ⟨o, es, ep, t, k o ho, r⟩
theorem oks {l : List (Int × Value)} (g : ∀ e ∈ l, Ok w e) : ElemsOf (mixKind P w) l := fun e he =>
  ⟨⟨ke e, (g e he).1, (g e he).2⟩, scan_is (g e he).1⟩
theorem is_ke {e : Int × Value} (g : Ok w e) (k : Key) : keyIs k e.2 = true ↔ ke e = k :=
  ⟨fun q => kv_is q, fun q => q ▸ g.1⟩
theorem mem_ke {l : List (Int × Value)} (g : ∀ e ∈ l, Ok w e) (k : Key) : k ∈ l.map ke ↔ ∃ e ∈ l, keyIs k e.2 = true := by
  rw [List.mem_map]
  exact ⟨fun ⟨e, he, q⟩ => ⟨e, he, (is_ke (g e he) k).2 q⟩, fun ⟨e, he, q⟩ => ⟨e, he, (is_ke (g e he) k).1 q⟩⟩
theorem SM.new (ho : h.get? a = some { cls := .type "set", dict := none, data := .set #[] 0 (.fresh 0 0 (!w.params.followText "set-order")) }) : SM w h a [] := by
  refine ⟨_, #[], 0, _, ho, ⟨rfl, rfl, rfl⟩, rfl, fun e he => by simp at he, by simp, List.nodup_nil, by decide, by rfl, List.Pairwise.nil, ?_⟩
  show _ ∨ (!w.params.followText "set-order") = true
  cases w.params.followText "set-order"
  · exact .inr rfl
  · exact .inl rfl
end
section
variable {P : Program} {w : World} {A : Around} {E : Value → Shared → Prop} {s : Shared} {a : Addr} {ks : List Key}
/-- the entries stand, the table may be laid anew -/
theorem put_ok {g : Bool → Sem Unit} (hg : ∀ (b : Bool) (s₁ : Shared) (Z : Unit → Shared → Prop), Z () s₁ → wpAny (model P w) A (g b) Z E s₁)
    {o : Obj} {es : Array (Int × Value)} {ep : Nat} {t : SetTable} (ho : s.heap.get? a = some o) (hx : o.ExactSet) (hd : o.data = .set es ep t)
    {es1 : Array (Int × Value)} {t2 : SetTable} (g1 : ∀ e ∈ es1.toList, Ok w e) (p1 : (es1.toList.map ke).Perm ks) (n1 : ks.Nodup)
    (hb : es1.size < scanBound) (hf : t2.fits es1.size = true) (hr : Ris t2.place.toList) (hl : w.params.followText "set-order" = true ∨ t2.led = true) {dm : Bool} {R : Option Bool → Shared → Prop}
    (hR : ∀ h', Heap.SameBut a s.heap h' → SM w h' a ks → R (some true) { s with heap := h' }) :
    wpAny (model P w) A (do
        storeSet a es1 t2
        if (!dm && t2.tooFull) = true then do
            g (relayAll t2 es1 (SetTable.grown es1.size)).2.2
            storeSet a (relayAll t2 es1 (SetTable.grown es1.size)).1 (relayAll t2 es1 (SetTable.grown es1.size)).2.1
            pure (some true)
          else pure (some true)) R E s := by
  have one := store_at (es' := es1) (t' := t2) ho hd
  have same := Heap.SameBut.update s.heap a (Obj.putSet es1 t2)
  refine wpAny_bind (wpAny_storeSet_of ho hd ?_ (fits_of_scanBound hb))
  by_cases full : (!dm && t2.tooFull) = true
  · rw [if_pos full]
    have q1 := relayAll_perm t2 es1 (SetTable.grown es1.size)
    have q2 := relayAll_fits t2 es1 (SetTable.grown es1.size)
    have q3 := relayAll_ris t2 es1 (SetTable.grown es1.size)
    have q4 := relayAll_led t2 es1 (SetTable.grown es1.size)
    generalize relayAll t2 es1 (SetTable.grown es1.size) = Z at q1 q2 q3 q4 ⊢
    obtain ⟨es2, t3, gave⟩ := Z
    dsimp only at q1 q2 q3 q4 ⊢
    have hb2 : es2.size < scanBound := by
      have z := q1.length_eq
      rw [Array.length_toList, Array.length_toList] at z
      rw [z]; exact hb
    refine wpAny_bind (hg _ _ _ (wpAny_bind (wpAny_storeSet_of one rfl ?_ (fits_of_scanBound hb2))))
    refine wpAny_pure (hR _ (same.trans (Heap.SameBut.update _ a _)) ⟨_, es2, _, t3, store_at (es' := es2) (t' := t3) one rfl, hx, rfl, fun e he => g1 e (q1.mem_iff.mp he), (q1.map ke).trans p1, n1, hb2, q2, q3, ?_⟩)
    exact hl.imp id fun z => by rw [q4]; exact z
  · rw [if_neg full]
    exact wpAny_pure (hR _ same ⟨_, es1, _, t2, one, hx, rfl, g1, p1, n1, hb, hf, hr, hl⟩)
/-- a key more -/
theorem add_ok {k : Key} {v : Value} {Q : Bool → Shared → Prop} (hk : keyIs k v = true) (R : SM w s.heap a ks) (room : ks.length + 1 < scanBound)
    (hQ : ∀ h' b js, Heap.SameBut a s.heap h' → SM w h' a js → (js = ks ∧ k ∈ ks ∨ js = k :: ks) → Q b { s with heap := h' }) :
    wpAny (model P w) A (setAddHashed a v (keyH w k)) Q E s := by
  obtain ⟨o, es, ep, t, ho, hx, hd, g, pm, nd, hb, hf, hr, hl⟩ := R
  have el : ElemsOf (mixKind P w) es.toList := oks g
  have sc := scan_is hk
  have kmem : k ∈ ks ↔ ∃ e ∈ es.toList, keyIs k e.2 = true := by rw [← pm.mem_iff]; exact mem_ke g k
  unfold setAddHashed setAddHashedIn
  refine wpAny_holding (wpAny_bind (wpAny_setState_of ho hd hf ?_))
  dsimp only
  rw [byScan_of sc hb el]
  simp only [↓reduceIte]
  unfold setAddByScan
  refine wpAny_bind (wpAny_bind (wpAny_rule (wpAny_bind (wpAny_setScan_of (knd := mixKind P w) (k := k) hk ho hd hf el ?_))))
  have hfe : (mixKind P w).is = keyIs := rfl
  rw [hfe]
  cases hfi : List.findIdx? (fun e => keyIs k e.2) es.toList with
  | some j =>
    dsimp only
    obtain ⟨hj, pj, _⟩ := List.findIdx?_eq_some_iff_getElem.mp hfi
    have there : k ∈ ks := kmem.2 ⟨_, List.getElem_mem hj, pj⟩
    exact wpAny_pure (wpAny_pure (hQ s.heap _ ks (Heap.SameBut.refl a s.heap) ⟨o, es, ep, t, ho, hx, hd, g, pm, nd, hb, hf, hr, hl⟩ (.inl ⟨rfl, there⟩)))
  | none =>
    dsimp only
    have gone : k ∉ ks := fun z => by
      obtain ⟨e, he, q⟩ := kmem.1 z
      have c := List.findIdx?_eq_none_iff.mp hfi e he
      rw [q] at c
      cases c
    have hgw : ∀ (b : Bool) {s₁ : Shared} {Z : Unit → Shared → Prop}, Z () s₁ → wpAny (model P w) A (match b with | true => rule "set.scan.the-table-gave-way" | false => pure ()) Z E s₁ :=
      fun b s₁ Z q => by cases b <;> first | exact wpAny_pure q | exact wpAny_rule q
    have q1 := layNew_perm t es (keyH w k) v
    have q2 := layNew_fits t es (keyH w k) v
    have q3 := layNew_ris t es (keyH w k) v hr
    have q4 := layNew_led t es (keyH w k) v
    have ehash : (mixKind P w).hash k = keyH w k := rfl
    generalize layNew t es (keyH w k) v = Z at q1 q2 q3 q4 ⊢
    obtain ⟨es1, t1, dm, gave⟩ := Z
    dsimp only at q1 q2 q3 q4 ⊢
    rw [Array.toList_push] at q1
    have pc : es1.toList.Perm ((keyH w k, v) :: es.toList) := q1.trans (List.perm_append_singleton _ _)
    have p1 : (es1.toList.map ke).Perm (k :: ks) := by
      have z := pc.map ke
      rw [List.map_cons, show ke (keyH w k, v) = k from kv_is hk] at z
      exact z.trans (pm.cons k)
    have g1 : ∀ e ∈ es1.toList, Ok w e := fun e he => by
      rcases List.mem_cons.mp (pc.mem_iff.mp he) with z | z
      · subst z
        have ee : ke (keyH w k, v) = k := kv_is hk
        exact ⟨by rw [ee]; exact hk, by rw [ee]⟩
      · exact g e z
    have n1 : (k :: ks).Nodup := List.nodup_cons.mpr ⟨gone, nd⟩
    have hb1 : es1.size < scanBound := by
      have z := p1.length_eq
      rw [List.length_map, Array.length_toList, List.length_cons] at z
      rw [z]; exact room
    have led1 : w.params.followText "set-order" = true ∨ t1.led = true := hl.imp id fun z => by rw [q4]; exact z
    have fin : ∀ h' b, Heap.SameBut a s.heap h' → SM w h' a (k :: ks) → Q b { s with heap := h' } := fun h' b sb r => hQ h' b _ sb r (.inr rfl)
    refine wpAny_bind (hgw _ ?_)
    split
    · refine wpAny_bind ?_
      rw [hashByValue_scannable 8 sc]
      refine wpAny_pure ?_
      refine put_ok ?_ ho hx hd g1 p1 n1 hb1 ?_ ?_ ?_ fun h' sb r => ?_
      · intro b s₁ Z q; cases b <;> first | exact wpAny_pure q | exact wpAny_rule q
      · first | (split <;> first | exact q2 | exact SetTable.fits_plain_off q2) | exact q2
      · first | (split <;> exact q3) | exact q3
      · first | (split <;> exact led1) | exact led1
      · dsimp only; exact wpAny_pure (fin h' _ sb r)
    · refine wpAny_bind (wpAny_pure ?_)
      simp only [↓reduceIte]
      refine put_ok ?_ ho hx hd g1 p1 n1 hb1 q2 q3 led1 fun h' sb r => ?_
      · intro b s₁ Z q; cases b <;> first | exact wpAny_pure q | exact wpAny_rule q
      · dsimp only; exact wpAny_pure (fin h' _ sb r)

/-- what stands in the set behind i of the keys xs -/
def Upto (w : World) (h : Heap) (S : Addr) (xs : List Key) (i : Nat) : Prop := ∃ js, SM w h S js ∧ js.length ≤ i ∧ ∀ k, k ∈ js ↔ k ∈ xs.take i
theorem loop_ok {I : Addr} {fp wr : List Addr} {G : Array GenState → Array GenState → Prop} {n : Nat} {Pv : Nat → Value → Prop} {St : Nat → Shared → Prop} {R : Result → Shared → Prop}
    (W : WalksS P w A.in1 I fp wr G n Pv St) (S : Addr) (hS : S ∉ fp) (xs : List Key) (hn : n = xs.length) (hb : xs.length + 1 < scanBound) (hv : ∀ i v, Pv i v → ∃ k, xs[i]? = some k ∧ keyIs k v = true) :
    ∀ (m i : Nat) (s : Shared), n - i = m → i ≤ n → St i s → Upto w s.heap S xs i →
      (∀ s', Moved (S :: wr) G s s' → Upto w s'.heap S xs n → R (.ok (.ret .none)) s') →
      codeAny (model P w) A (.builtin "set.update.loop" ⟨[.ref S, .ref I], []⟩) R s := by
  have out : S ∉ wr := fun z => hS (W.sub _ z)
  have more : ∀ b ∈ wr, b ∈ S :: wr := fun b z => List.mem_cons_of_mem _ z
  intro m
  induction m with
  | zero =>
    intro i s hm hi st up hR
    obtain rfl : i = n := by omega
    refine codeAny_builtin F.entry_set_update_loop ?_
    rw [Around.under_plainId F.plain_set_update_loop _]
    show wpAny _ A.in1 (pyNext (.ref I) >>= _) _ _ s
    refine wpAny_bind (W.done s _ _ st fun s' mv => ?_)
    show wpAny _ A.in1 (ret Value.none) _ _ s'
    obtain ⟨js, r, l, q⟩ := up
    exact wpAny_pure (hR s' (mv.mono more) ⟨js, r.at fun o e => mv.heap S o out e, l, q⟩)
  | succ m ih =>
    intro i s hm hi st up hR
    have lt : i < n := by omega
    refine codeAny_builtin F.entry_set_update_loop ?_
    rw [Around.under_plainId F.plain_set_update_loop _]
    show wpAny _ A.in1 (pyNext (.ref I) >>= _) _ _ s
    refine wpAny_bind (W.item i s _ _ lt st fun v s' pv st' mv => ?_)
    obtain ⟨k, hk, iv⟩ := hv i v pv
    obtain ⟨js, r, l, q⟩ := up
    have r' : SM w s'.heap S js := r.at fun o e => mv.heap S o out e
    show wpAny _ A.in1 (holding [v] (setAdd S v) >>= _) _ _ s'
    refine wpAny_bind (wpAny_holding ?_)
    unfold setAdd
    refine wpAny_holding (wpAny_bind ((mixKind P w).pyHash (k := k) iv ?_))
    refine add_ok (P := P) (s := { s' with toks := s'.toks + 1 }) iv r' (by omega) fun h' b js' sb r2 hjs => ?_
    have up' : Upto w h' S xs (i + 1) := by
      refine ⟨js', r2, ?_, fun j => ?_⟩
      · rcases hjs with ⟨e, _⟩ | e <;> rw [e]
        · omega
        · rw [List.length_cons]; omega
      · rw [List.take_add_one, hk]
        rcases hjs with ⟨e, z⟩ | e
        · rw [e, q j, List.mem_append]
          refine ⟨.inl, fun c => c.elim id fun c => ?_⟩
          have c' : j = k := by simpa using c
          rw [c', ← q k]; exact z
        · rw [e, List.mem_cons, q j, List.mem_append]
          simp [or_comm]
    refine wpAny_pure ⟨plainId_quiet F.plain_set_update_loop _, ih (i + 1) _ (by omega) lt (W.frame _ s' _ _ st' (Nat.le_succ _) fun b hb o e => ?_) up' fun s'' mv2 up2 => ?_⟩
    · rw [sb.2 b (fun z : b = S => hS (z ▸ hb))]; exact e
    · refine hR s'' (Moved.trans W.gtrans ((mv.mono more).then_heap (Nat.le_succ _) fun b o hb e => ?_) mv2) up2
      rw [sb.2 b (fun z => hb (by rw [z]; exact List.mem_cons_self))]; exact e

abbrev fresh (w : World) : Obj := { cls := .type "set", dict := none, data := .set #[] 0 (.fresh 0 0 (!w.params.followText "set-order")) }
/-- set(l) of a list -/
theorem call_set {l : Addr} {items : Array Value} (xs : List Key) {Q : Value → Shared → Prop} (hh : A.handled = none) (hl : s.heap.IsList l items) (hn : items.size = xs.length)
    (hi : ∀ (i : Nat) (v : Value), items[i]? = some v → ∃ k, xs[i]? = some k ∧ keyIs k v = true) (hb : xs.length + 1 < scanBound)
    (h : ∀ (h' : Heap) (tk : Nat) (js : List Key), SM w h' s.heap.objs.size js → (∀ k, k ∈ js ↔ k ∈ xs) → js.length ≤ xs.length → (∀ b o, s.heap.get? b = some o → h'.get? b = some o) → Q (.ref s.heap.objs.size) { s with heap := h', toks := tk }) :
    wpAny (model P w) A (call (.type "set") [.ref l]) Q E s := by
  obtain ⟨c, tl, hmro⟩ := F.called_set.mro
  have f1 := F.called_set.made
  have f2 := F.called_set.sub
  have f3 := F.called_set.notType
  have f4 := F.called_set.canCreate
  have f5 := F.typeCall_set_1 (.ref l)
  refine wpAny_call (codeAny_of_tree ?_)
  show wpAny _ _ (callAny (.type "set") _) _ _ _
  refine wpAny_pure ⟨Code.quiet_builtin _ (by decide +kernel), codeAny_builtin F.entry_type_call ?_⟩
  rw [Around.under_plain (weight_type_call_type "set" [.ref l] []) rfl]
  repeat (any_goals (first | assumption | wp_step))
  refine codeAny_mono (code_set_led1 (.ref l) (E := E) (Q₁ := fun v s₁ => v = .ref s.heap.objs.size ∧ s₁ = { s with heap := s.heap.push (fresh w) }) ⟨rfl, rfl⟩) fun r s₁ hr => ?_
  cases r with
  | error e => exact hr
  | ok fl =>
    cases fl with
    | ret obj =>
      obtain ⟨rfl, rfl⟩ := hr
      have at0 : (s.heap.push (fresh w)).get? s.heap.objs.size = some (fresh w) := Heap.get?_push_size _ rfl
      have ty0 : Shared.TypeIs { s with heap := s.heap.push (fresh w) } (.ref s.heap.objs.size) "set" := ⟨_, at0, rfl⟩
      have g1 := F.called_set.init.lookup
      have g2 := F.called_set.init.bind (.ref s.heap.objs.size)
      repeat (any_goals (first | assumption | wp_step))
      refine codeAny_mono (codeAny_call_builtin (R := wants (fun r s₂ => r = .none ∧ ∃ h' tk, s₂ = { s with heap := h', toks := tk } ∧ Upto w h' s.heap.objs.size xs xs.length ∧
          (∀ b o, s.heap.get? b = some o → h'.get? b = some o)) E) F.called_set.init.plain F.entry_set_init (check_set_init_1 ty0 ?_)) fun r₂ s₂ hr₂ => ?_
      · obtain ⟨ol, hol, hcl, nl, hdl⟩ := hl
        obtain ⟨ocls, odict, odata, oslots⟩ := ol
        simp only at hcl hdl
        subst hcl; subst hdl
        have hol' : (s.heap.push (fresh w)).get? l = some { cls := .type "list", dict := odict, data := .seq items nl, slots := oslots } := Heap.get?_push_of_some _ hol
        have k1 := F.sub_list_set
        have k2 := F.sub_list_frozenset
        have k3 : (Value.type "list" == Value.type "dict") = false := by decide
        have hl1 : (s.heap.push (fresh w)).IsList l items := ⟨_, hol', rfl, nl, rfl⟩
        unfold Builtin.«set.__init__» noKeywords Builtin.Frozenset.updateFrom
        generalize hPI : pyIter = PI
        wp_walk
        subst hPI
        refine wpAny_pyIter_list hl1 (wpAny_bind (wpAny_runValue ?_))
        have lt : l < s.heap.objs.size := Heap.lt_size hol
        have hh3 : A.in1.in1.in1.handled = none := by simp [hh]
        have hne : l ≠ (s.heap.push (fresh w)).objs.size := by
          rw [Heap.size_push]; exact Nat.ne_of_lt (Nat.lt_succ_of_lt lt)
        have hSf : s.heap.objs.size ∉ [(s.heap.push (fresh w)).objs.size, l] := by
          rw [Heap.size_push]; simp only [List.mem_cons, List.mem_singleton, List.not_mem_nil, or_false, not_or]
          exact ⟨Nat.ne_of_lt (Nat.lt_succ_self _), Nat.ne_of_gt lt⟩
        refine loop_ok ((Walks.list hh3 _ l hne items).toS) s.heap.objs.size hSf xs hn hb hi (items.size - 0) 0 _ (by omega) (Nat.zero_le _)
          ⟨⟨_, Heap.get?_push_size _ rfl, rfl, rfl⟩, (hl1.push _)⟩ ?hS0 ?hR
        case hS0 =>
          exact ⟨[], SM.new (Heap.get?_push_of_some _ at0), Nat.le_refl _, fun k => by simp⟩
        case hR =>
          intro s' mv up
          obtain ⟨h', g', d', tk', os'⟩ := s'
          have eg : g' = s.gens := mv.gens
          have ed : d' = s.drawn := mv.drawn
          have eo : os' = s.os := mv.os
          subst eg; subst ed; subst eo
          show wpAny _ _ _ _ _ _
          refine wpAny_pure ?_
          show wpAny _ _ (ret Value.none) _ _ _
          rw [hn] at up
          refine wpAny_pure ⟨rfl, h', tk', rfl, up, fun b o e => ?_⟩
          have b0 : b < s.heap.objs.size := Heap.lt_size e
          have b1 : b ≠ s.heap.objs.size := Nat.ne_of_lt b0
          have b2 : b ≠ (s.heap.push (fresh w)).objs.size := by
            rw [Heap.size_push]; exact Nat.ne_of_lt (Nat.lt_succ_of_lt b0)
          exact mv.heap b o (by simp only [List.mem_cons, List.mem_singleton, List.not_mem_nil, or_false, not_or]; exact ⟨b1, b2⟩) (Heap.get?_push_of_some _ (Heap.get?_push_of_some _ e))
      · cases r₂ with
        | error e => exact hr₂
        | ok fl₂ =>
          cases fl₂ with
          | ret r =>
            obtain ⟨rfl, h', tk, rfl, ⟨js, r, l, q⟩, hk'⟩ := hr₂
            rw [List.take_length] at q
            repeat (any_goals (first | assumption | wp_step))
            exact h _ _ js r q l hk'
          | _ => exact hr₂.elim
    | _ => exact hr.elim
/-- set(l) of a tuple -/
theorem call_setT {l : Addr} {items : Array Value} (xs : List Key) {Q : Value → Shared → Prop} (hh : A.handled = none) (hl : s.heap.IsTuple l items) (hn : items.size = xs.length)
    (hi : ∀ (i : Nat) (v : Value), items[i]? = some v → ∃ k, xs[i]? = some k ∧ keyIs k v = true) (hb : xs.length + 1 < scanBound)
    (h : ∀ (h' : Heap) (tk : Nat) (js : List Key), SM w h' s.heap.objs.size js → (∀ k, k ∈ js ↔ k ∈ xs) → js.length ≤ xs.length → (∀ b o, s.heap.get? b = some o → h'.get? b = some o) → Q (.ref s.heap.objs.size) { s with heap := h', toks := tk }) :
    wpAny (model P w) A (call (.type "set") [.ref l]) Q E s := by
  obtain ⟨c, tl, hmro⟩ := F.called_set.mro
  have f1 := F.called_set.made
  have f2 := F.called_set.sub
  have f3 := F.called_set.notType
  have f4 := F.called_set.canCreate
  have f5 := F.typeCall_set_1 (.ref l)
  refine wpAny_call (codeAny_of_tree ?_)
  show wpAny _ _ (callAny (.type "set") _) _ _ _
  refine wpAny_pure ⟨Code.quiet_builtin _ (by decide +kernel), codeAny_builtin F.entry_type_call ?_⟩
  rw [Around.under_plain (weight_type_call_type "set" [.ref l] []) rfl]
  repeat (any_goals (first | assumption | wp_step))
  refine codeAny_mono (code_set_led1 (.ref l) (E := E) (Q₁ := fun v s₁ => v = .ref s.heap.objs.size ∧ s₁ = { s with heap := s.heap.push (fresh w) }) ⟨rfl, rfl⟩) fun r s₁ hr => ?_
  cases r with
  | error e => exact hr
  | ok fl =>
    cases fl with
    | ret obj =>
      obtain ⟨rfl, rfl⟩ := hr
      have at0 : (s.heap.push (fresh w)).get? s.heap.objs.size = some (fresh w) := Heap.get?_push_size _ rfl
      have ty0 : Shared.TypeIs { s with heap := s.heap.push (fresh w) } (.ref s.heap.objs.size) "set" := ⟨_, at0, rfl⟩
      have g1 := F.called_set.init.lookup
      have g2 := F.called_set.init.bind (.ref s.heap.objs.size)
      repeat (any_goals (first | assumption | wp_step))
      refine codeAny_mono (codeAny_call_builtin (R := wants (fun r s₂ => r = .none ∧ ∃ h' tk, s₂ = { s with heap := h', toks := tk } ∧ Upto w h' s.heap.objs.size xs xs.length ∧
          (∀ b o, s.heap.get? b = some o → h'.get? b = some o)) E) F.called_set.init.plain F.entry_set_init (check_set_init_1 ty0 ?_)) fun r₂ s₂ hr₂ => ?_
      · obtain ⟨ol, hol, hcl, nl, hdl⟩ := hl
        obtain ⟨ocls, odict, odata, oslots⟩ := ol
        simp only at hcl hdl
        subst hcl; subst hdl
        have hol' : (s.heap.push (fresh w)).get? l = some { cls := .type "tuple", dict := odict, data := .seq items nl, slots := oslots } := Heap.get?_push_of_some _ hol
        have k1 := F.sub_tuple_set
        have k2 := F.sub_tuple_frozenset
        have k3 : (Value.type "list" == Value.type "dict") = false := by decide
        have hl1 : (s.heap.push (fresh w)).IsTuple l items := ⟨_, hol', rfl, nl, rfl⟩
        unfold Builtin.«set.__init__» noKeywords Builtin.Frozenset.updateFrom
        generalize hPI : pyIter = PI
        wp_walk
        subst hPI
        refine wpAny_pyIter_tuple hl1 (wpAny_bind (wpAny_runValue ?_))
        have lt : l < s.heap.objs.size := Heap.lt_size hol
        have hh3 : A.in1.in1.in1.handled = none := by simp [hh]
        have hne : l ≠ (s.heap.push (fresh w)).objs.size := by
          rw [Heap.size_push]; exact Nat.ne_of_lt (Nat.lt_succ_of_lt lt)
        have hSf : s.heap.objs.size ∉ [(s.heap.push (fresh w)).objs.size, l] := by
          rw [Heap.size_push]; simp only [List.mem_cons, List.mem_singleton, List.not_mem_nil, or_false, not_or]
          exact ⟨Nat.ne_of_lt (Nat.lt_succ_self _), Nat.ne_of_gt lt⟩
        refine loop_ok ((Walks.tuple hh3 _ l hne items).toS) s.heap.objs.size hSf xs hn hb hi (items.size - 0) 0 _ (by omega) (Nat.zero_le _)
          ⟨⟨_, Heap.get?_push_size _ rfl, rfl, rfl⟩, (hl1.push _)⟩ ?hS0 ?hR
        case hS0 =>
          exact ⟨[], SM.new (Heap.get?_push_of_some _ at0), Nat.le_refl _, fun k => by simp⟩
        case hR =>
          intro s' mv up
          obtain ⟨h', g', d', tk', os'⟩ := s'
          have eg : g' = s.gens := mv.gens
          have ed : d' = s.drawn := mv.drawn
          have eo : os' = s.os := mv.os
          subst eg; subst ed; subst eo
          show wpAny _ _ _ _ _ _
          refine wpAny_pure ?_
          show wpAny _ _ (ret Value.none) _ _ _
          rw [hn] at up
          refine wpAny_pure ⟨rfl, h', tk', rfl, up, fun b o e => ?_⟩
          have b0 : b < s.heap.objs.size := Heap.lt_size e
          have b1 : b ≠ s.heap.objs.size := Nat.ne_of_lt b0
          have b2 : b ≠ (s.heap.push (fresh w)).objs.size := by
            rw [Heap.size_push]; exact Nat.ne_of_lt (Nat.lt_succ_of_lt b0)
          exact mv.heap b o (by simp only [List.mem_cons, List.mem_singleton, List.not_mem_nil, or_false, not_or]; exact ⟨b1, b2⟩) (Heap.get?_push_of_some _ (Heap.get?_push_of_some _ e))
      · cases r₂ with
        | error e => exact hr₂
        | ok fl₂ =>
          cases fl₂ with
          | ret r =>
            obtain ⟨rfl, h', tk, rfl, ⟨js, r, l, q⟩, hk'⟩ := hr₂
            rw [List.take_length] at q
            repeat (any_goals (first | assumption | wp_step))
            exact h _ _ js r q l hk'
          | _ => exact hr₂.elim
    | _ => exact hr.elim
end
end Mp.Se
end SSetS
section SSetS2
set_option maxHeartbeats 4000000
/-! SetS2: sorted of lists and of sets of ints, of texts; any number of them. -/
namespace Mp.Se
open PySem PySem.Spec PyProof.Rows L2

/-! ### the order of texts -/
def ltSv (v u : Value) : Bool := decide ((strOf v).cps.toList < (strOf u).cps.toList)
theorem swo_str : SrtO.Swo ltSv := by
  refine ⟨fun x y h => ?_, fun x y z h1 h2 => ?_⟩
  · have a := of_decide_eq_true (p := (strOf x).cps.toList < (strOf y).cps.toList) h
    exact decide_eq_false (p := (strOf y).cps.toList < (strOf x).cps.toList) (List.lt_asymm a)
  · have a := of_decide_eq_false (p := (strOf y).cps.toList < (strOf x).cps.toList) h1
    have b := of_decide_eq_false (p := (strOf z).cps.toList < (strOf y).cps.toList) h2
    exact decide_eq_false (p := (strOf z).cps.toList < (strOf x).cps.toList) (List.not_lt.mpr (List.le_trans (List.not_lt.mp a) (List.not_lt.mp b)))
section
variable {P : Program} {w : World} {A : Around} {E : Value → Shared → Prop} {s : Shared}
theorem str_cmp {vs : List Value} {ss : List Str} (hS : StrsAre vs ss) : SrtO.Cmp P w A s oneType' (fun p => p.1 ∈ vs) (SrtO.lt2 ltSv) := by
  intro p q hm hm'
  obtain ⟨a, t, e⟩ := hS.all _ hm
  obtain ⟨b, u, e'⟩ := hS.all _ hm'
  show wpAny (model P w) A (keyLt' oneType' p.1 q.1) (fun r s' => s' = s ∧ r = ltSv p.1 q.1) (fun _ _ => False) s
  rw [e, e', keyLt'_oneType]
  exact oneLt_str ⟨rfl, rfl⟩
theorem strs_sortable {a : Addr} {vs : List Value} {ss : List Str} (hS : StrsAre vs ss) (h2 : 2 ≤ vs.length) : SrtO.SortableO P w A s a vs ltSv := by
  intro h' _
  refine ⟨oneType', fun Q E hq => ?_, str_cmp hS⟩
  match vs, hS, h2 with
  | v1 :: v2 :: rest, hS, _ =>
    rw [keyKind_strs hS]
    exact wpAny_pure hq
  | [], _, h => exact absurd h (by decide)
  | [v], _, h => exact absurd h (by simp)
theorem strs_out {vs out : List Value} {ss : List Str} (hS : StrsAre vs ss) (hs : SrtO.Srtd ltSv out) (hb : SrtO.Stb ltSv out vs) : StrsAre out (out.map strOf) ∧ (out.map strOf).Perm ss ∧ (out.map strOf).Pairwise (fun x y => ¬ y.cps.toList < x.cps.toList) := by
  refine ⟨strsAre_map _ fun v hv => hS.all v (hb.perm.mem_iff.mp hv), ?_, ?_⟩
  · have q := hb.perm.map strOf
    rw [hS.strs] at q
    exact q
  · exact List.pairwise_map.mpr (hs.imp fun {x y} h => of_decide_eq_false (p := (strOf y).cps.toList < (strOf x).cps.toList) h)

/-- sorted(s) of a set -/
theorem sorted_sm {a : Addr} {ks : List Key} {ltv : Value → Value → Bool} {Q : Value → Shared → Prop} (R : SM w s.heap a ks) (hh : A.handled = none) (O : SrtO.Swo ltv)
    (hS : ∀ (vs : List Value) (A : Around) (s : Shared) (b : Addr), (∀ v ∈ vs, ∃ k ∈ ks, keyIs k v = true) → 2 ≤ vs.length → SrtO.SortableO P w A s b vs ltv)
    (hQ : ∀ s' p (vs out : List Value) (c : Nat), (∀ b o, s.heap.get? b = some o → s'.heap.get? b = some o) → s'.gens = s.gens → s'.os = s.os → s.heap.objs.size ≤ p →
      s'.heap.get? p = some (seqObj "list" out.toArray c) → (vs.map kv).Perm ks → (∀ v ∈ vs, keyIs (kv v) v = true) → SrtO.Srtd ltv out → SrtO.Stb ltv out vs → out.length ≤ sizeLine → Q (.ref p) s') :
    wpAny (model P w) A (call (.builtin "sorted") [.ref a]) Q E s := by
  obtain ⟨o, es, ep, t, ho, hex, hd, g, pm, nd, hb, hf, hr, hl⟩ := R
  refine Calls.call_function_entry kind_sorted plain_sorted entry_sorted (args_sorted1 _) ?_
  unfold Builtin.«sorted»
  refine wpAny_bind (m := checkCount "sorted" 1 1 _) (wpAny_pure ?_)
  refine wpAny_bind (collect_set (A := A.in1) hh ⟨o, ho, hex.1, hd⟩ hf hb hr hl fun s1 vs k1 hz g1 o1 pv => ?_)
  have hvs : ∀ v ∈ vs, keyIs (kv v) v = true := fun v hv => by
    obtain ⟨e, he, q⟩ := List.mem_map.mp (pv.mem_iff.mp hv)
    rw [← q]; exact (g e he).1
  have pk : (vs.map kv).Perm ks := by
    have q := pv.map kv
    rw [List.map_map] at q
    exact q.trans pm
  have hlen : vs.length ≤ sizeLine := by
    rw [pv.length_eq, List.length_map, Array.length_toList]
    exact fits_of_scanBound hb
  have hks : ∀ v ∈ vs, ∃ k ∈ ks, keyIs k v = true := fun v hv => ⟨kv v, pk.mem_iff.mp (List.mem_map.mpr ⟨v, hv, rfl⟩), hvs v hv⟩
  refine wpAny_bind (wpAny_newList ?_ hlen)
  have hoL : (s1.heap.push (seqObj "list" vs.toArray 0)).get? s1.heap.objs.size = some (seqObj "list" vs.toArray 0) := Heap.get?_push_size _ rfl
  refine wpAny_bind (wpAny_holding (wpAny_call_entry slot_list_sort ⟨_, hoL, rfl⟩ entry_list_sort (SrtO.list_sort_ord O hoL hlen (hS vs _ _ _ hks) fun out a1 a2 => ⟨_, rfl, ?_⟩) (args_list_sort _)))
  obtain ⟨c, hc⟩ := sortedHeap_at (vs := vs) (out := out.toArray) hoL
  refine wpAny_pure ⟨_, rfl, hQ _ s1.heap.objs.size vs out c (fun b u e => ?_) g1 o1 hz hc pk hvs a1 a2 (by rw [a2.len]; exact hlen)⟩
  have q := k1 b u e
  have lt := Heap.lt_size q
  show (sortedHeap (s1.heap.push (seqObj "list" vs.toArray 0)) s1.heap.objs.size vs out.toArray).get? b = some u
  rw [sortedHeap_old (Nat.ne_of_lt lt) (by rw [size_push']; exact Nat.lt_succ_of_lt lt)]
  exact Heap.get?_push_of_some _ q
end

/-! ### over the layer -/
/-- a set of keys at a -/
def SMO (w : World) (a : Addr) (ks : List Key) : HO := .ext fun h => SM w h a ks
section
variable {X : Cx}
theorem smo_new {w : World} {P : Program} {H : Hp} {h : Heap} {a : Addr} {ks : List Key} (R : SM w h a ks) : ObjOk P w H h a (SMO w a ks) := by
  have ⟨o, _, _, _, ho, _⟩ := R
  exact ⟨R, ⟨o, ho⟩, fun h1 h2 p k => SM.at p k⟩
theorem smo_get {pins : List (Addr × Obj)} {σ : L2.St} {H : Hp} {s : Shared} {a : Addr} {ks : List Key} (I : Inv X pins σ H s) (ha : H a = some (SMO X.w a ks)) : SM X.w s.heap a ks := (I.hok a _ ha).1
theorem vals_key : ∀ {xs : List Key} {us : List Value}, Vals (xs.map kV) us → ∀ (i : Nat) (v : Value), us[i]? = some v → ∃ k, xs[i]? = some k ∧ keyIs k v = true
  | [], us, h, i, v, e => by cases h; simp at e
  | x :: xs, us, h, i, v, e => by
    cases h with
    | cons r t =>
      cases i with
      | zero =>
        simp at e; subst e
        rcases x with j | z
        · obtain ⟨t, rfl⟩ := r; exact ⟨_, rfl, keyIs_int _ _⟩
        · obtain ⟨t, rfl⟩ := r; exact ⟨_, rfl, keyIs_str _ _⟩
      | succ i => exact vals_key t i v (by simpa using e)
/-- set(xs) -/
def rSetL (K : PySem.W.Frag) (w : World) : List V → Hp → VK → Prop := fun vs H Q => ∃ (a : Addr) (xs : List Key), vs = [V.ref a] ∧ (SqL K H a (xs.map kV) ∨ SqT K H a (xs.map kV)) ∧ xs.length + 1 < scanBound ∧
  ∀ (js : List Key) (p : Addr), js.Nodup → (∀ k, k ∈ js ↔ k ∈ xs) → H p = none → Q (.ref p) (upd H p (SMO w p js))
theorem cr_setL (hc : X.calm = true) : CallR X (.type "set") (rSetL X.K X.w) := by
  intro pins s σ H vs us Q I r h
  obtain ⟨a, xs, rfl, hs, hb, q⟩ := h
  have fin : ∀ (h' : Heap) (tk : Nat) (js : List Key), SM X.w h' s.heap.objs.size js → (∀ k, k ∈ js ↔ k ∈ xs) → js.length ≤ xs.length → (∀ b o, s.heap.get? b = some o → h'.get? b = some o) → _ := fun h' tk js R hm _ k => by
    have hn : H s.heap.objs.size = none := I.hok.fresh (Nat.le_refl _)
    have nd : js.Nodup := by obtain ⟨_, _, _, _, _, _, _, _, _, n, _⟩ := R; exact n
    exact (⟨.ref _, upd H s.heap.objs.size (SMO X.w s.heap.objs.size js), I.laid (t' := tk) k (Nat.le_refl _) (smo_new R), rfl, q js _ nd hm hn⟩ : ∃ (v : V) (H' : Hp), Inv X pins σ H' { s with heap := h', toks := tk } ∧ RelV v (.ref s.heap.objs.size) ∧ Q v H')
  rw [Vals.ref1 r]
  rcases hs with hs | hs
  · obtain ⟨its, rv, hl, hz⟩ := I.list hs
    have hlen := rv.length
    rw [List.length_map] at hlen
    exact call_set xs (I.ok.hd hc) hl.isList (by rw [List.size_toArray, hlen]) (fun i v e => vals_key rv i v (by simpa using e)) hb fin
  · obtain ⟨its, rv, hl, hz⟩ := I.tuple hs
    have hlen := rv.length
    rw [List.length_map] at hlen
    exact call_setT xs (I.ok.hd hc) hl (by rw [List.size_toArray, hlen]) (fun i v e => vals_key rv i v (by simpa using e)) hb fin

theorem ints_keys : ∀ {vs : List Value}, (∀ v ∈ vs, keyIs (kv v) v = true) → (∀ v ∈ vs, ∃ i t, v = Value.int i t) → IntsAre vs (vs.map SrtO.iv)
  | vs, _, h => SrtO.ints_iv h
theorem int_of_key {ks : List Int} {v : Value} (h : ∃ k ∈ ks.map (Sum.inl : Int → Key), keyIs k v = true) : ∃ i t, v = Value.int i t := by
  obtain ⟨k, hk, e⟩ := h
  obtain ⟨i, _, rfl⟩ := List.mem_map.mp hk
  rcases keyIs_shape e with ⟨i, t, _, rfl⟩ | ⟨x, t, z, _⟩
  · exact ⟨_, _, rfl⟩
  · cases z
theorem str_of_key {ks : List Str} {v : Value} (h : ∃ k ∈ ks.map (Sum.inr : Str → Key), keyIs k v = true) : ∃ i t, v = Value.str i t := by
  obtain ⟨k, hk, e⟩ := h
  obtain ⟨i, _, rfl⟩ := List.mem_map.mp hk
  rcases keyIs_shape e with ⟨x, t, z, _⟩ | ⟨i, t, _, rfl⟩
  · cases z
  · exact ⟨_, _, rfl⟩
/-- sorted(set) of ints -/
def rSrtI (w : World) : List V → Hp → VK → Prop := fun vs H Q => ∃ (a : Addr) (ks : List Int), vs = [V.ref a] ∧ H a = some (SMO w a (ks.map Sum.inl)) ∧ ks.Nodup ∧
  ∀ (ns : List Int) (p : Addr), ns.Perm ks → ns.Pairwise (· ≤ ·) → H p = none → Q (.ref p) (upd H p (.lst (ns.map V.int)))
/-- sorted(set) of texts -/
def rSrtS (w : World) : List V → Hp → VK → Prop := fun vs H Q => ∃ (a : Addr) (ks : List Str), vs = [V.ref a] ∧ H a = some (SMO w a (ks.map Sum.inr)) ∧ ks.Nodup ∧
  ∀ (ns : List Str) (p : Addr), ns.Perm ks → ns.Pairwise (fun x y => ¬ y.cps.toList < x.cps.toList) → H p = none → Q (.ref p) (upd H p (.lst (ns.map V.str)))
theorem laid_back {pins : List (Addr × Obj)} {σ : L2.St} {H : Hp} {s s' : Shared} {p : Addr} {xs : List V} (I : Inv X pins σ H s) (hn : H p = none) (k : ∀ b o, s.heap.get? b = some o → s'.heap.get? b = some o) (g : s'.gens = s.gens) (o : s'.os = s.os) (hp : s.heap.objs.size ≤ p)
    {out : List Value} {c : Nat} (rv : Vals xs out) (hl : out.length ≤ sizeLine) (hg : s'.heap.get? p = some (seqObj "list" out.toArray c)) : Inv X pins σ (upd H p (.lst xs)) s' := by
  have J : Inv X pins σ (upd H p (.lst xs)) { s with heap := s'.heap, gens := s'.gens, drawn := s'.drawn, toks := s'.toks } :=
    I.call (ch := []) (Un.laid k hp hn) (I.hok.laid k hp ⟨by rw [rv.length]; exact hl, out, c, rv, hg⟩) (by rw [g]; exact I.bare) (fun _ z => nomatch z)
  have e : s' = { s with heap := s'.heap, gens := s'.gens, drawn := s'.drawn, toks := s'.toks } := by
    cases s'
    cases s
    cases o
    rfl
  rw [e]
  exact J
theorem cr_srtI (hc : X.calm = true) : CallR X (.builtin "sorted") (rSrtI X.w) := by
  intro pins s σ H vs us Q I r h
  obtain ⟨a, ks, rfl, ha, nd, q⟩ := h
  rw [Vals.ref1 r]
  refine sorted_sm (smo_get I ha) (I.ok.hd hc) SrtO.swo_int (fun vs A s b hv h2 => SrtO.ints_sortable (SrtO.ints_iv fun v hm => int_of_key (hv v hm)) h2) fun s' p vs out c k g o hp hg pm hk h1 h2 hl => ?_
  have hI : IntsAre vs (vs.map SrtO.iv) := SrtO.ints_iv fun v hm => int_of_key ⟨kv v, pm.mem_iff.mp (List.mem_map.mpr ⟨v, hm, rfl⟩), hk v hm⟩
  obtain ⟨k1, k2, k3⟩ := SrtO.ints_out hI h1 h2
  have pk : (vs.map SrtO.iv).Perm ks := by
    have e : (vs.map SrtO.iv).map (Sum.inl : Int → Key) = vs.map kv := by
      rw [List.map_map]
      refine List.map_congr_left fun v hm => ?_
      obtain ⟨i, t, rfl⟩ := int_of_key ⟨kv v, pm.mem_iff.mp (List.mem_map.mpr ⟨v, hm, rfl⟩), hk v hm⟩
      rfl
    rw [← e] at pm
    have z := pm.map (fun k : Key => match k with | .inl i => i | .inr _ => 0)
    simpa [List.map_map, Function.comp_def] using z
  exact ⟨.ref p, _, laid_back I (I.hok.fresh hp) k g o hp (vals_of_ints k1) hl hg, rfl, q _ p (k2.trans pk) k3 (I.hok.fresh hp)⟩
theorem cr_srtS (hc : X.calm = true) : CallR X (.builtin "sorted") (rSrtS X.w) := by
  intro pins s σ H vs us Q I r h
  obtain ⟨a, ks, rfl, ha, nd, q⟩ := h
  rw [Vals.ref1 r]
  refine sorted_sm (smo_get I ha) (I.ok.hd hc) swo_str (fun vs A s b hv h2 => strs_sortable (strsAre_map vs fun v hm => str_of_key (hv v hm)) h2) fun s' p vs out c k g o hp hg pm hk h1 h2 hl => ?_
  have hI : StrsAre vs (vs.map strOf) := strsAre_map vs fun v hm => str_of_key ⟨kv v, pm.mem_iff.mp (List.mem_map.mpr ⟨v, hm, rfl⟩), hk v hm⟩
  obtain ⟨k1, k2, k3⟩ := strs_out hI h1 h2
  have pk : (vs.map strOf).Perm ks := by
    have e : (vs.map strOf).map (Sum.inr : Str → Key) = vs.map kv := by
      rw [List.map_map]
      refine List.map_congr_left fun v hm => ?_
      obtain ⟨i, t, rfl⟩ := str_of_key ⟨kv v, pm.mem_iff.mp (List.mem_map.mpr ⟨v, hm, rfl⟩), hk v hm⟩
      rfl
    rw [← e] at pm
    have z := pm.map (fun k : Key => match k with | .inr i => i | .inl _ => ⟨#[]⟩)
    simpa [List.map_map, Function.comp_def] using z
  exact ⟨.ref p, _, laid_back I (I.hok.fresh hp) k g o hp (vals_of_strs k1) hl hg, rfl, q _ p (k2.trans pk) k3 (I.hok.fresh hp)⟩
/-- sorted(xs), texts, any number of them -/
def rSrtL (K : PySem.W.Frag) : List V → Hp → VK → Prop := fun vs H Q => ∃ (a : Addr) (ks : List Str), vs = [V.ref a] ∧ SqL K H a (ks.map V.str) ∧
  ∀ (ns : List Str) (p : Addr), ns.Perm ks → ns.Pairwise (fun x y => ¬ y.cps.toList < x.cps.toList) → H p = none → Q (.ref p) (upd H p (.lst (ns.map V.str)))
theorem cr_srtL : CallR X (.builtin "sorted") (rSrtL X.K) := by
  intro pins s σ H vs us Q I r h
  obtain ⟨a, ks, rfl, hs, q⟩ := h
  obtain ⟨its, rv, hl, hz⟩ := I.list hs
  rw [Vals.ref1 r]
  refine SrtO.sorted_ord swo_str hl.isList (by rw [← rv.length]; exact hz) (fun h2 h₁ a' _ _ => strs_sortable rv.strs h2) fun out h1 h2 => ?_
  obtain ⟨k1, k2, k3⟩ := strs_out rv.strs h1 h2
  obtain ⟨ep, he'⟩ := PyProof.Rows.sortedAll_at s.heap its out.toArray
  have hlen : ((out.map strOf).map V.str).length ≤ sizeLine := by
    rw [List.length_map, k2.length_eq]
    rw [List.length_map] at hz
    exact hz
  exact ⟨.ref _, upd H (s.heap.objs.size + 1) (.lst ((out.map strOf).map V.str)), I.laid (t' := s.toks) (fun _ _ => PyProof.Rows.sortedAll_old) (Nat.le_succ _) ⟨hlen, out, ep, vals_of_strs k1, he'⟩, rfl, q _ _ k2 k3 (I.hok.fresh (Nat.le_succ _))⟩
end
end Mp.Se
end SSetS2
section SCore
namespace Mp
inductive D where
  | non | bl (b : Bool) | int (i : Int) | str (s : List Nat)
  | tup (l : List D) | tl (l : List D) | ref (n : Nat) | fn (x : String) | fz (l : List D)
  | exn (c : String) (ns : List String) (l : List D)
  deriving Inhabited, Repr
mutual
def D.beq : D → D → Bool
  | .non, .non => true
  | .bl x, .bl y => x == y
  | .int x, .int y => x == y
  | .str x, .str y => x == y
  | .ref x, .ref y => x == y
  | .fn x, .fn y => x == y
  | .tup x, .tup y => D.beqs x y
  | .tl x, .tl y => D.beqs x y
  | .fz x, .fz y => D.beqs x y
  | .exn c n x, .exn d m y => c == d && (n == m && D.beqs x y)
  | _, _ => false
def D.beqs : List D → List D → Bool
  | [], [] => true
  | x :: xs, y :: ys => D.beq x y && D.beqs xs ys
  | _, _ => false
end
mutual
theorem D.eq_of_beq : ∀ (a b : D), D.beq a b = true → a = b
  | .non, b, h => by cases b <;> simp_all [D.beq]
  | .bl x, b, h => by cases b <;> simp_all [D.beq]
  | .int x, b, h => by cases b <;> simp_all [D.beq]
  | .str x, b, h => by cases b <;> simp_all [D.beq]
  | .ref x, b, h => by cases b <;> simp_all [D.beq]
  | .fn x, b, h => by cases b <;> simp_all [D.beq]
  | .tup x, b, h => by
    cases b <;> simp [D.beq] at h
    rw [D.eqs_of_beqs _ _ h]
  | .tl x, b, h => by
    cases b <;> simp [D.beq] at h
    rw [D.eqs_of_beqs _ _ h]
  | .fz x, b, h => by
    cases b <;> simp [D.beq] at h
    rw [D.eqs_of_beqs _ _ h]
  | .exn c n x, b, h => by
    cases b <;> simp [D.beq] at h
    rw [D.eqs_of_beqs _ _ h.2.2, h.1, h.2.1]
theorem D.eqs_of_beqs : ∀ (a b : List D), D.beqs a b = true → a = b
  | [], b, h => by cases b <;> simp_all [D.beqs]
  | x :: xs, b, h => by
    cases b with
    | nil => simp [D.beqs] at h
    | cons y ys =>
      simp [D.beqs] at h
      rw [D.eq_of_beq _ _ h.1, D.eqs_of_beqs _ _ h.2]
end
mutual
theorem D.beq_refl : ∀ (a : D), D.beq a a = true
  | .non | .bl _ | .int _ | .str _ | .ref _ | .fn _ => by simp [D.beq]
  | .tup x => by simp [D.beq, D.beqs_refl x]
  | .tl x => by simp [D.beq, D.beqs_refl x]
  | .fz x => by simp [D.beq, D.beqs_refl x]
  | .exn c n x => by simp [D.beq, D.beqs_refl x]
theorem D.beqs_refl : ∀ (a : List D), D.beqs a a = true
  | [] => rfl
  | x :: xs => by simp [D.beqs, D.beq_refl x, D.beqs_refl xs]
end
instance : DecidableEq D := fun a b => if h : D.beq a b = true then isTrue (D.eq_of_beq _ _ h) else isFalse fun e => h (by rw [e]; exact D.beq_refl b)

/-- the most that a list, a tuple or a text may hold -/
abbrev LIM : Nat := 16777216

/-- an exception under a name -/
def D.isX : D → Bool
  | .exn .. => true
  | _ => false
/-- what stands in the store -/
inductive Obj where
  | lst (l : List D) | dct (t : Bool) (kvs : List (D × D))
  deriving Inhabited, DecidableEq, Repr
abbrev Store := List Obj
abbrev Env := List (Option D)

/-- what an expression gives: a value, an error, or nothing (the interpreter is stuck) -/
inductive Rs (α : Type) where
  | ok (a : α) (μ : Store)
  | ex (e : D) (μ : Store)
  | no
  deriving Inhabited, Repr
def Rs.bnd {α β : Type} (r : Rs α) (f : α → Store → Rs β) : Rs β := match r with
  | .ok a μ => f a μ
  | .ex e μ => .ex e μ
  | .no => .no
def Rs.of {α : Type} (o : Option α) (μ : Store) : Rs α := match o with
  | some a => .ok a μ
  | none => .no
def Rs.ofP {α : Type} (o : Option (α × Store)) : Rs α := match o with
  | some p => .ok p.1 p.2
  | none => .no
@[simp] theorem Rs.bnd_ok {α β : Type} {a : α} {μ : Store} {f : α → Store → Rs β} : (Rs.ok a μ).bnd f = f a μ := (rfl)
@[simp] theorem Rs.bnd_ex {α β : Type} {e : D} {μ : Store} {f : α → Store → Rs β} : (Rs.ex e μ : Rs α).bnd f = .ex e μ := (rfl)
@[simp] theorem Rs.bnd_no {α β : Type} {f : α → Store → Rs β} : (Rs.no : Rs α).bnd f = .no := (rfl)
@[simp] theorem Rs.of_some {α : Type} {a : α} {μ : Store} : Rs.of (some a) μ = .ok a μ := (rfl)
@[simp] theorem Rs.of_none {α : Type} {μ : Store} : Rs.of (none : Option α) μ = .no := (rfl)

/-- what a statement gives -/
inductive Ou where
  | nx (ρ : Env) (μ : Store)
  | br (ρ : Env) (μ : Store)
  | ct (ρ : Env) (μ : Store)
  | rt (d : D) (μ : Store)
  | ex (e : D) (ρ : Env) (μ : Store)
  | no
  deriving Inhabited, Repr
def Rs.ou {α : Type} (r : Rs α) (ρ : Env) (f : α → Store → Ou) : Ou := match r with
  | .ok a μ => f a μ
  | .ex e μ => .ex e ρ μ
  | .no => .no
@[simp] theorem Rs.ou_ok {α : Type} {a : α} {μ : Store} {ρ : Env} {f : α → Store → Ou} : (Rs.ok a μ).ou ρ f = f a μ := (rfl)
@[simp] theorem Rs.ou_ex {α : Type} {e : D} {μ : Store} {ρ : Env} {f : α → Store → Ou} : (Rs.ex e μ : Rs α).ou ρ f = .ex e ρ μ := (rfl)
@[simp] theorem Rs.ou_no {α : Type} {ρ : Env} {f : α → Store → Ou} : (Rs.no : Rs α).ou ρ f = .no := (rfl)
def Ou.seq (o : Ou) (f : Env → Store → Ou) : Ou := match o with
  | .nx ρ μ => f ρ μ
  | o => o
@[simp] theorem Ou.seq_nx {ρ : Env} {μ : Store} {f : Env → Store → Ou} : (Ou.nx ρ μ).seq f = f ρ μ := (rfl)
@[simp] theorem Ou.seq_br {ρ : Env} {μ : Store} {f : Env → Store → Ou} : (Ou.br ρ μ).seq f = .br ρ μ := (rfl)
@[simp] theorem Ou.seq_ct {ρ : Env} {μ : Store} {f : Env → Store → Ou} : (Ou.ct ρ μ).seq f = .ct ρ μ := (rfl)
@[simp] theorem Ou.seq_rt {d : D} {μ : Store} {f : Env → Store → Ou} : (Ou.rt d μ).seq f = .rt d μ := (rfl)
@[simp] theorem Ou.seq_ex {e : D} {ρ : Env} {μ : Store} {f : Env → Store → Ou} : (Ou.ex e ρ μ).seq f = .ex e ρ μ := (rfl)
@[simp] theorem Ou.seq_no {f : Env → Store → Ou} : Ou.no.seq f = .no := (rfl)

/-- nothing is raised -/
def Ou.unE (o : Ou) : Ou := match o with
  | .ex _ _ _ => .no
  | o => o
/-- a name goes -/
def Ou.wipeO (i : Nat) (o : Ou) : Ou := match o with
  | .nx ρ μ => .nx (ρ.set i none) μ
  | .br ρ μ => .br (ρ.set i none) μ
  | .ct ρ μ => .ct (ρ.set i none) μ
  | .ex _ _ _ => .no
  | o => o
/-! ### the store -/
def getL (μ : Store) (n : Nat) : Option (List D) := match μ[n]? with
  | some (.lst l) => some l
  | _ => none
-- a value that is put under a name: its fresh lists are laid
mutual
def alloc : D → Store → D × Store
  | .tl l, μ => (.ref (allocs l μ).2.length, (allocs l μ).2 ++ [.lst (allocs l μ).1])
  | .tup l, μ => (.tup (allocs l μ).1, (allocs l μ).2)
  | d, μ => (d, μ)
def allocs : List D → Store → List D × Store
  | [], μ => ([], μ)
  | d :: ds, μ => ((alloc d μ).1 :: (allocs ds (alloc d μ).2).1, (allocs ds (alloc d μ).2).2)
end
-- a value whose fresh lists are never written again
mutual
def freeze : D → D
  | .tl l => .fz (freezes l)
  | .tup l => .tup (freezes l)
  | d => d
def freezes : List D → List D
  | [] => []
  | d :: ds => freeze d :: freezes ds
end
/-- what is walked: the fresh lists in it are laid -/
def settle : D → Store → D × Store
  | .tl l, μ => (.tl (allocs l μ).1, (allocs l μ).2)
  | d, μ => alloc d μ
-- no fresh list stands in it
mutual
def D.still : D → Bool
  | .tl _ => false
  | .tup l => D.stills l
  | _ => true
def D.stills : List D → Bool
  | [] => true
  | d :: ds => D.still d && D.stills ds
end
-- all places in it are below n
mutual
def D.under (n : Nat) : D → Bool
  | .ref m => m < n
  | .tl l => D.unders n l
  | .tup l => D.unders n l
  | .fz l => D.unders n l
  | _ => true
def D.unders (n : Nat) : List D → Bool
  | [] => true
  | d :: ds => D.under n d && D.unders n ds
end
/-- lists that a call has made become fresh lists again; used: their places -/
def lift (n : Nat) (μ : Store) : Nat → D → Option (D × List Nat)
  | 0, _ => none
  | f + 1, .ref m => if m < n then some (.ref m, []) else match μ[m]? with
    | some (.lst l) => (l.mapM (lift n μ f)).map fun r => (.tl (r.map (·.1)), (r.map (·.2)).flatten ++ [m])
    | _ => none
  | f + 1, .tup l => (l.mapM (lift n μ f)).map fun r => (.tup (r.map (·.1)), (r.map (·.2)).flatten)
  | _ + 1, .tl _ | _ + 1, .fz _ => none
  | _ + 1, d => some (d, [])

/-- the elder objects know of no new ones -/
def oldOk (μ : Store) (n : Nat) (μ' : Store) : Bool := (List.range n).all fun i => decide (μ'[i]? = μ[i]?) || match μ'[i]? with
  | some (.lst l) => D.unders n l
  | some (.dct _ kvs) => D.unders n (kvs.map (·.1)) && D.unders n (kvs.map (·.2))
  | none => false
/-- a call's end -/
def fin (μ : Store) (d : D) (μ' : Store) : Rs D :=
  if oldOk μ μ.length μ' = true then
    if d.under μ.length = true then .ok d (μ'.take μ.length) else
      match lift μ.length μ' 100 d with
      | some (d', used) => if used.Nodup then .ok d' (μ'.take μ.length) else .ok d μ'
      | none => .ok d μ'
  else .ok d μ'

def finX (μ : Store) (e : D) (μ' : Store) : Rs D := if oldOk μ μ.length μ' = true then .ex e (μ'.take μ.length) else .ex e μ'
/-- a call: its fresh lists are laid first -/
def callA (call : String → List D → Store → Rs D) (f : String) (ds : List D) (μ : Store) : Rs D :=
  if D.stills ds = true then call f ds μ else match call f (allocs ds μ).1 (allocs ds μ).2 with
    | .ok d μ' => fin μ d μ'
    | .ex e μ' => finX μ e μ'
    | .no => .no

/-! ### operations on values -/
def truth (μ : Store) : D → Option Bool
  | .non => some false
  | .bl b => some b
  | .int i => some (i != 0)
  | .str s => some (!s.isEmpty)
  | .tup l => some (!l.isEmpty)
  | .tl l => some (!l.isEmpty)
  | .ref n => (getL μ n).map fun l => !l.isEmpty
  | .fz l => some (!l.isEmpty)
  | .fn _ => none
  | .exn .. => none
/-- the items of what may be walked -/
def items (μ : Store) : D → Option (List D)
  | .tup l => some l
  | .tl l => some l
  | .fz l => some l
  | .ref n => getL μ n
  | .str s => some (s.map fun c => .str [c])
  | _ => none
/-- what is walked stands as it stood -/
def srcOk (μ : Store) (s : D) (xs : List D) : Bool := match s with
  | .ref n => decide (getL μ n = some xs)
  | _ => true

/-- places of lists read: fresh lists stand for them -/
def rsv (μ : Store) : Nat → D → Option D
  | 0, _ => none
  | f + 1, .ref m => match getL μ m with
    | some l => (l.mapM (rsv μ f)).map .tl
    | none => none
  | f + 1, .tup l => (l.mapM (rsv μ f)).map .tup
  | f + 1, .tl l => (l.mapM (rsv μ f)).map .tl
  | f + 1, .fz l => (l.mapM (rsv μ f)).map .tl
  | _ + 1, .fn _ => none
  | _ + 1, .exn .. => none
  | _ + 1, d => some d
-- == of plain data
mutual
def peq : D → D → Bool
  | .non, .non => true
  | .bl a, .bl b => a == b
  | .bl a, .int j => (if a then 1 else 0) == j
  | .int i, .bl b => i == (if b then 1 else 0)
  | .int i, .int j => i == j
  | .str x, .str y => x == y
  | .tup xs, .tup ys => peqs xs ys
  | .tl xs, .tl ys => peqs xs ys
  | .tl xs, .fz ys => peqs xs ys
  | .fz xs, .tl ys => peqs xs ys
  | .fz xs, .fz ys => peqs xs ys
  | _, _ => false
def peqs : List D → List D → Bool
  | [], [] => true
  | x :: xs, y :: ys => peq x y && peqs xs ys
  | _, _ => false
end
-- no place, no function in it
mutual
def D.plain : D → Bool
  | .ref _ => false
  | .fn _ => false
  | .exn .. => false
  | .fz l => D.plains l
  | .tup l => D.plains l
  | .tl l => D.plains l
  | _ => true
def D.plains : List D → Bool
  | [] => true
  | d :: ds => D.plain d && D.plains ds
end
mutual
def D.dep : D → Nat
  | .tup l => D.deps l + 1
  | .tl l => D.deps l + 1
  | .fz l => D.deps l + 1
  | _ => 0
def D.deps : List D → Nat
  | [] => 0
  | d :: ds => max (D.dep d) (D.deps ds)
end
def plainOf (μ : Store) (d : D) : Option D := if d.plain = true then some d else rsv μ 64 d
def eqD (μ : Store) (a b : D) : Option Bool := (plainOf μ a).bind fun x => (plainOf μ b).bind fun y => if x.dep ≤ 60 ∧ y.dep ≤ 60 then some (peq x y) else none

inductive BinK where
  | add | sub | mul | fdiv | mod | pow
  deriving DecidableEq, Repr
inductive CmpK where
  | eq | ne | lt | le | gt | ge | is | isnot | inn | notin
  deriving DecidableEq, Repr
def mulOk (i j : Int) : Bool := (decide (-(2 ^ 64) < i) && decide (i < 2 ^ 64)) || (decide (-(2 ^ 64) < j) && decide (j < 2 ^ 64))
def divOk (j : Int) : Bool := (decide (j ≠ 0) && decide (j.natAbs < 1073741824)) || (decide (0 < j) && decide (j < 2 ^ 4000))
def repOk (n : Nat) (k : Int) : Bool := decide (-(2 ^ 63) ≤ k) && decide (k < 2 ^ 63) && decide (n * k.toNat ≤ LIM)
def lists (μ : Store) : D → Option (List D)
  | .tl l => some l
  | .ref n => getL μ n
  | _ => none
def binop (μ : Store) : BinK → D → D → Option D
  | .add, .int i, .int j => some (.int (i + j))
  | .add, .str x, .str y => if x.length + y.length ≤ LIM then some (.str (x ++ y)) else none
  | .add, .tup x, .tup y => if x.length + y.length ≤ LIM then some (.tup (x ++ y)) else none
  | .add, .tl x, .tl y => if x.length + y.length ≤ LIM then some (.tl (x ++ y)) else none
  | .add, .tl x, .ref m => (getL μ m).bind fun y => if x.length + y.length ≤ LIM then some (.tl (x ++ y)) else none
  | .add, .ref n, .tl y => (getL μ n).bind fun x => if x.length + y.length ≤ LIM then some (.tl (x ++ y)) else none
  | .add, .ref n, .ref m => (getL μ n).bind fun x => (getL μ m).bind fun y => if x.length + y.length ≤ LIM then some (.tl (x ++ y)) else none
  | .add, .fz x, .tl y => if x.length + y.length ≤ LIM then some (.tl (x ++ y)) else none
  | .add, .tl x, .fz y => if x.length + y.length ≤ LIM then some (.tl (x ++ y)) else none
  | .add, .fz x, .fz y => if x.length + y.length ≤ LIM then some (.tl (x ++ y)) else none
  | .sub, .int i, .int j => some (.int (i - j))
  | .mul, .int i, .int j => if mulOk i j = true then some (.int (i * j)) else none
  | .mul, .tl x, .int k => if D.stills x = true ∧ repOk x.length k = true then some (.tl (List.replicate k.toNat x).flatten) else none
  | .mul, .tup x, .int k => if D.stills x = true ∧ x.isEmpty = false ∧ 2 ≤ k ∧ k ≤ 1000 ∧ x.length ≤ 1000 then some (.tup (List.replicate k.toNat x).flatten) else none
  | .mul, .str x, .int k => if x.isEmpty = false ∧ 2 ≤ k ∧ k ≤ 1000 ∧ x.length ≤ 1000 then some (.str (List.replicate k.toNat x).flatten) else none
  | .fdiv, .int i, .int j => if divOk j = true then some (.int (i.fdiv j)) else none
  | .mod, .int i, .int j => if j ≠ 0 then some (.int (i.fmod j)) else none
  | .pow, .int i, .int j => if 0 ≤ j ∧ j ≤ 1000000 ∧ i.natAbs < 2 ^ 64 then some (.int (i ^ j.toNat)) else none
  | _, _, _ => none
/-- x op= y under a name -/
def augop : BinK → D → D → Option D
  | .add, .int i, .int j => some (.int (i + j))
  | .add, .str x, .str y => if x.length + y.length ≤ LIM then some (.str (x ++ y)) else none
  | .sub, .int i, .int j => some (.int (i - j))
  | .mul, .int i, .int j => if mulOk i j = true then some (.int (i * j)) else none
  | .fdiv, .int i, .int j => if 0 < j ∧ j < 1073741824 then some (.int (i / j)) else none
  | .mod, .int i, .int j => if 0 < j then some (.int (i % j)) else none
  | _, _, _ => none
def ltI (i j : Int) : Bool := decide (i < j)
/-- the order of texts -/
def ltN : List Nat → List Nat → Bool
  | [], [] => false
  | [], _ :: _ => true
  | _ :: _, [] => false
  | x :: xs, y :: ys => if x < y then true else if x = y then ltN xs ys else false
def D.flat : D → Bool
  | .non | .bl _ | .int _ | .str _ => true
  | _ => false
/-- x in a row -/
def inRow (x : D) (l : List D) : Option Bool := if x.flat = true ∧ l.all D.flat = true then some (l.any fun y => peq y x) else none
def cmpop (μ : Store) : CmpK → D → D → Option Bool
  | .eq, x, y => eqD μ x y
  | .ne, x, y => (eqD μ x y).map (!·)
  | .lt, .int i, .int j => some (decide (i < j))
  | .le, .int i, .int j => some (decide (i ≤ j))
  | .gt, .int i, .int j => some (decide (j < i))
  | .ge, .int i, .int j => some (decide (j ≤ i))
  | .lt, .str x, .str y => some (ltN x y)
  | .is, x, .non => some (decide (x = .non))
  | .isnot, x, .non => some (!decide (x = .non))
  | .is, .bl a, .bl b => some (decide (a = b))
  | .isnot, .bl a, .bl b => some (!decide (a = b))
  | .inn, .str [c], .str s => some (s.contains c)
  | .notin, .str [c], .str s => some (!s.contains c)
  | .inn, x, .tup l => inRow x l
  | .notin, x, .tup l => (inRow x l).map (!·)
  | .inn, x, .tl l => inRow x l
  | .notin, x, .tl l => (inRow x l).map (!·)
  | .inn, x, .fz l => inRow x l
  | .notin, x, .fz l => (inRow x l).map (!·)
  | .inn, x, .ref n => (getL μ n).bind fun l => inRow x l
  | .notin, x, .ref n => ((getL μ n).bind fun l => inRow x l).map (!·)
  | _, _, _ => none
/-- the place that an index means -/
def ixNat (n : Nat) (i : Int) : Option Nat := if 0 ≤ i then (if i < n then some i.toNat else none) else if -(n : Int) ≤ i then some (i + n).toNat else none
def getIx (μ : Store) : D → D → Option D
  | .tup l, .int i => (ixNat l.length i).bind fun j => l[j]?
  | .tl l, .int i => (ixNat l.length i).bind fun j => l[j]?
  | .fz l, .int i => (ixNat l.length i).bind fun j => l[j]?
  | .ref n, .int i => (getL μ n).bind fun l => (ixNat l.length i).bind fun j => l[j]?
  | .str s, .int i => (ixNat s.length i).bind fun j => s[j]?.map fun c => .str [c]
  | _, _ => none
def setIx (μ : Store) : D → D → D → Option Store
  | .ref n, .int i, d => match μ[n]? with
    | some (.lst l) => (ixNat l.length i).map fun j => μ.set n (.lst (l.set j d))
    | _ => none
  | _, _, _ => none

inductive Blt where
  | len | tuple | list | int | min | max | isinstance | sum | abs | all | any | sorted
  deriving DecidableEq, Repr
/-- built-in classes, by the names that isinstance asks for -/
inductive Cls where
  | int | bool | str | tuple | list
  deriving DecidableEq, Repr
def isOf (μ : Store) : Cls → D → Option Bool
  | .int, .int _ | .int, .bl _ => some true
  | .bool, .bl _ => some true
  | .str, .str _ => some true
  | .tuple, .tup _ => some true
  | .list, .tl _ | .list, .fz _ => some true
  | .list, .ref n => (getL μ n).map fun _ => true
  | _, .ref n => (getL μ n).map fun _ => false
  | _, .fn _ => none
  | _, .exn .. => none
  | _, _ => some false
def minI (i j : Int) : Int := if j < i then j else i
def intsOf : List D → Option (List Int)
  | [] => some []
  | .int i :: r => (intsOf r).map (i :: ·)
  | _ :: _ => none
def boolsOf : List D → Option (List Bool)
  | [] => some []
  | .bl b :: r => (boolsOf r).map (b :: ·)
  | _ :: _ => none
/-- the items of a list -/
def seqL (μ : Store) : D → Option (List D)
  | .tl l => some l
  | .fz l => some l
  | .ref n => getL μ n
  | _ => none
/-- the items of a list or a tuple -/
def seqT (μ : Store) : D → Option (List D)
  | .tup l => some l
  | d => seqL μ d
def minL (x : Int) (l : List Int) : Int := l.foldl (fun a b => if b < a then b else a) x
def maxL (x : Int) (l : List Int) : Int := l.foldl (fun a b => if a < b then b else a) x
def minOf : List Int → Option D
  | [] => none
  | x :: l => some (.int (minL x l))
def maxOf : List Int → Option D
  | [] => none
  | x :: l => some (.int (maxL x l))
/-! ### sorted -/
section
variable {α : Type} (lt : α → α → Bool)
def insB (x : α) : List α → List α
  | [] => [x]
  | y :: r => if lt y x = true then y :: insB x r else x :: y :: r
def srtB : List α → List α
  | [] => []
  | x :: r => insB lt x (srtB r)
def insU (x : α) : List α → List α
  | [] => [x]
  | y :: r => if lt y x = true then y :: insU x r else if lt x y = true then x :: y :: r else y :: r
def srtU : List α → List α
  | [] => []
  | x :: r => insU lt x (srtU r)
end
def strsOf : List D → Option (List (List Nat))
  | [] => some []
  | .str s :: r => (strsOf r).map (s :: ·)
  | _ :: _ => none
def sortD (l : List D) : Option (List D) := match intsOf l with
  | some ns => some ((srtB ltI ns).map .int)
  | none => (strsOf l).map fun ss => (srtB ltN ss).map .str
/-- .. each once -/
def setD (l : List D) : Option (List D) := match intsOf l with
  | some ns => some ((srtU ltI ns).map .int)
  | none => (strsOf l).map fun ss => (srtU ltN ss).map .str
def bltin (μ : Store) : Blt → List D → Option D
  | .len, [.str s] => some (.int s.length)
  | .len, [.tup l] => some (.int l.length)
  | .len, [.tl l] => some (.int l.length)
  | .len, [.fz l] => some (.int l.length)
  | .len, [.ref n] => (getL μ n).map fun l => .int l.length
  | .tuple, [.tup l] => some (.tup l)
  | .tuple, [.tl l] => some (.tup l)
  | .tuple, [.fz l] => some (.tup l)
  | .tuple, [.ref n] => (getL μ n).map .tup
  | .list, [.tup l] => some (.tl l)
  | .list, [.tl l] => some (.tl l)
  | .list, [.fz l] => some (.tl l)
  | .list, [.ref n] => (getL μ n).map .tl
  | .int, [.int i] => some (.int i)
  | .int, [.bl b] => some (.int (if b then 1 else 0))
  | .min, [.int i, .int j] => some (.int (if j < i then j else i))
  | .max, [.int i, .int j] => some (.int (if j > i then j else i))
  | .min, [.int i, .int j, .int k] => some (.int (if k < (if j < i then j else i) then k else (if j < i then j else i)))
  | .min, [.int i, .int j, .int k, .int l] => some (.int (minL i [j, k, l]))
  | .min, [d] => ((seqT μ d).bind intsOf).bind minOf
  | .max, [d] => ((seqT μ d).bind intsOf).bind maxOf
  | .sum, [d] => ((seqT μ d).bind intsOf).map fun l => .int l.sum
  | .all, [d] => ((seqL μ d).bind boolsOf).map fun l => .bl (l.all id)
  | .any, [d] => ((seqL μ d).bind boolsOf).map fun l => .bl (l.any id)
  | .abs, [.int i] => some (.int (if i < 0 then -i else i))
  | .sorted, [d] => ((seqL μ d).bind sortD).map .tl
  | _, _ => none
inductive Mth where
  | append | join | index
  deriving DecidableEq, Repr
def joinL (sep : List Nat) : List (List Nat) → List Nat
  | [] => []
  | [x] => x
  | x :: y :: r => x ++ sep ++ joinL sep (y :: r)
/-- where a slice's part stands in n items -/
def atEnd (n : Nat) (i : Int) : Nat := if i < 0 then (i + n).toNat else min i.toNat n
def fromI (n : Nat) : Option Int → Nat
  | none => 0
  | some i => atEnd n i
def toI (n : Nat) : Option Int → Nat
  | none => n
  | some i => atEnd n i
def cutL {α : Type} (l : List α) (lo hi : Option Int) : List α := (l.drop (fromI l.length lo)).take (toI l.length hi - fromI l.length lo)
def cutD (μ : Store) : D → Option Int → Option Int → Option D
  | .str s, lo, hi => some (.str (cutL s lo hi))
  | .tup l, lo, hi => some (.tup (cutL l lo hi))
  | .tl l, lo, hi => some (.tl (cutL l lo hi))
  | .fz l, lo, hi => some (.tl (cutL l lo hi))
  | .ref n, lo, hi => (getL μ n).map fun l => .tl (cutL l lo hi)
  | _, _, _ => none
def sl1D (μ : Store) (x : D) : D → Option D
  | .int i => cutD μ x (some i) none
  | _ => none
def sl2D (μ : Store) (x : D) : D → Option D
  | .int i => cutD μ x none (some i)
  | _ => none
def sl3D (μ : Store) (x : D) : D → D → Option D
  | .int i, .int j => cutD μ x (some i) (some j)
  | _, _ => none
def methop (μ : Store) : Mth → D → List D → Option (D × Store)
  | .append, .ref n, [d] => match μ[n]? with
    | some (.lst l) => if l.length < LIM then some (.non, (alloc d μ).2.set n (.lst (l ++ [(alloc d μ).1]))) else none
    | _ => none
  | .join, .str a, [d] => ((seqT μ d).bind strsOf).bind fun ys => if (ys.map List.length).sum + ys.length * a.length ≤ LIM then some (.str (joinL a ys), μ) else none
  | .index, .str a, [.str [c]] => if a.contains c = true then some (.int (a.idxOf c : Nat), μ) else none
  | _, _, _ => none

/-- the method is there -/
def recvOk (μ : Store) : Mth → D → Bool
  | .append, .ref n => (getL μ n).isSome
  | .join, .str _ => true
  | .index, .str _ => true
  | _, _ => false

/-! ### dicts; operations of one, two, three parts -/
mutual
/-- of such things is a tuple that is a key -/
def nkOk : D → Bool
  | .non | .int _ | .str _ => true
  | .tup l => nkOks l
  | _ => false
def nkOks : List D → Bool
  | [] => true
  | d :: r => nkOk d && nkOks r
end
/-- a key: a number, a text; t: a tuple -/
def keyOk : Bool → D → Bool
  | false, .int _ => true
  | false, .str _ => true
  | true, .tup l => nkOks l && decide (D.deps l ≤ 6)
  | _, _ => false
def dgetL (kvs : List (D × D)) (k : D) : Option D := (kvs.find? fun p => decide (p.1 = k)).map (·.2)
def dputL (kvs : List (D × D)) (k v : D) : List (D × D) := if (dgetL kvs k).isSome then kvs.map fun p => if p.1 = k then (p.1, v) else p else kvs ++ [(k, v)]
/-- the dict at n -/
def getD (μ : Store) (n : Nat) : Option (Bool × List (D × D)) := match μ[n]? with
  | some (.dct t kvs) => some (t, kvs)
  | _ => none
def putD (μ : Store) : D → D → D → Option Store
  | .ref n, k, v => match getD μ n with
    | some (t, kvs) => if keyOk t k = true ∧ kvs.length < LIM then some (μ.set n (.dct t (dputL kvs k v))) else none
    | none => none
  | _, _, _ => none
inductive O0 where
  | dict (t : Bool)
  deriving DecidableEq, Repr
inductive O1 where
  | sset | dlen | sdict
  deriving DecidableEq, Repr
inductive O2 where
  | dix | din | dnin | get | ext
  deriving DecidableEq, Repr
inductive O3 where
  | get | setd
  deriving DecidableEq, Repr
def op0 (μ : Store) : O0 → D × Store
  | .dict t => (.ref μ.length, μ ++ [.dct t []])
def op1 (μ : Store) : O1 → D → Option (D × Store)
  | .sset, x => (seqT μ x).bind fun l => if l.length ≤ 4000 then (setD l).map fun r => (.tl r, μ) else none
  | .dlen, .ref n => (getD μ n).bind fun p => if p.2.length ≤ LIM then some (.int p.2.length, μ) else none
  | .sdict, .ref n => (getD μ n).bind fun p => if p.1 = false ∧ p.2.length < 64 then (sortD (p.2.map (·.1))).map fun r => (.tl r, μ) else none
  | _, _ => none
def op2 (μ : Store) : O2 → D → D → Option (D × Store)
  | .dix, .ref n, k => (getD μ n).bind fun p => if keyOk p.1 k = true then (dgetL p.2 k).map fun v => (v, μ) else none
  | .din, k, .ref n => (getD μ n).bind fun p => if keyOk p.1 k = true then some (.bl (dgetL p.2 k).isSome, μ) else none
  | .dnin, k, .ref n => (getD μ n).bind fun p => if keyOk p.1 k = true then some (.bl (!(dgetL p.2 k).isSome), μ) else none
  | .get, .ref n, k => (getD μ n).bind fun p => if keyOk p.1 k = true then some ((dgetL p.2 k).getD .non, μ) else none
  | .ext, .ref n, .tl y => (getL μ n).bind fun l => if l.length + y.length ≤ LIM then some (.non, (allocs y μ).2.set n (.lst (l ++ (allocs y μ).1))) else none
  | _, _, _ => none
def op3 (μ : Store) : O3 → D → D → D → Option (D × Store)
  | .get, .ref n, k, x => (getD μ n).bind fun p => if keyOk p.1 k = true ∧ x.still = true then some ((dgetL p.2 k).getD x, μ) else none
  | .setd, .ref n, k, x => (getD μ n).bind fun p => if keyOk p.1 k = true ∧ p.2.length < LIM then (match dgetL p.2 k with
      | some v => some (v, μ)
      | none => some ((alloc x μ).1, (alloc x μ).2.set n (.dct p.1 (p.2 ++ [(k, (alloc x μ).1)])))) else none
  | _, _, _, _ => none
/-- the receiver is one -/
def rOk2 (μ : Store) : O2 → D → Bool
  | .get, .ref n => (getD μ n).isSome
  | .ext, .ref n => (getL μ n).isSome
  | .get, _ | .ext, _ => false
  | _, _ => true
def rOk3 (μ : Store) : O3 → D → Bool
  | .get, .ref n => (getD μ n).isSome
  | .setd, .ref n => (getD μ n).isSome
  | _, _ => false

/-! ### the language -/
inductive Tg where
  | v (i : Nat)
  | t (l : List Tg)
mutual
inductive C where
  | lit (d : D) | var (i : Nat) | glo (x : String)
  | bin (op : BinK) (a b : C) | neg (a : C) | nt (a : C)
  | band (l : Cs) | bor (l : Cs) | ite (t a b : C)
  | cmp (op : CmpK) (a b : C) | cmp2 (op op' : CmpK) (a b c : C)
  | call (f : String) (l : Cs) | callv (i : Nat) (l : Cs)
  | blt (f : Blt) (l : Cs) | isi (a : C) (k : Cls) | meth (m : Mth) (o : C) (l : Cs)
  | tup (l : Cs) | lst (l : Cs)
  | ix (a i : C) | sl1 (a i : C) | sl2 (a i : C) | sl3 (a i j : C) | rngd (a b : C) | enum (a : C) | rev (a : C) | zip (a b : C) | rngs (a b c : C)
  | lc (e : C) (tg : Tg) (own : List (String × Nat)) (it : C) (ifs : Cs)
  | rng1 (a : C) | rng2 (a b : C) | lrng (t : Bool) (a : C) | frz (a : C) | xf (i : Nat) (n : String) | isx (i : Nat) (c k : String)
  | u0 (o : O0) | u1 (o : O1) (a : C) | u2 (o : O2) (a b : C) | u3 (o : O3) (a b c : C)
inductive Cs where
  | nil | cons (c : C) (r : Cs)
end
mutual
inductive S where
  | expr (e : C) | set (t : Tg) (e : C) | aug (i : Nat) (op : BinK) (e : C) | seti (a i e : C) | dput (a k e : C)
  | ret (e : C) | ite (c : C) (a b : Ss) | wh (c : C) (b : Ss) | for_ (t : Tg) (it : C) (b : Ss)
  | brk | cont | pass | dead
  | rais (c : String) (ns : List String) (l : Cs) | tryc (b : Ss) (c : String) (i : Option Nat) (h : Ss)
inductive Ss where
  | nil | cons (s : S) (r : Ss)
end

/-! ### the interpreter -/
mutual
def bindT : Tg → D → Env → Store → Option (Env × Store)
  | .v i, d, ρ, μ => some (ρ.set i (some (alloc d μ).1), (alloc d μ).2)
  | .t l, .tup ds, ρ, μ => bindTs l ds ρ μ
  | _, _, _, _ => none
def bindTs : List Tg → List D → Env → Store → Option (Env × Store)
  | [], [], ρ, μ => some (ρ, μ)
  | t :: ts, d :: ds, ρ, μ => (bindT t d ρ μ).bind fun p => bindTs ts ds p.1 p.2
  | _, _, _, _ => none
end
def wipeE (ρ : Env) : List (String × Nat) → Env
  | [] => ρ
  | p :: ps => (wipeE ρ ps).set p.2 none
/-- an exception's field -/
def xField : List String → List D → String → Option D
  | n :: ns, d :: ds, m => if n = m then some d else xField ns ds m
  | _, _, _ => none
/-- a list comprehension's turns -/
def lcGo (s : D) (xs : List D) (f : D → Store → Rs (Option D)) : List D → Store → List D → Rs D
  | [], μ, acc => if srcOk μ s xs = true then .ok (.tl acc) μ else .no
  | x :: r, μ, acc => if srcOk μ s xs = true then (match f x μ with
      | .ok (some d) μ' => if acc.length < LIM then lcGo s xs f r μ' (acc ++ [d]) else .no
      | .ok none μ' => lcGo s xs f r μ' acc
      | _ => .no)
    else .no
def forGo (s : D) (xs : List D) (f : D → Env → Store → Ou) : List D → Env → Store → Ou
  | [], ρ, μ => if srcOk μ s xs = true then .nx ρ μ else .no
  | x :: r, ρ, μ => if srcOk μ s xs = true then (match f x ρ μ with
      | .nx ρ' μ' => forGo s xs f r ρ' μ'
      | .ct ρ' μ' => forGo s xs f r ρ' μ'
      | .br ρ' μ' => .nx ρ' μ'
      | .rt d μ' => .rt d μ'
      | .ex e ρ' μ' => .ex e ρ' μ'
      | .no => .no)
    else .no
def whileM {σ τ : Type} (step : σ → Option (Sum σ τ)) (s : σ) : Option τ := do
  match ← step s with
  | .inl s' => whileM step s'
  | .inr r => some r
partial_fixpoint
def rngL (lo hi : Int) : List D := (List.range (hi - lo).toNat).map fun (i : Nat) => .int (lo + i)

def enumL : Nat → List D → List D
  | _, [] => []
  | n, d :: r => .tup [.int n, d] :: enumL (n + 1) r
def enumD : D → Option D
  | .str s => some (.tl (enumL 0 (s.map fun c => .str [c])))
  | .tup l => if D.stills l = true then some (.tl (enumL 0 l)) else none
  | .tl l => if D.stills l = true then some (.tl (enumL 0 l)) else none
  | .fz l => if D.stills l = true then some (.tl (enumL 0 l)) else none
  | _ => none
/-- pairs of two rows -/
def zipL : List D → List D → List D
  | d :: r, e :: t => .tup [d, e] :: zipL r t
  | _, _ => []
def zipD : D → D → Option D
  | .tup l, .tup m => if D.stills l = true ∧ D.stills m = true then some (.tl (zipL l m)) else none
  | _, _ => none
/-- lo, lo + k, .. under hi -/
def rngS (lo hi k : Int) : List D := (List.range (if lo < hi then (hi - lo - 1) / k + 1 else 0).toNat).map fun (i : Nat) => .int (lo + i * k)
/-- hi, hi - 1, .. above lo -/
def rngD (hi lo : Int) : List D := (List.range (hi - lo).toNat).map fun (i : Nat) => .int (hi - i)
section
variable (G : String → Option D) (call : String → List D → Store → Rs D)
mutual
def ev : C → Env → Store → Rs D
  | .lit d, _, μ => .ok d μ
  | .var i, ρ, μ => match ρ[i]? with
    | some (some d) => if d.isX = true then .no else .ok d μ
    | _ => .no
  | .glo x, _, μ => Rs.of (G x) μ
  | .bin op a b, ρ, μ => (ev a ρ μ).bnd fun x μ => (ev b ρ μ).bnd fun y μ => Rs.of (binop μ op x y) μ
  | .neg a, ρ, μ => (ev a ρ μ).bnd fun x μ => match x with
    | .int i => .ok (.int (-i)) μ
    | _ => .no
  | .nt a, ρ, μ => (ev a ρ μ).bnd fun x μ => Rs.of ((truth μ x).map fun b => .bl (!b)) μ
  | .band l, ρ, μ => evAnd l ρ μ
  | .bor l, ρ, μ => evOr l ρ μ
  | .ite t a b, ρ, μ => (ev t ρ μ).bnd fun x μ => match truth μ x with
    | some true => ev a ρ μ
    | some false => ev b ρ μ
    | none => .no
  | .cmp op a b, ρ, μ => (ev a ρ μ).bnd fun x μ => (ev b ρ μ).bnd fun y μ => Rs.of ((cmpop μ op x y).map .bl) μ
  | .cmp2 op op' a b c, ρ, μ => (ev a ρ μ).bnd fun x μ => (ev b ρ μ).bnd fun y μ => match cmpop μ op x y with
    | some true => (ev c ρ μ).bnd fun z μ => Rs.of ((cmpop μ op' y z).map .bl) μ
    | some false => .ok (.bl false) μ
    | none => .no
  | .call f l, ρ, μ => (evs l ρ μ).bnd fun ds μ => callA call f ds μ
  | .callv i l, ρ, μ => match ρ[i]? with
    | some (some (.fn f)) => (evs l ρ μ).bnd fun ds μ => callA call f ds μ
    | _ => .no
  | .blt f l, ρ, μ => (evs l ρ μ).bnd fun ds μ => Rs.of (bltin μ f ds) μ
  | .isi a k, ρ, μ => (ev a ρ μ).bnd fun x μ => Rs.of ((isOf μ k x).map .bl) μ
  | .meth m o l, ρ, μ => (ev o ρ μ).bnd fun x μ => if recvOk μ m x = true then (evs l ρ μ).bnd fun ds μ => match methop μ m x ds with
      | some (d, μ') => .ok d μ'
      | none => .no
    else .no
  | .tup l, ρ, μ => (evs l ρ μ).bnd fun ds μ => .ok (.tup ds) μ
  | .lst l, ρ, μ => (evs l ρ μ).bnd fun ds μ => .ok (.tl ds) μ
  | .ix a i, ρ, μ => (ev a ρ μ).bnd fun x μ => (ev i ρ μ).bnd fun y μ => Rs.of (getIx μ x y) μ
  | .sl1 a i, ρ, μ => (ev a ρ μ).bnd fun x μ => (ev i ρ μ).bnd fun y μ => Rs.of (sl1D μ x y) μ
  | .sl2 a i, ρ, μ => (ev a ρ μ).bnd fun x μ => (ev i ρ μ).bnd fun y μ => Rs.of (sl2D μ x y) μ
  | .sl3 a i j, ρ, μ => (ev a ρ μ).bnd fun x μ => (ev i ρ μ).bnd fun y μ => match y with
    | .int i => (ev j ρ μ).bnd fun z μ => Rs.of (sl3D μ x (.int i) z) μ
    | _ => .no
  | .rngd a b, ρ, μ => (ev a ρ μ).bnd fun x μ => (ev b ρ μ).bnd fun y μ => match x, y with
    | .int i, .int j => if (-(2 ^ 62) ≤ i ∧ i < 2 ^ 62) ∧ -(2 ^ 62) ≤ j ∧ j < 2 ^ 62 then .ok (.tl (rngD i j)) μ else .no
    | _, _ => .no
  | .rev a, ρ, μ => (ev a ρ μ).bnd fun x μ => match x with
    | .str s => .ok (.str s.reverse) μ
    | _ => .no
  | .enum a, ρ, μ => (ev a ρ μ).bnd fun x μ => Rs.of (enumD x) μ
  | .zip a b, ρ, μ => (ev a ρ μ).bnd fun x μ => (ev b ρ μ).bnd fun y μ => Rs.of (zipD x y) μ
  | .rngs a b c, ρ, μ => (ev a ρ μ).bnd fun x μ => (ev b ρ μ).bnd fun y μ => (ev c ρ μ).bnd fun z μ => match x, y, z with
    | .int i, .int j, .int k => if ((-(2 ^ 62) ≤ i ∧ i < 2 ^ 62) ∧ -(2 ^ 62) ≤ j ∧ j < 2 ^ 62) ∧ 0 < k ∧ k < 1073741824 then .ok (.tl (rngS i j k)) μ else .no
    | _, _, _ => .no
  | .lc e tg own it ifs, ρ, μ => (ev it ρ μ).bnd fun s0 μ0 => match items (settle s0 μ0).2 (settle s0 μ0).1 with
    | some xs => lcGo (settle s0 μ0).1 xs (fun x μ => match bindT tg x (wipeE ρ own) μ with
      | some (ρ', μ) => (evIfs ifs ρ' μ).bnd fun b μ => if b = true then (ev e ρ' μ).bnd fun d μ => .ok (some d) μ else .ok none μ
      | none => .no) xs (settle s0 μ0).2 []
    | none => .no
  | .rng1 a, ρ, μ => (ev a ρ μ).bnd fun x μ => match x with
    | .int j => if -(2 ^ 62) ≤ j ∧ j < 2 ^ 62 then .ok (.tl (rngL 0 j)) μ else .no
    | _ => .no
  | .rng2 a b, ρ, μ => (ev a ρ μ).bnd fun x μ => (ev b ρ μ).bnd fun y μ => match x, y with
    | .int i, .int j => if (-(2 ^ 62) ≤ i ∧ i < 2 ^ 62) ∧ -(2 ^ 62) ≤ j ∧ j < 2 ^ 62 then .ok (.tl (rngL i j)) μ else .no
    | _, _ => .no
  | .lrng t a, ρ, μ => (ev a ρ μ).bnd fun x μ => match x with
    | .int j => if 0 ≤ j ∧ j ≤ LIM then .ok (if t = true then .tup (rngL 0 j) else .tl (rngL 0 j)) μ else .no
    | _ => .no
  | .frz a, ρ, μ => (ev a ρ μ).bnd fun x μ => .ok (freeze x) μ
  | .xf i n, ρ, μ => match ρ[i]? with
    | some (some (.exn _ ns l)) => Rs.of (xField ns l n) μ
    | _ => .no
  | .isx i c _, ρ, μ => match ρ[i]? with
    | some (some (.exn c' _ _)) => if c' = c then .ok (.bl true) μ else .no
    | _ => .no
  | .u0 o, _, μ => .ok (op0 μ o).1 (op0 μ o).2
  | .u1 o a, ρ, μ => (ev a ρ μ).bnd fun x μ => Rs.ofP (op1 μ o x)
  | .u2 o a b, ρ, μ => (ev a ρ μ).bnd fun x μ => if rOk2 μ o x = true then (ev b ρ μ).bnd fun y μ => Rs.ofP (op2 μ o x y) else .no
  | .u3 o a b c, ρ, μ => (ev a ρ μ).bnd fun x μ => if rOk3 μ o x = true then (ev b ρ μ).bnd fun y μ => (ev c ρ μ).bnd fun z μ => Rs.ofP (op3 μ o x y z) else .no
def evs : Cs → Env → Store → Rs (List D)
  | .nil, _, μ => .ok [] μ
  | .cons c r, ρ, μ => (ev c ρ μ).bnd fun d μ => (evs r ρ μ).bnd fun ds μ => .ok (d :: ds) μ
def evAnd : Cs → Env → Store → Rs D
  | .nil, _, _ => .no
  | .cons c r, ρ, μ => (ev c ρ μ).bnd fun x μ => match r with
    | .nil => .ok x μ
    | .cons .. => match truth μ x with
      | some true => evAnd r ρ μ
      | some false => .ok x μ
      | none => .no
def evOr : Cs → Env → Store → Rs D
  | .nil, _, _ => .no
  | .cons c r, ρ, μ => (ev c ρ μ).bnd fun x μ => match r with
    | .nil => .ok x μ
    | .cons .. => match truth μ x with
      | some true => .ok x μ
      | some false => evOr r ρ μ
      | none => .no
def evIfs : Cs → Env → Store → Rs Bool
  | .nil, _, μ => .ok true μ
  | .cons c r, ρ, μ => (ev c ρ μ).bnd fun x μ => match truth μ x with
    | some true => evIfs r ρ μ
    | some false => .ok false μ
    | none => .no
end
mutual
def exec : S → Env → Store → Ou
  | .expr e, ρ, μ => (ev G call e ρ μ).ou ρ fun _ μ => .nx ρ μ
  | .set t e, ρ, μ => (ev G call e ρ μ).ou ρ fun d μ => match bindT t d ρ μ with
    | some (ρ', μ') => .nx ρ' μ'
    | none => .no
  | .aug i op e, ρ, μ => match ρ[i]? with
    | some (some x) => (ev G call e ρ μ).ou ρ fun y μ => match augop op x y with
      | some z => match bindT (.v i) z ρ μ with
        | some (ρ', μ') => .nx ρ' μ'
        | none => .no
      | none => .no
    | _ => .no
  | .seti a i e, ρ, μ => (ev G call e ρ μ).ou ρ fun d μ => (ev G call a ρ μ).ou ρ fun x μ => (ev G call i ρ μ).ou ρ fun y μ =>
    match setIx (alloc d μ).2 x y (alloc d μ).1 with
    | some μ' => .nx ρ μ'
    | none => .no
  | .dput a k e, ρ, μ => (ev G call e ρ μ).ou ρ fun d μ => (ev G call a ρ μ).ou ρ fun x μ => (ev G call k ρ μ).ou ρ fun y μ =>
    match putD (alloc d μ).2 x y (alloc d μ).1 with
    | some μ' => .nx ρ μ'
    | none => .no
  | .ret e, ρ, μ => (ev G call e ρ μ).ou ρ fun d μ => .rt d μ
  | .ite c a b, ρ, μ => (ev G call c ρ μ).ou ρ fun x μ => match truth μ x with
    | some true => execs a ρ μ
    | some false => execs b ρ μ
    | none => .no
  | .wh c b, ρ, μ => match whileM (fun (p : Env × Store) => match (ev G call c p.1 p.2).ou p.1 fun x μ => match truth μ x with
        | some true => (match execs b p.1 μ with
          | .nx ρ' μ' => .nx ρ' μ'
          | .ct ρ' μ' => .nx ρ' μ'
          | .br ρ' μ' => .br ρ' μ'
          | .rt d μ' => .rt d μ'
          | .ex e ρ' μ' => .ex e ρ' μ'
          | .no => .no)
        | some false => .br p.1 μ
        | none => .no with
      | .nx ρ' μ' => some (.inl (ρ', μ'))
      | .br ρ' μ' => some (.inr (.nx ρ' μ'))
      | .rt d μ' => some (.inr (.rt d μ'))
      | .ex e ρ' μ' => some (.inr (.ex e ρ' μ'))
      | .ct _ _ => none
      | .no => none) (ρ, μ) with
    | some o => o
    | none => .no
  | .for_ t it b, ρ, μ => (ev G call it ρ μ).ou ρ fun s0 μ0 => match items (settle s0 μ0).2 (settle s0 μ0).1 with
    | some xs => forGo (settle s0 μ0).1 xs (fun x ρ μ => match bindT t x ρ μ with
      | some (ρ', μ') => execs b ρ' μ'
      | none => .no) xs ρ (settle s0 μ0).2
    | none => .no
  | .brk, ρ, μ => .br ρ μ
  | .cont, ρ, μ => .ct ρ μ
  | .pass, ρ, μ => .nx ρ μ
  | .dead, _, _ => .no
  | .rais c ns l, ρ, μ => (evs G call l ρ μ).ou ρ fun ds μ => if ds.length = ns.length ∧ ds.all D.flat = true then .ex (.exn c ns ds) ρ μ else .no
  | .tryc b c i h, ρ, μ => match execs b ρ μ with
    | .ex (.exn c' ns ds) ρ' μ' => if c' = c then (match i with
        | none => (execs h ρ' μ').unE
        | some i => (execs h (ρ'.set i (some (.exn c' ns ds))) μ').wipeO i)
      else .ex (.exn c' ns ds) ρ' μ'
    | .ex _ _ _ => .no
    | o => o
def execs : Ss → Env → Store → Ou
  | .nil, ρ, μ => .nx ρ μ
  | .cons s r, ρ, μ => (exec s ρ μ).seq fun ρ μ => execs r ρ μ
end
end

/-! ### functions -/
structure Fn where
  name : String
  np : Nat
  names : List String
  body : Ss
structure Prog where
  fns : List Fn
  consts : List (String × D)
def Prog.fn (P : Prog) (f : String) : Option Fn := P.fns.find? fun x => x.name == f
def Prog.G (P : Prog) (x : String) : Option D := match P.consts.lookup x with
  | some d => some d
  | none => (P.fn x).map fun f => .fn f.name
def callN (P : Prog) : Nat → String → List D → Store → Rs D
  | 0, _, _, _ => .no
  | k + 1, f, args, μ => match P.fn f with
    | none => .no
    | some F => if args.length = F.np ∧ D.stills args = true then
        match execs P.G (callN P k) F.body (args.map some ++ List.replicate (F.names.length - F.np) none) μ with
        | .nx _ μ' => fin μ .non μ'
        | .rt d μ' => fin μ d μ'
        | .ex e _ μ' => finX μ e μ'
        | _ => .no
      else .no
end Mp
end SCore
section SSnd1
/-! Snd1: how the machine's values and heap bear the interpreter's data and store. -/
namespace Mp
open PySem PySem.Spec PyProof.Rows L2

/-- a text's codes are codes, and not too many -/
def okS (s : List Nat) : Bool := decide (s.length ≤ LIM) && s.all fun c => decide (c < 1114112)
def toS (s : List Nat) : Str := ⟨s.toArray⟩

/-- where the defs and classes stand; the exception that is handled: its slot, its place, its dict -/
structure FA where
  f : String → Option Addr
  c : String → Option Addr
  x : Option (Nat × Addr × Addr × String)
  w : Option World
/-- what the match of a text with its core may lean on: the defs, the classes of errors with their fields, pairs of classes (one under the other); no error is being handled -/
structure FS where
  f : List String
  e : List (String × List String)
  s : List (String × String)
  calm : Bool
mutual
/-- the value v is the datum d; F: where its fresh lists stand -/
inductive Rep (K : PySem.W.Frag) (fa : FA) (H : Hp) (A : List Addr) : V → D → List Addr → Prop
  | non : Rep K fa H A .non .non []
  | bl (b : Bool) : Rep K fa H A (.bl b) (.bl b) []
  | int (i : Int) : Rep K fa H A (.int i) (.int i) []
  | str (s : List Nat) (h : okS s = true) : Rep K fa H A (.str (toS s)) (.str s) []
  | fn {x : String} {a : Addr} (h : fa.f x = some a) : Rep K fa H A (.ref a) (.fn x) []
  | fz {a : Addr} {vs : List V} {l : List D} (h : SqL K H a vs) (hp : (∃ o, H a = some (.frz o (.lst vs))) ∨ ∀ H', SqL K H' a vs) (r : Reps K fa H A vs l []) : Rep K fa H A (.ref a) (.fz l) []
  | ref {n : Nat} {a : Addr} (h : A[n]? = some a) : Rep K fa H A (.ref a) (.ref n) []
  | tup {a : Addr} {vs : List V} {l : List D} {F : List Addr} (h : SqT K H a vs) (r : Reps K fa H A vs l F) : Rep K fa H A (.ref a) (.tup l) F
  | tl {a : Addr} {vs : List V} {l : List D} {F : List Addr} (h : H a = some (.lst vs)) (r : Reps K fa H A vs l F) : Rep K fa H A (.ref a) (.tl l) (F ++ [a])
inductive Reps (K : PySem.W.Frag) (fa : FA) (H : Hp) (A : List Addr) : List V → List D → List Addr → Prop
  | nil : Reps K fa H A [] [] []
  | cons {v : V} {vs : List V} {d : D} {ds : List D} {F F' : List Addr} (r : Rep K fa H A v d F) (t : Reps K fa H A vs ds F') : Reps K fa H A (v :: vs) (d :: ds) (F ++ F')
end
variable {K : PySem.W.Frag} {fa : FA} {H H' H1 H2 : Hp} {A A' A1 A2 : List Addr}

/-- what the steps of a part may do -/
structure Stp (A : List Addr) (H : Hp) (A' : List Addr) (H' : Hp) : Prop where
  pre : ∃ N, A' = A ++ N ∧ ∀ a ∈ N, H a = none
  keep : ∀ p o, H p = some o → p ∉ A → H' p = some o
  there : ∀ p o, H p = some o → ∃ o', H' p = some o'
  tups : ∀ p xs, H p = some (.tup xs) → H' p = some (.tup xs)
  frzs : ∀ p o u, H p = some (.frz o u) → H' p = some (.frz o u)
  xds : ∀ p fs, H p = some (.xd fs) → H' p = some (.xd fs)
theorem Stp.refl : Stp A H A H := ⟨⟨[], by simp, by simp⟩, fun _ _ h _ => h, fun _ o h => ⟨o, h⟩, fun _ _ h => h, fun _ _ _ h => h, fun _ _ h => h⟩
theorem Stp.free (s : Stp A H A' H') {p : Addr} (h : H' p = none) : H p = none := by
  cases q : H p with
  | none => rfl
  | some o =>
    obtain ⟨o', e⟩ := s.there p o q
    rw [h] at e; cases e
theorem Stp.trans (a : Stp A H A1 H1) (b : Stp A1 H1 A2 H2) : Stp A H A2 H2 := by
  obtain ⟨N, e1, n1⟩ := a.pre
  obtain ⟨M, e2, n2⟩ := b.pre
  refine ⟨⟨N ++ M, by rw [e2, e1, List.append_assoc], fun x hx => ?_⟩, fun p o h hp => ?_, fun p o h => ?_, fun p xs h => b.tups p xs (a.tups p xs h), fun p o u h => b.frzs p o u (a.frzs p o u h), fun p fs h => b.xds p fs (a.xds p fs h)⟩
  · rcases List.mem_append.mp hx with hx | hx
    · exact n1 x hx
    · exact a.free (n2 x hx)
  · refine b.keep p o (a.keep p o h hp) fun hm => ?_
    rw [e1] at hm
    rcases List.mem_append.mp hm with hm | hm
    · exact hp hm
    · rw [n1 p hm] at h; cases h
  · obtain ⟨o1, h1⟩ := a.there p o h
    exact b.there p o1 h1
theorem Stp.sub (s : Stp A H A' H') {n : Nat} {a : Addr} (h : A[n]? = some a) : A'[n]? = some a := by
  obtain ⟨N, e, _⟩ := s.pre
  rw [e, List.getElem?_append_left (List.getElem?_eq_some_iff.mp h).1]
  exact h
theorem Stp.mem (s : Stp A H A' H') {a : Addr} (h : a ∈ A) : a ∈ A' := by
  obtain ⟨N, e, _⟩ := s.pre
  rw [e]; exact List.mem_append_left _ h
/-- a tracked place that was none of ours is none of ours behind -/
theorem Stp.out (s : Stp A H A' H') {p : Addr} {o : HO} (h : H p = some o) (hp : p ∉ A) : p ∉ A' := by
  obtain ⟨N, e, n⟩ := s.pre
  rw [e]
  intro hm
  rcases List.mem_append.mp hm with hm | hm
  · exact hp hm
  · rw [n p hm] at h; cases h
theorem Stp.sqT (s : Stp A H A' H') {a : Addr} {xs : List V} (h : SqT K H a xs) : SqT K H' a xs := by
  rcases h with (h | ⟨o, h⟩) | h
  · exact .inl (.inl (s.tups _ _ h))
  · exact .inl (.inr ⟨o, s.frzs _ _ _ h⟩)
  · exact .inr h
/-- a new object -/
theorem Stp.new {p : Addr} {o : HO} (h : H p = none) : Stp A H A (upd H p o) := by
  have ne : ∀ q u, H q = some u → q ≠ p := fun q u e z => by rw [z, h] at e; cases e
  refine ⟨⟨[], by simp, by simp⟩, fun q u e _ => ?_, fun q u e => ⟨u, ?_⟩, fun q xs e => ?_, fun q o' u e => ?_, fun q fs e => ?_⟩ <;> (rw [upd_ne (ne _ _ e)]; exact e)

/-- what a datum's standing leans on -/
structure Sta (F : List Addr) (A : List Addr) (H : Hp) (A' : List Addr) (H' : Hp) : Prop where
  pre : ∃ N, A' = A ++ N
  keep : ∀ a ∈ F, ∀ o, H a = some o → H' a = some o
  tups : ∀ p xs, H p = some (.tup xs) → H' p = some (.tup xs)
  frzs : ∀ p o u, H p = some (.frz o u) → H' p = some (.frz o u)
theorem Sta.sub {F : List Addr} (s : Sta F A H A' H') {n : Nat} {a : Addr} (h : A[n]? = some a) : A'[n]? = some a := by
  obtain ⟨N, e⟩ := s.pre
  rw [e, List.getElem?_append_left (List.getElem?_eq_some_iff.mp h).1]
  exact h
theorem Sta.less {F F' : List Addr} (s : Sta F A H A' H') (h : ∀ a ∈ F', a ∈ F) : Sta F' A H A' H' := ⟨s.pre, fun a ha => s.keep a (h a ha), s.tups, s.frzs⟩
theorem Stp.sta {F : List Addr} (s : Stp A H A' H') (h : ∀ a ∈ F, a ∉ A) : Sta F A H A' H' := ⟨let ⟨N, e, _⟩ := s.pre; ⟨N, e⟩, fun a ha o e => s.keep a o e (h a ha), s.tups, s.frzs⟩
theorem Sta.trans {F : List Addr} (a : Sta F A H A1 H1) (b : Sta F A1 H1 A2 H2) : Sta F A H A2 H2 := by
  obtain ⟨N, e1⟩ := a.pre
  obtain ⟨M, e2⟩ := b.pre
  exact ⟨⟨N ++ M, by rw [e2, e1, List.append_assoc]⟩, fun x hx o e => b.keep x hx o (a.keep x hx o e), fun p xs h => b.tups p xs (a.tups p xs h), fun p o u h => b.frzs p o u (a.frzs p o u h)⟩
theorem Sta.upd {F : List Addr} {p : Addr} {xs : List V} {o : HO} (h : H p = some (.lst xs)) (hp : p ∉ F) : Sta F A H A (upd H p o) := by
  refine ⟨⟨[], by simp⟩, fun a ha u e => ?_, fun q ys e => ?_, fun q o' u e => ?_⟩
  · have hne : a ≠ p := by intro z; subst z; exact hp ha
    rw [upd_ne hne]; exact e
  · rw [upd_ne (fun z => by rw [z, h] at e; cases e)]; exact e
  · rw [upd_ne (fun z => by rw [z, h] at e; cases e)]; exact e
theorem Sta.sqT {F : List Addr} (s : Sta F A H A' H') {a : Addr} {xs : List V} (h : SqT K H a xs) : SqT K H' a xs := by
  rcases h with (h | ⟨o, h⟩) | h
  · exact .inl (.inl (s.tups _ _ h))
  · exact .inl (.inr ⟨o, s.frzs _ _ _ h⟩)
  · exact .inr h
mutual
theorem Rep.sta : ∀ {v : V} {d : D} {F : List Addr}, Rep K fa H A v d F → Sta F A H A' H' → Rep K fa H' A' v d F
  | _, .non, _, h, _ => by cases h; exact .non
  | _, .bl _, _, h, _ => by cases h; exact .bl _
  | _, .int _, _, h, _ => by cases h; exact .int _
  | _, .str _, _, h, _ => by cases h with | str _ h => exact .str _ h
  | _, .fn _, _, h, _ => by cases h with | fn h => exact .fn h
  | _, .ref _, _, h, s => by cases h with | ref h => exact .ref (s.sub h)
  | _, .fz l, _, h, s => by
    cases h with
    | fz h hp r =>
      refine .fz ?_ ?_ (Reps.sta r s)
      · rcases hp with ⟨o, e⟩ | hp
        · exact .inl (.inr ⟨o, s.frzs _ _ _ e⟩)
        · exact hp _
      · rcases hp with ⟨o, e⟩ | hp
        · exact .inl ⟨o, s.frzs _ _ _ e⟩
        · exact .inr hp
  | _, .tup l, _, h, s => by cases h with | tup h r => exact .tup (s.sqT h) (Reps.sta r s)
  | _, .tl l, _, h, s => by
    cases h with
    | tl h r => exact .tl (s.keep _ (by simp) _ h) (Reps.sta r (s.less fun a ha => by simp [ha]))
theorem Reps.sta : ∀ {vs : List V} {ds : List D} {F : List Addr}, Reps K fa H A vs ds F → Sta F A H A' H' → Reps K fa H' A' vs ds F
  | _, [], _, h, _ => by cases h; exact .nil
  | _, d :: ds, _, h, s => by
    cases h with
    | cons r t => exact .cons (Rep.sta r (s.less fun a ha => by simp [ha])) (Reps.sta t (s.less fun a ha => by simp [ha]))
end
theorem Rep.step (s : Stp A H A' H') {v : V} {d : D} {F : List Addr} (h : Rep K fa H A v d F) (hF : ∀ a ∈ F, a ∉ A) : Rep K fa H' A' v d F := h.sta (s.sta hF)
theorem Reps.step (s : Stp A H A' H') {vs : List V} {ds : List D} {F : List Addr} (h : Reps K fa H A vs ds F) (hF : ∀ a ∈ F, a ∉ A) : Reps K fa H' A' vs ds F := h.sta (s.sta hF)
mutual
theorem Rep.mono {N : List Addr} : ∀ {v : V} {d : D} {F : List Addr}, Rep K fa H A v d F → Rep K fa H (A ++ N) v d F
  | _, .non, _, h => by cases h; exact .non
  | _, .bl _, _, h => by cases h; exact .bl _
  | _, .int _, _, h => by cases h; exact .int _
  | _, .str _, _, h => by cases h with | str _ h => exact .str _ h
  | _, .fn _, _, h => by cases h with | fn h => exact .fn h
  | _, .ref _, _, h => by cases h with | ref h => exact .ref (by rw [List.getElem?_append_left (List.getElem?_eq_some_iff.mp h).1]; exact h)
  | _, .fz l, _, h => by cases h with | fz h hp r => exact .fz h hp (Reps.mono r)
  | _, .tup l, _, h => by cases h with | tup h r => exact .tup h (Reps.mono r)
  | _, .tl l, _, h => by cases h with | tl h r => exact .tl h (Reps.mono r)
theorem Reps.mono {N : List Addr} : ∀ {vs : List V} {ds : List D} {F : List Addr}, Reps K fa H A vs ds F → Reps K fa H (A ++ N) vs ds F
  | _, [], _, h => by cases h; exact .nil
  | _, d :: ds, _, h => by cases h with | cons r t => exact .cons (Rep.mono r) (Reps.mono t)
end
theorem Reps.length : ∀ {vs : List V} {ds : List D} {F : List Addr}, Reps K fa H A vs ds F → vs.length = ds.length
  | _, _, _, .nil => rfl
  | _, _, _, .cons _ t => by simp [Reps.length t]
theorem Reps.append : ∀ {vs : List V} {ds : List D} {F : List Addr} {ws : List V} {es : List D} {F' : List Addr}, Reps K fa H A vs ds F → Reps K fa H A ws es F' → Reps K fa H A (vs ++ ws) (ds ++ es) (F ++ F')
  | _, _, _, _, _, _, .nil, s => s
  | _, _, _, _, _, _, .cons r t, s => by rw [List.append_assoc]; exact .cons r (Reps.append t s)
theorem Reps.one {v : V} {d : D} {F : List Addr} (r : Rep K fa H A v d F) : Reps K fa H A [v] [d] F := by
  have := Reps.cons r .nil
  simpa using this
/-- one of them -/
theorem Reps.get : ∀ {vs : List V} {ds : List D} {F : List Addr} {j : Nat} {d : D}, Reps K fa H A vs ds F → ds[j]? = some d → ∃ v F1, vs[j]? = some v ∧ Rep K fa H A v d F1 ∧ F1.Sublist F
  | _, _, _, _, _, .nil, e => by simp at e
  | _, _, _, 0, _, .cons (F := F) (F' := F') r _, e => by
    simp at e; subst e
    exact ⟨_, F, rfl, r, List.sublist_append_left _ _⟩
  | _, _, _, j + 1, d, .cons (F := F) (F' := F') _ t, e => by
    obtain ⟨v, F1, h1, h2, h3⟩ := Reps.get (j := j) (d := d) t (by simpa using e)
    exact ⟨v, F1, by simpa using h1, h2, h3.trans (List.sublist_append_right _ _)⟩
theorem Reps.getV : ∀ {vs : List V} {ds : List D} {F : List Addr} {j : Nat} {v : V}, Reps K fa H A vs ds F → vs[j]? = some v → ∃ d F1, ds[j]? = some d ∧ Rep K fa H A v d F1 ∧ F1.Sublist F := fun {vs ds F j v} r e => by
  have hj : j < ds.length := by rw [← r.length]; exact (List.getElem?_eq_some_iff.mp e).1
  obtain ⟨v', F1, h1, h2, h3⟩ := r.get (d := ds[j]) (List.getElem?_eq_getElem hj)
  rw [e] at h1; cases h1
  exact ⟨ds[j], F1, List.getElem?_eq_getElem hj, h2, h3⟩
theorem Reps.set_still : ∀ {vs : List V} {ds : List D} {j : Nat} {v : V} {d : D}, Reps K fa H A vs ds [] → Rep K fa H A v d [] → Reps K fa H A (vs.set j v) (ds.set j d) []
  | _, [], _, _, _, h, _ => by cases h; exact .nil
  | _, e :: es, j, v, d, h, r => by
    generalize hF : ([] : List Addr) = F at h
    cases h with
    | @cons w ws _ _ F1 F2 r1 t =>
      obtain ⟨e1, e2⟩ := List.append_eq_nil_iff.mp hF.symm
      subst e1 e2
      clear hF
      cases j with
      | zero => exact Reps.cons r t
      | succ j => exact Reps.cons r1 (Reps.set_still (j := j) t r)
mutual
/-- what is still has no fresh lists -/
theorem Rep.still : ∀ {v : V} {d : D} {F : List Addr}, Rep K fa H A v d F → d.still = true → F = []
  | _, .non, _, h, _ => by cases h; rfl
  | _, .bl _, _, h, _ => by cases h; rfl
  | _, .int _, _, h, _ => by cases h; rfl
  | _, .str _, _, h, _ => by cases h; rfl
  | _, .fn _, _, h, _ => by cases h; rfl
  | _, .ref _, _, h, _ => by cases h; rfl
  | _, .fz _, _, h, _ => by cases h; rfl
  | _, .tup l, _, h, e => by cases h with | tup _ r => exact Reps.still r (by simpa [D.still] using e)
  | _, .tl l, _, h, e => by simp [D.still] at e
theorem Reps.still : ∀ {vs : List V} {ds : List D} {F : List Addr}, Reps K fa H A vs ds F → D.stills ds = true → F = []
  | _, [], _, h, _ => by cases h; rfl
  | _, d :: ds, _, h, e => by
    cases h with
    | cons r t =>
      have e' : d.still = true ∧ D.stills ds = true := by simpa [D.stills] using e
      rw [Rep.still r e'.1, Reps.still t e'.2]; rfl
end

/-! ### the store -/
mutual
/-- a datum as a key -/
def nkD : D → NestedKey
  | .int i => .num i
  | .str s => .text (toS s)
  | .tup l => .tup (nkDs l)
  | _ => .none
def nkDs : List D → List NestedKey
  | [] => []
  | d :: r => nkD d :: nkDs r
end
def RepO (K : PySem.W.Frag) (fa : FA) (H : Hp) (A : List Addr) (a : Addr) : Obj → Prop
  | .lst l => ∃ vs, H a = some (.lst vs) ∧ Reps K fa H A vs l []
  | .dct false kvs => ∃ ws : List (Key × V), H a = some (.dK ws) ∧ (∀ p ∈ kvs, keyOk false p.1 = true) ∧ Reps K fa H A (ws.map fun x => kV x.1) (kvs.map (·.1)) [] ∧ Reps K fa H A (ws.map (·.2)) (kvs.map (·.2)) []
  | .dct true kvs => ∃ (w : World) (ws : Ws), fa.w = some w ∧ H a = some (DNO w a ws) ∧ (∀ p ∈ kvs, keyOk true p.1 = true) ∧ Reps K fa H A (ws.map fun x => V.ref x.2.1) (kvs.map (·.1)) [] ∧ (kvs.map fun p => nkD p.1) = ws.map (·.1) ∧ Reps K fa H A (ws.map (·.2.2)) (kvs.map (·.2)) []
/-- what is tracked: a list, a dict -/
inductive Trk : HO → Prop
  | lst (vs : List V) : Trk (.lst vs)
  | dK (ws : List (Key × V)) : Trk (.dK ws)
  | dN (w : World) (a : Addr) (ws : Ws) : Trk (DNO w a ws)
theorem RepO.trk {K : PySem.W.Frag} {fa : FA} {H : Hp} {A : List Addr} {a : Addr} {o : Obj} (h : RepO K fa H A a o) : ∃ u, H a = some u ∧ Trk u := by
  match o, h with
  | .lst l, ⟨vs, e, _⟩ => exact ⟨_, e, .lst vs⟩
  | .dct false kvs, ⟨ws, e, _⟩ => exact ⟨_, e, .dK ws⟩
  | .dct true kvs, ⟨w, ws, _, e, _⟩ => exact ⟨_, e, .dN w a ws⟩
theorem Trk.tup {xs : List V} (h : Trk (.tup xs)) : False := nomatch h
theorem Trk.frz {o : PySem.Obj} {u : HO} (h : Trk (.frz o u)) : False := nomatch h
theorem Trk.xd {fs : List (Str × V)} (h : Trk (.xd fs)) : False := nomatch h
/-- an object's standing, carried on -/
theorem RepO.map {K : PySem.W.Frag} {fa fa' : FA} {H H' : Hp} {A A' : List Addr} {a : Addr} {o : Obj} (h : RepO K fa H A a o) (hw : fa.w = fa'.w) (e : ∀ u, Trk u → H a = some u → H' a = some u) (r : ∀ vs ds, Reps K fa H A vs ds [] → Reps K fa' H' A' vs ds []) : RepO K fa' H' A' a o := by
  match o, h with
  | .lst l, ⟨vs, k, q⟩ => exact ⟨vs, e _ (.lst vs) k, r _ _ q⟩
  | .dct false kvs, ⟨ws, k, ok, q1, q2⟩ => exact ⟨ws, e _ (.dK ws) k, ok, r _ _ q1, r _ _ q2⟩
  | .dct true kvs, ⟨w, ws, h1, k, ok, q1, h2, q2⟩ => exact ⟨w, ws, hw ▸ h1, e _ (.dN w a ws) k, ok, r _ _ q1, h2, r _ _ q2⟩
structure RelM (K : PySem.W.Frag) (fa : FA) (H : Hp) (A : List Addr) (μ : Store) : Prop where
  len : A.length = μ.length
  obj : ∀ (i : Nat) (o : Obj), μ[i]? = some o → ∃ a, A[i]? = some a ∧ RepO K fa H A a o
  nd : A.Nodup
/-- an exception's own dict: its fields -/
def XDict (K : PySem.W.Frag) (fa : FA) (H : Hp) (dd : Addr) (ns : List String) (l : List D) : Prop :=
  ∃ vs : List V, H dd = some (.xd (((ns.map Str.ofString).zip vs).reverse)) ∧ (∀ A, Reps K fa H A vs l []) ∧ ns.length = l.length ∧ l.all D.flat = true ∧ (ns.map Str.ofString).Nodup
/-- what stands under a name -/
def RepS (K : PySem.W.Frag) (fa : FA) (H : Hp) (A : List Addr) (i : Nat) (v : V) (d : D) : Prop :=
  (∃ c ns l a dd, d = .exn c ns l ∧ fa.x = some (i, a, dd, c) ∧ v = .ref a ∧ XDict K fa H dd ns l) ∨ Rep K fa H A v d []
def RelE (K : PySem.W.Frag) (fa : FA) (H : Hp) (A : List Addr) (ρ : Env) (σ : L2.St) : Prop :=
  ρ.length = σ.length ∧ ∀ (i : Nat) (d : D), ρ[i]? = some (some d) → ∃ v, σ[i]? = some (some v) ∧ RepS K fa H A i v d
theorem xd_out {μ : Store} {dd : Addr} {fs : List (Str × V)} (r : RelM K fa H A μ) (h : H dd = some (.xd fs)) : dd ∉ A := fun hm => by
  obtain ⟨n, hn⟩ := List.mem_iff_getElem?.mp hm
  have hn' : n < μ.length := by rw [← r.len]; exact (List.getElem?_eq_some_iff.mp hn).1
  obtain ⟨a', h1, h2⟩ := r.obj n μ[n] (by simp [hn'])
  rw [hn] at h1; cases h1
  obtain ⟨u, e, t⟩ := h2.trk
  rw [h] at e; cases e
  exact t.xd
theorem XDict.step {dd : Addr} {ns : List String} {l : List D} (s : Stp A H A' H') (x : XDict K fa H dd ns l) : XDict K fa H' dd ns l := by
  obtain ⟨vs, h1, h2, h3⟩ := x
  exact ⟨vs, s.xds _ _ h1, fun B => (h2 B).sta ⟨⟨[], by simp⟩, by simp, s.tups, s.frzs⟩, h3⟩
theorem RepS.step {i : Nat} {v : V} {d : D} (s : Stp A H A' H') (x : RepS K fa H A i v d) : RepS K fa H' A' i v d := by
  rcases x with ⟨c, ns, l, a, dd, e1, e2, e3, x⟩ | x
  · exact .inl ⟨c, ns, l, a, dd, e1, e2, e3, x.step s⟩
  · exact .inr (x.step s (by simp))
theorem RelE.step {ρ : Env} {σ : L2.St} (r : RelE K fa H A ρ σ) (s : Stp A H A' H') : RelE K fa H' A' ρ σ :=
  ⟨r.1, fun i d e => let ⟨v, h1, h2⟩ := r.2 i d e; ⟨v, h1, h2.step s⟩⟩
theorem RepS.val {i : Nat} {v : V} {d : D} (x : RepS K fa H A i v d) (h : d.isX = false) : Rep K fa H A v d [] := by
  rcases x with ⟨c, ns, l, a, dd, e1, _⟩ | x
  · subst e1; cases h
  · exact x
theorem RepS.mono {N : List Addr} {i : Nat} {v : V} {d : D} (x : RepS K fa H A i v d) : RepS K fa H (A ++ N) i v d := by
  rcases x with x | x
  · exact .inl x
  · exact .inr x.mono
theorem RelE.set {ρ : Env} {σ : L2.St} (r : RelE K fa H A ρ σ) {i : Nat} {d : D} {v : V} (h : Rep K fa H A v d []) : RelE K fa H A (ρ.set i (some d)) (σ.set i (some v)) := by
  refine ⟨by simp [r.1], fun j e hj => ?_⟩
  by_cases hij : i = j
  · subst hij
    have hi : i < ρ.length := by
      have := (List.getElem?_eq_some_iff.mp hj).1
      simpa using this
    rw [List.getElem?_set_self hi] at hj
    cases hj
    have hi' : i < σ.length := by rw [← r.1]; exact hi
    exact ⟨v, List.getElem?_set_self hi', .inr h⟩
  · rw [List.getElem?_set_ne hij] at hj
    rw [List.getElem?_set_ne hij]
    exact r.2 j e hj
theorem RelM.at {μ : Store} (r : RelM K fa H A μ) {n : Nat} {a : Addr} (h : A[n]? = some a) : ∃ o, μ[n]? = some o ∧ RepO K fa H A a o := by
  have hn : n < μ.length := by rw [← r.len]; exact (List.getElem?_eq_some_iff.mp h).1
  obtain ⟨a', h1, h2⟩ := r.obj n μ[n] (by simp [hn])
  rw [h] at h1; cases h1
  exact ⟨_, by simp [hn], h2⟩
theorem RelM.tracked {μ : Store} (r : RelM K fa H A μ) {a : Addr} (h : a ∈ A) : ∃ u, H a = some u ∧ Trk u := by
  obtain ⟨n, hn⟩ := List.mem_iff_getElem?.mp h
  obtain ⟨o, _, h2⟩ := r.at hn
  exact h2.trk
theorem RelM.fresh {μ : Store} (r : RelM K fa H A μ) {a : Addr} (h : H a = none) : a ∉ A := fun hm => by
  obtain ⟨vs, e, _⟩ := r.tracked hm
  rw [h] at e; cases e
theorem RepO.keep {a : Addr} {o : Obj} (s : Stp A H A' H') (h : RepO K fa H A a o) (e : ∀ u, Trk u → H a = some u → H' a = some u) : RepO K fa H' A' a o :=
  h.map rfl e fun _ _ q => q.step s (by simp)
/-- the store behind a step that changes none of its objects and brings no new ones -/
theorem RelM.keep {μ : Store} (r : RelM K fa H A μ) (s : Stp A H A H') (e : ∀ a ∈ A, ∀ u, Trk u → H a = some u → H' a = some u) : RelM K fa H' A μ :=
  ⟨r.len, fun i o h => let ⟨a, h1, h2⟩ := r.obj i o h; ⟨a, h1, h2.keep s (e a (List.mem_of_getElem? h1))⟩, r.nd⟩
/-- a new object that is none of the store's -/
theorem RelM.new {μ : Store} (r : RelM K fa H A μ) {p : Addr} {o : HO} (h : H p = none) : RelM K fa (upd H p o) A μ :=
  r.keep (.new h) fun a ha u _ e => by
    have hne : a ≠ p := by intro z; subst z; exact r.fresh h ha
    rw [upd_ne hne]; exact e
/-- one of its lists is changed -/
theorem Stp.write {μ : Store} (r : RelM K fa H A μ) {n : Nat} {a : Addr} {o : HO} (h : A[n]? = some a) : Stp A H A (upd H a o) := by
  obtain ⟨v, e, t⟩ := r.tracked (List.mem_of_getElem? h)
  refine ⟨⟨[], by simp, by simp⟩, fun q u e' hq => ?_, fun q u e' => ?_, fun q xs e' => ?_, fun q o' u e' => ?_, fun q fs e' => ?_⟩
  · have hne : q ≠ a := by intro z; subst z; exact hq (List.mem_of_getElem? h)
    rw [upd_ne hne]; exact e'
  · by_cases hq : q = a
    · exact ⟨o, by rw [hq, upd_same]⟩
    · exact ⟨u, by rw [upd_ne hq]; exact e'⟩
  · rw [upd_ne (fun z => by rw [z, e] at e'; cases e'; exact t.tup)]; exact e'
  · rw [upd_ne (fun z => by rw [z, e] at e'; cases e'; exact t.frz)]; exact e'
  · rw [upd_ne (fun z => by rw [z, e] at e'; cases e'; exact t.xd)]; exact e'
/-- .. to another object -/
theorem RelM.writeO {μ : Store} (r : RelM K fa H A μ) {n : Nat} {a : Addr} {u : HO} {ob : Obj} (h : A[n]? = some a) (hr : Stp A H A (upd H a u) → RepO K fa (upd H a u) A a ob) : RelM K fa (upd H a u) A (μ.set n ob) := by
  have s := Stp.write r (o := u) h
  refine ⟨by simpa using r.len, fun i o hi => ?_, r.nd⟩
  by_cases hin : n = i
  · subst hin
    have hn : n < μ.length := by rw [← r.len]; exact (List.getElem?_eq_some_iff.mp h).1
    rw [List.getElem?_set_self hn] at hi
    cases hi
    exact ⟨a, h, hr s⟩
  · rw [List.getElem?_set_ne hin] at hi
    obtain ⟨a', h1, h2⟩ := r.obj i o hi
    have hne : a' ≠ a := fun z => by
      subst z
      obtain ⟨k1, e1⟩ := List.getElem?_eq_some_iff.mp h
      obtain ⟨k2, e2⟩ := List.getElem?_eq_some_iff.mp h1
      exact hin ((List.getElem_inj r.nd).mp (e1.trans e2.symm))
    exact ⟨a', h1, h2.keep s fun u _ e => by rw [upd_ne hne]; exact e⟩
theorem RelM.write {μ : Store} (r : RelM K fa H A μ) {n : Nat} {a : Addr} {vs : List V} {l : List D} (h : A[n]? = some a) (hr : Reps K fa H A vs l []) : RelM K fa (upd H a (.lst vs)) A (μ.set n (.lst l)) :=
  r.writeO h fun s => ⟨vs, upd_same, hr.step s (by simp)⟩

/-- an object that is none of the store's is changed -/
theorem RelM.upd {μ : Store} (r : RelM K fa H A μ) {p : Addr} {xs : List V} {o : HO} (h : H p = some (.lst xs)) (hp : p ∉ A) : RelM K fa (upd H p o) A μ := by
  refine ⟨r.len, fun i ob hi => ?_, r.nd⟩
  obtain ⟨a, h1, h2⟩ := r.obj i ob hi
  have hne : a ≠ p := by intro z; subst z; exact hp (List.mem_of_getElem? h1)
  exact ⟨a, h1, h2.map rfl (fun u _ e => by rw [upd_ne hne]; exact e) fun _ _ q => q.sta (Sta.upd h (by simp))⟩
/-! ### fresh lists are laid -/
theorem Stp.grow {N : List Addr} (h : ∀ a ∈ N, H a = none) : Stp A H (A ++ N) H := ⟨⟨N, rfl, h⟩, fun _ _ h _ => h, fun _ o h => ⟨o, h⟩, fun _ _ h => h, fun _ _ _ h => h, fun _ _ h => h⟩
mutual
/-- the places of a datum's fresh lists join the store's -/
theorem alloc_ok : ∀ {v : V} {d : D} {F : List Addr} {A : List Addr} {μ : Store}, Rep K fa H A v d F → RelM K fa H A μ → F.Nodup → (∀ a ∈ F, a ∉ A) →
    RelM K fa H (A ++ F) (alloc d μ).2 ∧ Rep K fa H (A ++ F) v (alloc d μ).1 []
  | _, .non, _, _, _, h, r, _, _ => by cases h; rw [List.append_nil]; exact ⟨r, .non⟩
  | _, .bl _, _, _, _, h, r, _, _ => by cases h; rw [List.append_nil]; exact ⟨r, .bl _⟩
  | _, .int _, _, _, _, h, r, _, _ => by cases h; rw [List.append_nil]; exact ⟨r, .int _⟩
  | _, .str _, _, _, _, h, r, _, _ => by cases h with | str _ h => rw [List.append_nil]; exact ⟨r, .str _ h⟩
  | _, .fn _, _, _, _, h, r, _, _ => by cases h with | fn h => rw [List.append_nil]; exact ⟨r, .fn h⟩
  | _, .ref _, _, _, _, h, r, _, _ => by cases h with | ref h => rw [List.append_nil]; exact ⟨r, .ref h⟩
  | _, .fz _, _, _, _, h, r, _, _ => by cases h with | fz h hp q => rw [List.append_nil]; exact ⟨r, .fz h hp q⟩
  | _, .tup l, F, A, μ, h, r, nd, ne => by
    cases h with
    | tup h q =>
      obtain ⟨r1, q1⟩ := allocs_ok q r nd ne
      exact ⟨r1, .tup h q1⟩
  | _, .tl l, _, A, μ, h, r, nd, ne => by
    cases h with
    | @tl a vs _ F h q =>
      obtain ⟨nd1, _, nd2⟩ := List.nodup_append.mp nd
      obtain ⟨r1, q1⟩ := allocs_ok q r nd1 fun b hb => ne b (by simp [hb])
      have hlen : (A ++ F).length = (allocs l μ).2.length := r1.len
      have hget : (A ++ (F ++ [a]))[(allocs l μ).2.length]? = some a := by
        rw [← List.append_assoc, ← hlen, List.getElem?_append_right (Nat.le_refl _)]
        simp
      have aN : a ∉ A ++ F := fun hm => by
        rcases List.mem_append.mp hm with hm | hm
        · exact ne a (by simp) hm
        · exact nd2 a hm a (by simp) rfl
      refine ⟨⟨?_, fun i o hi => ?_, ?_⟩, .ref hget⟩
      · show (A ++ (F ++ [a])).length = ((allocs l μ).2 ++ [Obj.lst (allocs l μ).1]).length
        rw [← List.append_assoc, List.length_append, hlen]; simp
      · have hi : ((allocs l μ).2 ++ [Obj.lst (allocs l μ).1])[i]? = some o := hi
        have mono : ∀ {vs : List V} {ds : List D}, Reps K fa H (A ++ F) vs ds [] → Reps K fa H (A ++ (F ++ [a])) vs ds [] := fun {vs ds} q => by
          rw [← List.append_assoc]
          exact q.mono
        by_cases hlt : i < (allocs l μ).2.length
        · rw [List.getElem?_append_left hlt] at hi
          obtain ⟨a', h1, h2⟩ := r1.obj i o hi
          refine ⟨a', ?_, ?_⟩
          · rw [← List.append_assoc, List.getElem?_append_left (List.getElem?_eq_some_iff.mp h1).1]; exact h1
          · exact h2.map rfl (fun _ _ e => e) fun _ _ q' => mono q'
        · have hie : i = (allocs l μ).2.length := by
            have := (List.getElem?_eq_some_iff.mp hi).1
            simp at this; omega
          subst hie
          rw [List.getElem?_append_right (Nat.le_refl _)] at hi
          simp at hi
          subst hi
          exact ⟨a, hget, vs, h, mono q1⟩
      · rw [← List.append_assoc]
        exact List.nodup_append.mpr ⟨r1.nd, by simp, fun x hx y hy => by simp at hy; subst hy; exact fun e => aN (e ▸ hx)⟩
theorem allocs_ok : ∀ {vs : List V} {ds : List D} {F : List Addr} {A : List Addr} {μ : Store}, Reps K fa H A vs ds F → RelM K fa H A μ → F.Nodup → (∀ a ∈ F, a ∉ A) →
    RelM K fa H (A ++ F) (allocs ds μ).2 ∧ Reps K fa H (A ++ F) vs (allocs ds μ).1 []
  | _, [], _, _, _, h, r, _, _ => by cases h; rw [List.append_nil]; exact ⟨r, .nil⟩
  | _, d :: ds, _, A, μ, h, r, nd, ne => by
    cases h with
    | @cons v vs _ _ F F' h t =>
      obtain ⟨nd1, nd2, nd3⟩ := List.nodup_append.mp nd
      obtain ⟨r1, q1⟩ := alloc_ok h r nd1 fun b hb => ne b (by simp [hb])
      obtain ⟨r2, q2⟩ := allocs_ok (t.mono (N := F)) r1 nd2 fun b hb hm => by
        rcases List.mem_append.mp hm with hm | hm
        · exact ne b (by simp [hb]) hm
        · exact nd3 b hm b hb rfl
      rw [List.append_assoc] at r2 q2
      refine ⟨r2, ?_⟩
      have := Reps.cons ((q1.mono (N := F'))) (show Reps K fa H ((A ++ F) ++ F') vs (allocs ds (alloc d μ).2).1 [] by rw [List.append_assoc]; exact q2)
      rw [List.append_assoc] at this
      exact this
end
end Mp
end SSnd1
section SSnd2
/-! Snd2: what holds behind a part; a call's end. -/
namespace Mp
open PySem PySem.Spec PyProof.Rows L2
variable {K : PySem.W.Frag} {fa : FA} {H H' H1 H2 : Hp} {A A' A1 A2 : List Addr}

mutual
theorem Rep.under : ∀ {v : V} {d : D} {F : List Addr}, Rep K fa H A v d F → d.under A.length = true
  | _, .non, _, _ | _, .bl _, _, _ | _, .int _, _, _ | _, .str _, _, _ | _, .fn _, _, _ => by simp [D.under]
  | _, .ref n, _, h => by cases h with | ref h => simpa [D.under] using (List.getElem?_eq_some_iff.mp h).1
  | _, .fz l, _, h => by cases h with | fz _ _ r => simpa [D.under] using Reps.under r
  | _, .tup l, _, h => by cases h with | tup _ r => simpa [D.under] using Reps.under r
  | _, .tl l, _, h => by cases h with | tl _ r => simpa [D.under] using Reps.under r
theorem Reps.under : ∀ {vs : List V} {ds : List D} {F : List Addr}, Reps K fa H A vs ds F → D.unders A.length ds = true
  | _, [], _, _ => by simp [D.unders]
  | _, d :: ds, _, h => by cases h with | cons r t => simp [D.unders, Rep.under r, Reps.under t]
end
mutual
theorem Rep.cut {N : List Addr} : ∀ {v : V} {d : D} {F : List Addr}, Rep K fa H (A ++ N) v d F → d.under A.length = true → Rep K fa H A v d F
  | _, .non, _, h, _ => by cases h; exact .non
  | _, .bl _, _, h, _ => by cases h; exact .bl _
  | _, .int _, _, h, _ => by cases h; exact .int _
  | _, .str _, _, h, _ => by cases h with | str _ h => exact .str _ h
  | _, .fn _, _, h, _ => by cases h with | fn h => exact .fn h
  | _, .ref n, _, h, e => by
    cases h with
    | ref h =>
      have hn : n < A.length := by simpa [D.under] using e
      rw [List.getElem?_append_left hn] at h
      exact .ref h
  | _, .fz l, _, h, e => by cases h with | fz h hp r => exact .fz h hp (Reps.cut r (by simpa [D.under] using e))
  | _, .tup l, _, h, e => by cases h with | tup h r => exact .tup h (Reps.cut r (by simpa [D.under] using e))
  | _, .tl l, _, h, e => by cases h with | tl h r => exact .tl h (Reps.cut r (by simpa [D.under] using e))
theorem Reps.cut {N : List Addr} : ∀ {vs : List V} {ds : List D} {F : List Addr}, Reps K fa H (A ++ N) vs ds F → D.unders A.length ds = true → Reps K fa H A vs ds F
  | _, [], _, h, _ => by cases h; exact .nil
  | _, d :: ds, _, h, e => by
    have e' : d.under A.length = true ∧ D.unders A.length ds = true := by simpa [D.unders] using e
    cases h with | cons r t => exact .cons (Rep.cut r e'.1) (Reps.cut t e'.2)
end
/-- the elder part of a store -/
theorem RelM.cut {N : List Addr} {μ μ' : Store} (r : RelM K fa H' (A ++ N) μ') (r0 : RelM K fa H A μ) (ok : oldOk μ A.length μ' = true) : RelM K fa H' A (μ'.take A.length) := by
  have hl := r.len
  rw [List.length_append] at hl
  refine ⟨by rw [List.length_take]; omega, fun i o hi => ?_, (List.nodup_append.mp r.nd).1⟩
  have hlt : i < A.length := by
    have := (List.getElem?_eq_some_iff.mp hi).1
    rw [List.length_take] at this; omega
  rw [List.getElem?_take_of_lt hlt] at hi
  obtain ⟨a, h1, h2⟩ := r.obj i o hi
  rw [List.getElem?_append_left hlt] at h1
  refine ⟨a, h1, ?_⟩
  have q := List.all_eq_true.mp ok i (List.mem_range.mpr hlt)
  rw [Bool.or_eq_true] at q
  have same : decide (μ'[i]? = μ[i]?) = true → ∃ a0, RepO K fa H A a0 o := fun q => by
    have q := of_decide_eq_true q
    rw [hi] at q
    obtain ⟨a0, _, k2⟩ := r0.obj i _ q.symm
    exact ⟨a0, k2⟩
  match o, h2, same with
  | .lst l, ⟨vs, e, q2⟩, same =>
    refine ⟨vs, e, q2.cut ?_⟩
    rcases q with q | q
    · obtain ⟨_, _, _, k⟩ := same q
      exact k.under
    · rw [hi] at q
      exact q
  | .dct false kvs, ⟨ws, e, ok, q1, q2⟩, same =>
    rcases q with q | q
    · obtain ⟨_, _, _, _, k1, k2⟩ := same q
      exact ⟨ws, e, ok, q1.cut k1.under, q2.cut k2.under⟩
    · rw [hi] at q
      have q : D.unders A.length (kvs.map (·.1)) = true ∧ D.unders A.length (kvs.map (·.2)) = true := by simpa using q
      exact ⟨ws, e, ok, q1.cut q.1, q2.cut q.2⟩
  | .dct true kvs, ⟨w, ws, h1, e, ok, q1, h2, q2⟩, same =>
    rcases q with q | q
    · obtain ⟨_, _, _, _, _, _, k1, _, k2⟩ := same q
      exact ⟨w, ws, h1, e, ok, q1.cut k1.under, h2, q2.cut k2.under⟩
    · rw [hi] at q
      have q : D.unders A.length (kvs.map (·.1)) = true ∧ D.unders A.length (kvs.map (·.2)) = true := by simpa using q
      exact ⟨w, ws, h1, e, ok, q1.cut q.1, h2, q2.cut q.2⟩
theorem mapM_some {α β : Type} {f : α → Option β} : ∀ {l : List α} {r : List β}, l.mapM f = some r → (l = [] ∧ r = []) ∨ ∃ x xs y ys, l = x :: xs ∧ r = y :: ys ∧ f x = some y ∧ xs.mapM f = some ys
  | [], r, h => by simp at h; exact .inl ⟨rfl, h⟩
  | x :: xs, r, h => by
    rw [List.mapM_cons] at h
    cases hx : f x with
    | none => rw [hx] at h; simp at h
    | some y =>
      rw [hx] at h
      cases hs : xs.mapM f with
      | none => rw [hs] at h; simp at h
      | some ys =>
        rw [hs] at h
        simp at h
        exact .inr ⟨x, xs, y, ys, rfl, h.symm, hx, hs⟩
/-- the places of the lists lifted -/
def At (A : List Addr) (used : List Nat) (F : List Addr) : Prop := used.map (fun u => A[u]?) = F.map some
theorem lift_ok {N : List Addr} {μ' : Store} (r : RelM K fa H' (A ++ N) μ') : ∀ (f : Nat) {d d' : D} {used : List Nat} {v : V} {F : List Addr}, lift A.length μ' f d = some (d', used) → Rep K fa H' (A ++ N) v d F →
    ∃ F', Rep K fa H' A v d' F' ∧ At (A ++ N) used F' ∧ ∀ u ∈ used, A.length ≤ u
  | 0, _, _, _, _, _, h, _ => by simp [lift] at h
  | f + 1, d, d', used, v, F, h, q => by
    have many : ∀ {l : List D} {rs : List (D × List Nat)} {vs : List V} {F : List Addr}, l.mapM (lift A.length μ' f) = some rs → Reps K fa H' (A ++ N) vs l F →
        ∃ F', Reps K fa H' A vs (rs.map (·.1)) F' ∧ At (A ++ N) (rs.map (·.2)).flatten F' ∧ ∀ u ∈ (rs.map (·.2)).flatten, A.length ≤ u := by
      intro l
      induction l with
      | nil =>
        intro rs vs F h q
        simp at h; subst h
        cases q
        exact ⟨[], .nil, rfl, by simp⟩
      | cons x xs ih =>
        intro rs vs F h q
        rcases mapM_some h with ⟨z, _⟩ | ⟨x', xs', y, ys, e1, e2, h1, h2⟩
        · cases z
        · cases e1; subst e2
          cases q with
          | cons q1 q2 =>
            obtain ⟨F1, a1, a2, a3⟩ := lift_ok r f (d' := y.1) (used := y.2) (by rw [h1]) q1
            obtain ⟨F2, b1, b2, b3⟩ := ih h2 q2
            refine ⟨F1 ++ F2, .cons a1 b1, ?_, fun u hu => ?_⟩
            · unfold At at a2 b2 ⊢
              simp only [List.map_cons, List.flatten_cons, List.map_append]
              rw [a2, b2]
            · simp only [List.map_cons, List.flatten_cons, List.mem_append] at hu
              rcases hu with hu | hu
              · exact a3 u hu
              · exact b3 u hu
    cases d with
    | tl l => simp [lift] at h
    | tup l =>
      simp only [lift, Option.map_eq_some_iff] at h
      obtain ⟨rs, h1, h2⟩ := h
      cases h2
      cases q with
      | tup hs q =>
        obtain ⟨F', b1, b2, b3⟩ := many h1 q
        exact ⟨F', .tup hs b1, b2, b3⟩
    | ref m =>
      simp only [lift] at h
      split at h
      · rename_i hm
        cases h
        cases q with
        | ref e =>
          rw [List.getElem?_append_left hm] at e
          exact ⟨[], .ref e, rfl, by simp⟩
      · rename_i hm
        cases q with
        | ref e =>
          obtain ⟨o, h1, h2⟩ := r.at e
          rw [h1] at h
          cases o with
          | dct t kvs => cases h
          | lst l =>
            obtain ⟨vs, hv, q2⟩ := h2
            simp only [Option.map_eq_some_iff] at h
            obtain ⟨rs, k1, k2⟩ := h
            cases k2
            obtain ⟨F', b1, b2, b3⟩ := many k1 q2
            refine ⟨F' ++ [_], .tl hv b1, ?_, fun u hu => ?_⟩
            · unfold At at b2 ⊢
              rw [List.map_append, b2, List.map_append]
              simp [e]
            · rcases List.mem_append.mp hu with hu | hu
              · exact b3 u hu
              · simp at hu; omega
    | non => simp only [lift] at h; cases h; cases q; exact ⟨[], .non, rfl, by simp⟩
    | bl b => simp only [lift] at h; cases h; cases q; exact ⟨[], .bl _, rfl, by simp⟩
    | int i => simp only [lift] at h; cases h; cases q; exact ⟨[], .int _, rfl, by simp⟩
    | str s => simp only [lift] at h; cases h; cases q with | str _ hs => exact ⟨[], .str _ hs, rfl, by simp⟩
    | fn x => simp only [lift] at h; cases h; cases q with | fn e => exact ⟨[], .fn e, rfl, by simp⟩
    | exn c n l => cases q
    | fz l =>
      simp [lift] at h

/-- behind a part: the value, its fresh lists, the store; from A, H on -/
structure Good (K : PySem.W.Frag) (fa : FA) (A : List Addr) (H : Hp) (μ' : Store) (d : D) (v : V) (H' : Hp) (A' : List Addr) (F : List Addr) : Prop where
  stp : Stp A H A' H'
  mem : RelM K fa H' A' μ'
  rep : Rep K fa H' A' v d F
  nd : F.Nodup
  new : ∀ a ∈ F, H a = none ∧ a ∉ A'
theorem Good.pre {μ' : Store} {d : D} {v : V} {F : List Addr} (g : Good K fa A1 H1 μ' d v H' A' F) (s : Stp A H A1 H1) : Good K fa A H μ' d v H' A' F :=
  ⟨s.trans g.stp, g.mem, g.rep, g.nd, fun a ha => ⟨s.free (g.new a ha).1, (g.new a ha).2⟩⟩
theorem Good.tracked {μ' : Store} {d : D} {v : V} {F : List Addr} (g : Good K fa A H μ' d v H' A' F) : ∀ a ∈ F, ∃ vs, H' a = some (.lst vs) := fun a ha => by
  have all : ∀ {v : V} {d : D} {F : List Addr}, Rep K fa H' A' v d F → ∀ a ∈ F, ∃ vs, H' a = some (.lst vs) := by
    intro v d F h
    refine Rep.rec (motive_1 := fun _ _ F _ => ∀ a ∈ F, ∃ vs, H' a = some (.lst vs)) (motive_2 := fun _ _ F _ => ∀ a ∈ F, ∃ vs, H' a = some (.lst vs)) ?_ ?_ ?_ ?_ ?_ ?_ ?_ ?_ ?_ ?_ ?_ h
    · simp
    · simp
    · simp
    · intros; simp_all
    · intros; simp_all
    · intros; simp_all
    · intros; simp_all
    · intro a vs l F h _ ih; exact ih
    · intro a vs l F h _ ih b hb
      rcases List.mem_append.mp hb with hb | hb
      · exact ih b hb
      · simp at hb; subst hb; exact ⟨vs, h⟩
    · simp
    · intro v vs d ds F F' _ _ ih1 ih2 b hb
      rcases List.mem_append.mp hb with hb | hb
      · exact ih1 b hb
      · exact ih2 b hb
  exact all g.rep a ha
/-- a call's end; the call began at the store μ, at A -/
theorem fin_ok {μ μ' : Store} {d : D} {v : V} {F : List Addr} {R : Rs D} {A0 : List Addr} {H0 : Hp} (hR : fin μ d μ' = R) (r0 : RelM K fa H1 A μ) (g : Good K fa A0 H0 μ' d v H' A' F) (hA : ∃ N, A' = A ++ N) (hA0 : ∃ M, A = A0 ++ M) :
    ∃ d' μ'' A'' F', R = .ok d' μ'' ∧ Good K fa A0 H0 μ'' d' v H' A'' F' := by
  obtain ⟨N, eA⟩ := hA
  obtain ⟨M, eM⟩ := hA0
  have nN : ∀ a ∈ M ++ N, H0 a = none := by
    obtain ⟨N', e', n'⟩ := g.stp.pre
    rw [eA, eM, List.append_assoc] at e'
    have := List.append_cancel_left e'
    rw [this]; exact n'
  have hl : μ.length = A.length := r0.len.symm
  unfold fin at hR
  split at hR
  · rename_i ok
    rw [hl] at ok
    have stp0 : Stp A0 H0 A H' := ⟨⟨M, eM, fun a ha => nN a (List.mem_append_left _ ha)⟩, g.stp.keep, g.stp.there, g.stp.tups, g.stp.frzs, g.stp.xds⟩
    have mem := g.mem
    rw [eA] at mem
    have cut := RelM.cut mem r0 ok
    split at hR
    · rename_i hu
      rw [hl] at hu hR
      have rep := g.rep
      rw [eA] at rep
      exact ⟨d, _, A, F, hR.symm, stp0, cut, rep.cut hu, g.nd, fun a ha => ⟨(g.new a ha).1, fun hm => (g.new a ha).2 (by rw [eA]; exact List.mem_append_left _ hm)⟩⟩
    · split at hR
      · rename_i d' used hlift
        split at hR
        · rename_i hnd
          rw [hl] at hlift hR
          have rep := g.rep
          rw [eA] at rep
          obtain ⟨F', b1, b2, b3⟩ := lift_ok mem 100 hlift rep
          have inF : ∀ a ∈ F', ∃ u ∈ used, (A ++ N)[u]? = some a := fun a ha => by
            have : some a ∈ F'.map some := List.mem_map.mpr ⟨a, ha, rfl⟩
            rw [← b2] at this
            obtain ⟨u, hu, e⟩ := List.mem_map.mp this
            exact ⟨u, hu, e⟩
          have ndF : F'.Nodup := by
            have h1 : (used.map fun u => (A ++ N)[u]?).Nodup := by
              refine List.Pairwise.map _ (fun u w hne => ?_) (List.Pairwise.and_mem.mp hnd)
              obtain ⟨hu, hw, hne⟩ := hne
              intro e
              have some_of : ∀ x ∈ used, ∃ a, (A ++ N)[x]? = some a := fun x hx => by
                have : (A ++ N)[x]? ∈ used.map (fun u => (A ++ N)[u]?) := List.mem_map.mpr ⟨x, hx, rfl⟩
                rw [b2] at this
                obtain ⟨a, _, e⟩ := List.mem_map.mp this
                exact ⟨a, e.symm⟩
              obtain ⟨a, ea⟩ := some_of u hu
              have eb := e.symm.trans ea
              obtain ⟨k1, z1⟩ := List.getElem?_eq_some_iff.mp ea
              obtain ⟨k2, z2⟩ := List.getElem?_eq_some_iff.mp eb
              exact hne ((List.getElem_inj mem.nd).mp (z1.trans z2.symm))
            rw [b2] at h1
            exact List.Pairwise.of_map some (fun a b hab e => hab (by rw [e])) h1
          refine ⟨d', _, A, F', hR.symm, stp0, cut, b1, ndF, fun a ha => ?_⟩
          obtain ⟨u, hu, e⟩ := inF a ha
          have hge := b3 u hu
          rw [List.getElem?_append_right hge] at e
          have haN := List.mem_of_getElem? e
          refine ⟨nN a (List.mem_append_right _ haN), fun hm => ?_⟩
          exact (List.nodup_append.mp mem.nd).2.2 a hm a haN rfl
        · exact ⟨d, μ', A', F, hR.symm, g⟩
      · exact ⟨d, μ', A', F, hR.symm, g⟩
  · exact ⟨d, μ', A', F, hR.symm, g⟩
theorem finX_ok {μ μ' : Store} {e : D} {R : Rs D} {A0 : List Addr} {H0 : Hp} (hR : finX μ e μ' = R) (r0 : RelM K fa H1 A μ) (s : Stp A0 H0 A' H') (m : RelM K fa H' A' μ') (hA : ∃ N, A' = A ++ N) (hA0 : ∃ M, A = A0 ++ M) :
    ∃ μ'' A'', R = .ex e μ'' ∧ Stp A0 H0 A'' H' ∧ RelM K fa H' A'' μ'' := by
  obtain ⟨N, eA⟩ := hA
  obtain ⟨M, eM⟩ := hA0
  have hl : μ.length = A.length := r0.len.symm
  unfold finX at hR
  split at hR
  · rename_i ok
    rw [hl] at ok hR
    have mem := m
    rw [eA] at mem
    have stp0 : Stp A0 H0 A H' := by
      obtain ⟨N', e', n'⟩ := s.pre
      rw [eA, eM, List.append_assoc] at e'
      have := List.append_cancel_left e'
      exact ⟨⟨M, eM, fun a ha => n' a (by rw [← this]; exact List.mem_append_left _ ha)⟩, s.keep, s.there, s.tups, s.frzs, s.xds⟩
    exact ⟨_, A, hR.symm, stp0, RelM.cut mem r0 ok⟩
  · exact ⟨_, A', hR.symm, s, m⟩
end Mp
end SSnd2
section SSnd3
/-! Snd3: the reading of an expression by the interpreter; the match of the core with the machine's syntax. -/
namespace Mp
open PySem PySem.Spec PyProof.Rows L2

def RepX (K : PySem.W.Frag) (fa : FA) (H : Hp) (A : List Addr) (e : D) (cls : Value) (dd : Option Addr) : Prop :=
  ∃ c ns l C d, e = .exn c ns l ∧ fa.c c = some C ∧ cls = .ref C ∧ dd = some d ∧ XDict K fa H d ns l

/-- what is wanted behind an expression, seen from A, H on -/
def Pst (K : PySem.W.Frag) (fa : FA) (W : WX) (A : List Addr) (H : Hp) (σ : L2.St) (r : Rs D) (Q : VK) : Prop := match r with
  | .ok d μ' => ∀ v H' A' F, Good K fa A H μ' d v H' A' F → Q v H'
  | .ex e μ' => ∀ cls dd H' A', Stp A H A' H' → RelM K fa H' A' μ' → RepX K fa H' A' e cls dd → W cls dd σ H'
  | .no => False
/-- .. behind arguments -/
structure GoodL (K : PySem.W.Frag) (fa : FA) (A : List Addr) (H : Hp) (μ' : Store) (ds : List D) (vs : List V) (H' : Hp) (A' : List Addr) (F : List Addr) : Prop where
  stp : Stp A H A' H'
  mem : RelM K fa H' A' μ'
  rep : Reps K fa H' A' vs ds F
  nd : F.Nodup
  new : ∀ a ∈ F, H a = none ∧ a ∉ A'
def PstL (K : PySem.W.Frag) (fa : FA) (W : WX) (A : List Addr) (H : Hp) (σ : L2.St) (r : Rs (List D)) (Q : List V → Hp → Prop) : Prop := match r with
  | .ok ds μ' => ∀ vs H' A' F, GoodL K fa A H μ' ds vs H' A' F → Q vs H'
  | .ex e μ' => ∀ cls dd H' A', Stp A H A' H' → RelM K fa H' A' μ' → RepX K fa H' A' e cls dd → W cls dd σ H'
  | .no => False
/-- .. behind a test -/
def PstB (K : PySem.W.Frag) (fa : FA) (W : WX) (A : List Addr) (H : Hp) (σ : L2.St) (r : Rs Bool) (Q : Bool → Hp → Prop) : Prop := match r with
  | .ok b μ' => ∀ H' A', Stp A H A' H' → RelM K fa H' A' μ' → Q b H'
  | .ex e μ' => ∀ cls dd H' A', Stp A H A' H' → RelM K fa H' A' μ' → RepX K fa H' A' e cls dd → W cls dd σ H'
  | .no => False

section
variable {K : PySem.W.Frag} {fa : FA} {W : WX} {A A0 A1 A2 : List Addr} {H H0 H1 H2 : Hp} {σ : L2.St}
theorem Pst.bnd {r : Rs D} {f : D → Store → Rs D} {Q : VK} (s : Stp A0 H0 A H) (h : Pst K fa W A0 H0 σ (r.bnd f) Q) :
    Pst K fa W A H σ r fun v H1 => ∃ A1 d μ F, Good K fa A H μ d v H1 A1 F ∧ Pst K fa W A0 H0 σ (f d μ) Q := by
  cases r with
  | ok d μ => intro v H' A' F g; exact ⟨A', d, μ, F, g, h⟩
  | ex e μ => intro cls dd H' A' s' r x; exact h cls dd H' A' (s.trans s') r x
  | no => exact h
theorem Pst.bndB {r : Rs D} {f : D → Store → Rs Bool} {Q : Bool → Hp → Prop} (s : Stp A0 H0 A H) (h : PstB K fa W A0 H0 σ (r.bnd f) Q) :
    Pst K fa W A H σ r fun v H1 => ∃ A1 d μ F, Good K fa A H μ d v H1 A1 F ∧ PstB K fa W A0 H0 σ (f d μ) Q := by
  cases r with
  | ok d μ => intro v H' A' F g; exact ⟨A', d, μ, F, g, h⟩
  | ex e μ => intro cls dd H' A' s' r x; exact h cls dd H' A' (s.trans s') r x
  | no => exact h
theorem PstB.bnd {r : Rs Bool} {f : Bool → Store → Rs Bool} {Q : Bool → Hp → Prop} (s : Stp A0 H0 A H) (h : PstB K fa W A0 H0 σ (r.bnd f) Q) :
    PstB K fa W A H σ r fun b H1 => ∃ A1 μ, Stp A H A1 H1 ∧ RelM K fa H1 A1 μ ∧ PstB K fa W A0 H0 σ (f b μ) Q := by
  cases r with
  | ok b μ => intro H' A' s' r'; exact ⟨A', μ, s', r', h⟩
  | ex e μ => intro cls dd H' A' s' r x; exact h cls dd H' A' (s.trans s') r x
  | no => exact h
theorem PstB.bndD {r : Rs Bool} {f : Bool → Store → Rs D} {Q : VK} (s : Stp A0 H0 A H) (h : Pst K fa W A0 H0 σ (r.bnd f) Q) :
    PstB K fa W A H σ r fun b H1 => ∃ A1 μ, Stp A H A1 H1 ∧ RelM K fa H1 A1 μ ∧ Pst K fa W A0 H0 σ (f b μ) Q := by
  cases r with
  | ok b μ => intro H' A' s' r'; exact ⟨A', μ, s', r', h⟩
  | ex e μ => intro cls dd H' A' s' r x; exact h cls dd H' A' (s.trans s') r x
  | no => exact h
theorem PstL.bnd {r : Rs (List D)} {f : List D → Store → Rs D} {Q : VK} (s : Stp A0 H0 A H) (h : Pst K fa W A0 H0 σ (r.bnd f) Q) :
    PstL K fa W A H σ r fun vs H1 => ∃ A1 ds μ F, GoodL K fa A H μ ds vs H1 A1 F ∧ Pst K fa W A0 H0 σ (f ds μ) Q := by
  cases r with
  | ok d μ => intro v H' A' F g; exact ⟨A', d, μ, F, g, h⟩
  | ex e μ => intro cls dd H' A' s' r x; exact h cls dd H' A' (s.trans s') r x
  | no => exact h
theorem Pst.bndL {r : Rs D} {f : D → Store → Rs (List D)} {Q : List V → Hp → Prop} (s : Stp A0 H0 A H) (h : PstL K fa W A0 H0 σ (r.bnd f) Q) :
    Pst K fa W A H σ r fun v H1 => ∃ A1 d μ F, Good K fa A H μ d v H1 A1 F ∧ PstL K fa W A0 H0 σ (f d μ) Q := by
  cases r with
  | ok d μ => intro v H' A' F g; exact ⟨A', d, μ, F, g, h⟩
  | ex e μ => intro cls dd H' A' s' r x; exact h cls dd H' A' (s.trans s') r x
  | no => exact h
theorem PstL.bndL {r : Rs (List D)} {f : List D → Store → Rs (List D)} {Q : List V → Hp → Prop} (s : Stp A0 H0 A H) (h : PstL K fa W A0 H0 σ (r.bnd f) Q) :
    PstL K fa W A H σ r fun vs H1 => ∃ A1 ds μ F, GoodL K fa A H μ ds vs H1 A1 F ∧ PstL K fa W A0 H0 σ (f ds μ) Q := by
  cases r with
  | ok d μ => intro v H' A' F g; exact ⟨A', d, μ, F, g, h⟩
  | ex e μ => intro cls dd H' A' s' r x; exact h cls dd H' A' (s.trans s') r x
  | no => exact h
/-- what has no fresh lists -/
theorem Pst.done {μ : Store} {d : D} {v : V} {Q : VK} (s : Stp A0 H0 A H) (r : RelM K fa H A μ) (q : Rep K fa H A v d []) (h : Pst K fa W A0 H0 σ (.ok d μ) Q) : Q v H :=
  h v H A [] ⟨s, r, q, List.nodup_nil, by simp⟩
theorem Pst.of {o : Option D} {μ : Store} {Q : VK} (h : Pst K fa W A0 H0 σ (Rs.of o μ) Q) : ∃ d, o = some d ∧ Pst K fa W A0 H0 σ (.ok d μ) Q := by
  cases o with
  | none => exact h.elim
  | some d => exact ⟨d, rfl, h⟩
theorem PstB.of {o : Option Bool} {μ : Store} {Q : Bool → Hp → Prop} (h : PstB K fa W A0 H0 σ (Rs.of o μ) Q) : ∃ d, o = some d ∧ PstB K fa W A0 H0 σ (.ok d μ) Q := by
  cases o with
  | none => exact h.elim
  | some d => exact ⟨d, rfl, h⟩

section
variable (G : String → Option D) (call : String → List D → Store → Rs D) (K fa W)
def tD (c : C) : TE := fun σ H Q => ∃ A ρ μ, RelM K fa H A μ ∧ RelE K fa H A ρ σ ∧ Pst K fa W A H σ (ev G call c ρ μ) Q
def tL (l : Cs) : TA := fun σ H Q => ∃ A ρ μ, RelM K fa H A μ ∧ RelE K fa H A ρ σ ∧ PstL K fa W A H σ (evs G call l ρ μ) Q
def tB (c : C) : TT := fun σ H Q => ∃ A ρ μ, RelM K fa H A μ ∧ RelE K fa H A ρ σ ∧ PstB K fa W A H σ ((ev G call c ρ μ).bnd fun x μ => Rs.of (truth μ x) μ) Q
def tAn (l : Cs) : TE := fun σ H Q => ∃ A ρ μ, RelM K fa H A μ ∧ RelE K fa H A ρ σ ∧ Pst K fa W A H σ (evAnd G call l ρ μ) Q
def tOr' (l : Cs) : TE := fun σ H Q => ∃ A ρ μ, RelM K fa H A μ ∧ RelE K fa H A ρ σ ∧ Pst K fa W A H σ (evOr G call l ρ μ) Q
def tAnB (l : Cs) : TT := fun σ H Q => ∃ A ρ μ, RelM K fa H A μ ∧ RelE K fa H A ρ σ ∧ PstB K fa W A H σ ((evAnd G call l ρ μ).bnd fun x μ => Rs.of (truth μ x) μ) Q
def tOrB (l : Cs) : TT := fun σ H Q => ∃ A ρ μ, RelM K fa H A μ ∧ RelE K fa H A ρ σ ∧ PstB K fa W A H σ ((evOr G call l ρ μ).bnd fun x μ => Rs.of (truth μ x) μ) Q
def tIfs (l : Cs) : TT := fun σ H Q => ∃ A ρ μ, RelM K fa H A μ ∧ RelE K fa H A ρ σ ∧ PstB K fa W A H σ (evIfs G call l ρ μ) Q
end

/-- two values, one behind the other -/
structure Two (K : PySem.W.Frag) (fa : FA) (A : List Addr) (H : Hp) (x y : D) (v w : V) (H2 : Hp) (A2 : List Addr) (μ : Store) (F1 F2 : List Addr) : Prop where
  stp : Stp A H A2 H2
  mem : RelM K fa H2 A2 μ
  one : Rep K fa H2 A2 v x F1
  two : Rep K fa H2 A2 w y F2
  nd : (F1 ++ F2).Nodup
  new : ∀ a ∈ F1 ++ F2, H a = none ∧ a ∉ A2
theorem Two.of {x y : D} {v w : V} {μ μ2 : Store} {F1 F2 : List Addr} (g1 : Good K fa A H μ x v H1 A1 F1) (g2 : Good K fa A1 H1 μ2 y w H2 A2 F2) : Two K fa A H x y v w H2 A2 μ2 F1 F2 := by
  refine ⟨g1.stp.trans g2.stp, g2.mem, g1.rep.step g2.stp fun a ha => (g1.new a ha).2, g2.rep, List.nodup_append.mpr ⟨g1.nd, g2.nd, fun a ha b hb e => ?_⟩, fun a ha => ?_⟩
  · subst e
    obtain ⟨vs, t⟩ := g1.tracked a ha
    rw [(g2.new a hb).1] at t; cases t
  · rcases List.mem_append.mp ha with ha | ha
    · obtain ⟨vs, t⟩ := g1.tracked a ha
      exact ⟨(g1.new a ha).1, g2.stp.out t (g1.new a ha).2⟩
    · exact ⟨g1.stp.free (g2.new a ha).1, (g2.new a ha).2⟩
theorem two_ok {G : String → Option D} {call : String → List D → Store → Rs D} {a b : C} {ρ : Env} {μ : Store} {f : D → D → Store → Rs D} {Q : VK} (r : RelM K fa H A μ) (e : RelE K fa H A ρ σ)
    (h : Pst K fa W A H σ ((ev G call a ρ μ).bnd fun x μ => (ev G call b ρ μ).bnd fun y μ => f x y μ) Q) :
    tD K fa W G call a σ H fun v H1 => tD K fa W G call b σ H1 fun w H2 => ∃ x y A2 μ2 F1 F2, Two K fa A H x y v w H2 A2 μ2 F1 F2 ∧ Pst K fa W A H σ (f x y μ2) Q := by
  refine ⟨A, ρ, μ, r, e, ?_⟩
  have mono : ∀ {r : Rs D} {A : List Addr} {H : Hp} {Q Q' : VK}, Pst K fa W A H σ r Q → (∀ v H, Q v H → Q' v H) → Pst K fa W A H σ r Q' := by
    intro r A H Q Q' h m
    cases r with
    | ok d μ => intro v H' A' F g; exact m _ _ (h v H' A' F g)
    | ex e μ => exact h
    | no => exact h
  refine mono (Pst.bnd Stp.refl h) fun v H1 ⟨A1, x, μ1, F1, g1, h1⟩ => ?_
  refine ⟨A1, ρ, μ1, g1.mem, e.step g1.stp, ?_⟩
  exact mono (Pst.bnd g1.stp h1) fun w H2 ⟨A2, y, μ2, F2, g2, h2⟩ => ⟨x, y, A2, μ2, F1, F2, Two.of g1 g2, h2⟩
theorem Pst.mono {r : Rs D} {Q Q' : VK} (h : Pst K fa W A H σ r Q) (m : ∀ v H, Q v H → Q' v H) : Pst K fa W A H σ r Q' := by
  cases r with
  | ok d μ => intro v H' A' F g; exact m _ _ (h v H' A' F g)
  | ex e μ => exact h
  | no => exact h
theorem PstL.mono {r : Rs (List D)} {Q Q' : List V → Hp → Prop} (h : PstL K fa W A H σ r Q) (m : ∀ v H, Q v H → Q' v H) : PstL K fa W A H σ r Q' := by
  cases r with
  | ok d μ => intro v H' A' F g; exact m _ _ (h v H' A' F g)
  | ex e μ => exact h
  | no => exact h
theorem PstB.mono {r : Rs Bool} {Q Q' : Bool → Hp → Prop} (h : PstB K fa W A H σ r Q) (m : ∀ v H, Q v H → Q' v H) : PstB K fa W A H σ r Q' := by
  cases r with
  | ok d μ => intro H' A' s g; exact m _ _ (h H' A' s g)
  | ex e μ => exact h
  | no => exact h
end

/-! ### weaker readings -/
theorem PE.imp {X : Cx} {e : Expr} {t t' : TE} (h : PE X e t) (m : ∀ σ H Q, t' σ H Q → t σ H Q) : PE X e t' := ⟨fun pins s σ H Q I q => h.run pins s σ H Q I (m σ H Q q)⟩
theorem PT.imp {X : Cx} {e : Expr} {t t' : TT} (h : PT X e t) (m : ∀ σ H Q, t' σ H Q → t σ H Q) : PT X e t' := ⟨fun pins s σ H Q I q => h.run pins s σ H Q I (m σ H Q q)⟩
theorem PW.imp {X : Cx} {e : Expr} {t t' : TT} (h : PW X e t) (m : ∀ σ H Q, t' σ H Q → t σ H Q) : PW X e t' := ⟨fun wh pins s σ H Q I q => h.run wh pins s σ H Q I (m σ H Q q)⟩
theorem PA.imp {X : Cx} {e : List Expr} {t t' : TA} (h : PA X e t) (m : ∀ σ H Q, t' σ H Q → t σ H Q) : PA X e t' := ⟨fun pos pins s σ H Q I q => h.run pos pins s σ H Q I (m σ H Q q)⟩

/-! ### truth, equality -/
section
variable {K : PySem.W.Frag} {fa : FA} {A : List Addr} {H : Hp}
theorem toS_length (s : List Nat) : (toS s).length = s.length := by simp [toS, Str.length]
theorem okS_len {s : List Nat} (h : okS s = true) : s.length ≤ sizeLine := by
  rw [sizeLine_eq]
  exact of_decide_eq_true (Bool.and_eq_true_iff.mp h).1
theorem isEmpty_len {α β : Type} {xs : List α} {ys : List β} (h : xs.length = ys.length) : xs.isEmpty = ys.isEmpty := by
  cases xs <;> cases ys <;> simp_all
theorem Rep.getL {μ : Store} {n : Nat} {l : List D} {a : Addr} (r : RelM K fa H A μ) (h : A[n]? = some a) (e : getL μ n = some l) : ∃ vs, H a = some (.lst vs) ∧ Reps K fa H A vs l [] := by
  obtain ⟨o, h1, h2⟩ := r.at h
  unfold Mp.getL at e
  rw [h1] at e
  cases o with
  | lst l' => cases e; exact h2
  | dct t kvs => cases e
theorem truV_of {μ : Store} {v : V} {d : D} {F : List Addr} {k : Bool} (r : RelM K fa H A μ) (q : Rep K fa H A v d F) (e : truth μ d = some k) : TruV K v H k := by
  cases q with
  | non => cases e; rfl
  | bl b => cases e; rfl
  | int i => cases e; rfl
  | str s h =>
    cases e
    refine ⟨by rw [toS_length]; exact okS_len h, ?_⟩
    rw [toS_length]
    cases s with
    | nil => rfl
    | cons c s =>
      simp only [List.isEmpty_cons, List.length_cons]
      symm
      simp
      omega
  | fn h => cases e
  | fz h hp t => cases e; exact .inl ⟨_, h, by rw [isEmpty_len t.length]⟩
  | ref h =>
    simp only [truth, Option.map_eq_some_iff] at e
    obtain ⟨l, e1, e2⟩ := e
    subst e2
    obtain ⟨vs, h1, h2⟩ := Rep.getL r h e1
    exact .inl ⟨vs, .of h1, by rw [isEmpty_len h2.length]⟩
  | tup h t => cases e; exact .inr (.inl ⟨_, h, by rw [isEmpty_len t.length]⟩)
  | tl h t => cases e; exact .inl ⟨_, .of h, by rw [isEmpty_len t.length]⟩
-- a plain datum as data of the library
mutual
def toP : D → PyData
  | .bl b => .bool b
  | .int i => .int i
  | .str s => .str (toS s)
  | .tup l => .tuple (toPs l)
  | .tl l => .list (toPs l)
  | .fz l => .list (toPs l)
  | _ => .none
def toPs : List D → List PyData
  | [] => []
  | d :: ds => toP d :: toPs ds
end
end
end Mp
end SSnd3
section SSrtL
/-! SrtL: what sorting gives, plain. -/
namespace Mp
section
variable {α : Type} {lt : α → α → Bool}
structure Sto (lt : α → α → Bool) : Prop where
  irr : ∀ x, lt x x = false
  tr : ∀ x y z, lt x y = true → lt y z = true → lt x z = true
  tri : ∀ x y, lt x y = false → lt y x = false → x = y
theorem Sto.asym (O : Sto lt) {x y : α} (h : lt x y = true) : lt y x = false := by
  cases e : lt y x with
  | false => rfl
  | true => rw [← O.irr x, O.tr x y x h e]
/-- not greater, and so on -/
theorem Sto.le_tr (O : Sto lt) {x y z : α} (h1 : lt y x = false) (h2 : lt z y = false) : lt z x = false := by
  cases e : lt z x with
  | false => rfl
  | true =>
    cases e2 : lt x y with
    | true => rw [O.tr z x y e e2] at h2; exact h2
    | false =>
      have := O.tri x y e2 h1
      subst this
      rw [e] at h2; exact h2
theorem Sto.lt_le (O : Sto lt) {x y z : α} (h1 : lt x y = true) (h2 : lt z y = false) : lt x z = true := by
  cases e : lt x z with
  | true => rfl
  | false =>
    have := O.le_tr (x := y) (y := z) (z := x) h2 e
    rw [h1] at this; cases this
theorem insB_perm (x : α) : ∀ l : List α, (insB lt x l).Perm (x :: l)
  | [] => .refl _
  | y :: r => by
    unfold insB
    split
    · exact ((insB_perm x r).cons y).trans (.swap ..)
    · exact .refl _
theorem srtB_perm : ∀ l : List α, (srtB lt l).Perm l
  | [] => .refl _
  | x :: r => (insB_perm x _).trans ((srtB_perm r).cons x)
theorem insB_pw (O : Sto lt) (x : α) : ∀ {l : List α}, l.Pairwise (fun a b => lt b a = false) → (insB lt x l).Pairwise (fun a b => lt b a = false)
  | [], _ => List.pairwise_singleton ..
  | y :: r, h => by
    obtain ⟨h1, h2⟩ := List.pairwise_cons.mp h
    unfold insB
    split
    · rename_i c
      refine List.pairwise_cons.mpr ⟨fun z hz => ?_, insB_pw O x h2⟩
      rcases List.mem_cons.mp ((insB_perm x r).mem_iff.mp hz) with e | hz
      · rw [e]; exact O.asym c
      · exact h1 z hz
    · rename_i c
      have c : lt y x = false := by simpa using c
      refine List.pairwise_cons.mpr ⟨fun z hz => ?_, h⟩
      rcases List.mem_cons.mp hz with e | hz
      · rw [e]; exact c
      · exact O.le_tr c (h1 z hz)
theorem srtB_pw (O : Sto lt) : ∀ l : List α, (srtB lt l).Pairwise (fun a b => lt b a = false)
  | [] => List.Pairwise.nil
  | x :: r => insB_pw O x (srtB_pw O r)
theorem eq_srtB (O : Sto lt) {m l : List α} (p : m.Perm l) (h : m.Pairwise (fun a b => lt b a = false)) : m = srtB lt l :=
  List.Perm.eq_of_pairwise (le := fun a b => lt b a = false) (fun a b _ _ h1 h2 => O.tri a b h2 h1) h (srtB_pw O l) (p.trans (srtB_perm l).symm)
theorem insU_mem (O : Sto lt) (x z : α) : ∀ l : List α, z ∈ insU lt x l ↔ z = x ∨ z ∈ l
  | [] => by simp [insU]
  | y :: r => by
    unfold insU
    split
    · rw [List.mem_cons, insU_mem O x z r, List.mem_cons]
      constructor
      · rintro (h | h | h)
        · exact .inr (.inl h)
        · exact .inl h
        · exact .inr (.inr h)
      · rintro (h | h | h)
        · exact .inr (.inl h)
        · exact .inl h
        · exact .inr (.inr h)
    · rename_i c1
      split
      · rw [List.mem_cons]
      · rename_i c2
        have e : x = y := O.tri x y (by simpa using c2) (by simpa using c1)
        subst e
        rw [List.mem_cons]
        constructor
        · exact .inr
        · rintro (h | h)
          · exact .inl h
          · exact h
theorem srtU_mem (O : Sto lt) (z : α) : ∀ l : List α, z ∈ srtU lt l ↔ z ∈ l
  | [] => .rfl
  | x :: r => by rw [srtU, insU_mem O, srtU_mem O z r, List.mem_cons]
theorem insU_pw (O : Sto lt) (x : α) : ∀ {l : List α}, l.Pairwise (fun a b => lt a b = true) → (insU lt x l).Pairwise (fun a b => lt a b = true)
  | [], _ => List.pairwise_singleton ..
  | y :: r, h => by
    obtain ⟨h1, h2⟩ := List.pairwise_cons.mp h
    unfold insU
    split
    · rename_i c
      refine List.pairwise_cons.mpr ⟨fun z hz => ?_, insU_pw O x h2⟩
      rcases (insU_mem O x z r).mp hz with e | hz
      · rw [e]; exact c
      · exact h1 z hz
    · split
      · rename_i c
        refine List.pairwise_cons.mpr ⟨fun z hz => ?_, h⟩
        rcases List.mem_cons.mp hz with e | hz
        · rw [e]; exact c
        · exact O.tr _ _ _ c (h1 z hz)
      · exact h
theorem srtU_pw (O : Sto lt) : ∀ l : List α, (srtU lt l).Pairwise (fun a b => lt a b = true)
  | [] => List.Pairwise.nil
  | x :: r => insU_pw O x (srtU_pw O r)
theorem pw_nodup (O : Sto lt) {l : List α} (h : l.Pairwise (fun a b => lt a b = true)) : l.Nodup := h.imp fun {a b} q e => by
  rw [e, O.irr] at q; cases q
theorem eq_srtU (O : Sto lt) {m l : List α} (nd : m.Nodup) (mem : ∀ z, z ∈ m ↔ z ∈ l) (h : m.Pairwise (fun a b => lt b a = false)) : m = srtU lt l := by
  refine List.Perm.eq_of_pairwise (le := fun a b => lt b a = false) (fun a b _ _ h1 h2 => O.tri a b h2 h1) h ((srtU_pw O l).imp fun q => O.asym q) ?_
  exact (List.perm_ext_iff_of_nodup nd (pw_nodup O (srtU_pw O l))).mpr fun z => by rw [mem z, srtU_mem O]
/-- .. strictly -/
theorem eq_srtU' (O : Sto lt) {m l : List α} (mem : ∀ z, z ∈ m ↔ z ∈ l) (h : m.Pairwise (fun a b => lt a b = true)) : m = srtU lt l :=
  eq_srtU O (pw_nodup O h) mem (h.imp fun q => O.asym q)
theorem srtU_self (O : Sto lt) {l : List α} (h : l.Pairwise (fun a b => lt a b = true)) : srtU lt l = l := (eq_srtU' O (fun _ => .rfl) h).symm
theorem insU_len (x : α) : ∀ l : List α, (insU lt x l).length ≤ l.length + 1
  | [] => Nat.le_refl _
  | y :: r => by
    unfold insU
    split
    · have := insU_len x r; simp; omega
    · split <;> simp
theorem srtU_len : ∀ l : List α, (srtU lt l).length ≤ l.length
  | [] => Nat.le_refl _
  | x :: r => by
    have h1 := insU_len (lt := lt) x (srtU lt r)
    have h2 := srtU_len r
    show (insU lt x (srtU lt r)).length ≤ r.length + 1
    omega
end
theorem sto_int : Sto ltI := ⟨fun x => by simp [ltI], fun x y z h1 h2 => by simp [ltI] at *; omega, fun x y h1 h2 => by simp [ltI] at *; omega⟩
theorem ltN_irr : ∀ x, ltN x x = false
  | [] => rfl
  | x :: xs => by simp [ltN, ltN_irr xs]
theorem ltN_tr : ∀ x y z, ltN x y = true → ltN y z = true → ltN x z = true
  | [], [], _, h, _ => by simp [ltN] at h
  | [], _ :: _, [], _, h => by simp [ltN] at h
  | [], _ :: _, _ :: _, _, _ => by simp [ltN]
  | _ :: _, [], _, h, _ => by simp [ltN] at h
  | _ :: _, _ :: _, [], _, h => by simp [ltN] at h
  | x :: xs, y :: ys, z :: zs, h1, h2 => by
    simp only [ltN] at h1 h2 ⊢
    by_cases a : x < y
    · by_cases b : y < z
      · rw [if_pos (by omega)]
      · rw [if_neg b] at h2
        by_cases c : y = z
        · rw [if_pos (by omega)]
        · rw [if_neg c] at h2; cases h2
    · rw [if_neg a] at h1
      by_cases c : x = y
      · rw [if_pos c] at h1
        subst c
        by_cases b : x < z
        · rw [if_pos b]
        · rw [if_neg b] at h2 ⊢
          by_cases e : x = z
          · rw [if_pos e] at h2 ⊢
            exact ltN_tr xs ys zs h1 h2
          · rw [if_neg e] at h2; cases h2
      · rw [if_neg c] at h1; cases h1
theorem ltN_tri : ∀ x y, ltN x y = false → ltN y x = false → x = y
  | [], [], _, _ => rfl
  | [], _ :: _, h, _ => by simp [ltN] at h
  | _ :: _, [], _, h => by simp [ltN] at h
  | x :: xs, y :: ys, h1, h2 => by
    simp only [ltN] at h1 h2
    by_cases a : x < y
    · rw [if_pos a] at h1; cases h1
    · by_cases b : y < x
      · rw [if_pos b] at h2; cases h2
      · have e : x = y := by omega
        subst e
        rw [if_neg a, if_pos rfl] at h1
        rw [if_neg b, if_pos rfl] at h2
        rw [ltN_tri xs ys h1 h2]
theorem sto_str : Sto ltN := ⟨ltN_irr, ltN_tr, ltN_tri⟩
theorem ltN_iff : ∀ x y : List Nat, ltN x y = true ↔ x < y
  | [], [] => by simp [ltN]
  | [], _ :: _ => by simp [ltN]
  | _ :: _, [] => by simp [ltN]
  | x :: xs, y :: ys => by
    simp only [ltN, List.cons_lt_cons_iff]
    by_cases a : x < y
    · simp [a]
    · by_cases b : x = y
      · subst b
        simp [ltN_iff xs ys]
      · simp [a, b]
theorem ltN_not (x y : List Nat) : ltN x y = false ↔ ¬ x < y := by rw [← ltN_iff]; simp
end Mp
end SSrtL
section SSnd4
/-! Snd4: the operations by values. -/
namespace Mp
open PySem PySem.Spec PyProof.Rows L2
section
variable {K : PySem.W.Frag} {fa : FA} {W : WX} {A A0 A1 A2 : List Addr} {H H0 H1 H2 : Hp} {σ : L2.St} {X : Cx}

/-! ### equality -/
theorem okS_str {s : List Nat} (h : okS s = true) : PyData.strOk (toS s) = true := by
  have h2 := (Bool.and_eq_true_iff.mp h).2
  unfold PyData.strOk toS
  simp only [List.all_eq_true, decide_eq_true_eq] at h2
  simp only [Array.all_eq_true_iff_forall_mem, decide_eq_true_eq]
  intro x hx
  exact h2 x (by simpa using hx)
mutual
theorem dp_plain : ∀ {v : V} {d : D} {F : List Addr}, Rep K fa H A v d F → d.plain = true → Dp K H v (toP d) ∧ (toP d).canLay0 = true
  | _, .non, _, h, _ => by cases h; exact ⟨.non, by simp [toP, PyData.canLay0]⟩
  | _, .bl b, _, h, _ => by cases h; exact ⟨.bl _, by simp [toP, PyData.canLay0]⟩
  | _, .int i, _, h, _ => by cases h; exact ⟨.int _, by simp [toP, PyData.canLay0]⟩
  | _, .str s, _, h, _ => by cases h with | str _ h => exact ⟨.str _, by simpa [toP, PyData.canLay0] using okS_str h⟩
  | _, .fn _, _, _, e => by simp [D.plain] at e
  | _, .fz l, _, h, e => by
    cases h with
    | fz h hp r =>
      obtain ⟨h1, h2⟩ := dps_plain r (by simpa [D.plain] using e)
      exact ⟨.lst h h1, by simpa [toP, PyData.canLay0] using h2⟩
  | _, .ref _, _, _, e => by simp [D.plain] at e
  | _, .tup l, _, h, e => by
    cases h with
    | tup h r =>
      obtain ⟨h1, h2⟩ := dps_plain r (by simpa [D.plain] using e)
      exact ⟨.tup h h1, by simpa [toP, PyData.canLay0] using h2⟩
  | _, .tl l, _, h, e => by
    cases h with
    | tl h r =>
      obtain ⟨h1, h2⟩ := dps_plain r (by simpa [D.plain] using e)
      exact ⟨.lst (.of h) h1, by simpa [toP, PyData.canLay0] using h2⟩
theorem dps_plain : ∀ {vs : List V} {ds : List D} {F : List Addr}, Reps K fa H A vs ds F → D.plains ds = true → DpAll K H vs (toPs ds) ∧ PyData.canLayAll0 (toPs ds) = true
  | _, [], _, h, _ => by cases h; exact ⟨.nil, by simp [toPs, PyData.canLayAll0]⟩
  | _, d :: ds, _, h, e => by
    have e' : d.plain = true ∧ D.plains ds = true := by simpa [D.plains] using e
    cases h with
    | cons r t =>
      obtain ⟨h1, h2⟩ := dp_plain r e'.1
      obtain ⟨h3, h4⟩ := dps_plain t e'.2
      exact ⟨.cons h1 h3, by simp [toPs, PyData.canLayAll0, h2, h4]⟩
end
theorem dp_rsv {μ : Store} (r : RelM K fa H A μ) : ∀ (f : Nat) {d x : D} {v : V} {F : List Addr}, rsv μ f d = some x → Rep K fa H A v d F → Dp K H v (toP x) ∧ (toP x).canLay0 = true ∧ x.plain = true
  | 0, _, _, _, _, h, _ => by simp [rsv] at h
  | f + 1, d, x, v, F, h, q => by
    have many : ∀ {l rs : List D} {vs : List V} {F : List Addr}, l.mapM (rsv μ f) = some rs → Reps K fa H A vs l F → DpAll K H vs (toPs rs) ∧ PyData.canLayAll0 (toPs rs) = true ∧ D.plains rs = true := by
      intro l
      induction l with
      | nil =>
        intro rs vs F h q
        simp at h; subst h
        cases q
        exact ⟨.nil, by simp [toPs, PyData.canLayAll0], by simp [D.plains]⟩
      | cons y ys ih =>
        intro rs vs F h q
        rcases mapM_some h with ⟨z, _⟩ | ⟨x', xs', y', ys', e1, e2, h1, h2⟩
        · cases z
        · cases e1; subst e2
          cases q with
          | cons q1 q2 =>
            obtain ⟨a1, a2, a3⟩ := dp_rsv r f h1 q1
            obtain ⟨b1, b2, b3⟩ := ih h2 q2
            exact ⟨.cons a1 b1, by simp [toPs, PyData.canLayAll0, a2, b2], by simp [D.plains, a3, b3]⟩
    cases d with
    | tl l =>
      simp only [rsv, Option.map_eq_some_iff] at h
      obtain ⟨rs, h1, h2⟩ := h
      subst h2
      cases q with
      | tl hs q =>
        obtain ⟨b1, b2, b3⟩ := many h1 q
        exact ⟨.lst (.of hs) b1, by simpa [toP, PyData.canLay0] using b2, by simpa [D.plain] using b3⟩
    | tup l =>
      simp only [rsv, Option.map_eq_some_iff] at h
      obtain ⟨rs, h1, h2⟩ := h
      subst h2
      cases q with
      | tup hs q =>
        obtain ⟨b1, b2, b3⟩ := many h1 q
        exact ⟨.tup hs b1, by simpa [toP, PyData.canLay0] using b2, by simpa [D.plain] using b3⟩
    | ref m =>
      simp only [rsv] at h
      split at h
      · rename_i l hl
        simp only [Option.map_eq_some_iff] at h
        obtain ⟨rs, h1, h2⟩ := h
        subst h2
        cases q with
        | ref e =>
          obtain ⟨vs, hv, q2⟩ := Rep.getL r e hl
          obtain ⟨b1, b2, b3⟩ := many h1 q2
          exact ⟨.lst (.of hv) b1, by simpa [toP, PyData.canLay0] using b2, by simpa [D.plain] using b3⟩
      · cases h
    | non => simp only [rsv] at h; cases h; exact ⟨(dp_plain q rfl).1, (dp_plain q rfl).2, rfl⟩
    | bl b => simp only [rsv] at h; cases h; exact ⟨(dp_plain q rfl).1, (dp_plain q rfl).2, rfl⟩
    | int i => simp only [rsv] at h; cases h; exact ⟨(dp_plain q rfl).1, (dp_plain q rfl).2, rfl⟩
    | str s => simp only [rsv] at h; cases h; exact ⟨(dp_plain q rfl).1, (dp_plain q rfl).2, rfl⟩
    | fn x => simp [rsv] at h
    | exn c n l => simp [rsv] at h
    | fz l =>
      simp only [rsv, Option.map_eq_some_iff] at h
      obtain ⟨xs, h1, h2⟩ := h
      cases h2
      cases q with
      | fz hs hp q =>
        obtain ⟨b1, b2, b3⟩ := many h1 q
        exact ⟨.lst hs b1, by simpa [toP, PyData.canLay0] using b2, by simpa [D.plain] using b3⟩
theorem dp_of {μ : Store} (r : RelM K fa H A μ) {d x : D} {v : V} {F : List Addr} (h : plainOf μ d = some x) (q : Rep K fa H A v d F) : Dp K H v (toP x) ∧ (toP x).canLay0 = true ∧ x.plain = true := by
  unfold plainOf at h
  split at h
  · rename_i hp
    cases h
    exact ⟨(dp_plain q hp).1, (dp_plain q hp).2, hp⟩
  · exact dp_rsv r 64 h q
mutual
theorem dep_toP : ∀ d : D, (toP d).depth ≤ d.dep + 1
  | .non | .bl _ | .int _ | .str _ | .fn _ | .ref _ | .exn .. => by simp [toP, PyData.depth]
  | .fz l => by
    have := deps_toP l
    simp only [toP, PyData.depth, D.dep]; omega
  | .tup l => by
    have := deps_toP l
    simp only [toP, PyData.depth, D.dep]; omega
  | .tl l => by
    have := deps_toP l
    simp only [toP, PyData.depth, D.dep]; omega
theorem deps_toP : ∀ l : List D, PyData.depthAll (toPs l) ≤ D.deps l + 1
  | [] => by simp [toPs, PyData.depthAll]
  | d :: ds => by
    have h1 := dep_toP d
    have h2 := deps_toP ds
    simp only [toPs, PyData.depthAll, D.deps]; omega
end
theorem toS_beq (x y : List Nat) : (toS x == toS y) = (x == y) := by
  by_cases h : x = y
  · subst h; simp
  · have : toS x ≠ toS y := fun e => h (by simpa [toS] using e)
    rw [beq_eq_false_iff_ne.mpr h, beq_eq_false_iff_ne.mpr this]
mutual
theorem eqv_toP : ∀ (x y : D), x.plain = true → y.plain = true → PyData.eqv (toP x) (toP y) = peq x y
  | .non, y, _, hy => by cases y <;> simp_all [toP, PyData.eqv, peq, D.plain]
  | .bl a, y, _, hy => by cases y <;> simp_all [toP, PyData.eqv, peq, D.plain]
  | .int a, y, _, hy => by cases y <;> simp_all [toP, PyData.eqv, peq, D.plain]
  | .str a, y, _, hy => by cases y <;> simp_all [toP, PyData.eqv, peq, D.plain, toS_beq]
  | .fn _, _, hx, _ => by simp [D.plain] at hx
  | .ref _, _, hx, _ => by simp [D.plain] at hx
  | .exn .., _, hx, _ => by simp [D.plain] at hx
  | .fz l, y, hx, hy => by
    cases y with
    | tl m => simpa [toP, PyData.eqv, peq] using eqvs_toP l m (by simpa [D.plain] using hx) (by simpa [D.plain] using hy)
    | fz m => simpa [toP, PyData.eqv, peq] using eqvs_toP l m (by simpa [D.plain] using hx) (by simpa [D.plain] using hy)
    | _ => simp_all [toP, PyData.eqv, peq, D.plain]
  | .tup l, y, hx, hy => by
    cases y with
    | tup m => simpa [toP, PyData.eqv, peq] using eqvs_toP l m (by simpa [D.plain] using hx) (by simpa [D.plain] using hy)
    | _ => simp_all [toP, PyData.eqv, peq, D.plain]
  | .tl l, y, hx, hy => by
    cases y with
    | tl m => simpa [toP, PyData.eqv, peq] using eqvs_toP l m (by simpa [D.plain] using hx) (by simpa [D.plain] using hy)
    | fz m => simpa [toP, PyData.eqv, peq] using eqvs_toP l m (by simpa [D.plain] using hx) (by simpa [D.plain] using hy)
    | _ => simp_all [toP, PyData.eqv, peq, D.plain]
theorem eqvs_toP : ∀ (x y : List D), D.plains x = true → D.plains y = true → PyData.eqvAll (toPs x) (toPs y) = peqs x y
  | [], y, _, _ => by cases y <;> simp [toPs, PyData.eqvAll, peqs]
  | x :: xs, y, hx, hy => by
    have hx' : x.plain = true ∧ D.plains xs = true := by simpa [D.plains] using hx
    cases y with
    | nil => simp [toPs, PyData.eqvAll, peqs]
    | cons y ys =>
      have hy' : y.plain = true ∧ D.plains ys = true := by simpa [D.plains] using hy
      simp only [toPs, PyData.eqvAll, peqs]
      rw [eqv_toP x y hx'.1 hy'.1, eqvs_toP xs ys hx'.2 hy'.2]
end
theorem eqD_ok {μ : Store} (r : RelM K fa H A μ) {d e : D} {v w : V} {F F' : List Addr} {b : Bool} (h : eqD μ d e = some b) (q : Rep K fa H A v d F) (q' : Rep K fa H A w e F') :
    ∃ x y, Dp K H v x ∧ Dp K H w y ∧ SeqAt.shaped x = true ∧ SeqAt.shaped y = true ∧ PyData.eqv x y = b := by
  unfold eqD at h
  rw [Option.bind_eq_some_iff] at h
  obtain ⟨x, hx, h⟩ := h
  rw [Option.bind_eq_some_iff] at h
  obtain ⟨y, hy, h⟩ := h
  split at h
  · rename_i hd
    cases h
    obtain ⟨a1, a2, a3⟩ := dp_of r hx q
    obtain ⟨b1, b2, b3⟩ := dp_of r hy q'
    have d1 := dep_toP x
    have d2 := dep_toP y
    refine ⟨_, _, a1, b1, ?_, ?_, eqv_toP x y a3 b3⟩
    · unfold SeqAt.shaped; rw [a2]; exact decide_eq_true (by omega)
    · unfold SeqAt.shaped; rw [b2]; exact decide_eq_true (by omega)
  · cases h

/-! ### in, of flat things -/
theorem flat_of {v : V} {d : D} {F : List Addr} (q : Rep K fa H A v d F) (h : d.flat = true) : flatV v = true := by
  cases q <;> first | rfl | (simp [D.flat] at h)
theorem flats_of : ∀ {vs : List V} {ds : List D} {F : List Addr}, Reps K fa H A vs ds F → ds.all D.flat = true → vs.all flatV = true
  | _, _, _, .nil, _ => rfl
  | _, _, _, .cons r t, h => by
    simp only [List.all_cons, Bool.and_eq_true] at h ⊢
    exact ⟨flat_of r h.1, flats_of t h.2⟩
theorem eqV_of {v w : V} {d e : D} {F F' : List Addr} (q : Rep K fa H A v d F) (q' : Rep K fa H A w e F') (h : d.flat = true) (h' : e.flat = true) : eqV v w = peq d e := by
  cases q <;> (try (simp [D.flat] at h)) <;> cases q' <;> (try (simp [D.flat] at h')) <;> simp [eqV, peq, toS_beq]
theorem inV_of {v : V} {d : D} {F : List Addr} (q : Rep K fa H A v d F) (h : d.flat = true) : ∀ {vs : List V} {ds : List D} {F' : List Addr}, Reps K fa H A vs ds F' → ds.all D.flat = true → inV v vs = ds.any fun y => peq y d
  | _, _, _, .nil, _ => rfl
  | _, _, _, .cons r t, h' => by
    simp only [List.all_cons, Bool.and_eq_true] at h'
    have := inV_of q h t h'.2
    unfold inV at this ⊢
    simp only [List.any_cons, eqV_of r q h'.1 h, this]

/-! ### two values in, a bool out -/
def opC : CmpK → CmpOp
  | .eq => .Eq | .ne => .NotEq | .lt => .Lt | .le => .LtE | .gt => .Gt | .ge => .GtE | .is => .Is | .isnot => .IsNot | .inn => .In | .notin => .NotIn
theorem non_iff {v : V} {d : D} {F : List Addr} (q : Rep K fa H A v d F) : decide (v = .non) = decide (d = .non) := by
  cases q <;> simp
theorem toS_list (s : List Nat) : (toS s).cps.toList = s := by simp [toS]
theorem sign_in (c : Nat) (s : List Nat) : decide (c ∈ s) = s.contains c := by
  cases h : s.contains c with
  | true => exact decide_eq_true (List.contains_iff_mem.mp h)
  | false => exact decide_eq_false fun z => by rw [List.contains_iff_mem.mpr z] at h; cases h
theorem op_isB : OpR X (compareOp .Is) (fun x y H Q => ∃ a b, x = .bl a ∧ y = .bl b ∧ Q (.bl (decide (a = b))) H) := by
  intro pins s σ H x y v u Q I rx ry h
  obtain ⟨a, b, rfl, rfl, q⟩ := h
  cases rx; cases ry
  exact wpAny_is_plain rfl (fin_bl I q (by cases a <;> cases b <;> rfl))
theorem op_notB : OpR X (compareOp .IsNot) (fun x y H Q => ∃ a b, x = .bl a ∧ y = .bl b ∧ Q (.bl (!decide (a = b))) H) := by
  intro pins s σ H x y v u Q I rx ry h
  obtain ⟨a, b, rfl, rfl, q⟩ := h
  cases rx; cases ry
  show wpAny _ _ ((isSame (Value.bool a) (Value.bool b)) >>= fun z => pure (Value.bool (!z))) _ _ s
  exact wpAny_bind (wpAny_isSame_plain rfl (wpAny_pure (fin_bl I q (by cases a <;> cases b <;> rfl))))
theorem fold_rep (a : List Nat) : ∀ (n : Nat) (acc : List Nat), (List.replicate n a.toArray).foldl (· ++ ·) acc.toArray = (acc ++ (List.replicate n a).flatten).toArray
  | 0, acc => by simp
  | n + 1, acc => by
    rw [List.replicate_succ, List.foldl_cons, List.append_toArray, fold_rep a n (acc ++ a)]
    simp [List.replicate_succ]
theorem op_smul : OpR X (binaryOp .Mult) (fun x y H Q => ∃ (a : List Nat) (k : Int), x = .str (toS a) ∧ y = .int k ∧ a.isEmpty = false ∧ 2 ≤ k ∧ k ≤ 1000 ∧ a.length ≤ 1000 ∧ Q (.str (toS (List.replicate k.toNat a).flatten)) H) := by
  intro pins s σ H x y v u Q I rx ry h
  obtain ⟨a, k, rfl, rfl, h0, h1, h2, h3, q⟩ := h
  obtain ⟨t, rfl⟩ := rx
  obtain ⟨t', rfl⟩ := ry
  have hl : (toS a).length = a.length := toS_length a
  have hne : a.length ≠ 0 := fun z => by rw [List.length_eq_zero_iff.mp z] at h0; cases h0
  have e : Txt.mul (toS a) k = toS (List.replicate k.toNat a).flatten := by
    unfold Txt.mul
    have c1 : (k == 1) = false := by simp; omega
    have c2 : ((toS a).length == 0) = false := by rw [hl]; simp [hne]
    rw [if_neg (by omega), c1, c2, Bool.or_false, if_neg Bool.false_ne_true]
    show (⟨_⟩ : Str) = ⟨_⟩
    have := fold_rep a k.toNat []
    rw [List.nil_append] at this
    rw [← this]; rfl
  refine SB.mul ⟨?_, fun _ _ => ?_, fun _ _ => ?_⟩ fun t' k' => ⟨.str _, H, I.tok k', ⟨t', rfl⟩, by rw [e]; exact q⟩
  · have c1 : ¬ k < -(2 ^ 63 : Int) := by omega
    have c2 : ¬ k ≥ 2 ^ 63 := by omega
    rw [decide_eq_false c1, decide_eq_false c2]; rfl
  · rw [hl]
    have : (2 ^ 63 - 1) / 1000 ≤ ((2 ^ 63 - 1) / k : Int) := by
      refine Int.le_ediv_of_mul_le (by omega) ?_
      calc ((2 ^ 63 - 1) / 1000 : Int) * k ≤ ((2 ^ 63 - 1) / 1000 : Int) * 1000 := Int.mul_le_mul_of_nonneg_left h2 (by decide)
        _ ≤ 2 ^ 63 - 1 := by decide
    have : ((2 ^ 63 - 1) / 1000 : Int) = 9223372036854775 := by decide
    omega
  · rw [hl]
    have : a.length * k.toNat ≤ 1000 * 1000 := Nat.mul_le_mul h3 (by omega)
    unfold Builtin.Str.tooLong
    refine decide_eq_false ?_
    have : sizeLine = 16777216 := sizeLine_eq
    omega
theorem okS_rep {a : List Nat} {k : Nat} (h : okS a = true) (hk : k ≤ 1000) (hl : a.length ≤ 1000) : okS (List.replicate k a).flatten = true := by
  unfold okS at h ⊢
  simp only [Bool.and_eq_true, decide_eq_true_eq, List.all_eq_true] at h ⊢
  refine ⟨?_, fun c hc => ?_⟩
  · have : (List.replicate k a).flatten.length = k * a.length := by simp
    have : k * a.length ≤ 1000 * 1000 := Nat.mul_le_mul hk hl
    show _ ≤ 16777216
    omega
  · obtain ⟨l, h1, h2⟩ := List.mem_flatten.mp hc
    rw [List.eq_of_mem_replicate h1] at h2
    exact h.2 c h2
theorem ltN_dec (x y : List Nat) : ltN x y = decide (x < y) := by
  cases h : ltN x y with
  | true => exact (decide_eq_true ((ltN_iff x y).mp h)).symm
  | false => exact (decide_eq_false ((ltN_not x y).mp h)).symm
theorem cmpop_ok (op : CmpK) (hu : X.A.units + 64 < cLine) : ∃ r : R2, OpR X (compareOp (opC op)) r ∧
    ∀ {A0 : List Addr} {H0 : Hp} {x y : D} {v w : V} {H2 : Hp} {A2 : List Addr} {μ : Store} {F1 F2 : List Addr} {b : Bool} {Q : VK}, Two X.K fa A0 H0 x y v w H2 A2 μ F1 F2 → cmpop μ op x y = some b → Q (.bl b) H2 → r v w H2 Q := by
  cases op with
  | eq =>
    refine ⟨_, op_eqD hu, fun {A0 H0 x y v w H2 A2 μ F1 F2 b Q} t e q => ?_⟩
    obtain ⟨dx, dy, h1, h2, h3, h4, h5⟩ := eqD_ok t.mem e t.one t.two
    exact ⟨dx, dy, h1, h2, h3, h4, by rw [h5]; exact q⟩
  | ne =>
    refine ⟨_, op_neD hu, fun {A0 H0 x y v w H2 A2 μ F1 F2 b Q} t e q => ?_⟩
    simp only [cmpop, Option.map_eq_some_iff] at e
    obtain ⟨c, e, rfl⟩ := e
    obtain ⟨dx, dy, h1, h2, h3, h4, h5⟩ := eqD_ok t.mem e t.one t.two
    exact ⟨dx, dy, h1, h2, h3, h4, by rw [h5]; exact q⟩
  | lt =>
    refine ⟨_, OpR.or op_lt op_lt_str, fun {A0 H0 x y v w H2 A2 μ F1 F2 b Q} t e q => ?_⟩
    unfold cmpop at e
    split at e <;> first | contradiction | skip
    · rename_i i j _
      cases e
      cases t.one; cases t.two
      exact .inl ⟨_, _, rfl, rfl, q⟩
    · rename_i i j _
      cases e
      cases t.one; cases t.two
      refine .inr ⟨_, _, rfl, rfl, ?_⟩
      rw [toS_list, toS_list, ← ltN_dec]
      exact q
  | le =>
    refine ⟨_, op_le, fun {A0 H0 x y v w H2 A2 μ F1 F2 b Q} t e q => ?_⟩
    unfold cmpop at e
    split at e <;> first | contradiction | skip
    rename_i i j _
    cases e
    cases t.one; cases t.two
    exact ⟨_, _, rfl, rfl, q⟩
  | gt =>
    refine ⟨_, op_gt, fun {A0 H0 x y v w H2 A2 μ F1 F2 b Q} t e q => ?_⟩
    unfold cmpop at e
    split at e <;> first | contradiction | skip
    rename_i i j _
    cases e
    cases t.one; cases t.two
    exact ⟨_, _, rfl, rfl, q⟩
  | ge =>
    refine ⟨_, op_ge, fun {A0 H0 x y v w H2 A2 μ F1 F2 b Q} t e q => ?_⟩
    unfold cmpop at e
    split at e <;> first | contradiction | skip
    rename_i i j _
    cases e
    cases t.one; cases t.two
    exact ⟨_, _, rfl, rfl, q⟩
  | is =>
    refine ⟨_, OpR.or op_isN op_isB, fun {A0 H0 x y v w H2 A2 μ F1 F2 b Q} t e q => ?_⟩
    unfold cmpop at e
    split at e <;> first | contradiction | skip
    · cases e
      have h := non_iff t.one
      cases t.two
      exact .inl ⟨rfl, by rw [h]; exact q⟩
    · cases e
      cases t.one; cases t.two
      exact .inr ⟨_, _, rfl, rfl, q⟩
  | isnot =>
    refine ⟨_, OpR.or op_notN op_notB, fun {A0 H0 x y v w H2 A2 μ F1 F2 b Q} t e q => ?_⟩
    unfold cmpop at e
    split at e <;> first | contradiction | skip
    · cases e
      have h := non_iff t.one
      cases t.two
      exact .inl ⟨rfl, by rw [h]; exact q⟩
    · cases e
      cases t.one; cases t.two
      exact .inr ⟨_, _, rfl, rfl, q⟩
  | inn =>
    refine ⟨_, OpR.or op_in_seq op_in_sign, fun {A0 H0 x y v w H2 A2 μ F1 F2 b Q} t e q => ?_⟩
    unfold cmpop at e
    split at e <;> first | contradiction | skip
    · cases e
      cases t.one with
      | str _ h1 =>
        cases t.two with
        | str _ h2 =>
          refine .inr ⟨_, _, rfl, rfl, ?_⟩
          rw [toS_list, sign_in]
          exact q
    · skip
      unfold inRow at e
      split at e
      · rename_i hf
        cases e
        cases t.two with
        | tup hs r =>
          refine .inl ⟨_, _, rfl, .inr hs, flat_of t.one hf.1, flats_of r hf.2, ?_⟩
          rw [if_neg Bool.false_ne_true, inV_of t.one hf.1 r hf.2]
          exact q
      · cases e
    · skip
      unfold inRow at e
      split at e
      · rename_i hf
        cases e
        cases t.two with
        | tl hs r =>
          refine .inl ⟨_, _, rfl, .inl (.of hs), flat_of t.one hf.1, flats_of r hf.2, ?_⟩
          rw [if_neg Bool.false_ne_true, inV_of t.one hf.1 r hf.2]
          exact q
      · cases e
    · skip
      unfold inRow at e
      split at e
      · rename_i hf
        cases e
        cases t.two with
        | fz hs hp r =>
          refine .inl ⟨_, _, rfl, .inl hs, flat_of t.one hf.1, flats_of r hf.2, ?_⟩
          rw [if_neg Bool.false_ne_true, inV_of t.one hf.1 r hf.2]
          exact q
      · cases e
    · rw [Option.bind_eq_some_iff] at e
      obtain ⟨l, e1, e⟩ := e
      unfold inRow at e
      split at e
      · rename_i hf
        cases e
        cases t.two with
        | ref hs =>
          obtain ⟨ws, hv, r⟩ := Rep.getL t.mem hs e1
          refine .inl ⟨_, _, rfl, .inl (.of hv), flat_of t.one hf.1, flats_of r hf.2, ?_⟩
          rw [if_neg Bool.false_ne_true, inV_of t.one hf.1 r hf.2]
          exact q
      · cases e
  | notin =>
    refine ⟨_, OpR.or op_notIn_seq op_notIn_sign, fun {A0 H0 x y v w H2 A2 μ F1 F2 b Q} t e q => ?_⟩
    unfold cmpop at e
    split at e <;> first | contradiction | skip
    · cases e
      cases t.one with
      | str _ h1 =>
        cases t.two with
        | str _ h2 =>
          refine .inr ⟨_, _, rfl, rfl, ?_⟩
          rw [toS_list, sign_in]
          exact q
    · rw [Option.map_eq_some_iff] at e
      obtain ⟨b', e, rfl⟩ := e
      unfold inRow at e
      split at e
      · rename_i hf
        cases e
        cases t.two with
        | tup hs r =>
          refine .inl ⟨_, _, rfl, .inr hs, flat_of t.one hf.1, flats_of r hf.2, ?_⟩
          rw [if_pos rfl, inV_of t.one hf.1 r hf.2]
          exact q
      · cases e
    · rw [Option.map_eq_some_iff] at e
      obtain ⟨b', e, rfl⟩ := e
      unfold inRow at e
      split at e
      · rename_i hf
        cases e
        cases t.two with
        | tl hs r =>
          refine .inl ⟨_, _, rfl, .inl (.of hs), flat_of t.one hf.1, flats_of r hf.2, ?_⟩
          rw [if_pos rfl, inV_of t.one hf.1 r hf.2]
          exact q
      · cases e
    · rw [Option.map_eq_some_iff] at e
      obtain ⟨b', e, rfl⟩ := e
      unfold inRow at e
      split at e
      · rename_i hf
        cases e
        cases t.two with
        | fz hs hp r =>
          refine .inl ⟨_, _, rfl, .inl hs, flat_of t.one hf.1, flats_of r hf.2, ?_⟩
          rw [if_pos rfl, inV_of t.one hf.1 r hf.2]
          exact q
      · cases e
    · rw [Option.map_eq_some_iff] at e
      obtain ⟨b', e, rfl⟩ := e
      rw [Option.bind_eq_some_iff] at e
      obtain ⟨l, e1, e⟩ := e
      unfold inRow at e
      split at e
      · rename_i hf
        cases e
        cases t.two with
        | ref hs =>
          obtain ⟨ws, hv, r⟩ := Rep.getL t.mem hs e1
          refine .inl ⟨_, _, rfl, .inl (.of hv), flat_of t.one hf.1, flats_of r hf.2, ?_⟩
          rw [if_pos rfl, inV_of t.one hf.1 r hf.2]
          exact q
      · cases e

/-! ### arithmetic and concatenation -/
def opB : BinK → Operator
  | .add => .Add | .sub => .Sub | .mul => .Mult | .fdiv => .FloorDiv | .mod => .Mod | .pow => .Pow
theorem okS_append {x y : List Nat} (hx : okS x = true) (hy : okS y = true) (h : x.length + y.length ≤ LIM) : okS (x ++ y) = true := by
  unfold okS at *
  simp only [Bool.and_eq_true, List.all_append, List.length_append, decide_eq_true_eq] at *
  exact ⟨h, hx.2, hy.2⟩
theorem toS_append (x y : List Nat) : toS x ++ toS y = toS (x ++ y) := by
  show Str.mk (x.toArray ++ y.toArray) = Str.mk (x ++ y).toArray
  simp
theorem Two.new1 {x y : D} {v w : V} {μ : Store} {F1 F2 : List Addr} (t : Two K fa A H x y v w H2 A2 μ F1 F2) : ∀ a ∈ F1, a ∉ A2 := fun a ha => (t.new a (List.mem_append_left _ ha)).2
theorem Two.new2 {x y : D} {v w : V} {μ : Store} {F1 F2 : List Addr} (t : Two K fa A H x y v w H2 A2 μ F1 F2) : ∀ a ∈ F2, a ∉ A2 := fun a ha => (t.new a (List.mem_append_right _ ha)).2
/-- the pair's second value itself is what comes -/
theorem Two.snd {x y : D} {v w : V} {μ : Store} {F1 F2 : List Addr} (t : Two K fa A H x y v w H2 A2 μ F1 F2) : Good K fa A H μ y w H2 A2 F2 :=
  ⟨t.stp, t.mem, t.two, (List.nodup_append.mp t.nd).2.1, fun a ha => t.new a (List.mem_append_right _ ha)⟩
theorem Two.fst {x y : D} {v w : V} {μ : Store} {F1 F2 : List Addr} (t : Two K fa A H x y v w H2 A2 μ F1 F2) : Good K fa A H μ x v H2 A2 F1 :=
  ⟨t.stp, t.mem, t.one, (List.nodup_append.mp t.nd).1, fun a ha => t.new a (List.mem_append_left _ ha)⟩
mutual
theorem trk1 {K : PySem.W.Frag} {H : Hp} {A : List Addr} : ∀ {v : V} {d : D} {F : List Addr}, Rep K fa H A v d F → ∀ a ∈ F, ∃ vs, H a = some (.lst vs)
  | _, .non, _, h | _, .bl _, _, h | _, .int _, _, h | _, .str _, _, h | _, .fn _, _, h | _, .ref _, _, h | _, .fz _, _, h => by cases h <;> simp
  | _, .tup l, _, h => by cases h with | tup _ r => exact trk r
  | _, .tl l, _, h => by
    cases h with
    | @tl a0 _ _ _ hs r =>
      intro a ha
      rcases List.mem_append.mp ha with ha | ha
      · exact trk r a ha
      · have : a = a0 := by simpa using ha
        subst this
        exact ⟨_, hs⟩
theorem trk {K : PySem.W.Frag} {H : Hp} {A : List Addr} : ∀ {vs : List V} {ds : List D} {F : List Addr}, Reps K fa H A vs ds F → ∀ a ∈ F, ∃ vs, H a = some (.lst vs)
  | _, [], _, h => by cases h; simp
  | _, d :: ds, _, h => by
    cases h with
    | cons r t =>
      intro a ha
      rcases List.mem_append.mp ha with ha | ha
      · exact trk1 r a ha
      · exact trk t a ha
end
theorem sub_app {α : Type} {F1 F2 : List α} {x y a : α} (h : a ∈ F1 ++ F2) : a ∈ (F1 ++ [x]) ++ (F2 ++ [y]) := by
  rcases List.mem_append.mp h with h | h <;> simp [h]
theorem nd_sub {α : Type} {F1 F2 : List α} {x y : α} (h : ((F1 ++ [x]) ++ (F2 ++ [y])).Nodup) : (F1 ++ F2).Nodup := by
  refine h.sublist ?_
  exact List.Sublist.append (List.sublist_append_left _ _) (List.sublist_append_left _ _)
theorem Reps.rep {K : PySem.W.Frag} {H : Hp} {A : List Addr} {vs : List V} {ds : List D} (r : Reps K fa H A vs ds []) : ∀ n : Nat, Reps K fa H A (List.replicate n vs).flatten (List.replicate n ds).flatten []
  | 0 => .nil
  | n + 1 => by
    have := r.append (Reps.rep r n)
    simpa [List.replicate_succ] using this
theorem catL_ok {K : PySem.W.Frag} {A0 A2 : List Addr} {H0 H2 : Hp} {μ : Store} {xs ys : List V} {l m : List D} {F1 F2 : List Addr} {p : Addr} (stp : Stp A0 H0 A2 H2) (mem : RelM K fa H2 A2 μ) (r1 : Reps K fa H2 A2 xs l F1) (r2 : Reps K fa H2 A2 ys m F2)
    (nd : (F1 ++ F2).Nodup) (new : ∀ a ∈ F1 ++ F2, H0 a = none ∧ a ∉ A2) (hp : H2 p = none) : Good K fa A0 H0 μ (.tl (l ++ m)) (.ref p) (upd H2 p (.lst (xs ++ ys))) A2 ((F1 ++ F2) ++ [p]) := by
  have sn : Stp A2 H2 A2 (upd H2 p (.lst (xs ++ ys))) := Stp.new hp
  have r := r1.append r2
  have tr : ∀ a ∈ F1 ++ F2, ∃ vs, H2 a = some (.lst vs) := trk r
  have hpF : p ∉ F1 ++ F2 := fun hm => by
    obtain ⟨ws, e⟩ := tr p hm
    rw [hp] at e; cases e
  refine ⟨stp.trans sn, mem.new hp, .tl upd_same (r.step sn fun a ha => (new a ha).2), List.nodup_append.mpr ⟨nd, by simp, fun a ha b hb e => ?_⟩, fun a ha => ?_⟩
  · have : b = p := by simpa using hb
    subst this; subst e
    exact hpF ha
  · rcases List.mem_append.mp ha with ha | ha
    · exact new a ha
    · have : a = p := by simpa using ha
      subst this
      exact ⟨stp.free hp, mem.fresh hp⟩
theorem repL_ok {K : PySem.W.Frag} {A0 A2 : List Addr} {H0 H2 : Hp} {μ : Store} {xs : List V} {l : List D} {p : Addr} (stp : Stp A0 H0 A2 H2) (mem : RelM K fa H2 A2 μ) (r1 : Reps K fa H2 A2 xs l []) (hp : H2 p = none) (n : Nat) :
    Good K fa A0 H0 μ (.tl (List.replicate n l).flatten) (.ref p) (upd H2 p (.lst (List.replicate n xs).flatten)) A2 [p] := by
  have h := catL_ok (m := []) (ys := []) (F2 := []) stp mem (r1.rep n) .nil (by simp) (by simp) hp
  simpa using h
/-- list + list, tracked, locked or written -/
def rCatL (K : PySem.W.Frag) : R2 := fun x y H Q => ∃ l b xs zs, x = .ref l ∧ y = .ref b ∧ SqL K H l xs ∧ SqL K H b zs ∧ xs.length + zs.length ≤ sizeLine ∧ ∀ p, H p = none → Q (.ref p) (upd H p (.lst (xs ++ zs)))
theorem op_catL : OpR X (binaryOp .Add) (rCatL X.K) := by
  intro pins s σ H x y v u Q I rx ry h
  obtain ⟨l, b, xs, zs, rfl, rfl, hH, hB, hz, q⟩ := h
  cases rx
  cases ry
  obtain ⟨its, r, ⟨⟨cls, dd, data, sl⟩, n, ho, hc, hdd, hd⟩, hl⟩ := I.list hH
  obtain ⟨its2, r2, ⟨⟨cls2, dd2, data2, sl2⟩, n2, ho2, hc2, hdd2, hd2⟩, hl2⟩ := I.list hB
  simp only at hc hd hc2 hd2 hdd hdd2
  subst hc hd hc2 hd2 hdd hdd2
  have h1 := r.length
  have h2 := r2.length
  have ea : its.toArray ++ its2.toArray = (its ++ its2).toArray := by simp
  refine concat_meets ⟨_, ho, rfl⟩ ⟨_, ho2, rfl⟩ noFill_list_add seq_list_add PySem.F.slot_list_add PySem.F.entry_list_add (PySem.F.args_list_add_2 _ _) (list_addW l b its.toArray its2.toArray n n2 none none sl sl2 (by simp; omega)) ⟨ho, ho2, ?_⟩
  rw [ea]
  exact ⟨.ref _, _, I.lnew (t' := s.toks) (r.append r2) (by rw [List.length_append]; omega), rfl, q _ I.fresh⟩
theorem binop_ok (op : BinK) : ∃ r : R2, OpR X (binaryOp (opB op)) r ∧
    ∀ {A0 : List Addr} {H0 : Hp} {x y z : D} {v w : V} {H2 : Hp} {A2 : List Addr} {μ : Store} {F1 F2 : List Addr} {Q : VK}, Two X.K fa A0 H0 x y v w H2 A2 μ F1 F2 → binop μ op x y = some z → Pst X.K fa W A0 H0 σ (.ok z μ) Q → r v w H2 Q := by
  cases op with
  | add =>
    refine ⟨_, OpR.or op_add (OpR.or op_add_str (OpR.or op_catA (OpR.or op_cat op_catL))), fun {A0 H0 x y z v w H2 A2 μ F1 F2 Q} t e q => ?_⟩
    unfold binop at e
    split at e <;> first | contradiction | skip
    · cases e
      have m := t.mem; have s := t.stp
      cases t.one; cases t.two
      exact .inl ⟨_, _, rfl, rfl, q.done s m (.int _)⟩
    · rename_i a b _
      split at e
      · rename_i hl
        cases e
        have m := t.mem; have s := t.stp
        cases t.one with
        | str _ h1 =>
          cases t.two with
          | str _ h2 =>
            refine .inr (.inl ⟨_, _, rfl, rfl, by rw [toS_length, toS_length, sizeLine_eq]; exact hl, ?_⟩)
            rw [toS_append]
            exact q.done s m (.str _ (okS_append h1 h2 hl))
      · cases e
    · rename_i a b _
      split at e
      · rename_i hl
        cases e
        have t' := t
        cases t with
        | mk stp mem one two nd new =>
          cases one with
          | @tup _ vs1 _ _ hs r1 =>
            cases two with
            | @tup _ vs2 _ _ hs2 r2 =>
              refine .inr (.inr (.inl ⟨_, _, _, _, rfl, rfl, hs, hs2, by rw [r1.length, r2.length, sizeLine_eq]; exact hl, fun e0 => ?_, fun e0 e1 => ?_, fun e0 e1 p hp => ?_⟩))
              · subst e0
                cases r1
                exact q _ _ _ _ t'.snd
              · subst e1
                cases r2
                have g := t'.fst
                rw [List.append_nil] at q
                exact q _ _ _ _ g
              · have sn : Stp A2 H2 A2 (upd H2 p (.tup (vs1 ++ vs2))) := Stp.new hp
                exact q _ _ A2 (F1 ++ F2) ⟨stp.trans sn, mem.new hp, .tup (.of upd_same) ((r1.append r2).step sn fun a ha => (new a ha).2), nd, new⟩
      · cases e
    · split at e
      · rename_i hl
        cases e
        cases t with
        | mk stp mem one two nd new =>
          cases one with
          | tl hs r1 =>
            cases two with
            | tl hs2 r2 => exact .inr (.inr (.inr (.inl ⟨_, _, _, _, rfl, rfl, hs, hs2, by rw [r1.length, r2.length, sizeLine_eq]; exact hl, fun p hp => q _ _ _ _ (catL_ok stp mem r1 r2 (nd_sub nd) (fun a ha => new a (sub_app ha)) hp)⟩)))
      · cases e
    · rw [Option.bind_eq_some_iff] at e
      obtain ⟨y, e1, e⟩ := e
      split at e
      · rename_i hl
        cases e
        cases t with
        | mk stp mem one two nd new =>
          cases one with
          | tl hs r1 =>
            cases two with
            | ref hs2 =>
              obtain ⟨ws, hv, r2⟩ := Rep.getL mem hs2 e1
              exact .inr (.inr (.inr (.inl ⟨_, _, _, _, rfl, rfl, hs, hv, by rw [r1.length, r2.length, sizeLine_eq]; exact hl, fun p hp => q _ _ _ _ (catL_ok stp mem r1 r2 (by rw [List.append_nil] at nd ⊢; exact (List.nodup_append.mp nd).1) (fun a ha => new a (by rw [List.append_nil] at ha ⊢; exact List.mem_append_left _ ha)) hp)⟩)))
      · cases e
    · rw [Option.bind_eq_some_iff] at e
      obtain ⟨x, e1, e⟩ := e
      split at e
      · rename_i hl
        cases e
        cases t with
        | mk stp mem one two nd new =>
          cases one with
          | ref hs =>
            obtain ⟨ws, hv, r1⟩ := Rep.getL mem hs e1
            cases two with
            | tl hs2 r2 => exact .inr (.inr (.inr (.inl ⟨_, _, _, _, rfl, rfl, hv, hs2, by rw [r1.length, r2.length, sizeLine_eq]; exact hl, fun p hp => q _ _ _ _ (catL_ok stp mem r1 r2 (by rw [List.nil_append] at nd ⊢; exact (List.nodup_append.mp nd).1) (fun a ha => new a (by rw [List.nil_append] at ha ⊢; exact List.mem_append_left _ ha)) hp)⟩)))
      · cases e
    · rw [Option.bind_eq_some_iff] at e
      obtain ⟨x, e1, e⟩ := e
      rw [Option.bind_eq_some_iff] at e
      obtain ⟨y, e2, e⟩ := e
      split at e
      · rename_i hl
        cases e
        cases t with
        | mk stp mem one two nd new =>
          cases one with
          | ref hs =>
            obtain ⟨ws, hv, r1⟩ := Rep.getL mem hs e1
            cases two with
            | ref hs2 =>
              obtain ⟨ws2, hv2, r2⟩ := Rep.getL mem hs2 e2
              exact .inr (.inr (.inr (.inl ⟨_, _, _, _, rfl, rfl, hv, hv2, by rw [r1.length, r2.length, sizeLine_eq]; exact hl, fun p hp => q _ _ _ _ (catL_ok stp mem r1 r2 (by simp) (by simp) hp)⟩)))
      · cases e
    · split at e
      · rename_i hl
        cases e
        cases t with
        | mk stp mem one two nd new =>
          cases one with
          | fz hs _ r1 =>
            cases two with
            | tl hs2 r2 => exact .inr (.inr (.inr (.inr ⟨_, _, _, _, rfl, rfl, hs, .inl (.of hs2), by rw [r1.length, r2.length, sizeLine_eq]; exact hl, fun p hp => q _ _ _ _ (catL_ok stp mem r1 r2 (by rw [List.nil_append] at nd ⊢; exact (List.nodup_append.mp nd).1) (fun a ha => new a (by rw [List.nil_append] at ha ⊢; exact List.mem_append_left _ ha)) hp)⟩)))
      · cases e
    · split at e
      · rename_i hl
        cases e
        cases t with
        | mk stp mem one two nd new =>
          cases one with
          | tl hs r1 =>
            cases two with
            | fz hs2 _ r2 => exact .inr (.inr (.inr (.inr ⟨_, _, _, _, rfl, rfl, .inl (.of hs), hs2, by rw [r1.length, r2.length, sizeLine_eq]; exact hl, fun p hp => q _ _ _ _ (catL_ok stp mem r1 r2 (by rw [List.append_nil] at nd ⊢; exact (List.nodup_append.mp nd).1) (fun a ha => new a (by rw [List.append_nil] at ha ⊢; exact List.mem_append_left _ ha)) hp)⟩)))
      · cases e
    · split at e
      · rename_i hl
        cases e
        cases t with
        | mk stp mem one two nd new =>
          cases one with
          | fz hs _ r1 =>
            cases two with
            | fz hs2 _ r2 => exact .inr (.inr (.inr (.inr ⟨_, _, _, _, rfl, rfl, hs, hs2, by rw [r1.length, r2.length, sizeLine_eq]; exact hl, fun p hp => q _ _ _ _ (catL_ok stp mem r1 r2 (by simp) (by simp) hp)⟩)))
      · cases e
  | sub =>
    refine ⟨_, op_sub, fun {A0 H0 x y z v w H2 A2 μ F1 F2 Q} t e q => ?_⟩
    unfold binop at e
    split at e <;> first | contradiction | skip
    cases e
    have m := t.mem; have s := t.stp
    cases t.one; cases t.two
    exact ⟨_, _, rfl, rfl, q.done s m (.int _)⟩
  | mul =>
    refine ⟨_, OpR.or op_mul (OpR.or op_rep (OpR.or op_repT op_smul)), fun {A0 H0 x y z v w H2 A2 μ F1 F2 Q} t e q => ?_⟩
    unfold binop at e
    split at e <;> first | contradiction | skip
    · split at e
      · rename_i hm
        cases e
        have m := t.mem; have s := t.stp
        cases t.one; cases t.two
        refine .inl ⟨_, _, rfl, rfl, ?_, q.done s m (.int _)⟩
        unfold mulOk at hm
        simpa [CMul] using hm
      · cases e
    · split at e
      · rename_i hm
        cases e
        obtain ⟨hm1, hm2⟩ := hm
        unfold repOk at hm2
        simp only [Bool.and_eq_true, decide_eq_true_eq] at hm2
        cases t with
        | mk stp mem one two nd new =>
          cases two
          cases one with
          | tl hs r1 =>
            have e0 := r1.still hm1
            subst e0
            exact .inr (.inl ⟨_, _, _, rfl, rfl, hs, hm2.1.1, hm2.1.2, by rw [r1.length, sizeLine_eq]; exact hm2.2, fun p hp => q _ _ A2 [p] (repL_ok stp mem r1 hp _)⟩)
      · cases e
    · rename_i kk _
      split at e
      · rename_i hm
        cases e
        obtain ⟨hm1, hm2, hm3, hm4, hm5⟩ := hm
        cases t with
        | mk stp mem one two nd new =>
          cases two
          cases one with
          | @tup _ vs1 _ _ hs r1 =>
            have e0 := r1.still hm1
            subst e0
            refine .inr (.inr (.inl ⟨_, _, _, rfl, rfl, hs, fun z => ?_, hm3, hm4, by rw [r1.length]; exact hm5, fun p hp => ?_⟩))
            · subst z
              cases r1
              cases hm2
            · have sn : Stp A2 H2 A2 (upd H2 p (.tup (List.replicate kk.toNat vs1).flatten)) := Stp.new hp
              exact q _ _ A2 [] ⟨stp.trans sn, mem.new hp, .tup (.of upd_same) ((r1.rep _).step sn fun a ha => by cases ha), List.nodup_nil, by simp⟩
      · cases e
    · split at e
      · rename_i hm
        cases e
        obtain ⟨hm2, hm3, hm4, hm5⟩ := hm
        have m := t.mem; have s := t.stp
        cases t.two
        cases t.one with
        | str a hsa => exact .inr (.inr (.inr ⟨_, _, rfl, rfl, hm2, hm3, hm4, hm5, q.done s m (.str _ (okS_rep hsa (by have : _ := hm4; omega) hm5))⟩))
      · cases e
  | fdiv =>
    refine ⟨_, OpR.or op_fdivN op_fdivW, fun {A0 H0 x y z v w H2 A2 μ F1 F2 Q} t e q => ?_⟩
    unfold binop at e
    split at e <;> first | contradiction | skip
    split at e
    · rename_i i j _ hm
      cases e
      have m := t.mem; have s := t.stp
      cases t.one; cases t.two
      unfold divOk at hm
      rw [Bool.or_eq_true] at hm
      rcases hm with hm | hm
      · have hm : j ≠ 0 ∧ j.natAbs < 1073741824 := by simpa using hm
        exact .inl ⟨_, _, rfl, rfl, hm, q.done s m (.int _)⟩
      · have hm : 0 < j ∧ j < 2 ^ 4000 := by simpa only [Bool.and_eq_true, decide_eq_true_eq] using hm
        refine .inr ⟨_, _, rfl, rfl, wide_div hm.1 (b := 4000) ?_ (by decide) (by decide), ?_⟩
        · have h2 : ((j.natAbs : Nat) : Int) < ((2 ^ 4000 : Nat) : Int) := by
            rw [Int.natAbs_of_nonneg (Int.le_of_lt hm.1)]
            exact_mod_cast hm.2
          exact_mod_cast h2
        · show Q (V.int (i / j)) H2
          rw [← Int.fdiv_eq_ediv_of_nonneg i (Int.le_of_lt hm.1)]
          exact q.done s m (.int _)
    · cases e
  | mod =>
    refine ⟨_, op_modN, fun {A0 H0 x y z v w H2 A2 μ F1 F2 Q} t e q => ?_⟩
    unfold binop at e
    split at e <;> first | contradiction | skip
    split at e
    · rename_i hm
      cases e
      have m := t.mem; have s := t.stp
      cases t.one; cases t.two
      exact ⟨_, _, rfl, rfl, hm, q.done s m (.int _)⟩
    · cases e
  | pow =>
    refine ⟨_, op_pow, fun {A0 H0 x y z v w H2 A2 μ F1 F2 Q} t e q => ?_⟩
    unfold binop at e
    split at e <;> first | contradiction | skip
    split at e
    · rename_i hm
      cases e
      have m := t.mem; have s := t.stp
      cases t.one; cases t.two
      exact ⟨_, _, rfl, rfl, hm, q.done s m (.int _)⟩
    · cases e
end
end Mp
end SSnd4
section SSnd5
/-! Snd5: items, built-ins, methods, what is walked: by values. -/
namespace Mp
open PySem PySem.Spec PyProof.Rows L2
section
variable {K : PySem.W.Frag} {fa : FA} {W : WX} {A A0 A1 A2 : List Addr} {H H0 H1 H2 : Hp} {σ : L2.St} {X : Cx}

theorem ixN_eq (n : Nat) (i : Int) : ixN n i = ixNat n i := rfl
theorem atI_of {vs : List V} {l : List D} {F : List Addr} {i : Int} {d : D} (r : Reps K fa H A vs l F) (h : ((ixNat l.length i).bind fun j => l[j]?) = some d) : ∃ v F1, atI vs i = some v ∧ Rep K fa H A v d F1 ∧ F1.Sublist F := by
  rw [Option.bind_eq_some_iff] at h
  obtain ⟨j, h1, h2⟩ := h
  obtain ⟨v, F1, k1, k2, k3⟩ := r.get h2
  refine ⟨v, F1, ?_, k2, k3⟩
  unfold atI
  rw [ixN_eq, r.length, h1]
  exact k1
theorem Good.part {μ : Store} {d e : D} {v w : V} {F F1 : List Addr} (g : Good K fa A H μ d v H2 A2 F) (q : Rep K fa H2 A2 w e F1) (s : F1.Sublist F) : Good K fa A H μ e w H2 A2 F1 :=
  ⟨g.stp, g.mem, q, g.nd.sublist s, fun a ha => g.new a (s.subset ha)⟩
theorem getIx_ok : ∀ {A0 : List Addr} {H0 : Hp} {x y z : D} {v w : V} {H2 : Hp} {A2 : List Addr} {μ : Store} {F1 F2 : List Addr} {Q : VK}, Two X.K fa A0 H0 x y v w H2 A2 μ F1 F2 → getIx μ x y = some z → Pst X.K fa W A0 H0 σ (.ok z μ) Q → rIx X.K v w H2 Q := by
  intro A0 H0 x y z v w H2 A2 μ F1 F2 Q t e q
  have g := t.fst
  unfold getIx at e
  split at e <;> first | contradiction | skip
  · rename_i l i
    cases t.two
    cases t.one with
    | tup hs r =>
      obtain ⟨u, F3, h1, h2, h3⟩ := atI_of r e
      exact .inr (.inl ⟨_, _, _, u, rfl, rfl, hs, h1, q _ _ _ _ (g.part h2 h3)⟩)
  · rename_i l i
    cases t.two
    cases t.one with
    | tl hs r =>
      obtain ⟨u, F3, h1, h2, h3⟩ := atI_of r e
      exact .inl ⟨_, _, _, u, rfl, rfl, .of hs, h1, q _ _ _ _ (g.part h2 (h3.trans (List.sublist_append_left _ _)))⟩
  · rename_i l i
    cases t.two
    cases t.one with
    | fz hs hp r =>
      obtain ⟨u, F3, h1, h2, h3⟩ := atI_of r e
      exact .inl ⟨_, _, _, u, rfl, rfl, hs, h1, q _ _ _ _ (g.part h2 h3)⟩
  · rename_i n i
    cases t.two
    cases t.one with
    | ref hs =>
      rw [Option.bind_eq_some_iff] at e
      obtain ⟨l, e1, e2⟩ := e
      obtain ⟨vs, hv, r⟩ := Rep.getL t.mem hs e1
      obtain ⟨u, F3, h1, h2, h3⟩ := atI_of r e2
      exact .inl ⟨_, _, _, u, rfl, rfl, .of hv, h1, q _ _ _ _ (g.part h2 h3)⟩
  · rename_i s i
    have m := t.mem; have st := t.stp
    cases t.two
    cases t.one with
    | str _ hs =>
      rw [Option.bind_eq_some_iff] at e
      obtain ⟨j, e1, e2⟩ := e
      rw [Option.map_eq_some_iff] at e2
      obtain ⟨c, e2, rfl⟩ := e2
      refine .inr (.inr ⟨_, _, c, rfl, rfl, by rw [toS_length]; exact okS_len hs, ?_, ?_⟩)
      · unfold atI
        rw [ixN_eq, toS_list, e1]; exact e2
      · refine q.done st m (.str [c] ?_)
        have hc : c ∈ s := List.mem_of_getElem? e2
        unfold okS at hs ⊢
        simp only [Bool.and_eq_true, List.all_eq_true, decide_eq_true_eq] at hs ⊢
        refine ⟨by show 1 ≤ 16777216; decide, fun x hx => ?_⟩
        have : x = c := by simpa using hx
        subst this
        exact hs.2 x hc

/-! ### built-ins -/
def bltV : Blt → Value
  | .len => .builtin "len" | .tuple => .type "tuple" | .list => .type "list" | .int => .type "int" | .min => .builtin "min" | .max => .builtin "max"
  | .isinstance => .builtin "isinstance" | .sum => .builtin "sum" | .abs => .builtin "abs" | .all => .builtin "all" | .any => .builtin "any" | .sorted => .builtin "sorted"
theorem callR_no {f : Value} : CallR X f (fun _ _ _ => False) := fun _ _ _ _ _ _ _ _ _ h => h.elim
theorem Reps.one_inv {vs : List V} {d : D} {F : List Addr} (r : Reps K fa H A vs [d] F) : ∃ v, vs = [v] ∧ Rep K fa H A v d F := by
  cases r with
  | @cons v _ _ _ F1 _ r t =>
    cases t
    exact ⟨v, rfl, by rw [List.append_nil]; exact r⟩
theorem Reps.two_inv {vs : List V} {d e : D} {F : List Addr} (r : Reps K fa H A vs [d, e] F) : ∃ v w F1 F2, vs = [v, w] ∧ F = F1 ++ F2 ∧ Rep K fa H A v d F1 ∧ Rep K fa H A w e F2 := by
  cases r with
  | @cons v _ _ _ F1 _ r t =>
    obtain ⟨w, rfl, q⟩ := t.one_inv
    exact ⟨v, w, _, _, rfl, rfl, r, q⟩
theorem GoodL.one {μ : Store} {d : D} {vs : List V} {F : List Addr} (g : GoodL K fa A H μ [d] vs H1 A1 F) : ∃ v, vs = [v] ∧ Good K fa A H μ d v H1 A1 F := by
  obtain ⟨v, rfl, q⟩ := g.rep.one_inv
  exact ⟨v, rfl, ⟨g.stp, g.mem, q, g.nd, g.new⟩⟩
theorem List.sub_of_append_left {α : Type} {l m n : List α} (h : (l ++ m).Sublist n) : l.Sublist n := (List.sublist_append_left l m).trans h
/-- a new tuple or list of the items of one -/
theorem Good.copyT {μ : Store} {l : List D} {v : V} {F F1 : List Addr} {vs : List V} {d : D} {p : Addr} (g : Good K fa A H μ d v H1 A1 F) (r : Reps K fa H1 A1 vs l F1) (s : F1.Sublist F) (hp : H1 p = none) : Good K fa A H μ (.tup l) (.ref p) (upd H1 p (.tup vs)) A1 F1 := by
  have sn : Stp A1 H1 A1 (upd H1 p (.tup vs)) := Stp.new hp
  exact ⟨g.stp.trans sn, g.mem.new hp, .tup (.of upd_same) (r.step sn fun a ha => (g.new a (s.subset ha)).2), g.nd.sublist s, fun a ha => g.new a (s.subset ha)⟩
theorem Good.copyL {μ : Store} {l : List D} {v : V} {F F1 : List Addr} {vs : List V} {d : D} {p : Addr} (g : Good K fa A H μ d v H1 A1 F) (r : Reps K fa H1 A1 vs l F1) (s : F1.Sublist F) (hp : H1 p = none) : Good K fa A H μ (.tl l) (.ref p) (upd H1 p (.lst vs)) A1 (F1 ++ [p]) := by
  have sn : Stp A1 H1 A1 (upd H1 p (.lst vs)) := Stp.new hp
  have hpF : p ∉ F1 := fun hm => by
    obtain ⟨ws, e⟩ := g.tracked p (s.subset hm)
    rw [hp] at e; cases e
  refine ⟨g.stp.trans sn, g.mem.new hp, .tl upd_same (r.step sn fun a ha => (g.new a (s.subset ha)).2), List.nodup_append.mpr ⟨g.nd.sublist s, by simp, fun a ha b hb e => ?_⟩, fun a ha => ?_⟩
  · have : b = p := by simpa using hb
    subst this
    subst e
    exact hpF ha
  · rcases List.mem_append.mp ha with ha | ha
    · exact g.new a (s.subset ha)
    · have : a = p := by simpa using ha
      subst this
      exact ⟨g.stp.free hp, g.mem.fresh hp⟩
theorem Reps.three_inv {vs : List V} {d e f : D} {F : List Addr} (r : Reps K fa H A vs [d, e, f] F) : ∃ v w u, vs = [v, w, u] ∧ ∃ F1, Rep K fa H A v d F1 ∧ ∃ F2, Rep K fa H A w e F2 ∧ ∃ F3, Rep K fa H A u f F3 := by
  cases r with
  | @cons v _ _ _ F1 _ r t =>
    obtain ⟨w, u, F2, F3, rfl, _, q1, q2⟩ := t.two_inv
    exact ⟨v, w, u, rfl, F1, r, F2, q1, F3, q2⟩
theorem min3_int (i j k : Int) : nuMin3 (.int i) (.int j) (.int k) = some (.int (if k < (if j < i then j else i) then k else (if j < i then j else i))) := by
  have h2 : ∀ i j : Int, nuMin2 (.int i) (.int j) = some (.int (if j < i then j else i)) := by
    intro i j
    unfold nuMin2
    show (some (decide (j < i))).map _ = _
    by_cases h : j < i <;> simp [h]
  unfold nuMin3
  rw [h2]
  show nuMin2 _ _ = _
  rw [h2]
theorem minL_le : ∀ (l : List Int) (x : Int), minL x l ∈ x :: l ∧ ∀ y ∈ x :: l, minL x l ≤ y
  | [], x => by simp [minL]
  | b :: l, x => by
    by_cases hb : b < x
    · have e : minL x (b :: l) = minL b l := by
        show minL (if b < x then b else x) l = _
        rw [if_pos hb]
      obtain ⟨h1, h2⟩ := minL_le l b
      have h3 := h2 b (by simp)
      rw [e]
      refine ⟨List.mem_cons_of_mem _ h1, fun y hy => ?_⟩
      rcases List.mem_cons.mp hy with rfl | hy
      · omega
      · exact h2 y hy
    · have e : minL x (b :: l) = minL x l := by
        show minL (if b < x then b else x) l = _
        rw [if_neg hb]
      obtain ⟨h1, h2⟩ := minL_le l x
      have h3 := h2 x (by simp)
      rw [e]
      refine ⟨?_, fun y hy => ?_⟩
      · rcases List.mem_cons.mp h1 with h1 | h1
        · rw [h1]; simp
        · simp [h1]
      · rcases List.mem_cons.mp hy with rfl | hy
        · exact h3
        · rcases List.mem_cons.mp hy with rfl | hy
          · omega
          · exact h2 y (by simp [hy])
theorem minL_eq {m n : Int} {ns : List Int} (h1 : m ∈ n :: ns) (h2 : ∀ y, y ∈ n :: ns → m ≤ y) : m = minL n ns := by
  have h := minL_le ns n
  have a := h2 _ h.1
  have b := h.2 _ h1
  omega
theorem maxL_le : ∀ (l : List Int) (x : Int), maxL x l ∈ x :: l ∧ ∀ y ∈ x :: l, y ≤ maxL x l
  | [], x => by simp [maxL]
  | b :: l, x => by
    by_cases hb : x < b
    · have e : maxL x (b :: l) = maxL b l := by
        show maxL (if x < b then b else x) l = _
        rw [if_pos hb]
      obtain ⟨h1, h2⟩ := maxL_le l b
      have h3 := h2 b (by simp)
      rw [e]
      refine ⟨List.mem_cons_of_mem _ h1, fun y hy => ?_⟩
      rcases List.mem_cons.mp hy with rfl | hy
      · omega
      · exact h2 y hy
    · have e : maxL x (b :: l) = maxL x l := by
        show maxL (if x < b then b else x) l = _
        rw [if_neg hb]
      obtain ⟨h1, h2⟩ := maxL_le l x
      have h3 := h2 x (by simp)
      rw [e]
      refine ⟨?_, fun y hy => ?_⟩
      · rcases List.mem_cons.mp h1 with h1 | h1
        · rw [h1]; simp
        · simp [h1]
      · rcases List.mem_cons.mp hy with rfl | hy
        · exact h3
        · rcases List.mem_cons.mp hy with rfl | hy
          · omega
          · exact h2 y (by simp [hy])
theorem maxL_eq {m n : Int} {ns : List Int} (h1 : m ∈ n :: ns) (h2 : ∀ y, y ∈ n :: ns → y ≤ m) : m = maxL n ns := by
  have h := maxL_le ns n
  have a := h2 _ h.1
  have b := h.2 _ h1
  omega
theorem intsOf_eq : ∀ {l : List D} {ns : List Int}, intsOf l = some ns → l = ns.map D.int
  | [], ns, h => by cases h; rfl
  | d :: l, ns, h => by
    cases d with
    | int i =>
      simp only [intsOf, Option.map_eq_some_iff] at h
      obtain ⟨r, h1, rfl⟩ := h
      rw [intsOf_eq h1]; rfl
    | _ => simp [intsOf] at h
theorem strsOf_eq : ∀ {l : List D} {ns : List (List Nat)}, strsOf l = some ns → l = ns.map D.str
  | [], ns, h => by cases h; rfl
  | d :: l, ns, h => by
    cases d with
    | str i =>
      simp only [strsOf, Option.map_eq_some_iff] at h
      obtain ⟨r, h1, rfl⟩ := h
      rw [strsOf_eq h1]; rfl
    | _ => simp [strsOf] at h
theorem boolsOf_eq : ∀ {l : List D} {ns : List Bool}, boolsOf l = some ns → l = ns.map D.bl
  | [], ns, h => by cases h; rfl
  | d :: l, ns, h => by
    cases d with
    | bl i =>
      simp only [boolsOf, Option.map_eq_some_iff] at h
      obtain ⟨r, h1, rfl⟩ := h
      rw [boolsOf_eq h1]; rfl
    | _ => simp [boolsOf] at h
theorem Reps.ints : ∀ {vs : List V} {ns : List Int} {F : List Addr}, Reps K fa H A vs (ns.map D.int) F → vs = ns.map V.int
  | _, [], _, h => by cases h; rfl
  | _, n :: ns, _, h => by
    cases h with
    | cons r t =>
      cases r
      rw [Reps.ints t]; rfl
theorem Reps.bools : ∀ {vs : List V} {ns : List Bool} {F : List Addr}, Reps K fa H A vs (ns.map D.bl) F → vs = ns.map V.bl
  | _, [], _, h => by cases h; rfl
  | _, n :: ns, _, h => by
    cases h with
    | cons r t =>
      cases r
      rw [Reps.bools t]; rfl
theorem seqL_ok {μ : Store} {d : D} {l : List D} {vs : List V} {F : List Addr} (g : GoodL K fa A H μ [d] vs H1 A1 F) (e : seqL μ d = some l) : ∃ a ws F1, vs = [.ref a] ∧ SqL K H1 a ws ∧ Reps K fa H1 A1 ws l F1 := by
  obtain ⟨v, rfl, g1⟩ := g.one
  cases d with
  | tl l' =>
    cases e
    cases g1.rep with
    | tl hs r => exact ⟨_, _, _, rfl, .inl (.of hs), r⟩
  | fz l' =>
    cases e
    cases g1.rep with
    | fz hs _ r => exact ⟨_, _, _, rfl, hs, r⟩
  | ref n =>
    cases g1.rep with
    | ref hs =>
      obtain ⟨ws, hv, r⟩ := Rep.getL g1.mem hs e
      exact ⟨_, _, _, rfl, .inl (.of hv), r⟩
  | _ => simp [seqL] at e
theorem seqI_ok {μ : Store} {d : D} {ns : List Int} {vs : List V} {F : List Addr} (g : GoodL K fa A H μ [d] vs H1 A1 F) (e : (seqL μ d).bind intsOf = some ns) : ∃ a, vs = [.ref a] ∧ SqL K H1 a (ns.map V.int) := by
  rw [Option.bind_eq_some_iff] at e
  obtain ⟨l, e1, e2⟩ := e
  obtain ⟨a, ws, F1, h1, h2, h3⟩ := seqL_ok g e1
  rw [intsOf_eq e2] at h3
  rw [h3.ints] at h2
  exact ⟨a, h1, h2⟩
theorem seqTI_ok {μ : Store} {d : D} {ns : List Int} {vs : List V} {F : List Addr} (g : GoodL K fa A H μ [d] vs H1 A1 F) (e : (seqT μ d).bind intsOf = some ns) : (∃ a, vs = [.ref a] ∧ SqL K H1 a (ns.map V.int)) ∨ ∃ a, vs = [.ref a] ∧ SqT K H1 a (ns.map V.int) := by
  cases d with
  | tup l =>
    obtain ⟨v, rfl, g1⟩ := g.one
    have e : intsOf l = some ns := e
    have r := g1.rep
    rw [intsOf_eq e] at r
    cases r with
    | tup hs r =>
      rw [r.ints] at hs
      exact .inr ⟨_, rfl, hs⟩
  | _ => exact .inl (seqI_ok g e)
theorem Reps.uncons' {vs : List V} {d : D} {ds : List D} {F : List Addr} (r : Reps K fa H A vs (d :: ds) F) : ∃ v ws, vs = v :: ws ∧ (∃ F1, Rep K fa H A v d F1) ∧ ∃ F2, Reps K fa H A ws ds F2 := by
  cases r with
  | cons r t => exact ⟨_, _, rfl, ⟨_, r⟩, _, t⟩
theorem seqB_ok {μ : Store} {d : D} {ns : List Bool} {vs : List V} {F : List Addr} (g : GoodL K fa A H μ [d] vs H1 A1 F) (e : (seqL μ d).bind boolsOf = some ns) : ∃ a, vs = [.ref a] ∧ SqL K H1 a (ns.map V.bl) := by
  rw [Option.bind_eq_some_iff] at e
  obtain ⟨l, e1, e2⟩ := e
  obtain ⟨a, ws, F1, h1, h2, h3⟩ := seqL_ok g e1
  rw [boolsOf_eq e2] at h3
  rw [h3.bools] at h2
  exact ⟨a, h1, h2⟩
/-! ### sorted -/
theorem sortD_cases {l r : List D} (h : sortD l = some r) : (∃ ns : List Int, l = ns.map .int ∧ r = (srtB ltI ns).map .int) ∨ ∃ ss : List (List Nat), l = ss.map .str ∧ r = (srtB ltN ss).map .str := by
  unfold sortD at h
  split at h
  · rename_i ns hn
    cases h
    exact .inl ⟨ns, intsOf_eq hn, rfl⟩
  · rw [Option.map_eq_some_iff] at h
    obtain ⟨ss, hs, rfl⟩ := h
    exact .inr ⟨ss, strsOf_eq hs, rfl⟩
theorem setD_cases {l r : List D} (h : setD l = some r) : (∃ ns : List Int, l = ns.map .int ∧ r = (srtU ltI ns).map .int) ∨ ∃ ss : List (List Nat), l = ss.map .str ∧ r = (srtU ltN ss).map .str := by
  unfold setD at h
  split at h
  · rename_i ns hn
    cases h
    exact .inl ⟨ns, intsOf_eq hn, rfl⟩
  · rw [Option.map_eq_some_iff] at h
    obtain ⟨ss, hs, rfl⟩ := h
    exact .inr ⟨ss, strsOf_eq hs, rfl⟩
theorem Reps.strs0 : ∀ {vs : List V} {ss : List (List Nat)} {F : List Addr}, Reps K fa H A vs (ss.map D.str) F → vs = ss.map (V.str ∘ toS) ∧ ∀ s ∈ ss, okS s = true
  | _, [], _, h => by cases h; exact ⟨rfl, by simp⟩
  | _, n :: ns, _, h => by
    cases h with
    | cons r t =>
      cases r with
      | str _ hs =>
        obtain ⟨e, q⟩ := Reps.strs0 t
        rw [e]
        refine ⟨rfl, fun s h => ?_⟩
        rcases List.mem_cons.mp h with e | h
        · rw [e]; exact hs
        · exact q s h
theorem reps_ints0 : ∀ (ns : List Int) (H : Hp) (A : List Addr), Reps K fa H A (ns.map V.int) (ns.map D.int) []
  | [], _, _ => .nil
  | n :: ns, H, A => Reps.cons (F := []) (F' := []) (.int n) (reps_ints0 ns H A)
theorem reps_strs : ∀ {ss : List (List Nat)}, (∀ s ∈ ss, okS s = true) → ∀ (H : Hp) (A : List Addr), Reps K fa H A (ss.map (V.str ∘ toS)) (ss.map D.str) []
  | [], _, _, _ => .nil
  | n :: ns, h, H, A => Reps.cons (F := []) (F' := []) (.str n (h n (by simp))) (reps_strs (fun s hs => h s (by simp [hs])) H A)
theorem toS_back (x : Str) : toS x.cps.toList = x := by cases x; simp [toS]
theorem srt_toS {ns' : List Str} {ss : List (List Nat)} (h1 : ns'.Perm (ss.map toS)) (h2 : ns'.Pairwise (fun x y => ¬ y.cps.toList < x.cps.toList)) : ns' = (srtB ltN ss).map toS := by
  have e : ns'.map (fun x => x.cps.toList) = srtB ltN ss := by
    refine eq_srtB sto_str ?_ (List.pairwise_map.mpr (h2.imp fun {x y} h => (ltN_not _ _).mpr h))
    have z := h1.map (fun x : Str => x.cps.toList)
    rw [List.map_map] at z
    have e : ss.map ((fun x : Str => x.cps.toList) ∘ toS) = ss := by
      conv => rhs; rw [← List.map_id ss]
      exact List.map_congr_left fun s _ => toS_list s
    rwa [e] at z
  rw [← e, List.map_map]
  conv => lhs; rw [← List.map_id ns']
  exact List.map_congr_left fun s _ => (toS_back s).symm
theorem set_toS {ns' : List Str} {ss : List (List Nat)} (nd : ns'.Nodup) (h1 : ∀ z, z ∈ ns' ↔ z ∈ ss.map toS) (h2 : ns'.Pairwise (fun x y => ¬ y.cps.toList < x.cps.toList)) : ns' = (srtU ltN ss).map toS := by
  have e : ns'.map (fun x => x.cps.toList) = srtU ltN ss := by
    refine eq_srtU sto_str ?_ (fun z => ?_) (List.pairwise_map.mpr (h2.imp fun {x y} h => (ltN_not _ _).mpr h))
    · refine List.Pairwise.map _ (fun x y hne e => hne ?_) nd
      rw [← toS_back x, ← toS_back y, e]
    · rw [List.mem_map]
      constructor
      · rintro ⟨x, hx, rfl⟩
        obtain ⟨s, hs, rfl⟩ := List.mem_map.mp ((h1 x).mp hx)
        rw [toS_list]; exact hs
      · intro hz
        exact ⟨toS z, (h1 _).mpr (List.mem_map.mpr ⟨z, hz, rfl⟩), toS_list z⟩
  rw [← e, List.map_map]
  conv => lhs; rw [← List.map_id ns']
  exact List.map_congr_left fun s _ => (toS_back s).symm
theorem Good.newL {μ : Store} {d : D} {v : V} {F : List Addr} (g : Good K fa A H μ d v H1 A1 F) {l : List D} {ws : List V} (hr : ∀ H A, Reps K fa H A ws l []) {p : Addr} (hp : H1 p = none) : Good K fa A H μ (.tl l) (.ref p) (upd H1 p (.lst ws)) A1 [p] := by
  refine ⟨g.stp.trans (Stp.new hp), g.mem.new hp, ?_, by simp, fun a ha => ?_⟩
  · have := Rep.tl (K := K) (fa := fa) (A := A1) (upd_same (H := H1) (a := p) (o := .lst ws)) (hr _ _)
    simpa using this
  · have : a = p := by simpa using ha
    subst this
    exact ⟨g.stp.free hp, g.mem.fresh hp⟩
theorem GoodL.newL {μ : Store} {ds : List D} {vs : List V} {F : List Addr} (g : GoodL K fa A H μ ds vs H1 A1 F) {l : List D} {ws : List V} (hr : ∀ H A, Reps K fa H A ws l []) {p : Addr} (hp : H1 p = none) : Good K fa A H μ (.tl l) (.ref p) (upd H1 p (.lst ws)) A1 [p] :=
  Good.newL (d := .non) (v := .non) (F := []) ⟨g.stp, g.mem, .non, List.nodup_nil, by simp⟩ hr hp
/-- may be called while an error is handled, too -/
def bltC : Blt → Bool
  | .len | .tuple | .list | .int | .abs | .isinstance | .sorted => true
  | _ => false
theorem bltin_ok (f : Blt) (hc : X.calm = true ∨ bltC f = true) : ∃ r : List V → Hp → VK → Prop, CallR X (bltV f) r ∧
    ∀ {A0 : List Addr} {H0 : Hp} {ds : List D} {vs : List V} {H1 : Hp} {A1 : List Addr} {μ : Store} {F : List Addr} {z : D} {Q : VK}, GoodL X.K fa A0 H0 μ ds vs H1 A1 F → bltin μ f ds = some z → Pst X.K fa W A0 H0 σ (.ok z μ) Q → r vs H1 Q := by
  cases f with
  | len =>
    refine ⟨_, CallR.or call_len_seq call_len_str, fun {A0 H0 ds vs H1 A1 μ F z Q} g e q => ?_⟩
    unfold bltin at e
    split at e <;> first | contradiction | skip
    · cases e
      obtain ⟨v, rfl, g1⟩ := g.one
      cases g1.rep with
      | str _ hs =>
        refine .inr ⟨_, rfl, by rw [toS_length]; exact okS_len hs, ?_⟩
        rw [toS_length]
        exact q.done g1.stp g1.mem (.int _)
    · cases e
      obtain ⟨v, rfl, g1⟩ := g.one
      cases g1.rep with
      | tup hs r =>
        refine .inl ⟨_, _, rfl, .inr hs, ?_⟩
        rw [r.length]
        exact q.done g1.stp g1.mem (.int _)
    · cases e
      obtain ⟨v, rfl, g1⟩ := g.one
      cases g1.rep with
      | tl hs r =>
        refine .inl ⟨_, _, rfl, .inl (.of hs), ?_⟩
        rw [r.length]
        exact q.done g1.stp g1.mem (.int _)
    · cases e
      obtain ⟨v, rfl, g1⟩ := g.one
      cases g1.rep with
      | fz hs hp r =>
        refine .inl ⟨_, _, rfl, .inl hs, ?_⟩
        rw [r.length]
        exact q.done g1.stp g1.mem (.int _)
    · rw [Option.map_eq_some_iff] at e
      obtain ⟨l, e1, rfl⟩ := e
      obtain ⟨v, rfl, g1⟩ := g.one
      cases g1.rep with
      | ref hs =>
        obtain ⟨ws, hv, r⟩ := Rep.getL g1.mem hs e1
        refine .inl ⟨_, _, rfl, .inl (.of hv), ?_⟩
        rw [r.length]
        exact q.done g1.stp g1.mem (.int _)
  | tuple =>
    refine ⟨_, call_tuple_of, fun {A0 H0 ds vs H1 A1 μ F z Q} g e q => ?_⟩
    unfold bltin at e
    split at e <;> first | contradiction | skip
    · cases e
      obtain ⟨v, rfl, g1⟩ := g.one
      have g' := g1
      cases g1.rep with
      | tup hs r => exact ⟨_, _, rfl, .inr ⟨hs, q _ _ _ _ g'⟩⟩
    · cases e
      obtain ⟨v, rfl, g1⟩ := g.one
      cases g1.rep with
      | tl hs r => exact ⟨_, _, rfl, .inl ⟨.of hs, fun p hp => q _ _ _ _ (g1.copyT r (List.sublist_append_left _ _) hp)⟩⟩
    · cases e
      obtain ⟨v, rfl, g1⟩ := g.one
      cases g1.rep with
      | fz hs _ r => exact ⟨_, _, rfl, .inl ⟨hs, fun p hp => q _ _ _ _ (g1.copyT r (List.Sublist.refl _) hp)⟩⟩
    · rw [Option.map_eq_some_iff] at e
      obtain ⟨l, e1, rfl⟩ := e
      obtain ⟨v, rfl, g1⟩ := g.one
      cases g1.rep with
      | ref hs =>
        obtain ⟨ws, hv, r⟩ := Rep.getL g1.mem hs e1
        exact ⟨_, _, rfl, .inl ⟨.of hv, fun p hp => q _ _ _ _ (g1.copyT r (List.Sublist.refl _) hp)⟩⟩
  | list =>
    refine ⟨_, call_list_of, fun {A0 H0 ds vs H1 A1 μ F z Q} g e q => ?_⟩
    unfold bltin at e
    split at e <;> first | contradiction | skip
    · cases e
      obtain ⟨v, rfl, g1⟩ := g.one
      cases g1.rep with
      | tup hs r => exact ⟨_, _, rfl, .inr hs, fun p hp => q _ _ _ _ (g1.copyL r (List.Sublist.refl _) hp)⟩
    · cases e
      obtain ⟨v, rfl, g1⟩ := g.one
      cases g1.rep with
      | tl hs r => exact ⟨_, _, rfl, .inl (.of hs), fun p hp => q _ _ _ _ (g1.copyL r (List.sublist_append_left _ _) hp)⟩
    · cases e
      obtain ⟨v, rfl, g1⟩ := g.one
      cases g1.rep with
      | fz hs _ r => exact ⟨_, _, rfl, .inl hs, fun p hp => q _ _ _ _ (g1.copyL r (List.Sublist.refl _) hp)⟩
    · rw [Option.map_eq_some_iff] at e
      obtain ⟨l, e1, rfl⟩ := e
      obtain ⟨v, rfl, g1⟩ := g.one
      cases g1.rep with
      | ref hs =>
        obtain ⟨ws, hv, r⟩ := Rep.getL g1.mem hs e1
        exact ⟨_, _, rfl, .inl (.of hv), fun p hp => q _ _ _ _ (g1.copyL r (List.Sublist.refl _) hp)⟩
  | int =>
    refine ⟨_, call_int1, fun {A0 H0 ds vs H1 A1 μ F z Q} g e q => ?_⟩
    unfold bltin at e
    split at e <;> first | contradiction | skip
    · cases e
      obtain ⟨v, rfl, g1⟩ := g.one
      have m := g1.mem; have st := g1.stp
      cases g1.rep
      exact .inl ⟨_, rfl, q.done st m (.int _)⟩
    · cases e
      obtain ⟨v, rfl, g1⟩ := g.one
      have m := g1.mem; have st := g1.stp
      cases g1.rep
      exact .inr ⟨_, rfl, q.done st m (.int _)⟩
  | min =>
    have hc : X.calm = true := hc.resolve_right (by decide)
    refine ⟨_, CallR.or (call_min2 hc) (CallR.or (call_min3Nu hc) (CallR.or (cr_min hc) (CallR.or (Mm.cr_minT hc) (Mm.cr_min4 hc)))), fun {A0 H0 ds vs H1 A1 μ F z Q} g e q => ?_⟩
    unfold bltin at e
    split at e <;> first | contradiction | skip
    · cases e
      have m := g.mem; have st := g.stp
      obtain ⟨v, w, F1, F2, rfl, _, r1, r2⟩ := g.rep.two_inv
      cases r1; cases r2
      exact .inl ⟨_, _, rfl, q.done st m (.int _)⟩
    · cases e
      have m := g.mem; have st := g.stp
      obtain ⟨v, w, u, rfl, F1, r1, F2, r2, F3, r3⟩ := g.rep.three_inv
      cases r1; cases r2; cases r3
      refine .inr (.inl ⟨_, _, _, _, rfl, min3_int _ _ _, q.done st m (.int _)⟩)
    · cases e
      have m := g.mem; have st := g.stp
      obtain ⟨v, vs1, e1, r1, F1, h1⟩ := g.rep.uncons'
      obtain ⟨w, vs2, e2, r2, F2, h2⟩ := h1.uncons'
      obtain ⟨u, vs3, e3, r3, F3, h3⟩ := h2.uncons'
      obtain ⟨x, rfl, r4⟩ := h3.one_inv
      subst e1 e2 e3
      obtain ⟨_, r1⟩ := r1
      obtain ⟨_, r2⟩ := r2
      obtain ⟨_, r3⟩ := r3
      cases r1; cases r2; cases r3; cases r4
      refine .inr (.inr (.inr (.inr ⟨_, _, _, _, rfl, fun m' hm hle => ?_⟩)))
      rw [minL_eq hm hle]
      exact q.done st m (.int _)
    · rw [Option.bind_eq_some_iff] at e
      obtain ⟨ns, e1, e2⟩ := e
      cases ns with
      | nil => cases e2
      | cons n ns =>
        cases e2
        rcases seqTI_ok g e1 with ⟨a, rfl, hs⟩ | ⟨a, rfl, hs⟩
        · refine .inr (.inr (.inl ⟨a, n :: ns, rfl, hs, by simp, fun m hm hle => ?_⟩))
          rw [minL_eq hm hle]
          exact q.done g.stp g.mem (.int _)
        · refine .inr (.inr (.inr (.inl ⟨a, n :: ns, rfl, hs, by simp, fun m hm hle => ?_⟩)))
          rw [minL_eq hm hle]
          exact q.done g.stp g.mem (.int _)
  | max =>
    have hc : X.calm = true := hc.resolve_right (by decide)
    refine ⟨_, CallR.or (call_max2 hc) (CallR.or (cr_max hc) (Mm.cr_maxT hc)), fun {A0 H0 ds vs H1 A1 μ F z Q} g e q => ?_⟩
    unfold bltin at e
    split at e <;> first | contradiction | skip
    · cases e
      have m := g.mem; have st := g.stp
      obtain ⟨v, w, F1, F2, rfl, _, r1, r2⟩ := g.rep.two_inv
      cases r1; cases r2
      exact .inl ⟨_, _, rfl, q.done st m (.int _)⟩
    · rw [Option.bind_eq_some_iff] at e
      obtain ⟨ns, e1, e2⟩ := e
      cases ns with
      | nil => cases e2
      | cons n ns =>
        cases e2
        rcases seqTI_ok g e1 with ⟨a, rfl, hs⟩ | ⟨a, rfl, hs⟩
        · refine .inr (.inl ⟨a, n :: ns, rfl, hs, by simp, fun m hm hle => ?_⟩)
          rw [maxL_eq hm hle]
          exact q.done g.stp g.mem (.int _)
        · refine .inr (.inr ⟨a, n :: ns, rfl, hs, by simp, fun m hm hle => ?_⟩)
          rw [maxL_eq hm hle]
          exact q.done g.stp g.mem (.int _)
  | isinstance => exact ⟨_, callR_no, fun {A0 H0 ds vs H1 A1 μ F z Q} g e q => by unfold bltin at e; split at e <;> first | contradiction | skip⟩
  | sum =>
    have hc : X.calm = true := hc.resolve_right (by decide)
    refine ⟨_, CallR.or (cr_sum hc) (Mm.cr_sumT hc), fun {A0 H0 ds vs H1 A1 μ F z Q} g e q => ?_⟩
    unfold bltin at e
    split at e <;> first | contradiction | skip
    rw [Option.map_eq_some_iff] at e
    obtain ⟨ns, e1, rfl⟩ := e
    rcases seqTI_ok g e1 with ⟨a, rfl, hs⟩ | ⟨a, rfl, hs⟩
    · exact .inl ⟨a, ns, rfl, hs, q.done g.stp g.mem (.int _)⟩
    · exact .inr ⟨a, ns, rfl, hs, q.done g.stp g.mem (.int _)⟩
  | abs =>
    refine ⟨_, call_abs, fun {A0 H0 ds vs H1 A1 μ F z Q} g e q => ?_⟩
    unfold bltin at e
    split at e <;> first | contradiction | skip
    cases e
    obtain ⟨v, rfl, g1⟩ := g.one
    have m := g1.mem; have st := g1.stp
    cases g1.rep
    exact ⟨_, rfl, q.done st m (.int _)⟩
  | all =>
    have hc : X.calm = true := hc.resolve_right (by decide)
    refine ⟨_, cr_all hc, fun {A0 H0 ds vs H1 A1 μ F z Q} g e q => ?_⟩
    unfold bltin at e
    split at e <;> first | contradiction | skip
    rw [Option.map_eq_some_iff] at e
    obtain ⟨ns, e1, rfl⟩ := e
    obtain ⟨a, rfl, hs⟩ := seqB_ok g e1
    exact ⟨a, ns, rfl, hs, q.done g.stp g.mem (.bl _)⟩
  | any =>
    have hc : X.calm = true := hc.resolve_right (by decide)
    refine ⟨_, cr_any hc, fun {A0 H0 ds vs H1 A1 μ F z Q} g e q => ?_⟩
    unfold bltin at e
    split at e <;> first | contradiction | skip
    rw [Option.map_eq_some_iff] at e
    obtain ⟨ns, e1, rfl⟩ := e
    obtain ⟨a, rfl, hs⟩ := seqB_ok g e1
    exact ⟨a, ns, rfl, hs, q.done g.stp g.mem (.bl _)⟩

  | sorted =>
    refine ⟨_, CallR.or cr_sortedI Se.cr_srtL, fun {A0 H0 ds vs H1 A1 μ F z Q} g e q => ?_⟩
    unfold bltin at e
    split at e <;> first | contradiction | skip
    rw [Option.map_eq_some_iff] at e
    obtain ⟨r, e1, rfl⟩ := e
    rw [Option.bind_eq_some_iff] at e1
    obtain ⟨l, e1, e2⟩ := e1
    obtain ⟨a, ws, F1, rfl, hs, hr⟩ := seqL_ok g e1
    rcases sortD_cases e2 with ⟨ns, rfl, rfl⟩ | ⟨ss, rfl, rfl⟩
    · rw [hr.ints] at hs
      refine .inl ⟨a, ns, rfl, hs, fun ns' p h1 h2 hp => ?_⟩
      have e : ns' = srtB ltI ns := eq_srtB sto_int h1 (h2.imp fun {x y} h => decide_eq_false (by omega))
      rw [e]
      exact q _ _ _ _ (g.newL (reps_ints0 _) hp)
    · obtain ⟨hv, ok⟩ := hr.strs0
      rw [hv] at hs
      refine .inr ⟨a, ss.map toS, rfl, by rw [List.map_map]; exact hs, fun ns' p h1 h2 hp => ?_⟩
      have e : ns' = (srtB ltN ss).map toS := srt_toS h1 h2
      rw [e, List.map_map]
      exact q _ _ _ _ (g.newL (reps_strs fun s hs => ok s ((srtB_perm ss).mem_iff.mp hs)) hp)

/-! ### isinstance -/
def clsN : Cls → String
  | .int => "int" | .bool => "bool" | .str => "str" | .tuple => "tuple" | .list => "list"
theorem tyX_ref {a : Addr} {vs : List V} (h : SqL K H a vs) : TyX K H (.ref a) (.type "list") := by
  rcases h with (h | ⟨o, h⟩) | ⟨o, its, n, hk, hc, _⟩
  · exact .base (.lst h)
  · exact .base (.frz h)
  · exact .kList hk hc
theorem tyX_tup {a : Addr} {vs : List V} (h : SqT K H a vs) : TyX K H (.ref a) (.type "tuple") := by
  rcases h with (h | ⟨o, h⟩) | ⟨o, its, n, hk, hc, _⟩
  · exact .base (.tup h)
  · exact .fTuple h
  · exact .kTuple hk hc
theorem isOf_ok {μ : Store} {k : Cls} {v : V} {d : D} {F : List Addr} {b : Bool} {Q : VK} (r : RelM X.K fa H A μ) (q : Rep X.K fa H A v d F) (e : isOf μ k d = some b) (h : Q (.bl b) H) : rIsi X.K [v, .ty (clsN k)] H Q := by
  have go : ∀ {t : String}, TyX X.K H v (.type t) → kitB t (clsN k) = some b → rIsi X.K [v, .ty (clsN k)] H Q := fun {t} ty hb => ⟨v, _, .type t, .type (clsN k), b, rfl, .ty _, ty, kit_ty hb, h⟩
  cases q with
  | non => cases k <;> cases e <;> exact go (.base .non) (by decide +kernel)
  | bl x => cases k <;> cases e <;> exact go (.base (.bl x)) (by decide +kernel)
  | int x => cases k <;> cases e <;> exact go (.base (.int x)) (by decide +kernel)
  | str x _ => cases k <;> cases e <;> exact go (.base (.str _)) (by decide +kernel)
  | fn h => cases k <;> cases e
  | fz hs _ _ => cases k <;> cases e <;> exact go (tyX_ref hs) (by decide +kernel)
  | tup hs _ => cases k <;> cases e <;> exact go (tyX_tup hs) (by decide +kernel)
  | tl hs _ => cases k <;> cases e <;> exact go (.base (.lst hs)) (by decide +kernel)
  | ref hs =>
    cases k <;> (simp only [isOf, Option.map_eq_some_iff] at e; obtain ⟨l, e1, rfl⟩ := e; obtain ⟨vs, hv, _⟩ := Rep.getL r hs e1; exact go (.base (.lst hv)) (by decide +kernel))
end
end Mp
end SSnd5
section SSnd6
/-! Snd6: methods; what is walked. -/
namespace Mp
open PySem PySem.Spec PyProof.Rows L2
section
variable {K : PySem.W.Frag} {fa : FA} {W : WX} {A A0 A1 A2 A' : List Addr} {H H0 H1 H2 H' : Hp} {σ : L2.St} {X : Cx}

/-- new lists become the store's -/
theorem Stp.join {F : List Addr} (s : Stp A H A1 H1) (h : ∀ a ∈ F, H a = none) : Stp A H (A1 ++ F) H1 := by
  obtain ⟨N, e, n⟩ := s.pre
  refine ⟨⟨N ++ F, by rw [e, List.append_assoc], fun a ha => ?_⟩, s.keep, s.there, s.tups, s.frzs, s.xds⟩
  rcases List.mem_append.mp ha with ha | ha
  · exact n a ha
  · exact h a ha
theorem Good.alloc {μ : Store} {d : D} {v : V} {F : List Addr} (g : Good K fa A H μ d v H1 A1 F) : Good K fa A H (alloc d μ).2 (alloc d μ).1 v H1 (A1 ++ F) [] := by
  obtain ⟨r, q⟩ := alloc_ok g.rep g.mem g.nd fun a ha => (g.new a ha).2
  exact ⟨g.stp.join fun a ha => (g.new a ha).1, r, q, List.nodup_nil, by simp⟩
theorem GoodL.alloc {μ : Store} {ds : List D} {vs : List V} {F : List Addr} (g : GoodL K fa A H μ ds vs H1 A1 F) : GoodL K fa A H (allocs ds μ).2 (allocs ds μ).1 vs H1 (A1 ++ F) [] := by
  obtain ⟨r, q⟩ := allocs_ok g.rep g.mem g.nd fun a ha => (g.new a ha).2
  exact ⟨g.stp.join fun a ha => (g.new a ha).1, r, q, List.nodup_nil, by simp⟩

/-! ### append -/
def mthN : Mth → String
  | .append => "append"
  | .join => "join"
  | .index => "index"
theorem append_ok {μ μ' : Store} {x d z : D} {v w : V} {F1 F2 : List Addr} {Q : VK} (t : Two X.K fa A0 H0 x d v w H2 A2 μ F1 F2) (e : methop μ .append x [d] = some (z, μ')) (q : Pst X.K fa W A0 H0 σ (.ok z μ') Q) :
    tyV X.K "list" v H2 ∧ rAppend v [w] H2 Q := by
  have hx : ∃ n, x = .ref n := by cases x <;> first | exact ⟨_, rfl⟩ | cases e
  obtain ⟨n, rfl⟩ := hx
  simp only [methop] at e
  split at e
  · rename_i l hl
    split at e
    · rename_i hlen
      cases e
      cases t.one with
      | @ref _ a hs =>
        obtain ⟨ws, hv, r⟩ := Rep.getL t.mem hs (show getL μ n = some l by unfold getL; rw [hl])
        have g := t.snd.alloc
        refine ⟨.inl ⟨rfl, ws, .of hv⟩, a, ws, w, rfl, rfl, hv, by rw [r.length, sizeLine_eq]; exact hlen, ?_⟩
        have hs' : (A2 ++ F2)[n]? = some a := by rw [List.getElem?_append_left (List.getElem?_eq_some_iff.mp hs).1]; exact hs
        have rr : Reps X.K fa H2 (A2 ++ F2) (ws ++ [w]) (l ++ [(alloc d μ).1]) [] := (r.mono (N := F2)).append (Reps.one g.rep)
        have m := g.mem.write hs' rr
        have s := Stp.write g.mem (o := .lst (ws ++ [w])) hs'
        exact q.done (g.stp.trans s) m .non
    · cases e
  · cases e

/-! ### what is walked -/
/-- the iterator J goes through the items xs of s, seen from A, H on; F: the fresh list walked -/
def Src (K : PySem.W.Frag) (fa : FA) (J : It) (s : D) (xs : List D) (F : List Addr) (A : List Addr) (H : Hp) : Prop :=
  (∀ a ∈ F, a ∉ A ∧ ∃ vs, H a = some (.lst vs)) ∧ ∃ P : List Addr → Hp → Prop, P A H ∧ (∀ A H A' H', P A H → Sta F A H A' H' → P A' H') ∧
    ∀ A H μ, P A H → RelM K fa H A μ → srcOk μ s xs = true → ∀ i : Nat,
      (∀ d, xs[i]? = some d → J.go i H ∧ ∀ x H', J.yld i H x H' → Stp A H A H' ∧ RelM K fa H' A μ ∧ Rep K fa H' A x d []) ∧ (xs.length ≤ i → J.stop i H)
theorem Src.sta {J : It} {s : D} {xs : List D} {F : List Addr} (x : Src K fa J s xs F A H) (t : Sta F A H A' H') (h : ∀ a ∈ F, a ∉ A') : Src K fa J s xs F A' H' :=
  let ⟨f, P, h0, h1, h2⟩ := x; ⟨fun a ha => ⟨h a ha, let ⟨vs, e⟩ := (f a ha).2; ⟨vs, t.keep a ha _ e⟩⟩, P, h1 _ _ _ _ h0 t, h1, h2⟩
theorem Src.step {J : It} {s : D} {xs : List D} {F : List Addr} (x : Src K fa J s xs F A H) (t : Stp A H A' H') : Src K fa J s xs F A' H' :=
  x.sta (t.sta fun a ha => (x.1 a ha).1) fun a ha => let ⟨vs, e⟩ := (x.1 a ha).2; t.out e (x.1 a ha).1
theorem src_tup {a : Addr} {l : List D} {vs : List V} (h : SqT K H a vs) (r : Reps K fa H A vs l []) : Src K fa (Itt K a) (.tup l) l [] A H := by
  refine ⟨by simp, fun A H => SqT K H a vs ∧ Reps K fa H A vs l [], ⟨h, r⟩, fun A H A' H' p s => ⟨s.sqT p.1, p.2.sta s⟩, fun A H μ p m _ i => ⟨fun d hd => ?_, fun hi => ?_⟩⟩
  · obtain ⟨v, F1, h1, h2, h3⟩ := p.2.get hd
    have : F1 = [] := List.sublist_nil.mp h3
    subst this
    refine ⟨⟨vs, v, p.1, h1⟩, fun x H' y => ?_⟩
    obtain ⟨e, y⟩ := y
    subst e
    have hx := y vs p.1
    rw [h1] at hx; cases hx
    exact ⟨.refl, m, h2⟩
  · exact ⟨vs, p.1, by rw [p.2.length]; exact hi⟩
theorem src_tl {a : Addr} {l : List D} {vs : List V} (h : H a = some (.lst vs)) (na : a ∉ A) (r : Reps K fa H A vs l []) : Src K fa (Itl K a) (.tl l) l [a] A H := by
  refine ⟨fun b hb => ?_, fun A H => H a = some (.lst vs) ∧ Reps K fa H A vs l [], ⟨h, r⟩, fun A H A' H' p s => ⟨s.keep _ (by simp) _ p.1, p.2.sta (s.less (by simp))⟩, fun A H μ p m _ i => ⟨fun d hd => ?_, fun hi => ?_⟩⟩
  · have : b = a := by simpa using hb
    subst this
    exact ⟨na, vs, h⟩
  · obtain ⟨v, F1, h1, h2, h3⟩ := p.2.get hd
    have : F1 = [] := List.sublist_nil.mp h3
    subst this
    refine ⟨⟨vs, v, .of p.1, h1⟩, fun x H' y => ?_⟩
    obtain ⟨e, y⟩ := y
    subst e
    have hx := y vs (.of p.1)
    rw [h1] at hx; cases hx
    exact ⟨.refl, m, h2⟩
  · exact ⟨vs, .of p.1, by rw [p.2.length]; exact hi⟩
theorem src_fz {a : Addr} {l : List D} (q : Rep K fa H A (.ref a) (.fz l) []) : Src K fa (Itl K a) (.fz l) l [] A H := by
  refine ⟨by simp, fun A H => Rep K fa H A (.ref a) (.fz l) [], q, fun A H A' H' p s => p.sta s, fun A H μ p m _ i => ⟨fun d hd => ?_, fun hi => ?_⟩⟩
  · cases p with
    | @fz _ vs _ hs hp r =>
      obtain ⟨v, F1, h1, h2, h3⟩ := r.get hd
      have : F1 = [] := List.sublist_nil.mp h3
      subst this
      refine ⟨⟨vs, v, hs, h1⟩, fun x H' y => ?_⟩
      obtain ⟨e, y⟩ := y
      subst e
      have hx := y vs hs
      rw [h1] at hx; cases hx
      exact ⟨.refl, m, h2⟩
  · cases p with
    | @fz _ vs _ hs hp r => exact ⟨vs, hs, by rw [r.length]; exact hi⟩
theorem src_ref {a : Addr} {n : Nat} {xs : List D} (h : A[n]? = some a) : Src K fa (Itl K a) (.ref n) xs [] A H := by
  refine ⟨by simp, fun A H => A[n]? = some a, h, fun A H A' H' p s => s.sub p, fun A H μ p m ok i => ?_⟩
  obtain ⟨vs, hv, r⟩ := Rep.getL m p (of_decide_eq_true ok)
  refine ⟨fun d hd => ?_, fun hi => ⟨vs, .of hv, by rw [r.length]; exact hi⟩⟩
  obtain ⟨v, F1, h1, h2, h3⟩ := r.get hd
  have : F1 = [] := List.sublist_nil.mp h3
  subst this
  refine ⟨⟨vs, v, .of hv, h1⟩, fun x H' y => ?_⟩
  obtain ⟨e, y⟩ := y
  subst e
  have hx := y vs (.of hv)
  rw [h1] at hx; cases hx
  exact ⟨.refl, m, h2⟩
theorem okS_one {s : List Nat} {c : Nat} (h : okS s = true) (hc : c ∈ s) : okS [c] = true := by
  unfold okS at h ⊢
  simp only [Bool.and_eq_true, List.all_eq_true, decide_eq_true_eq] at h ⊢
  refine ⟨by show 1 ≤ 16777216; decide, fun x hx => ?_⟩
  have : x = c := by simpa using hx
  subst this
  exact h.2 x hc
theorem src_str {s : List Nat} (h : okS s = true) : Src K fa (Its (toS s)) (.str s) (s.map fun c => .str [c]) [] A H := by
  have hsz : (toS s).cps.size = s.length := by simp [toS]
  refine ⟨by simp, fun _ _ => True, trivial, fun _ _ _ _ _ _ => trivial, fun A H μ _ m _ i => ⟨fun d hd => ?_, fun hi => ?_⟩⟩
  · rw [List.getElem?_map, Option.map_eq_some_iff] at hd
    obtain ⟨c, hc, rfl⟩ := hd
    refine ⟨show i < (toS s).cps.size by rw [hsz]; exact (List.getElem?_eq_some_iff.mp hc).1, fun x H' y => ?_⟩
    obtain ⟨e, c', h1, h2⟩ := y
    subst e h2
    have : (toS s).cps[i]? = s[i]? := by simp [toS]
    rw [this, hc] at h1
    cases h1
    exact ⟨.refl, m, .str [c] (okS_one h (List.mem_of_getElem? hc))⟩
  · show (toS s).cps.size ≤ i
    rw [hsz]
    simpa using hi
theorem src_rng {lo hi : Int} : Src K fa (Itr lo (hi - lo).toNat) (.tl (rngL lo hi)) (rngL lo hi) [] A H := by
  refine ⟨by simp, fun _ _ => True, trivial, fun _ _ _ _ _ _ => trivial, fun A H μ _ m _ i => ⟨fun d hd => ?_, fun h => ?_⟩⟩
  · unfold rngL at hd
    rw [List.getElem?_map, Option.map_eq_some_iff] at hd
    obtain ⟨j, hj, rfl⟩ := hd
    obtain ⟨h1, h2⟩ := List.getElem?_eq_some_iff.mp hj
    rw [List.getElem_range] at h2
    subst h2
    rw [List.length_range] at h1
    refine ⟨h1, fun x H' y => ?_⟩
    obtain ⟨e, y⟩ := y
    subst e y
    exact ⟨.refl, m, .int _⟩
  · show (hi - lo).toNat ≤ i
    unfold rngL at h
    simpa using h

/-- what is wanted behind a source -/
def PstI (K : PySem.W.Frag) (fa : FA) (W : WX) (A : List Addr) (H : Hp) (σ : L2.St) (r : Rs D) (R : It → Hp → Prop) : Prop := match r with
  | .ok s μ => ∃ xs, items (settle s μ).2 (settle s μ).1 = some xs ∧ ∀ H' A' J F, Stp A H A' H' → RelM K fa H' A' (settle s μ).2 → Src K fa J (settle s μ).1 xs F A' H' → (∀ a ∈ F, H a = none) → R J H'
  | .ex e μ' => ∀ cls dd H' A', Stp A H A' H' → RelM K fa H' A' μ' → RepX K fa H' A' e cls dd → W cls dd σ H'
  | .no => False
def tI (G : String → Option D) (call : String → List D → Store → Rs D) (K : PySem.W.Frag) (fa : FA) (W : WX) (c : C) : TI := fun σ H R =>
  ∃ A ρ μ, RelM K fa H A μ ∧ RelE K fa H A ρ σ ∧ PstI K fa W A H σ (ev G call c ρ μ) R
theorem settle_ok {μ : Store} {s : D} {v : V} {F : List Addr} {xs : List D} (g : Good K fa A H μ s v H1 A1 F) (hx : items (settle s μ).2 (settle s μ).1 = some xs) :
    ∃ A2, Stp A H A2 H1 ∧ RelM K fa H1 A2 (settle s μ).2 ∧ ((∃ a, v = .ref a ∧ (∃ vs, SqT K H1 a vs) ∧ Src K fa (Itt K a) (settle s μ).1 xs [] A2 H1) ∨ (∃ a, v = .ref a ∧ (∃ vs, SqL K H1 a vs) ∧ ∃ F, Src K fa (Itl K a) (settle s μ).1 xs F A2 H1 ∧ ∀ b ∈ F, H b = none) ∨ ∃ z, v = .str z ∧ Src K fa (Its z) (settle s μ).1 xs [] A2 H1) := by
  cases s with
  | tl l =>
    cases g.rep with
    | @tl a vs _ F0 hs r =>
      obtain ⟨n1, _, n2⟩ := List.nodup_append.mp g.nd
      obtain ⟨m, q⟩ := allocs_ok r g.mem n1 fun b hb => (g.new b (by simp [hb])).2
      cases hx
      refine ⟨A1 ++ F0, g.stp.join fun b hb => (g.new b (by simp [hb])).1, m, .inr (.inl ⟨a, rfl, ⟨vs, .of hs⟩, [a], src_tl hs (fun hm => ?_) q, fun b hb => (g.new b (by simp at hb; simp [hb])).1⟩)⟩
      rcases List.mem_append.mp hm with hm | hm
      · exact (g.new a (by simp)).2 hm
      · exact n2 a hm a (by simp) rfl
  | tup l =>
    have g2 := g.alloc
    cases hx
    refine ⟨A1 ++ F, g2.stp, g2.mem, ?_⟩
    cases g2.rep with
    | tup hs r => exact .inl ⟨_, rfl, ⟨_, hs⟩, src_tup hs r⟩
  | str s =>
    have g2 := g.alloc
    cases hx
    refine ⟨A1 ++ F, g2.stp, g2.mem, ?_⟩
    cases g2.rep with
    | str _ hs => exact .inr (.inr ⟨_, rfl, src_str hs⟩)
  | fz l =>
    have g2 := g.alloc
    cases hx
    refine ⟨A1 ++ F, g2.stp, g2.mem, ?_⟩
    have q := g2.rep
    cases g2.rep with
    | fz hs _ r => exact .inr (.inl ⟨_, rfl, ⟨_, hs⟩, [], src_fz q, by simp⟩)
  | ref n =>
    have g2 := g.alloc
    refine ⟨A1 ++ F, g2.stp, g2.mem, ?_⟩
    have hx' : getL (alloc (.ref n) μ).2 n = some xs := hx
    cases g2.rep with
    | ref hs =>
      obtain ⟨vs, hv, _⟩ := Rep.getL g2.mem hs hx'
      exact .inr (.inl ⟨_, rfl, ⟨vs, .of hv⟩, [], src_ref hs, by simp⟩)
  | non => cases hx
  | bl _ => cases hx
  | int _ => cases hx
  | fn _ => cases hx
  | exn _ _ _ => cases hx
theorem pi_any {G : String → Option D} {call : String → List D → Store → Rs D} {c : C} {tg e : Expr} (he : PE X e (tD X.K fa W G call c)) : PI X tg e (tI G call X.K fa W c) := by
  refine ⟨fun pins s σ H R I h => ?_⟩
  obtain ⟨A, ρ, μ, m, re, h⟩ := h
  cases hr : ev G call c ρ μ with
  | no => rw [hr] at h; exact h.elim
  | ex e μ' =>
    rw [hr] at h
    refine (pi_list (tg := tg) he).run pins s σ H R I ⟨A, ρ, μ, m, re, ?_⟩
    rw [hr]
    exact h
  | ok d μ1 =>
    rw [hr] at h
    obtain ⟨xs, hx, h⟩ := h
    have kind : (∃ l, d = .tup l) ∨ (∃ s, d = .str s) ∨ (∀ l, d ≠ .tup l) ∧ ∀ s, d ≠ .str s := by
      cases d <;> simp
    rcases kind with ⟨l, rfl⟩ | ⟨z, rfl⟩ | ⟨n1, n2⟩
    · refine (pi_tup (tg := tg) he).run pins s σ H R I ⟨A, ρ, μ, m, re, ?_⟩
      rw [hr]
      intro v H' A' F g
      obtain ⟨A2, s2, m2, q⟩ := settle_ok g hx
      rcases q with ⟨a, e1, e2, q⟩ | ⟨a, e1, ⟨vs, e2⟩, q⟩ | ⟨z, e1, _⟩
      · exact ⟨a, e1, e2, h _ _ _ _ s2 m2 q (by simp)⟩
      · subst e1
        cases g.rep with
        | tup hs r =>
          have g2 := g.alloc
          have q' : items (alloc (.tup l) μ1).2 (alloc (.tup l) μ1).1 = some xs := hx
          cases q'
          cases g2.rep with
          | tup hs r => exact ⟨_, rfl, ⟨_, hs⟩, h _ _ _ _ g2.stp g2.mem (src_tup hs r) (by simp)⟩
      · subst e1
        cases g.rep
    · refine (pi_str (tg := tg) he).run pins s σ H R I ⟨A, ρ, μ, m, re, ?_⟩
      rw [hr]
      intro v H' A' F g
      obtain ⟨A2, s2, m2, q⟩ := settle_ok g hx
      rcases q with ⟨a, e1, e2, q⟩ | ⟨a, e1, e2, q⟩ | ⟨z, e1, q⟩
      · subst e1; cases g.rep
      · subst e1; cases g.rep
      · exact ⟨z, e1, h _ _ _ _ s2 m2 q (by simp)⟩
    · refine (pi_list (tg := tg) he).run pins s σ H R I ⟨A, ρ, μ, m, re, ?_⟩
      rw [hr]
      intro v H' A' F g
      obtain ⟨A2, s2, m2, q⟩ := settle_ok g hx
      rcases q with ⟨a, e1, ⟨vs, e2⟩, q⟩ | ⟨a, e1, e2, q⟩ | ⟨z, e1, q⟩
      · subst e1
        cases d with
        | tup l => exact absurd rfl (n1 l)
        | str z => exact absurd rfl (n2 z)
        | non => cases hx
        | bl _ => cases hx
        | int _ => cases hx
        | fn _ => cases hx
        | exn _ _ _ => cases hx
        | fz l =>
          have g2 := g.alloc
          have q' : items (alloc (.fz l) μ1).2 (alloc (.fz l) μ1).1 = some xs := hx
          cases q'
          have q2 := g2.rep
          cases g2.rep with
          | fz hs _ r => exact ⟨_, rfl, ⟨_, hs⟩, h _ _ _ _ g2.stp g2.mem (src_fz q2) (by simp)⟩
        | ref n =>
          have g2 := g.alloc
          have hx' : getL (alloc (.ref n) μ1).2 n = some xs := hx
          cases g2.rep with
          | ref hs =>
            obtain ⟨vs, hv, _⟩ := Rep.getL g2.mem hs hx'
            exact ⟨_, rfl, ⟨vs, .of hv⟩, h _ _ _ _ g2.stp g2.mem (src_ref hs) (by simp)⟩
        | tl l =>
          cases g.rep with
          | @tl _ vs _ F0 hs r =>
            obtain ⟨n1, _, n2⟩ := List.nodup_append.mp g.nd
            obtain ⟨m3, q3⟩ := allocs_ok r g.mem n1 fun b hb => (g.new b (by simp [hb])).2
            cases hx
            refine ⟨a, rfl, ⟨vs, .of hs⟩, h _ _ _ _ (g.stp.join fun b hb => (g.new b (by simp [hb])).1) m3 (src_tl hs (fun hm => ?_) q3) fun b hb => (g.new b (by simp at hb; simp [hb])).1⟩
            rcases List.mem_append.mp hm with hm | hm
            · exact (g.new a (by simp)).2 hm
            · exact n2 a hm a (by simp) rfl
      · obtain ⟨F2, q, nq⟩ := q
        exact ⟨a, e1, e2, h _ _ _ _ s2 m2 q nq⟩
      · subst e1
        cases d with
        | str z => exact absurd rfl (n2 z)
        | _ => cases g.rep
end
end Mp
end SSnd6
section SSnd7
/-! Snd7: targets; the match of a target; a comprehension; contexts. -/
namespace Mp
open PySem PySem.Spec PyProof.Rows L2

/-! ### names -/
def visB (sc : Scope) (x : Str) : Bool := match sc.names.lookup x with
  | some .local => true
  | some .cell => true
  | some .free => true
  | _ => false
def locB (sc : Scope) (x : Str) : Bool := match sc.names.lookup x with
  | some .local => true
  | some .cell => true
  | _ => false
def glB (sc : Scope) (x : Str) : Bool := match sc.names.lookup x with
  | some .globalImplicit => true
  | _ => false
def plB (x : Str) : Bool := !(x == ("__debug__" : Str)) && !(x == ("__classdict__" : Str))
theorem visB_ok {sc : Scope} {x : Str} (h : visB sc x = true) : Vis sc x := by
  unfold visB at h
  split at h <;> first | exact .inl (by assumption) | exact .inr (.inl (by assumption)) | exact .inr (.inr (by assumption)) | cases h
theorem locB_ok {sc : Scope} {x : Str} (h : locB sc x = true) : Loc sc x := by
  unfold locB at h
  split at h <;> first | exact .inl (by assumption) | exact .inr (by assumption) | cases h
theorem glB_ok {X : Cx} {x : Str} (h : glB X.env.scope x = true) : Gl X x := by
  unfold glB at h
  split at h
  · assumption
  · cases h
theorem plB_ok {x : Str} (h : plB x = true) : (x == ("__debug__" : Str)) = false ∧ (x == ("__classdict__" : Str)) = false := by
  unfold plB at h
  simpa using h
def starB : Expr → Bool
  | .Starred _ _ => false
  | _ => true
theorem star_cons {e : Expr} {es : List Expr} {env : PySem.Env} (h : starB e = true) : starEach (e :: es) env = (false, eval e env) :: starEach es env := by
  cases e <;> first | rfl | (simp [starB] at h)
theorem assign_cons {e : Expr} {es : List Expr} {env : PySem.Env} (h : starB e = true) : assignEach (e :: es) env = (false, assign e env) :: assignEach es env := by
  cases e <;> first | rfl | (simp [starB] at h)
theorem star_any {pos : Pos} {env : PySem.Env} : ∀ {es : List Expr}, es.all starB = true → (backTo pos (starEach es env)).any (·.1) = false
  | [], _ => rfl
  | e :: es, h => by
    simp only [List.all_cons, Bool.and_eq_true] at h
    rw [star_cons h.1]
    show (false || (backTo pos (starEach es env)).any (·.1)) = false
    rw [star_any h.2]; rfl
theorem star_all {pos : Pos} {env : PySem.Env} : ∀ {es : List Expr}, es.all starB = true → (backTo pos (starEach es env)).all (fun x => !x.1) = true
  | [], _ => rfl
  | e :: es, h => by
    simp only [List.all_cons, Bool.and_eq_true] at h
    rw [star_cons h.1]
    show (true && (backTo pos (starEach es env)).all (fun x => !x.1)) = true
    rw [star_all h.2]; rfl
theorem assign_len {env : PySem.Env} : ∀ {es : List Expr}, es.all starB = true → (assignEach es env).length = es.length
  | [], _ => rfl
  | e :: es, h => by
    simp only [List.all_cons, Bool.and_eq_true] at h
    rw [assign_cons h.1]
    simp [assign_len h.2]
theorem assign_star {env : PySem.Env} : ∀ {es : List Expr}, es.all starB = true → (assignEach es env).findIdx? (·.1) = none
  | [], _ => rfl
  | e :: es, h => by
    simp only [List.all_cons, Bool.and_eq_true] at h
    rw [assign_cons h.1, List.findIdx?_cons]
    simp [assign_star h.2]

/-! ### contexts -/
/-- a def's promise -/
def spI (K : PySem.W.Frag) (fa : FA) (np : Nat) (run : List D → Store → Rs D) : Sp := fun vs H Q E =>
  ∃ A μ ds, RelM K fa H A μ ∧ Reps K fa H A vs ds [] ∧ ds.length = np ∧ match run ds μ with
    | .ok d μ' => ∀ v H' A' F, Good K fa A H μ' d v H' A' F → Q v H'
    | .ex e μ' => ∀ cls dd H' A', Stp A H A' H' → RelM K fa H' A' μ' → RepX K fa H' A' e cls dd → E cls dd H'
    | .no => False
def bnames : List String := ["len", "tuple", "list", "int", "min", "max", "isinstance", "sum", "abs", "all", "any", "range", "bool", "str", "enumerate", "zip", "sorted", "dict", "set", "ord"]
/-- the new exception's fields, put down one by one -/
def spInit (C : Addr) (fs : List Str) : Sp := fun vs H Q E => ∃ (a : Addr) (ys : List V), vs = .ref a :: ys ∧ ys.length = fs.length ∧ H a = some (exo a C none) ∧
  ∀ dx H', H dx = none → dx ≠ a → H' = upd (upd H dx (exd dx ((fs.zip ys).reverse))) a (exo a C (some dx)) → Q .non H'
/-- an own class of errors, that is raised -/
structure ExcOk (P : Program) (w : World) (K : PySem.W.Frag) (mg : Str → Option Value) (base : Heap) (C : Addr) (c : String) (ns : List String) : Prop where
  at_ : mg (c : Str) = some (.ref C)
  oex : OexC K C
  xf : XfC K C
  no : ∀ n ∈ ["at", "why"], PySem.W.findIn K (.ref C) (n : Str) = some none
  nd : (ns.map Str.ofString).Nodup
  init : ∃ (fI : Addr) (fd : FuncData) (ps : List Str), PySem.W.findIn K (.ref C) "__init__" = some (some (.ref fI)) ∧ PySem.W.typeIn K (.ref fI) = some (.type "function") ∧
    FnOk P w K mg base (L2.CX P w) 1 fI fd ps (spInit C (ns.map Str.ofString)) ∧ Binds K fd ps []
/-- one class under another, for isinstance -/
structure SubOk (K : PySem.W.Frag) (mg : Str → Option Value) (C : Addr) (y : String) : Prop where
  ex : ∃ S : Addr, mg (y : Str) = some (.ref S) ∧ C ≠ S ∧ PySem.W.kitCls K (.ref C) (.ref S) = some true
structure Cn (X : Cx) (G : String → Option D) (call : String → List D → Store → Rs D) (k : Nat) (fa : FA) (fs : FS) (W : WX) : Prop where
  nd : X.N.Nodup
  calm : fs.calm = true → X.calm = true
  units : X.A.units + 200 < cLine
  room : fs.calm = true → Room k X.A
  takes : Takes X W
  fns : ∀ x a, fa.f x = some a → X.mg (x : Str) = some (.ref a)
  glob : ∀ x d, G x = some d → ∃ v u, X.mg (x : Str) = some u ∧ RelV v u ∧ ∀ H A, Rep X.K fa H A v d []
  call : fs.calm = true → ∀ f ∈ fs.f, ∃ a fd ps, fa.f f = some a ∧ PySem.W.keepIn X.K (.ref a) = true ∧ Binds X.K fd ps [] ∧ FnOk X.prog X.w X.K X.mg X.base (L2.CX X.prog X.w) k a fd ps (spI X.K fa ps.length (call f)) ∧ ∀ ds μ, call f ds μ ≠ .no → ds.length = ps.length
  blt : ∀ b ∈ bnames, X.mg (b : Str) = none
  dom : ∀ f a, fa.f f = some a → f ∈ fs.f
  two : 2 ≤ k
  exc : ∀ c ns, (c, ns) ∈ fs.e → ∃ C, fa.c c = some C ∧ ExcOk X.prog X.w X.K X.mg X.base C c ns
  exq : ∀ c ns c' C C', (c, ns) ∈ fs.e → fa.c c = some C → fa.c c' = some C' → PySem.W.exmOne X.K (.ref C') (.ref C) = some (decide (c' = c))
  sub : ∀ c y, (c, y) ∈ fs.s → ∃ C, fa.c c = some C ∧ SubOk X.K X.mg C y
  sx : ∀ i a dd c, fa.x = some (i, a, dd, c) → fs.calm = false ∧ ∃ (Y : Cx) (oe : PySem.Obj) (pn : List (Addr × PySem.Obj)) (C : Addr), X = Y.suite a ((a, oe) :: pn) ∧ Zc (.ref C) (some dd) oe ∧ (∃ vs, oe.data = .fields vs) ∧ fa.c c = some C ∧ ∃ ns, (c, ns) ∈ fs.e
  wd : fa.w = some X.w

theorem Cn.units' {X : Cx} {G : String → Option D} {call : String → List D → Store → Rs D} {k : Nat} {fa : FA} {fs : FS} {W : WX} (h : Cn X G call k fa fs W) : X.A.units + 64 < cLine := by have := h.units; omega
section
variable {K : PySem.W.Frag} {fa : FA} {W : WX} {A A0 A1 A2 A' : List Addr} {H H0 H1 H2 H' : Hp} {σ σ' : L2.St} {X : Cx}

mutual
theorem Rep.isStill : ∀ {v : V} {d : D} {F : List Addr}, Rep K fa H A v d F → F = [] → d.still = true
  | _, .non, _, _, _ | _, .bl _, _, _, _ | _, .int _, _, _, _ | _, .str _, _, _, _ | _, .fn _, _, _, _ | _, .ref _, _, _, _ | _, .fz _, _, _, _ => by simp [D.still]
  | _, .tup l, _, h, e => by cases h with | tup _ r => simpa [D.still] using Reps.isStill r e
  | _, .tl l, _, h, e => by cases h with | tl _ r => simp at e
theorem Reps.isStill : ∀ {vs : List V} {ds : List D} {F : List Addr}, Reps K fa H A vs ds F → F = [] → D.stills ds = true
  | _, [], _, _, _ => by simp [D.stills]
  | _, d :: ds, _, h, e => by
    cases h with
    | cons r t =>
      obtain ⟨e1, e2⟩ := List.append_eq_nil_iff.mp e
      simp [D.stills, Rep.isStill r e1, Reps.isStill t e2]
end

/-! ### targets -/
mutual
def Tg.slots : Tg → List Nat
  | .v i => [i]
  | .t l => Tg.slotss l
def Tg.slotss : List Tg → List Nat
  | [] => []
  | u :: us => u.slots ++ Tg.slotss us
end
mutual
def mTg (N : List Str) (sc : Scope) : Tg → Expr → Bool
  | .v i, .Name x _ => decide (N[i]? = some x) && locB sc x
  | .t l, .Tuple es _ _ => es.all starB && mTgs N sc l es
  | _, _ => false
def mTgs (N : List Str) (sc : Scope) : List Tg → List Expr → Bool
  | [], [] => true
  | t :: ts, e :: es => mTg N sc t e && mTgs N sc ts es
  | _, _ => false
end
/-- only these slots are others -/
def Chg (js : List Nat) (σ σ' : L2.St) : Prop := σ'.length = σ.length ∧ ∀ j : Nat, j ∉ js → σ'[j]? = σ[j]?
theorem Chg.refl {js : List Nat} : Chg js σ σ := ⟨rfl, fun _ _ => rfl⟩
theorem Chg.trans {is js : List Nat} {σ1 σ2 : L2.St} (a : Chg is σ σ1) (b : Chg js σ1 σ2) : Chg (is ++ js) σ σ2 :=
  ⟨b.1.trans a.1, fun j h => (b.2 j fun z => h (List.mem_append_right _ z)).trans (a.2 j fun z => h (List.mem_append_left _ z))⟩
/-- a target's reading -/
def tG (K : PySem.W.Frag) (fa : FA) (t : Tg) : TG := fun v σ H Q => ∃ A ρ μ d F ρ' μ', RelM K fa H A μ ∧ RelE K fa H A ρ σ ∧ Rep K fa H A v d F ∧ F.Nodup ∧ (∀ a ∈ F, a ∉ A) ∧ bindT t d ρ μ = some (ρ', μ') ∧
  ∀ σ' A', (∃ N, A' = A ++ N ∧ ∀ a ∈ N, a ∈ F) → RelM K fa H A' μ' → RelE K fa H A' ρ' σ' → Chg t.slots σ σ' → Q σ' H
def tGs (K : PySem.W.Frag) (fa : FA) (ts : List Tg) : TGs := fun vs σ H Q => ∃ A ρ μ ds F ρ' μ', RelM K fa H A μ ∧ RelE K fa H A ρ σ ∧ Reps K fa H A vs ds F ∧ F.Nodup ∧ (∀ a ∈ F, a ∉ A) ∧ bindTs ts ds ρ μ = some (ρ', μ') ∧
  ∀ σ' A', (∃ N, A' = A ++ N ∧ ∀ a ∈ N, a ∈ F) → RelM K fa H A' μ' → RelE K fa H A' ρ' σ' → Chg (Tg.slotss ts) σ σ' → Q σ' H
theorem PG.imp {X : Cx} {e : Expr} {t t' : TG} (h : PG X e t) (m : ∀ v σ H Q, t' v σ H Q → t v σ H Q) : PG X e t' := ⟨fun pins s σ H v u Q I r q => h.run pins s σ H v u Q I r (m v σ H Q q)⟩
theorem PGs.imp {X : Cx} {e : List Expr} {t t' : TGs} (h : PGs X e t) (m : ∀ v σ H Q, t' v σ H Q → t v σ H Q) : PGs X e t' := ⟨fun pins s σ H v u Q I r q => h.run pins s σ H v u Q I r (m v σ H Q q)⟩
theorem bindTs_len : ∀ {ts : List Tg} {ds : List D} {ρ ρ' : Env} {μ μ' : Store}, bindTs ts ds ρ μ = some (ρ', μ') → ts.length = ds.length
  | [], [], _, _, _, _, _ => rfl
  | [], _ :: _, _, _, _, _, h => by simp [bindTs] at h
  | _ :: _, [], _, _, _, _, h => by simp [bindTs] at h
  | t :: ts, d :: ds, ρ, ρ', μ, μ', h => by
    simp only [bindTs, Option.bind_eq_some_iff] at h
    obtain ⟨p, _, h2⟩ := h
    simp [bindTs_len h2]
theorem mTgs_len {N : List Str} {sc : Scope} : ∀ {ts : List Tg} {es : List Expr}, mTgs N sc ts es = true → ts.length = es.length
  | [], [], _ => rfl
  | [], _ :: _, h => by simp [mTgs] at h
  | _ :: _, [], h => by simp [mTgs] at h
  | t :: ts, e :: es, h => by
    have h' : mTg N sc t e = true ∧ mTgs N sc ts es = true := by simpa [mTgs] using h
    simp [mTgs_len h'.2]
mutual
theorem pg_ok (hN : X.N.Nodup) (hc : X.calm = true) {sc : Scope} (hk : ∀ x, locB sc x = true → Loc X.env.scope x ∧ (X.fn x = true ∨ X.env.scope.names.lookup x = some .local)) : ∀ (t : Tg) (e : Expr), mTg X.N sc t e = true → PG X e (tG X.K fa t)
  | .v i, e, h => by
    cases e with
    | Name x pos =>
      have h' : decide (X.N[i]? = some x) = true ∧ locB sc x = true := by simpa [mTg] using h
      obtain ⟨hl, hl2⟩ := hk x h'.2
      refine PG.imp (pg_name hN (of_decide_eq_true h'.1) hl hl2) fun v σ H Q q => ?_
      obtain ⟨A, ρ, μ, d, F, ρ', μ', m, re, r, nd, ne, hb, q⟩ := q
      cases hb
      obtain ⟨m', r'⟩ := alloc_ok r m nd ne
      refine q _ _ ⟨F, rfl, fun a ha => ha⟩ m' ?_ ⟨by simp, fun j hj => ?_⟩
      · exact (show RelE X.K fa H (A ++ F) ρ σ from ⟨re.1, fun i d e => let ⟨v, h1, h2⟩ := re.2 i d e; ⟨v, h1, h2.mono⟩⟩).set r'
      · rw [List.getElem?_set_ne]
        intro z
        exact hj (by simp [Tg.slots, z])
    | _ => simp [mTg] at h
  | .t l, e, h => by
    cases e with
    | Tuple es k pos =>
      have h' : es.all starB = true ∧ mTgs X.N sc l es = true := by simpa [mTg] using h
      refine PG.imp (pg_tup hc (pgs_ok hN hc hk l es h'.1 h'.2) (assign_len h'.1) (assign_star h'.1)) fun v σ H Q q => ?_
      obtain ⟨A, ρ, μ, d, F, ρ', μ', m, re, r, nd, ne, hb, q⟩ := q
      cases d with
      | tup ds =>
        cases r with
        | @tup a vs _ _ hs r =>
          refine ⟨a, vs, rfl, hs, ?_, A, ρ, μ, ds, F, ρ', μ', m, re, r, nd, ne, hb, q⟩
          rw [r.length, ← bindTs_len hb, mTgs_len h'.2]
      | _ => cases hb
    | _ => simp [mTg] at h
theorem pgs_ok (hN : X.N.Nodup) (hc : X.calm = true) {sc : Scope} (hk : ∀ x, locB sc x = true → Loc X.env.scope x ∧ (X.fn x = true ∨ X.env.scope.names.lookup x = some .local)) : ∀ (ts : List Tg) (es : List Expr), es.all starB = true → mTgs X.N sc ts es = true → PGs X es (tGs X.K fa ts)
  | [], [], _, _ => by
    refine PGs.imp pgs_nil fun vs σ H Q q => ?_
    obtain ⟨A, ρ, μ, ds, F, ρ', μ', m, re, r, nd, ne, hb, q⟩ := q
    cases ds with
    | nil =>
      cases r
      cases hb
      exact ⟨rfl, q _ _ ⟨[], by simp, by simp⟩ m re .refl⟩
    | cons _ _ => cases hb
  | [], _ :: _, _, h => by simp [mTgs] at h
  | _ :: _, [], _, h => by simp [mTgs] at h
  | t :: ts, e :: es, hs, h => by
    have h' : mTg X.N sc t e = true ∧ mTgs X.N sc ts es = true := by simpa [mTgs] using h
    simp only [List.all_cons, Bool.and_eq_true] at hs
    refine PGs.imp (pgs_cons (pg_ok hN hc hk t e h'.1) (pgs_ok hN hc hk ts es hs.2 h'.2) (by rw [assign_cons hs.1]; rfl)) fun vs σ H Q q => ?_
    obtain ⟨A, ρ, μ, ds, F, ρ', μ', m, re, r, nd, ne, hb, q⟩ := q
    cases ds with
    | nil => cases hb
    | cons d ds =>
      simp only [bindTs, Option.bind_eq_some_iff] at hb
      obtain ⟨⟨ρ1, μ1⟩, b1, b2⟩ := hb
      cases r with
      | @cons v vs _ _ F1 F2 r t' =>
        obtain ⟨nd1, nd2, nd3⟩ := List.nodup_append.mp nd
        refine ⟨v, vs, rfl, A, ρ, μ, d, F1, ρ1, μ1, m, re, r, nd1, fun a ha => ne a (by simp [ha]), b1, fun σ1 A1 ⟨N, eN, hN'⟩ m1 re1 c1 => ?_⟩
        subst eN
        refine ⟨A ++ N, ρ1, μ1, ds, F2, ρ', μ', m1, re1, t'.mono, nd2, fun a ha hm => ?_, b2, fun σ2 A2 ⟨M, eM, hM⟩ m2 re2 c2 => ?_⟩
        · rcases List.mem_append.mp hm with hm | hm
          · exact ne a (by simp [ha]) hm
          · exact nd3 a (hN' a hm) a ha rfl
        · subst eM
          refine q σ2 _ ⟨N ++ M, by rw [List.append_assoc], fun a ha => ?_⟩ m2 re2 (by simpa [Tg.slotss] using c1.trans c2)
          rcases List.mem_append.mp ha with ha | ha
          · exact List.mem_append_left _ (hN' a ha)
          · exact List.mem_append_right _ (hM a ha)
end
end
end Mp
end SSnd7
section SSnd8
/-! Snd8: calls; comprehensions; the match of an expression; its soundness. -/
namespace Mp
open PySem PySem.Spec PyProof.Rows L2
section
variable {K : PySem.W.Frag} {fa : FA} {W : WX} {A A0 A1 A2 A' : List Addr} {H H0 H1 H2 H' : Hp} {σ σ' : L2.St} {X : Cx} {G : String → Option D} {call : String → List D → Store → Rs D} {k : Nat} {fs : FS}

/-- a call, behind its arguments -/
theorem callA_ok {f : String} {ds : List D} {vs : List V} {μ : Store} {F : List Addr} {np : Nat} {Q : VK} (g : GoodL K fa A0 H0 μ ds vs H1 A1 F) (hn : ds.length = np) (h : Pst K fa W A0 H0 σ (callA call f ds μ) Q) :
    spI K fa np (call f) vs H1 Q (fun cls dd H' => W cls dd σ H') := by
  unfold callA at h
  split at h
  · rename_i hs
    have hF := g.rep.still hs
    subst hF
    refine ⟨A1, μ, ds, g.mem, g.rep, hn, ?_⟩
    cases hr : call f ds μ with
    | ok d μ' =>
      rw [hr] at h
      intro v H' A' F' g'
      exact h v H' A' F' (g'.pre g.stp)
    | ex e μ' =>
      rw [hr] at h
      intro cls dd H' A' s m x
      exact h cls dd H' A' (g.stp.trans s) m x
    | no => rw [hr] at h; exact h
  · have g2 := g.alloc
    have hl : (allocs ds μ).1.length = np := by rw [← hn, ← g2.rep.length, ← g.rep.length]
    obtain ⟨M, eM, _⟩ := g.stp.pre
    refine ⟨A1 ++ F, _, _, g2.mem, g2.rep, hl, ?_⟩
    cases hr : call f (allocs ds μ).1 (allocs ds μ).2 with
    | ok d μ' =>
      rw [hr] at h
      intro v H' A' F' g'
      obtain ⟨N, eN, _⟩ := g'.stp.pre
      obtain ⟨d', μ'', A'', F'', e1, g3⟩ := fin_ok rfl g.mem (g'.pre g2.stp) ⟨F ++ N, by rw [eN, List.append_assoc]⟩ ⟨M, eM⟩
      simp only at h
      rw [e1] at h
      exact h _ _ _ _ g3
    | ex e μ' =>
      rw [hr] at h
      intro cls dd H' A' s m x
      obtain ⟨N, eN, _⟩ := s.pre
      obtain ⟨μ'', A'', e1, s3, m3⟩ := finX_ok (e := e) rfl g.mem (g2.stp.trans s) m ⟨F ++ N, by rw [eN, List.append_assoc]⟩ ⟨M, eM⟩
      simp only at h
      rw [e1] at h
      exact h _ _ _ _ s3 m3 x
    | no => rw [hr] at h; exact h

/-! ### a comprehension -/
theorem wipe_get : ∀ (js : List Nat) (σ : L2.St) (j : Nat), (wipe σ js)[j]? = if j ∈ js then (σ[j]?).map (fun _ => none) else σ[j]?
  | [], σ, j => by simp [wipe]
  | i :: is, σ, j => by
    unfold wipe
    rw [List.getElem?_set, wipe_length, wipe_get is σ j]
    by_cases h : i = j
    · subst h
      simp only [if_true, List.mem_cons, true_or]
      by_cases hl : i < σ.length
      · simp [hl]
      · simp [hl]
    · have : j ≠ i := fun z => h z.symm
      simp [h, this]
theorem wipe_chg {js is : List Nat} (h : ∀ i ∈ is, i ∈ js) {σ σ2 : L2.St} (c : Chg is (wipe σ js) σ2) : wipe σ2 js = wipe σ js := by
  apply List.ext_getElem?
  intro j
  rw [wipe_get, wipe_get]
  split
  · have hl : σ2.length = σ.length := by rw [c.1, wipe_length]
    by_cases hj : j < σ.length
    · simp [hl, hj]
    · simp [hl, hj]
  · rename_i hj
    rw [c.2 j fun z => hj (h j z), wipe_get, if_neg hj]
theorem wipeE_get : ∀ (own : List (String × Nat)) (ρ : Env) (j : Nat), (wipeE ρ own)[j]? = if j ∈ own.map (·.2) then (ρ[j]?).map (fun _ => none) else ρ[j]?
  | [], ρ, j => by simp [wipeE]
  | p :: ps, ρ, j => by
    have hl : (wipeE ρ ps).length = ρ.length := by
      have : ∀ ps : List (String × Nat), (wipeE ρ ps).length = ρ.length := by
        intro ps
        induction ps with
        | nil => rfl
        | cons q qs ih => unfold wipeE; rw [List.length_set, ih]
      exact this ps
    unfold wipeE
    rw [List.getElem?_set, hl, wipeE_get ps ρ j]
    by_cases h : p.2 = j
    · subst h
      simp only [if_true, List.map_cons, List.mem_cons, true_or]
      by_cases hl' : p.2 < ρ.length
      · simp [hl']
      · simp [hl']
    · have : j ≠ p.2 := fun z => h z.symm
      rw [if_neg h]
      simp only [List.map_cons, List.mem_cons, this, false_or]
theorem wipeE_length (ρ : Env) : ∀ own : List (String × Nat), (wipeE ρ own).length = ρ.length
  | [] => rfl
  | p :: ps => by unfold wipeE; rw [List.length_set, wipeE_length ρ ps]
theorem RelE.wipe {ρ : Env} {own : List (String × Nat)} (r : RelE K fa H A ρ σ) : RelE K fa H A (wipeE ρ own) (L2.wipe σ (own.map (·.2))) := by
  refine ⟨by rw [wipeE_length, wipe_length, r.1], fun i d h => ?_⟩
  rw [wipeE_get] at h
  rw [wipe_get]
  split at h
  · cases hh : ρ[i]? with
    | none => rw [hh] at h; cases h
    | some o => rw [hh] at h; cases h
  · rename_i hi
    rw [if_neg hi]
    exact r.2 i d h
theorem Stp.updFresh {p : Addr} {o : HO} (s : Stp A H A' H') (h : H p = none) : Stp A H A' (upd H' p o) := by
  have ne : ∀ q u, H q = some u → q ≠ p := fun q u e z => by rw [z, h] at e; cases e
  refine ⟨s.pre, fun q u e hq => ?_, fun q u e => ?_, fun q xs e => ?_, fun q o' u e => ?_, fun q fs e => ?_⟩
  · rw [upd_ne (ne _ _ e)]; exact s.keep q u e hq
  · obtain ⟨u', h'⟩ := s.there q u e
    exact ⟨u', by rw [upd_ne (ne _ _ e)]; exact h'⟩
  · rw [upd_ne (ne _ _ e)]; exact s.tups q xs e
  · rw [upd_ne (ne _ _ e)]; exact s.frzs q o' u e
  · rw [upd_ne (ne _ _ e)]; exact s.xds q fs e
theorem Rep.trackedF : ∀ {v : V} {d : D} {F : List Addr}, Rep K fa H A v d F → ∀ a ∈ F, ∃ vs, H a = some (.lst vs) := by
  intro v d F h
  refine Rep.rec (motive_1 := fun _ _ F _ => ∀ a ∈ F, ∃ vs, H a = some (.lst vs)) (motive_2 := fun _ _ F _ => ∀ a ∈ F, ∃ vs, H a = some (.lst vs)) ?_ ?_ ?_ ?_ ?_ ?_ ?_ ?_ ?_ ?_ ?_ h
  · simp
  · simp
  · simp
  · intros; simp_all
  · intros; simp_all
  · intros; simp_all
  · intros; simp_all
  · intro a vs l F h _ ih; exact ih
  · intro a vs l F h _ ih b hb
    rcases List.mem_append.mp hb with hb | hb
    · exact ih b hb
    · simp at hb; subst hb; exact ⟨vs, h⟩
  · simp
  · intro v vs d ds F F' _ _ ih1 ih2 b hb
    rcases List.mem_append.mp hb with hb | hb
    · exact ih1 b hb
    · exact ih2 b hb
theorem Reps.trackedF : ∀ {vs : List V} {ds : List D} {F : List Addr}, Reps K fa H A vs ds F → ∀ a ∈ F, ∃ vs, H a = some (.lst vs)
  | _, _, _, .nil, _, h => by simp at h
  | _, _, _, .cons r t, a, h => by
    rcases List.mem_append.mp h with h | h
    · exact Rep.trackedF r a h
    · exact Reps.trackedF t a h
/-- one more item of the new list -/
theorem accs_ok {Dd : Addr} {accv : List V} {acc : List D} {F F4 : List Addr} {y : V} {d : D} (h : H Dd = some (.lst accv)) (hD : Dd ∉ F) (hD4 : Dd ∉ F4) (r : Reps K fa H A accv acc F) (q : Rep K fa H A y d F4) : Reps K fa (upd H Dd (.lst (accv ++ [y]))) A (accv ++ [y]) (acc ++ [d]) (F ++ F4) :=
  ((r.append (Reps.one q))).sta (Sta.upd h fun hm => by rcases List.mem_append.mp hm with hm | hm <;> first | exact hD hm | exact hD4 hm)
theorem lc_ok {e it : C} {tg : Tg} {own : List (String × Nat)} {ifs : Cs} {tt : TT} {te : TE} {Q : VK} (hw : ∀ i ∈ tg.slots, i ∈ own.map (·.2))
    (h : tD K fa W G call (.lc e tg own it ifs) σ H Q) :
    tLc (tI G call K fa W it) (tG K fa tg) (tIfs K fa (fun _ _ _ _ => False) G call ifs) (tD K fa (fun _ _ _ _ => False) G call e) (own.map (·.2)) σ H Q := by
  obtain ⟨A, ρ, μ, m, re, h⟩ := h
  refine ⟨A, ρ, μ, m, re, ?_⟩
  simp only [ev] at h
  cases hr : ev G call it ρ μ with
  | no => rw [hr] at h; exact h
  | ex e μ' => rw [hr] at h; exact h
  | ok s μ1 =>
    rw [hr] at h
    simp only [Rs.bnd_ok] at h
    generalize hss : (settle s μ1).1 = ss at h ⊢
    generalize hms : (settle s μ1).2 = ms at h
    cases hx : items ms ss with
    | none => rw [hx] at h; exact h.elim
    | some xs =>
      rw [hx] at h
      dsimp only [PstI]
      rw [hss, hms]
      refine ⟨xs, hx, fun H1 A1 J Fs st1 m1 src1 nFs Dd hD => ?_⟩
      simp only at h
      generalize hf : (fun (x : D) (μ : Store) => match bindT tg x (wipeE ρ own) μ with
        | some (ρ', μ) => (evIfs G call ifs ρ' μ).bnd fun b μ => if b = true then (ev G call e ρ' μ).bnd fun d μ => Rs.ok (some d) μ else Rs.ok none μ
        | none => Rs.no) = f at h
      have hD0 : H Dd = none := st1.free hD
      let Wd : Nat → Nat → Hp → Prop := fun i n Hi => n = xs.length - i ∧ i ≤ xs.length ∧ ∃ Ai μi accv acc F, Stp A H Ai Hi ∧ RelM K fa Hi Ai μi ∧ Src K fa J ss xs Fs Ai Hi ∧ Dd ∉ Ai ∧ Dd ∉ Fs ∧ Hi Dd = some (.lst accv) ∧
        Reps K fa Hi Ai accv acc F ∧ F.Nodup ∧ Dd ∉ F ∧ (∀ a ∈ F, H a = none ∧ a ∉ Ai) ∧ Pst K fa W A H σ (lcGo ss xs f (xs.drop i) μi acc) Q
      refine ⟨Wd, ⟨xs.length, by simp, Nat.zero_le _, A1, ms, [], [], [], st1.trans (.new hD), m1.new hD, src1.step (.new hD), m1.fresh hD, fun z => ?_, upd_same, .nil, List.nodup_nil, by simp, by simp, by simpa using h⟩, ?_⟩
      · obtain ⟨vs, e⟩ := (src1.1 _ z).2
        rw [hD] at e; cases e
      · rintro i n Hi ⟨rfl, hi, Ai, μi, accv, acc, F, sti, mi, srci, nDA, nDF, hDi, accr, accn, nDacc, accnew, post⟩
        obtain ⟨hFs, P, p0, p1, p2⟩ := id srci
        by_cases hlt : i < xs.length
        · -- a turn
          have hdrop : xs.drop i = xs[i] :: xs.drop (i + 1) := List.drop_eq_getElem_cons hlt
          rw [hdrop] at post
          unfold lcGo at post
          split at post
          · rename_i hok
            obtain ⟨hgo, hy⟩ := (p2 Ai Hi μi p0 mi hok i).1 xs[i] (List.getElem?_eq_getElem hlt)
            refine .inr ⟨hgo, fun H' => Wd (i + 1) (xs.length - (i + 1)) H', fun H' w => ⟨_, by omega, w⟩, fun x H2 yld => ?_⟩
            obtain ⟨st2, m2, r2⟩ := hy x H2 yld
            cases hb : bindT tg xs[i] (wipeE ρ own) μi with
            | none => rw [← hf] at post; simp only [hb] at post; exact post.elim
            | some p =>
              obtain ⟨ρ', μ2⟩ := p
              refine ⟨Ai, wipeE ρ own, μi, xs[i], [], ρ', μ2, m2, ((re.step (sti.trans st2))).wipe, r2, List.nodup_nil, by simp, hb, fun σ2 A2 ⟨N, eN, hN⟩ m3 re3 c3 => ?_⟩
              have hNe : N = [] := by
                cases N with
                | nil => rfl
                | cons a N => exact absurd (hN a (by simp)) (by simp)
              subst hNe
              rw [List.append_nil] at eN
              subst eN
              refine ⟨wipe_chg hw c3, A2, ρ', μ2, m3, re3, ?_⟩
              have hfx : f xs[i] μi = (evIfs G call ifs ρ' μ2).bnd fun b μ => if b = true then (ev G call e ρ' μ).bnd fun d μ => Rs.ok (some d) μ else Rs.ok none μ := by
                rw [← hf]; simp only [hb]
              rw [hfx] at post
              cases hifs : evIfs G call ifs ρ' μ2 with
              | no => rw [hifs] at post; exact post.elim
              | ex _ _ => rw [hifs] at post; exact post.elim
              | ok b μ3 =>
                rw [hifs] at post
                simp only [Rs.bnd_ok] at post
                intro H3 A3 st3 m4
                cases b with
                | false =>
                  rw [if_neg Bool.false_ne_true]
                  rw [if_neg Bool.false_ne_true] at post
                  simp only at post
                  have stx : Stp A2 Hi A3 H3 := st2.trans st3
                  exact ⟨rfl, by omega, A3, μ3, accv, acc, F, sti.trans stx, m4, srci.step stx, stx.out hDi nDA, nDF, stx.keep _ _ hDi nDA, accr.step stx fun a ha => (accnew a ha).2, accn, nDacc,
                    fun a ha => ⟨(accnew a ha).1, let ⟨vs, e⟩ := Reps.trackedF accr a ha; stx.out e (accnew a ha).2⟩, post⟩
                | true =>
                  rw [if_pos rfl]
                  rw [if_pos rfl] at post
                  refine ⟨A3, ρ', μ3, m4, re3.step st3, ?_⟩
                  cases hev : ev G call e ρ' μ3 with
                  | no => rw [hev] at post; exact post.elim
                  | ex _ _ => rw [hev] at post; exact post.elim
                  | ok d μ4 =>
                    rw [hev] at post
                    simp only [Rs.bnd_ok] at post
                    split at post
                    · rename_i hlen
                      intro y H4 A4 F4 g4
                      have stx : Stp A2 Hi A4 H4 := (st2.trans st3).trans g4.stp
                      have hD4 : H4 Dd = some (.lst accv) := stx.keep _ _ hDi nDA
                      have nD4 : Dd ∉ A4 := stx.out hDi nDA
                      have hD3 : H3 Dd = some (.lst accv) := (st2.trans st3).keep _ _ hDi nDA
                      have nDF4 : Dd ∉ F4 := fun z => by
                        have := (g4.new _ z).1
                        rw [hD3] at this; cases this
                      have accr4 : Reps K fa H4 A4 accv acc F := accr.step stx fun a ha => (accnew a ha).2
                      have src4 := srci.step stx
                      refine ⟨accv, hD4, by rw [accr.length, sizeLine_eq]; exact hlen, rfl, by omega, A4, μ4, accv ++ [y], acc ++ [d], F ++ F4, ((sti.trans stx)).updFresh hD0, g4.mem.upd hD4 nD4, src4.sta (Sta.upd hD4 nDF) fun a ha => (src4.1 a ha).1, nD4, nDF, upd_same,
                        accs_ok hD4 nDacc nDF4 accr4 g4.rep, List.nodup_append.mpr ⟨accn, g4.nd, fun a ha b hb e => ?_⟩, fun hm => ?_, fun a ha => ?_, post⟩
                      · subst e
                        obtain ⟨vs, e⟩ := Reps.trackedF accr a ha
                        have e3 := (st2.trans st3).keep _ _ e (accnew a ha).2
                        rw [(g4.new a hb).1] at e3; cases e3
                      · rcases List.mem_append.mp hm with hm | hm
                        · exact nDacc hm
                        · exact nDF4 hm
                      · rcases List.mem_append.mp ha with ha | ha
                        · obtain ⟨vs, e⟩ := Reps.trackedF accr a ha
                          exact ⟨(accnew a ha).1, stx.out e (accnew a ha).2⟩
                        · exact ⟨(sti.trans (st2.trans st3)).free (g4.new a ha).1, (g4.new a ha).2⟩
                    · exact post.elim
          · exact post.elim
        · -- the end
          have hie : i = xs.length := by omega
          subst hie
          rw [List.drop_length] at post
          unfold lcGo at post
          split at post
          · rename_i hok
            refine .inl ⟨(p2 Ai Hi μi p0 mi hok xs.length).2 (Nat.le_refl _), ?_⟩
            refine post _ _ Ai (F ++ [Dd]) ⟨sti, mi, .tl hDi accr, List.nodup_append.mpr ⟨accn, by simp, fun a ha b hb e => ?_⟩, fun a ha => ?_⟩
            · have : b = Dd := by simpa using hb
              subst this
              subst e
              exact nDacc ha
            · rcases List.mem_append.mp ha with ha | ha
              · exact accnew a ha
              · have : a = Dd := by simpa using ha
                subst this
                exact ⟨hD0, nDA⟩
          · exact post.elim
end
end Mp
end SSnd8
section SSnd9
/-! Snd9: the match of an expression; its soundness. -/
namespace Mp
open PySem PySem.Spec PyProof.Rows L2

def bltN : Blt → String
  | .len => "len" | .tuple => "tuple" | .list => "list" | .int => "int" | .min => "min" | .max => "max" | .isinstance => "isinstance" | .sum => "sum" | .abs => "abs" | .all => "all" | .any => "any" | .sorted => "sorted"
def setB : Expr → Bool
  | .Set .. => false
  | _ => true
def plainIxB : Expr → Bool
  | .Slice .. => false
  | _ => true
/-- the receiver of a method: anything but super() -/
def recvT : Expr → Bool
  | .Call (.Name x _) [] [] _ => x != ("super" : Str)
  | _ => true
abbrev recvB := recvT
/-- enumerate's pairs go under two names -/
def enOk : C → Tg → Bool
  | .enum _, .v _ => false
  | .zip _ _, .v _ => false
  | _, _ => true
/-! the texts of the operations of no, one, two, three parts -/
def m0 : O0 → Expr → Bool
  | .dict _, .Dict [] [] _ => true
  | _, _ => false
def m1 (sc : Scope) : O1 → Expr → Option Expr
  | .sset, .Call (.Name x _) [.Call (.Name y _) [a] [] _] [] _ => if x = ("sorted" : Str) ∧ glB sc x = true ∧ y = ("set" : Str) ∧ glB sc y = true ∧ starB a = true then some a else none
  | .dlen, .Call (.Name x _) [a] [] _ => if x = ("len" : Str) ∧ glB sc x = true ∧ starB a = true then some a else none
  | .sdict, .Call (.Name x _) [a] [] _ => if x = ("sorted" : Str) ∧ glB sc x = true ∧ starB a = true then some a else none
  | _, _ => none
def m2 : O2 → Expr → Option (Expr × Expr)
  | .dix, .Subscript a i _ => if plainIxB i = true then some (a, i) else none
  | .din, .Compare a [.In] [b] _ => if setB b = true then some (a, b) else none
  | .dnin, .Compare a [.NotIn] [b] _ => if setB b = true then some (a, b) else none
  | .get, .Call (.Attribute o m p) [e] [] q => if m = ("get" : Str) ∧ recvT o = true ∧ p.endLine = q.line ∧ starB e = true then some (o, e) else none
  | .ext, .Call (.Attribute o m p) [e] [] q => if m = ("extend" : Str) ∧ recvT o = true ∧ p.endLine = q.line ∧ starB e = true then some (o, e) else none
  | _, _ => none
def m3 : O3 → Expr → Option (Expr × Expr × Expr)
  | .get, .Call (.Attribute o m p) [e, f] [] q => if m = ("get" : Str) ∧ recvT o = true ∧ p.endLine = q.line ∧ starB e = true ∧ starB f = true then some (o, e, f) else none
  | .setd, .Call (.Attribute o m p) [e, f] [] q => if m = ("setdefault" : Str) ∧ recvT o = true ∧ p.endLine = q.line ∧ starB e = true ∧ starB f = true then some (o, e, f) else none
  | _, _ => none
def calm1 : O1 → Bool
  | .sset | .sdict => true
  | .dlen => false
def calm2 : O2 → Bool
  | .ext => true
  | _ => false
def Cs.len : Cs → Nat
  | .nil => 0
  | .cons _ r => r.len + 1
mutual
def mE (N : List Str) (fs : FS) (sc : Scope) : C → Expr → Bool
  | .lit .non, .Constant .none _ _ => true
  | .lit (.bl b), .Constant (.bool b') _ _ => b == b'
  | .lit (.int i), .Constant (.int j) _ _ => decide (i = j)
  | .lit (.str s), .Constant (.str t) _ _ => decide (t = toS s) && okS s
  | .var i, .Name x _ => decide (N[i]? = some x) && visB sc x && plB x
  | .glo x, .Name y _ => decide (y = (x : Str)) && glB sc y && plB y
  | .bin op a b, .BinOp a' op' b' _ => decide (op' = opB op) && mE N fs sc a a' && mE N fs sc b b'
  | .neg a, .UnaryOp .USub a' _ => mE N fs sc a a'
  | .nt a, .UnaryOp .Not a' _ => mE N fs sc a a'
  | .band l, .BoolOp .And es _ => mEs N fs sc l es
  | .bor l, .BoolOp .Or es _ => mEs N fs sc l es
  | .ite t a b, .IfExp t' a' b' _ => mE N fs sc t t' && mE N fs sc a a' && mE N fs sc b b'
  | .cmp op a b, .Compare a' [op'] [b'] _ => decide (op' = opC op) && mE N fs sc a a' && mE N fs sc b b' && setB b'
  | .cmp2 o1 o2 a b c, .Compare a' [p1, p2] [b', c'] _ => decide (p1 = opC o1) && decide (p2 = opC o2) && mE N fs sc a a' && mE N fs sc b b' && mE N fs sc c c' && setB b' && setB c'
  | .call f l, .Call (.Name x _) (e :: es) [] _ => fs.calm && (decide (x = (f : Str)) && glB sc x && plB x && fs.f.contains f && mEs N fs sc l (e :: es))
  | .call f .nil, .Call (.Name x _) [] [] _ => fs.calm && (decide (x = (f : Str)) && glB sc x && plB x && fs.f.contains f)
  | .blt f l, .Call (.Name x _) (e :: es) [] _ => (fs.calm || bltC f) && (decide (x = (bltN f : Str)) && glB sc x && mEs N fs sc l (e :: es))
  | .frz a, e => mE N fs sc a e
  | .callv i l, .Call (.Name x _) (e :: es) [] _ => fs.calm && (decide (N[i]? = some x) && visB sc x && plB x && mEs N fs sc l (e :: es))
  | .xf i n, .Attribute (.Name x _) y _ => decide (N[i]? = some x) && visB sc x && plB x && decide (n ∈ ["at", "why"]) && decide (y = (n : Str))
  | .isx i c b, .Call (.Name z _) [.Name x _, .Name y _] [] _ => decide (N[i]? = some x) && visB sc x && plB x && decide (z = ("isinstance" : Str)) && glB sc z && decide (y = (b : Str)) && glB sc y && plB y && decide ((c, b) ∈ fs.s)
  | .isi a k, .Call (.Name x _) [a', .Name y _] [] _ => decide (x = ("isinstance" : Str)) && glB sc x && decide (y = (clsN k : Str)) && glB sc y && mE N fs sc a a' && starB a'
  | .meth .join o l, .Call (.Attribute o' m p) [e] [] q => decide (m = ("join" : Str)) && recvT o' && (p.endLine == q.line) && mE N fs sc o o' && mEs N fs sc l [e]
  | .meth .index o l, .Call (.Attribute o' m p) [e] [] q => decide (m = ("index" : Str)) && recvT o' && (p.endLine == q.line) && mE N fs sc o o' && mEs N fs sc l [e]
  | .sl1 a i, .Subscript a' (.Slice (some i') none none _) _ => mE N fs sc a a' && mE N fs sc i i'
  | .rev a, .Subscript a' (.Slice none none (some (.UnaryOp .USub (.Constant (.int 1) _ _) _)) _) _ => mE N fs sc a a'
  | .sl2 a i, .Subscript a' (.Slice none (some i') none _) _ => mE N fs sc a a' && mE N fs sc i i'
  | .sl3 a i j, .Subscript a' (.Slice (some i') (some j') none _) _ => mE N fs sc a a' && mE N fs sc i i' && mE N fs sc j j'
  | .meth .append o l, .Call (.Attribute o' m p) [e] [] q => decide (m = ("append" : Str)) && recvB o' && (p.endLine == q.line) && mE N fs sc o o' && mEs N fs sc l [e]
  | .tup l, .Tuple es _ _ => mEs N fs sc l es && decide (l.len ≤ 1000)
  | .lst l, .List es _ => mEs N fs sc l es && decide (l.len ≤ 1000)
  | .ix a i, .Subscript a' i' _ => mE N fs sc a a' && mE N fs sc i i' && plainIxB i'
  | .lc e tg own it ifs, .ListComp e' [⟨tg', it', ifs', 0⟩] scope _ => fs.calm && (blkC N sc scope (own.map fun p => ((p.1 : Str), p.2)) && mE N fs (relS scope sc) e e' && mTg N scope tg tg' &&
      (tg.slots.all fun i => (own.map (·.2)).contains i) && setB it' &&
      (mR N fs sc it it' || mE N fs sc it it') && enOk it tg && mEs N fs (relS scope sc) ifs ifs' && decide (ifs'.length ≤ 1))
  | .lrng t a, .Call (.Name x _) [.Call (.Name y _) [a'] [] _] [] _ => fs.calm && (decide (x = ((if t then "tuple" else "list" : String) : Str)) && glB sc x && decide (y = ("range" : Str)) && glB sc y && mE N fs sc a a' && starB a')
  | .u0 o, e => m0 o e
  | .u1 o a, e => (fs.calm || !calm1 o) && match m1 sc o e with
    | some a' => mE N fs sc a a'
    | none => false
  | .u2 o a b, e => (fs.calm || !calm2 o) && match m2 o e with
    | some p => mE N fs sc a p.1 && mE N fs sc b p.2
    | none => false
  | .u3 o a b c, e => match m3 o e with
    | some p => mE N fs sc a p.1 && mE N fs sc b p.2.1 && mE N fs sc c p.2.2
    | none => false
  | _, _ => false
def mEs (N : List Str) (fs : FS) (sc : Scope) : Cs → List Expr → Bool
  | .nil, [] => true
  | .cons c r, e :: es => mE N fs sc c e && starB e && mEs N fs sc r es
  | _, _ => false
/-- .. of a count of steps that is walked -/
def mR (N : List Str) (fs : FS) (sc : Scope) : C → Expr → Bool
  | .rng1 a, .Call (.Name x _) [a'] [] _ => decide (x = ("range" : Str)) && glB sc x && mE N fs sc a a' && starB a'
  | .rng2 a b, .Call (.Name x _) [a', b'] [] _ => decide (x = ("range" : Str)) && glB sc x && mE N fs sc a a' && mE N fs sc b b' && starB a' && starB b'
  | .enum a, .Call (.Name x _) [a'] [] _ => decide (x = ("enumerate" : Str)) && glB sc x && mE N fs sc a a' && starB a'
  | .zip a b, .Call (.Name x _) [a', b'] [] _ => decide (x = ("zip" : Str)) && glB sc x && mE N fs sc a a' && mE N fs sc b b' && starB a' && starB b'
  | .rngs a b c, .Call (.Name x _) [a', b', c'] [] _ => decide (x = ("range" : Str)) && glB sc x && mE N fs sc a a' && mE N fs sc b b' && mE N fs sc c c' && starB a' && starB b' && starB c'
  | .rngd a b, .Call (.Name x _) [a', b', .UnaryOp .USub (.Constant (.int 1) _ _) _] [] _ => decide (x = ("range" : Str)) && glB sc x && mE N fs sc a a' && mE N fs sc b b' && starB a' && starB b'
  | _, _ => false
end
/-- .. of what is walked -/
def mI (N : List Str) (fs : FS) (sc : Scope) (it : C) (it' : Expr) : Bool := mR N fs sc it it' || mE N fs sc it it'
end Mp
end SSnd9
section SSnd10
/-! Snd10: an expression's soundness, case by case. -/
namespace Mp
open PySem PySem.Spec PyProof.Rows L2
section
variable {fa : FA} {W : WX} {A A0 A1 A2 A' : List Addr} {H H0 H1 H2 H' : Hp} {σ σ' : L2.St} {X : Cx} {G : String → Option D} {call : String → List D → Store → Rs D} {k : Nat} {fs : FS}

theorem tD_mono {K : PySem.W.Frag} {c : C} {Q Q' : VK} (h : tD K fa W G call c σ H Q) (m : ∀ v H, Q v H → Q' v H) : tD K fa W G call c σ H Q' :=
  let ⟨A, ρ, μ, r, e, p⟩ := h; ⟨A, ρ, μ, r, e, p.mono m⟩
theorem tB_mono {K : PySem.W.Frag} {c : C} {Q Q' : Bool → Hp → Prop} (h : Mp.tB K fa W G call c σ H Q) (m : ∀ v H, Q v H → Q' v H) : Mp.tB K fa W G call c σ H Q' :=
  let ⟨A, ρ, μ, r, e, p⟩ := h; ⟨A, ρ, μ, r, e, p.mono m⟩
theorem tL_mono {K : PySem.W.Frag} {c : Cs} {Q Q' : List V → Hp → Prop} (h : tL K fa W G call c σ H Q) (m : ∀ v H, Q v H → Q' v H) : tL K fa W G call c σ H Q' :=
  let ⟨A, ρ, μ, r, e, p⟩ := h; ⟨A, ρ, μ, r, e, p.mono m⟩
theorem PstB.done {K : PySem.W.Frag} {μ : Store} {b : Bool} {Q : Bool → Hp → Prop} (h : PstB K fa W A0 H0 σ (.ok b μ) Q) (s : Stp A0 H0 A H) (r : RelM K fa H A μ) : Q b H := h H A s r
/-- a test by the value's truth -/
theorem pt_of {c : C} {e : Expr} (h : PE X e (tD X.K fa W G call c)) (he : ∀ whole, isTrue e X.env whole = (do let v ← whole; standAt e.pos; holding [v] (truthy v))) : PT X e (Mp.tB X.K fa W G call c) := by
  refine PT.imp (pt_truth h he) fun σ H Q q => ?_
  obtain ⟨A, ρ, μ, m, re, p⟩ := q
  refine ⟨A, ρ, μ, m, re, Pst.mono (Pst.bndB .refl p) fun v H1 ⟨A1, d, μ1, F, g, p1⟩ => ?_⟩
  obtain ⟨b, e1, p2⟩ := PstB.of p1
  exact ⟨b, truV_of g.mem g.rep e1, p2.done g.stp g.mem⟩
theorem pe_no {e : Expr} : PE X e (fun _ _ _ => False) := ⟨fun _ _ _ _ _ _ h => h.elim⟩

theorem pe_lit {d : D} {e : Expr} {N : List Str} {fs : FS} {sc : Scope} (h : mE N fs sc (.lit d) e = true) : PE X e (tD X.K fa W G call (.lit d)) := by
  cases d with
  | non =>
    cases e with
    | Constant c _ _ =>
      cases c with
      | none => exact PE.imp pe_non fun σ H Q ⟨A, ρ, μ, m, re, p⟩ => Pst.done .refl m .non p
      | _ => simp [mE] at h
    | _ => simp [mE] at h
  | bl b =>
    cases e with
    | Constant c _ _ =>
      cases c with
      | bool b' =>
        have hb : b = b' := by simpa [mE] using h
        subst hb
        exact PE.imp pe_bl fun σ H Q ⟨A, ρ, μ, m, re, p⟩ => Pst.done .refl m (.bl b) p
      | _ => simp [mE] at h
    | _ => simp [mE] at h
  | int i =>
    cases e with
    | Constant c _ _ =>
      cases c with
      | int j =>
        have hb : i = j := by simpa [mE] using h
        subst hb
        exact PE.imp pe_int fun σ H Q ⟨A, ρ, μ, m, re, p⟩ => Pst.done .refl m (.int i) p
      | _ => simp [mE] at h
    | _ => simp [mE] at h
  | str s =>
    cases e with
    | Constant c _ _ =>
      cases c with
      | str t =>
        have hb : t = toS s ∧ okS s = true := by simpa [mE] using h
        obtain ⟨e1, e2⟩ := hb
        subst e1
        exact PE.imp pe_str fun σ H Q ⟨A, ρ, μ, m, re, p⟩ => Pst.done .refl m (.str s e2) p
      | _ => simp [mE] at h
    | _ => simp [mE] at h
  | _ => cases e <;> simp [mE] at h
theorem pe_varD {i : Nat} {x : Str} {pos : Pos} (h1 : X.N[i]? = some x) (h2 : Vis X.env.scope x) (h3 : plB x = true) : PE X (.Name x pos) (tD X.K fa W G call (.var i)) := by
  obtain ⟨p1, p2⟩ := plB_ok h3
  refine PE.imp (pe_var h1 h2 p1 p2) fun σ H Q q => ?_
  obtain ⟨A, ρ, μ, m, re, p⟩ := q
  simp only [ev] at p
  split at p
  · rename_i d hd
    obtain ⟨v, e1, e2⟩ := re.2 i d hd
    split at p
    · exact p.elim
    · rename_i hx
      exact ⟨v, e1, p.done .refl m (e2.val (by simpa using hx))⟩
  · exact p.elim
theorem pe_gloD (hC : Cn X G call k fa fs W) {x : String} {y : Str} {pos : Pos} (h1 : y = (x : Str)) (h2 : glB X.env.scope y = true) (h3 : plB y = true) : PE X (.Name y pos) (tD X.K fa W G call (.glo x)) := by
  cases hg : G x with
  | none =>
    refine PE.imp pe_no fun σ H Q q => ?_
    obtain ⟨A, ρ, μ, m, re, p⟩ := q
    simp only [ev, hg] at p
    exact p
  | some d =>
    subst h1
    obtain ⟨v, u, e1, e2, e3⟩ := hC.glob x d hg
    refine PE.imp (pe_glob (glB_ok h2) e1 e2 (plB_ok h3).1) fun σ H Q q => ?_
    obtain ⟨A, ρ, μ, m, re, p⟩ := q
    simp only [ev, hg] at p
    exact p.done .refl m (e3 _ _)
theorem pe_binD {op : BinK} {a b : C} {a' b' : Expr} {pos : Pos} (ha : PE X a' (tD X.K fa W G call a)) (hb : PE X b' (tD X.K fa W G call b)) : PE X (.BinOp a' (opB op) b' pos) (tD X.K fa W G call (.bin op a b)) := by
  refine ⟨fun pins s σ H Q I q => ?_⟩
  obtain ⟨r, h1, h2⟩ := binop_ok (X := X) (fa := fa) (W := W) (σ := σ) op
  refine (pe_op h1 ha hb).run pins s σ H Q I ?_
  obtain ⟨A, ρ, μ, m, re, p⟩ := q
  refine tD_mono (two_ok (f := fun x y μ => Rs.of (binop μ op x y) μ) m re p) fun v H1 h => tD_mono h fun w H2 ⟨x, y, A2, μ2, F1, F2, t, p2⟩ => ?_
  obtain ⟨z, e1, p3⟩ := Pst.of p2
  exact h2 t e1 p3
theorem pe_negD {a : C} {a' : Expr} {pos : Pos} (ha : PE X a' (tD X.K fa W G call a)) : PE X (.UnaryOp .USub a' pos) (tD X.K fa W G call (.neg a)) := by
  refine PE.imp (pe_un un_neg ha) fun σ H Q ⟨A, ρ, μ, m, re, p⟩ => ?_
  refine ⟨A, ρ, μ, m, re, Pst.mono (Pst.bnd .refl p) fun v H1 ⟨A1, d, μ1, F, g, p1⟩ => ?_⟩
  have mm := g.mem; have st := g.stp
  cases d with
  | int i =>
    cases g.rep
    exact ⟨i, rfl, p1.done st mm (.int _)⟩
  | _ => exact p1.elim
theorem pe_ntD {a : C} {a' : Expr} {pos : Pos} (ha : PE X a' (tD X.K fa W G call a)) : PE X (.UnaryOp .Not a' pos) (tD X.K fa W G call (.nt a)) := by
  refine PE.imp (pe_notT ha) fun σ H Q ⟨A, ρ, μ, m, re, p⟩ => ?_
  refine ⟨A, ρ, μ, m, re, Pst.mono (Pst.bnd .refl p) fun v H1 ⟨A1, d, μ1, F, g, p1⟩ => ?_⟩
  obtain ⟨z, e1, p2⟩ := Pst.of p1
  rw [Option.map_eq_some_iff] at e1
  obtain ⟨b, e1, rfl⟩ := e1
  exact ⟨b, truV_of g.mem g.rep e1, p2.done g.stp g.mem (.bl _)⟩
theorem pt_ntD {a : C} {a' : Expr} {pos : Pos} (ha : PT X a' (Mp.tB X.K fa W G call a)) : PT X (.UnaryOp .Not a' pos) (Mp.tB X.K fa W G call (.nt a)) := by
  refine PT.imp (pt_not ha) fun σ H Q ⟨A, ρ, μ, m, re, p⟩ => ⟨A, ρ, μ, m, re, ?_⟩
  simp only [ev] at p
  cases hr : ev G call a ρ μ with
  | no => rw [hr] at p; exact p
  | ex e μ' => rw [hr] at p; exact p
  | ok d μ1 =>
    rw [hr] at p
    simp only [Rs.bnd_ok] at p ⊢
    cases ht : truth μ1 d with
    | none => rw [ht] at p; exact p
    | some b =>
      rw [ht] at p
      simp only [Option.map_some, Rs.of_some, Rs.bnd_ok, truth] at p
      exact p
theorem pt_ifExp {t a b : Expr} {tA tB' tC' : TT} {pos : Pos} (ht : PT X t tA) (ha : PT X a tB') (hb : PT X b tC') : PT X (.IfExp t a b pos) (fun σ H Q => tA σ H fun c H1 => if c = true then tB' σ H1 Q else tC' σ H1 Q) := by
  refine ⟨fun pins s σ H Q I h => ?_⟩
  refine wpAny_bind (thn (ht.run pins s σ H _ I h) fun c s1 ⟨H1, I1, q1⟩ => ?_)
  cases c with
  | true => exact ha.run pins s1 σ H1 Q I1 q1
  | false => exact hb.run pins s1 σ H1 Q I1 q1
theorem pe_iteD {t a b : C} {t' a' b' : Expr} {pos : Pos} (ht : PT X t' (Mp.tB X.K fa W G call t)) (ha : PE X a' (tD X.K fa W G call a)) (hb : PE X b' (tD X.K fa W G call b)) : PE X (.IfExp t' a' b' pos) (tD X.K fa W G call (.ite t a b)) := by
  refine PE.imp (pe_ifExp ht ha hb) fun σ H Q ⟨A, ρ, μ, m, re, p⟩ => ?_
  refine ⟨A, ρ, μ, m, re, ?_⟩
  simp only [ev] at p
  cases hr : ev G call t ρ μ with
  | no => rw [hr] at p; exact p
  | ex e μ' => rw [hr] at p; exact p
  | ok d μ1 =>
    rw [hr] at p
    simp only [Rs.bnd_ok] at p ⊢
    cases hb : truth μ1 d with
    | none => rw [hb] at p; exact p
    | some c =>
      rw [hb] at p
      intro H1 A1 s1 m1
      have shift : ∀ {r : Rs D}, Pst X.K fa W A H σ r Q → Pst X.K fa W A1 H1 σ r Q := by
        intro r p
        cases r with
        | no => exact p
        | ex e μ' => intro cls dd H' A' s m x; exact p cls dd H' A' (s1.trans s) m x
        | ok d μ' => intro v H' A' F g; exact p v H' A' F (g.pre s1)
      cases c with
      | true => exact ⟨A1, ρ, μ1, m1, re.step s1, shift p⟩
      | false => exact ⟨A1, ρ, μ1, m1, re.step s1, shift p⟩
theorem pt_iteD {t a b : C} {t' a' b' : Expr} {pos : Pos} (ht : PT X t' (Mp.tB X.K fa W G call t)) (ha : PT X a' (Mp.tB X.K fa W G call a)) (hb : PT X b' (Mp.tB X.K fa W G call b)) : PT X (.IfExp t' a' b' pos) (Mp.tB X.K fa W G call (.ite t a b)) := by
  refine PT.imp (pt_ifExp ht ha hb) fun σ H Q ⟨A, ρ, μ, m, re, p⟩ => ?_
  refine ⟨A, ρ, μ, m, re, ?_⟩
  simp only [ev] at p
  cases hr : ev G call t ρ μ with
  | no => rw [hr] at p; exact p
  | ex e μ' => rw [hr] at p; exact p
  | ok d μ1 =>
    rw [hr] at p
    simp only [Rs.bnd_ok] at p ⊢
    cases hb : truth μ1 d with
    | none => rw [hb] at p; exact p
    | some c =>
      rw [hb] at p
      intro H1 A1 s1 m1
      have shift : ∀ {r : Rs Bool}, PstB X.K fa W A H σ r Q → PstB X.K fa W A1 H1 σ r Q := by
        intro r p
        cases r with
        | no => exact p
        | ex e μ' => intro cls dd H' A' s m x; exact p cls dd H' A' (s1.trans s) m x
        | ok d μ' => intro H' A' s g; exact p H' A' (s1.trans s) g
      cases c with
      | true => exact ⟨A1, ρ, μ1, m1, re.step s1, shift p⟩
      | false => exact ⟨A1, ρ, μ1, m1, re.step s1, shift p⟩
theorem set_mark {op : CmpOp} {b : Expr} (h : setB b = true) : behindInMarks op b = false := by
  cases b <;> first | rfl | (simp [setB] at h)
theorem pe_cmpD (hC : Cn X G call k fa fs W) {op : CmpK} {a b : C} {a' b' : Expr} {pos : Pos} (ha : PE X a' (tD X.K fa W G call a)) (hb : PE X b' (tD X.K fa W G call b)) (hs : setB b' = true) :
    PE X (.Compare a' [opC op] [b'] pos) (tD X.K fa W G call (.cmp op a b)) ∧ PT X (.Compare a' [opC op] [b'] pos) (Mp.tB X.K fa W G call (.cmp op a b)) := by
  obtain ⟨r, h1, h2⟩ := cmpop_ok (X := X) (fa := fa) op hC.units'
  constructor
  · refine PE.imp (pe_cmpR h1 ha hb (set_mark hs)) fun σ H Q ⟨A, ρ, μ, m, re, p⟩ => ?_
    refine tD_mono (two_ok (f := fun x y μ => Rs.of ((cmpop μ op x y).map .bl) μ) m re p) fun v H1 h => tD_mono h fun w H2 ⟨x, y, A2, μ2, F1, F2, t, p2⟩ => ?_
    obtain ⟨z, e1, p3⟩ := Pst.of p2
    rw [Option.map_eq_some_iff] at e1
    obtain ⟨b, e1, rfl⟩ := e1
    exact h2 t e1 (p3.done t.stp t.mem (.bl _))
  · refine PT.imp (pt_cmpR h1 ha hb (set_mark hs)) fun σ H Q ⟨A, ρ, μ, m, re, p⟩ => ?_
    have p' : Pst X.K fa W A H σ (ev G call (.cmp op a b) ρ μ) fun v H' => ∃ k, v = .bl k ∧ Q k H' := by
      cases hr : ev G call (.cmp op a b) ρ μ with
      | no => rw [hr] at p; exact p
      | ex e μ' => rw [hr] at p; exact p
      | ok d μ1 =>
        rw [hr] at p
        simp only [Rs.bnd_ok] at p
        obtain ⟨c, e1, p2⟩ := PstB.of p
        intro v H' A' F g
        -- the value is a bool
        have isb : ∃ c, d = .bl c := by
          simp only [ev] at hr
          cases h1 : ev G call a ρ μ with
          | no => rw [h1] at hr; cases hr
          | ex _ _ => rw [h1] at hr; cases hr
          | ok x μ2 =>
            rw [h1] at hr
            simp only [Rs.bnd_ok] at hr
            cases h2 : ev G call b ρ μ2 with
            | no => rw [h2] at hr; cases hr
            | ex _ _ => rw [h2] at hr; cases hr
            | ok y μ3 =>
              rw [h2] at hr
              simp only [Rs.bnd_ok] at hr
              cases h3 : cmpop μ3 op x y with
              | none => rw [h3] at hr; cases hr
              | some c => rw [h3] at hr; cases hr; exact ⟨c, rfl⟩
        obtain ⟨c', rfl⟩ := isb
        cases e1
        have mm := g.mem; have st := g.stp
        cases g.rep
        exact ⟨_, rfl, p2.done st mm⟩
    refine tD_mono (two_ok (f := fun x y μ => Rs.of ((cmpop μ op x y).map .bl) μ) m re p') fun v H1 h => tD_mono h fun w H2 ⟨x, y, A2, μ2, F1, F2, t, p2⟩ => ?_
    obtain ⟨z, e1, p3⟩ := Pst.of p2
    rw [Option.map_eq_some_iff] at e1
    obtain ⟨b, e1, rfl⟩ := e1
    exact h2 t e1 (p3.done t.stp t.mem (.bl _))
end
end Mp
end SSnd10
section SSnd11
/-! Snd11: an expression's soundness: chains, and, or, arguments, calls, displays. -/
namespace Mp
open PySem PySem.Spec PyProof.Rows L2
section
variable {fa : FA} {W : WX} {A A0 A1 A2 A' : List Addr} {H H0 H1 H2 H' : Hp} {σ σ' : L2.St} {X : Cx} {G : String → Option D} {call : String → List D → Store → Rs D} {k : Nat} {fs : FS}

theorem pst_bool {K : PySem.W.Frag} {r : Rs D} {Q : Bool → Hp → Prop} (isb : ∀ d μ, r = .ok d μ → ∃ c, d = .bl c) (p : PstB K fa W A H σ (r.bnd fun x μ => Rs.of (truth μ x) μ) Q) : Pst K fa W A H σ r fun v H' => ∃ k, v = .bl k ∧ Q k H' := by
  cases r with
  | no => exact p
  | ex e μ' => exact p
  | ok d μ1 =>
    simp only [Rs.bnd_ok] at p
    obtain ⟨c, e1, p2⟩ := PstB.of p
    intro v H' A' F g
    obtain ⟨c', rfl⟩ := isb d μ1 rfl
    cases e1
    have mm := g.mem; have st := g.stp
    cases g.rep
    exact ⟨_, rfl, p2.done st mm⟩
theorem lastM {o1 o2 : CmpOp} {b c : Expr} (hc : setB c = true) : lastMarks [o1, o2] [b, c] = false := set_mark hc
theorem of_map_bl {o : Option Bool} {μ μ' : Store} {d : D} (h : Rs.of (o.map .bl) μ = .ok d μ') : ∃ c, d = .bl c := by
  cases o with
  | none => cases h
  | some c => cases h; exact ⟨c, rfl⟩
theorem pe_cmp2D (hC : Cn X G call k fa fs W) {o1 o2 : CmpK} {a b c : C} {a' b' c' : Expr} {pos : Pos} (ha : PE X a' (tD X.K fa W G call a)) (hb : PE X b' (tD X.K fa W G call b)) (hc : PE X c' (tD X.K fa W G call c)) (hs : setB c' = true) :
    PE X (.Compare a' [opC o1, opC o2] [b', c'] pos) (tD X.K fa W G call (.cmp2 o1 o2 a b c)) ∧ PT X (.Compare a' [opC o1, opC o2] [b', c'] pos) (Mp.tB X.K fa W G call (.cmp2 o1 o2 a b c)) := by
  obtain ⟨r, h1, h2⟩ := cmpop_ok (X := X) (fa := fa) o1 hC.units'
  obtain ⟨r', h1', h2'⟩ := cmpop_ok (X := X) (fa := fa) o2 hC.units'
  have core : ∀ {σ : L2.St} {A : List Addr} {ρ : Env} {μ : Store} {H : Hp} {Q : VK}, RelM X.K fa H A μ → RelE X.K fa H A ρ σ → Pst X.K fa W A H σ (ev G call (.cmp2 o1 o2 a b c) ρ μ) Q → tChain r r' (tD X.K fa W G call a) (tD X.K fa W G call b) (tD X.K fa W G call c) σ H Q := by
    intro σ A ρ μ H Q m re p
    refine tD_mono (two_ok (f := fun x y μ => match cmpop μ o1 x y with
      | some true => (ev G call c ρ μ).bnd fun z μ => Rs.of ((cmpop μ o2 y z).map .bl) μ
      | some false => .ok (.bl false) μ
      | none => .no) m re p) fun v H1 h => tD_mono h fun w H2 ⟨x, y, A2, μ2, F1, F2, t, p2⟩ => ?_
    cases e1 : cmpop μ2 o1 x y with
    | none => rw [e1] at p2; exact p2.elim
    | some bb =>
      rw [e1] at p2
      refine h2 t e1 ⟨bb, rfl, ?_⟩
      cases bb with
      | false =>
        rw [if_neg Bool.false_ne_true]
        exact p2.done t.stp t.mem (.bl _)
      | true =>
        rw [if_pos rfl]
        simp only at p2
        refine ⟨A2, ρ, μ2, t.mem, re.step t.stp, Pst.mono (Pst.bnd t.stp p2) fun u H3 ⟨A3, z, μ3, F3, g, p3⟩ => ?_⟩
        obtain ⟨z', e2, p4⟩ := Pst.of p3
        rw [Option.map_eq_some_iff] at e2
        obtain ⟨b2, e2, rfl⟩ := e2
        exact h2' (Two.of t.snd g) e2 (p4.done (t.stp.trans g.stp) g.mem (.bl _))
  constructor
  · exact PE.imp (pe_chain h1 h1' ha hb hc (lastM hs)) fun σ' H Q ⟨A, ρ, μ, m, re, p⟩ => core m re p
  · refine PT.imp (pt_chain h1 h1' ha hb hc (lastM hs)) fun σ' H Q ⟨A, ρ, μ, m, re, p⟩ => core m re (pst_bool (fun d μ' hr => ?_) p)
    simp only [ev] at hr
    cases h1 : ev G call a ρ μ with
    | no => rw [h1] at hr; cases hr
    | ex _ _ => rw [h1] at hr; cases hr
    | ok x μ2 =>
      rw [h1] at hr
      simp only [Rs.bnd_ok] at hr
      cases h2 : ev G call b ρ μ2 with
      | no => rw [h2] at hr; cases hr
      | ex _ _ => rw [h2] at hr; cases hr
      | ok y μ3 =>
        rw [h2] at hr
        simp only [Rs.bnd_ok] at hr
        split at hr
        · cases h3 : ev G call c ρ μ3 with
          | no => rw [h3] at hr; cases hr
          | ex _ _ => rw [h3] at hr; cases hr
          | ok z μ4 => rw [h3] at hr; exact of_map_bl hr
        · cases hr; exact ⟨_, rfl⟩
        · cases hr

/-! ### and, or -/
theorem Pst.shift {K : PySem.W.Frag} {r : Rs D} {Q : VK} (s1 : Stp A H A1 H1) (p : Pst K fa W A H σ r Q) : Pst K fa W A1 H1 σ r Q := by
  cases r with
  | no => exact p
  | ex e μ' => intro cls dd H' A' s m x; exact p cls dd H' A' (s1.trans s) m x
  | ok d μ' => intro v H' A' F g; exact p v H' A' F (g.pre s1)
theorem PstB.shift {K : PySem.W.Frag} {r : Rs Bool} {Q : Bool → Hp → Prop} (s1 : Stp A H A1 H1) (p : PstB K fa W A H σ r Q) : PstB K fa W A1 H1 σ r Q := by
  cases r with
  | no => exact p
  | ex e μ' => intro cls dd H' A' s m x; exact p cls dd H' A' (s1.trans s) m x
  | ok d μ' => intro H' A' s g; exact p H' A' (s1.trans s) g
theorem pe_andOne {c : C} {e : Expr} {pos : Pos} (h : PE X e (tD X.K fa W G call c)) (ht : PT X e (Mp.tB X.K fa W G call c)) :
    PE X (.BoolOp .And [e] pos) (tAn X.K fa W G call (.cons c .nil)) ∧ PW X (.BoolOp .And [e] pos) (tAnB X.K fa W G call (.cons c .nil)) := by
  have id : ∀ r : Rs D, (r.bnd fun x μ => .ok x μ) = r := fun r => by cases r <;> rfl
  constructor
  · refine PE.imp (pe_one h) fun σ H Q ⟨A, ρ, μ, m, re, p⟩ => ⟨A, ρ, μ, m, re, ?_⟩
    simp only [evAnd] at p
    rw [id] at p; exact p
  · refine PW.imp (pw_and1 ht) fun σ H Q ⟨A, ρ, μ, m, re, p⟩ => ⟨A, ρ, μ, m, re, ?_⟩
    simp only [evAnd] at p
    rw [id] at p; exact p
theorem pe_andMore {c c2 : C} {r : Cs} {e e2 : Expr} {es : List Expr} {pos : Pos} (h : PE X e (tD X.K fa W G call c)) (ht : PT X e (Mp.tB X.K fa W G call c))
    (hr : PE X (.BoolOp .And (e2 :: es) pos) (tAn X.K fa W G call (.cons c2 r))) (hw : PW X (.BoolOp .And (e2 :: es) pos) (tAnB X.K fa W G call (.cons c2 r))) :
    PE X (.BoolOp .And (e :: e2 :: es) pos) (tAn X.K fa W G call (.cons c (.cons c2 r))) ∧ PW X (.BoolOp .And (e :: e2 :: es) pos) (tAnB X.K fa W G call (.cons c (.cons c2 r))) := by
  constructor
  · refine PE.imp (pe_andT h hr) fun σ H Q ⟨A, ρ, μ, m, re, p⟩ => ⟨A, ρ, μ, m, re, ?_⟩
    rw [show evAnd G call (.cons c (.cons c2 r)) ρ μ = (ev G call c ρ μ).bnd fun x μ => match truth μ x with
      | some true => evAnd G call (.cons c2 r) ρ μ
      | some false => .ok x μ
      | none => .no from rfl] at p
    refine Pst.mono (Pst.bnd .refl p) fun v H1 ⟨A1, d, μ1, F, g, p1⟩ => ?_
    cases e1 : truth μ1 d with
    | none => rw [e1] at p1; exact p1.elim
    | some b =>
      rw [e1] at p1
      refine ⟨b, truV_of g.mem g.rep e1, ?_⟩
      cases b with
      | true => rw [if_pos rfl]; exact ⟨A1, ρ, μ1, g.mem, re.step g.stp, p1.shift g.stp⟩
      | false => rw [if_neg Bool.false_ne_true]; exact p1 _ _ _ _ g
  · refine PW.imp (pw_and ht hw) fun σ H Q ⟨A, ρ, μ, m, re, p⟩ => ⟨A, ρ, μ, m, re, ?_⟩
    rw [show evAnd G call (.cons c (.cons c2 r)) ρ μ = (ev G call c ρ μ).bnd fun x μ => match truth μ x with
      | some true => evAnd G call (.cons c2 r) ρ μ
      | some false => .ok x μ
      | none => .no from rfl] at p
    cases hr : ev G call c ρ μ with
    | no => rw [hr] at p; exact p
    | ex e μ' => rw [hr] at p; exact p
    | ok d μ1 =>
      rw [hr] at p
      simp only [Rs.bnd_ok] at p ⊢
      cases e1 : truth μ1 d with
      | none => rw [e1] at p; exact p
      | some b =>
        rw [e1] at p
        intro H1 A1 s1 m1
        cases b with
        | true => rw [if_pos rfl]; exact ⟨A1, ρ, μ1, m1, re.step s1, p.shift s1⟩
        | false =>
          rw [if_neg Bool.false_ne_true]
          simp only [Rs.bnd_ok] at p
          rw [e1] at p
          exact p _ _ s1 m1
theorem pe_orOne {c : C} {e : Expr} {pos : Pos} (h : PE X e (tD X.K fa W G call c)) (ht : PT X e (Mp.tB X.K fa W G call c)) :
    PE X (.BoolOp .Or [e] pos) (tOr' X.K fa W G call (.cons c .nil)) ∧ PW X (.BoolOp .Or [e] pos) (tOrB X.K fa W G call (.cons c .nil)) := by
  have id : ∀ r : Rs D, (r.bnd fun x μ => .ok x μ) = r := fun r => by cases r <;> rfl
  constructor
  · refine PE.imp (pe_one h) fun σ H Q ⟨A, ρ, μ, m, re, p⟩ => ⟨A, ρ, μ, m, re, ?_⟩
    simp only [evOr] at p
    rw [id] at p; exact p
  · refine PW.imp (pw_or1 ht) fun σ H Q ⟨A, ρ, μ, m, re, p⟩ => ⟨A, ρ, μ, m, re, ?_⟩
    simp only [evOr] at p
    rw [id] at p; exact p
theorem pe_orMore {c c2 : C} {r : Cs} {e e2 : Expr} {es : List Expr} {pos : Pos} (h : PE X e (tD X.K fa W G call c)) (ht : PT X e (Mp.tB X.K fa W G call c))
    (hr : PE X (.BoolOp .Or (e2 :: es) pos) (tOr' X.K fa W G call (.cons c2 r))) (hw : PW X (.BoolOp .Or (e2 :: es) pos) (tOrB X.K fa W G call (.cons c2 r))) :
    PE X (.BoolOp .Or (e :: e2 :: es) pos) (tOr' X.K fa W G call (.cons c (.cons c2 r))) ∧ PW X (.BoolOp .Or (e :: e2 :: es) pos) (tOrB X.K fa W G call (.cons c (.cons c2 r))) := by
  constructor
  · refine PE.imp (pe_orT h hr) fun σ H Q ⟨A, ρ, μ, m, re, p⟩ => ⟨A, ρ, μ, m, re, ?_⟩
    rw [show evOr G call (.cons c (.cons c2 r)) ρ μ = (ev G call c ρ μ).bnd fun x μ => match truth μ x with
      | some true => .ok x μ
      | some false => evOr G call (.cons c2 r) ρ μ
      | none => .no from rfl] at p
    refine Pst.mono (Pst.bnd .refl p) fun v H1 ⟨A1, d, μ1, F, g, p1⟩ => ?_
    cases e1 : truth μ1 d with
    | none => rw [e1] at p1; exact p1.elim
    | some b =>
      rw [e1] at p1
      refine ⟨b, truV_of g.mem g.rep e1, ?_⟩
      cases b with
      | false => rw [if_neg Bool.false_ne_true]; exact ⟨A1, ρ, μ1, g.mem, re.step g.stp, p1.shift g.stp⟩
      | true => rw [if_pos rfl]; exact p1 _ _ _ _ g
  · refine PW.imp (pw_or ht hw) fun σ H Q ⟨A, ρ, μ, m, re, p⟩ => ⟨A, ρ, μ, m, re, ?_⟩
    rw [show evOr G call (.cons c (.cons c2 r)) ρ μ = (ev G call c ρ μ).bnd fun x μ => match truth μ x with
      | some true => .ok x μ
      | some false => evOr G call (.cons c2 r) ρ μ
      | none => .no from rfl] at p
    cases hr : ev G call c ρ μ with
    | no => rw [hr] at p; exact p
    | ex e μ' => rw [hr] at p; exact p
    | ok d μ1 =>
      rw [hr] at p
      simp only [Rs.bnd_ok] at p ⊢
      cases e1 : truth μ1 d with
      | none => rw [e1] at p; exact p
      | some b =>
        rw [e1] at p
        intro H1 A1 s1 m1
        cases b with
        | false => rw [if_neg Bool.false_ne_true]; exact ⟨A1, ρ, μ1, m1, re.step s1, p.shift s1⟩
        | true =>
          rw [if_pos rfl]
          simp only [Rs.bnd_ok] at p
          rw [e1] at p
          exact p _ _ s1 m1

/-! ### arguments -/
theorem pa_nilD : PA X [] (tL X.K fa W G call .nil) := PA.imp pa_nil fun σ H Q ⟨A, ρ, μ, m, re, p⟩ => p _ _ A [] ⟨.refl, m, .nil, List.nodup_nil, by simp⟩
theorem pa_consD {c : C} {r : Cs} {e : Expr} {es : List Expr} (hs : starB e = true) (h : PE X e (tD X.K fa W G call c)) (hr : PA X es (tL X.K fa W G call r)) : PA X (e :: es) (tL X.K fa W G call (.cons c r)) := by
  refine PA.imp (pa_cons h hr (star_cons hs)) fun σ H Q ⟨A, ρ, μ, m, re, p⟩ => ?_
  refine ⟨A, ρ, μ, m, re, Pst.mono (Pst.bndL .refl p) fun v H1 ⟨A1, d, μ1, F, g, p1⟩ => ?_⟩
  refine ⟨A1, ρ, μ1, g.mem, re.step g.stp, PstL.mono (PstL.bndL g.stp p1) fun vs H2 ⟨A2, ds, μ2, F2, g2, p2⟩ => ?_⟩
  refine p2 _ _ A2 (F ++ F2) ⟨g.stp.trans g2.stp, g2.mem, .cons (g.rep.step g2.stp fun a ha => (g.new a ha).2) g2.rep, List.nodup_append.mpr ⟨g.nd, g2.nd, fun a ha b hb e => ?_⟩, fun a ha => ?_⟩
  · subst e
    obtain ⟨vs, t⟩ := g.tracked a ha
    rw [(g2.new a hb).1] at t; cases t
  · rcases List.mem_append.mp ha with ha | ha
    · obtain ⟨vs, t⟩ := g.tracked a ha
      exact ⟨(g.new a ha).1, g2.stp.out t (g.new a ha).2⟩
    · exact ⟨g.stp.free (g2.new a ha).1, (g2.new a ha).2⟩

/-! ### calls -/
theorem pe_callD (hC : Cn X G call k fa fs W) {f : String} {l : Cs} {e : Expr} {es : List Expr} {x : Str} {p pos : Pos} (hcal : fs.calm = true) (hf : f ∈ fs.f)
    (hx : x = (f : Str)) (hg : glB X.env.scope x = true) (hp : plB x = true) (hs : (e :: es).all starB = true) (ha : PA X (e :: es) (tL X.K fa W G call l)) :
    PE X (.Call (.Name x p) (e :: es) [] pos) (tD X.K fa W G call (.call f l)) := by
  obtain ⟨a, fd, ps, h1, h2, h3, h4, h5⟩ := hC.call hcal f hf
  subst hx
  have hs' : starB e = true ∧ es.all starB = true := by simpa using hs
  refine PE.imp (pe_callSD (dvs := []) (ds := []) (E := fun σ cls d H => W cls d σ H) h4 (hC.room hcal) (glB_ok hg) (hC.fns f a h1) h2 h3 .nil (fun σ => passAt hC.takes σ) ha (plB_ok hp).1 (star_cons hs'.1) (star_any hs'.2)) fun σ H Q ⟨A, ρ, μ, m, re, p⟩ => ?_
  refine ⟨A, ρ, μ, m, re, PstL.mono (PstL.bnd .refl p) fun vs H1 ⟨A1, ds, μ1, F, g, p1⟩ => ?_⟩
  rw [List.append_nil]
  refine callA_ok g ?_ p1
  unfold callA at p1
  split at p1
  · exact h5 ds μ1 fun z => by rw [z] at p1; exact p1
  · have := h5 (allocs ds μ1).1 (allocs ds μ1).2 fun z => by rw [z] at p1; exact p1
    rw [← this, ← g.alloc.rep.length, g.rep.length]
theorem bltN_mem (f : Blt) : bltN f ∈ bnames := by cases f <;> decide
theorem bltN_ne (f : Blt) : ((bltN f : Str) : Str) ≠ "__name__" ∧ (((bltN f : Str) : Str) == ("__debug__" : Str)) = false := by cases f <;> decide +kernel
theorem bltV_boot (f : Blt) : bootBuiltins (bltN f : Str) = some (bltV f) := by cases f <;> decide +kernel
theorem pe_bltD (hC : Cn X G call k fa fs W) {f : Blt} (hcal : fs.calm = true ∨ bltC f = true) {l : Cs} {e : Expr} {es : List Expr} {x : Str} {p pos : Pos} (hx : x = (bltN f : Str)) (hg : glB X.env.scope x = true) (hs : (e :: es).all starB = true) (ha : PA X (e :: es) (tL X.K fa W G call l)) :
    PE X (.Call (.Name x p) (e :: es) [] pos) (tD X.K fa W G call (.blt f l)) := by
  subst hx
  refine ⟨fun pins s σ H Q I q => ?_⟩
  obtain ⟨r, h1, h2⟩ := bltin_ok (X := X) (fa := fa) (W := W) (σ := σ) f (hcal.imp hC.calm id)
  have hm := hC.blt _ (bltN_mem f)
  have hs' : starB e = true ∧ es.all starB = true := by simpa using hs
  have pe : PE X (.Call (.Name (bltN f : Str) p) (e :: es) [] pos) (tCB r (tL X.K fa W G call l)) := by
    have hv := bltV_boot f
    have kind : (∃ id, bltV f = .builtin id) ∨ ∃ T, bltV f = .type T := by cases f <;> first | exact .inl ⟨_, rfl⟩ | exact .inr ⟨_, rfl⟩
    rcases kind with ⟨id, e1⟩ | ⟨T, e1⟩
    · rw [e1] at h1 hv
      exact pe_callB h1 (glB_ok hg) hm hv ha (bltN_ne f).1 (bltN_ne f).2 (star_cons hs'.1) (star_any hs'.2)
    · rw [e1] at h1 hv
      exact pe_callTy h1 (glB_ok hg) hm hv ha (bltN_ne f).1 (bltN_ne f).2 (star_cons hs'.1) (star_any hs'.2)
  refine pe.run pins s σ H Q I ?_
  obtain ⟨A, ρ, μ, m, re, p⟩ := q
  refine ⟨A, ρ, μ, m, re, PstL.mono (PstL.bnd .refl p) fun vs H1 ⟨A1, ds, μ1, F, g, p1⟩ => ?_⟩
  obtain ⟨z, e1, p2⟩ := Pst.of p1
  exact h2 g e1 p2
theorem clsN_boot (k : Cls) : bootBuiltins (clsN k : Str) = some (.type (clsN k)) ∧ clsN k ∈ bnames ∧ (clsN k : Str) ≠ "__name__" ∧ ((clsN k : Str) == ("__debug__" : Str)) = false := by cases k <;> decide +kernel
theorem pe_isiD (hC : Cn X G call k fa fs W) {a : C} {c : Cls} {e : Expr} {x y : Str} {p q pos : Pos} (hx : x = ("isinstance" : Str)) (hg : glB X.env.scope x = true) (hy : y = (clsN c : Str)) (hg' : glB X.env.scope y = true) (hs : starB e = true) (ha : PE X e (tD X.K fa W G call a)) :
    PE X (.Call (.Name x p) [e, .Name y q] [] pos) (tD X.K fa W G call (.isi a c)) := by
  subst hx hy
  obtain ⟨b1, b2, b3, b4⟩ := clsN_boot c
  have pn : PE X (.Name (clsN c : Str) q) (tC (.ty (clsN c))) := pe_bltn (glB_ok hg') (hC.blt _ b2) b1 rfl b3 b4
  refine PE.imp (pe_callB call_isi (glB_ok hg) (hC.blt "isinstance" (by decide)) (by decide +kernel) (pa_cons ha (pa_cons pn pa_nil) (star_cons hs)) (by decide +kernel) (by decide +kernel) (star_cons hs)) fun σ H Q ⟨A, ρ, μ, m, re, p⟩ => ?_
  refine ⟨A, ρ, μ, m, re, Pst.mono (Pst.bnd .refl p) fun v H1 ⟨A1, d, μ1, F, g, p1⟩ => ?_⟩
  obtain ⟨z, e1, p2⟩ := Pst.of p1
  rw [Option.map_eq_some_iff] at e1
  obtain ⟨b, e1, rfl⟩ := e1
  exact isOf_ok g.mem g.rep e1 (p2.done g.stp g.mem (.bl _))
theorem recv_base {o : Expr} {m : Str} {env : PySem.Env} (h : recvT o = true) : attributeBase o m env (eval o env) = eval o env := by
  cases o <;> try rfl
  rename_i g args kws pos
  cases g <;> try rfl
  cases args <;> try rfl
  cases kws <;> try rfl
  exact abase_call h
theorem pe_appendD {o : C} {l : Cs} {o' e : Expr} {m : Str} {p q : Pos} (hm : m = ("append" : Str)) (hr : recvB o' = true) (hl : (p.endLine == q.line) = true) (hs : starB e = true) (ho : PE X o' (tD X.K fa W G call o)) (ha : PA X [e] (tL X.K fa W G call l)) (hl1 : l.len = 1) :
    PE X (.Call (.Attribute o' m p) [e] [] q) (tD X.K fa W G call (.meth .append o l)) := by
  subst hm
  refine PE.imp (pe_bm PySem.F.plainAttrs_list PySem.F.slot_list_append PySem.F.type_list_append mt_append ho ha (recv_base hr) (by rw [star_all (by simp [hs])]; rfl) hl (star_cons hs) (by rfl)) fun σ H Q ⟨A, ρ, μ, m, re, p⟩ => ?_
  refine ⟨A, ρ, μ, m, re, Pst.mono (Pst.bnd .refl p) fun v H1 ⟨A1, d, μ1, F, g, p1⟩ => ?_⟩
  split at p1
  · rename_i hrec
    have isr : ∃ n, d = .ref n := by
      cases d <;> first | exact ⟨_, rfl⟩ | (simp [recvOk] at hrec)
    obtain ⟨n, rfl⟩ := isr
    have ty : tyV X.K "list" v H1 := by
      cases g.rep with
      | ref hs' =>
        obtain ⟨l, hl⟩ := Option.isSome_iff_exists.mp (show (getL μ1 n).isSome = true from hrec)
        obtain ⟨vs, hv, _⟩ := Rep.getL g.mem hs' hl
        exact .inl ⟨rfl, vs, .of hv⟩
    refine ⟨ty, A1, ρ, μ1, g.mem, re.step g.stp, PstL.mono (PstL.bnd g.stp p1) fun vs H2 ⟨A2, ds, μ2, F2, g2, p2⟩ => ?_⟩
    have one : ∃ y, ds = [y] := by
      cases ds with
      | nil => exact p2.elim
      | cons y ys =>
        cases ys with
        | nil => exact ⟨y, rfl⟩
        | cons _ _ => exact p2.elim
    obtain ⟨y, rfl⟩ := one
    obtain ⟨w, rfl, g3⟩ := g2.one
    cases e1 : methop μ2 .append (.ref n) [y] with
    | none => rw [e1] at p2; exact p2.elim
    | some r =>
      obtain ⟨z, μ'⟩ := r
      rw [e1] at p2
      exact (append_ok (Two.of g g3) e1 p2).2
  · exact p1.elim

/-! ### displays, items, comprehensions -/
theorem mEs_len {N : List Str} {fs : FS} {sc : Scope} : ∀ {l : Cs} {es : List Expr}, mEs N fs sc l es = true → l.len = es.length ∧ es.all starB = true
  | .nil, [], _ => ⟨rfl, rfl⟩
  | .nil, _ :: _, h => by simp [mEs] at h
  | .cons _ _, [], h => by simp [mEs] at h
  | .cons c r, e :: es, h => by
    have h' : (mE N fs sc c e = true ∧ starB e = true) ∧ mEs N fs sc r es = true := by simpa [mEs] using h
    obtain ⟨h1, h2⟩ := mEs_len h'.2
    exact ⟨by simp [Cs.len, h1], by simp [h'.1.2, h2]⟩
theorem evs_length : ∀ {l : Cs} {ρ : Env} {μ μ' : Store} {ds : List D}, evs G call l ρ μ = .ok ds μ' → ds.length = l.len
  | .nil, _, _, _, _, h => by cases h; rfl
  | .cons c r, ρ, μ, μ', ds, h => by
    simp only [evs] at h
    cases h1 : ev G call c ρ μ with
    | no => rw [h1] at h; cases h
    | ex _ _ => rw [h1] at h; cases h
    | ok d μ1 =>
      rw [h1] at h
      simp only [Rs.bnd_ok] at h
      cases h2 : evs G call r ρ μ1 with
      | no => rw [h2] at h; cases h
      | ex _ _ => rw [h2] at h; cases h
      | ok ds' μ2 =>
        rw [h2] at h
        cases h
        simp [Cs.len, evs_length h2]
theorem GoodL.tup {K : PySem.W.Frag} {μ : Store} {ds : List D} {vs : List V} {F : List Addr} {p : Addr} (g : GoodL K fa A H μ ds vs H1 A1 F) (hp : H1 p = none) : Good K fa A H μ (.tup ds) (.ref p) (upd H1 p (.tup vs)) A1 F := by
  have sn : Stp A1 H1 A1 (upd H1 p (.tup vs)) := Stp.new hp
  exact ⟨g.stp.trans sn, g.mem.new hp, .tup (.of upd_same) (g.rep.step sn fun a ha => (g.new a ha).2), g.nd, g.new⟩
theorem GoodL.lst {K : PySem.W.Frag} {μ : Store} {ds : List D} {vs : List V} {F : List Addr} {p : Addr} (g : GoodL K fa A H μ ds vs H1 A1 F) (hp : H1 p = none) : Good K fa A H μ (.tl ds) (.ref p) (upd H1 p (.lst vs)) A1 (F ++ [p]) := by
  have sn : Stp A1 H1 A1 (upd H1 p (.lst vs)) := Stp.new hp
  have hpF : p ∉ F := fun hm => by
    obtain ⟨ws, e⟩ := Reps.trackedF g.rep p hm
    rw [hp] at e; cases e
  refine ⟨g.stp.trans sn, g.mem.new hp, .tl upd_same (g.rep.step sn fun a ha => (g.new a ha).2), List.nodup_append.mpr ⟨g.nd, by simp, fun a ha b hb e => ?_⟩, fun a ha => ?_⟩
  · have : b = p := by simpa using hb
    subst this
    subst e
    exact hpF ha
  · rcases List.mem_append.mp ha with ha | ha
    · exact g.new a ha
    · have : a = p := by simpa using ha
      subst this
      exact ⟨g.stp.free hp, g.mem.fresh hp⟩
theorem small_line {n : Nat} (h : n ≤ 1000) : n ≤ sizeLine := by rw [sizeLine_eq]; omega
theorem pe_tupD {l : Cs} {es : List Expr} {j : Nat} {pos : Pos} (hl : l.len ≤ 1000) (ha : PA X es (tL X.K fa W G call l)) : PE X (.Tuple es j pos) (tD X.K fa W G call (.tup l)) := by
  refine PE.imp (pe_tup ha) fun σ H Q ⟨A, ρ, μ, m, re, p⟩ => ⟨A, ρ, μ, m, re, ?_⟩
  cases hr : evs G call l ρ μ with
  | no => simp only [ev, hr] at p; exact p
  | ex e μ' => simp only [ev, hr] at p; exact p
  | ok ds μ1 =>
    simp only [ev, hr, Rs.bnd_ok] at p
    intro vs H1 A1 F g
    exact ⟨by rw [g.rep.length, evs_length hr]; exact small_line hl, fun q hq => p _ _ _ _ (g.tup hq)⟩
theorem pe_lstD {l : Cs} {es : List Expr} {pos : Pos} (hl : l.len ≤ 1000) (ha : PA X es (tL X.K fa W G call l)) : PE X (.List es pos) (tD X.K fa W G call (.lst l)) := by
  refine PE.imp (pe_lst ha) fun σ H Q ⟨A, ρ, μ, m, re, p⟩ => ⟨A, ρ, μ, m, re, ?_⟩
  cases hr : evs G call l ρ μ with
  | no => simp only [ev, hr] at p; exact p
  | ex e μ' => simp only [ev, hr] at p; exact p
  | ok ds μ1 =>
    simp only [ev, hr, Rs.bnd_ok] at p
    intro vs H1 A1 F g
    exact ⟨by rw [g.rep.length, evs_length hr]; exact small_line hl, fun q hq => p _ _ _ _ (g.lst hq)⟩
theorem plainIx_of {e : Expr} (h : plainIxB e = true) : PlainIx e := by
  cases e <;> first | exact fun _ _ => rfl | (simp [plainIxB] at h)
theorem pe_ixD {a i : C} {a' i' : Expr} {pos : Pos} (hi : plainIxB i' = true) (ha : PE X a' (tD X.K fa W G call a)) (hb : PE X i' (tD X.K fa W G call i)) : PE X (.Subscript a' i' pos) (tD X.K fa W G call (.ix a i)) := by
  refine PE.imp (pe_ix ix_seq ha hb (plainIx_of hi)) fun σ H Q ⟨A, ρ, μ, m, re, p⟩ => ?_
  refine tD_mono (two_ok (f := fun x y μ => Rs.of (getIx μ x y) μ) m re p) fun v H1 h => tD_mono h fun w H2 ⟨x, y, A2, μ2, F1, F2, t, p2⟩ => ?_
  obtain ⟨z, e1, p3⟩ := Pst.of p2
  exact getIx_ok t e1 p3
theorem rgV_eq (lo hi : Int) : Reps X.K fa H A (rgV lo hi) (rngL lo hi) [] := by
  unfold rgV rngL
  generalize List.range (hi - lo).toNat = l
  induction l with
  | nil => exact .nil
  | cons i l ih => exact .cons (.int _) ih
theorem pe_lrngD (hC : Cn X G call k fa fs W) (hcal : fs.calm = true) {t : Bool} {a : C} {e : Expr} {x y : Str} {p q p2 pos : Pos} (hx : x = ((if t then "tuple" else "list" : String) : Str)) (hg : glB X.env.scope x = true) (hy : y = ("range" : Str)) (hg' : glB X.env.scope y = true) (hs : starB e = true) (ha : PE X e (tD X.K fa W G call a)) :
    PE X (.Call (.Name x p) [.Call (.Name y q) [e] [] p2] [] pos) (tD X.K fa W G call (.lrng t a)) := by
  subst hx hy
  have pr := prg_1 (pos := p2) (p := q) (glB_ok hg') (hC.blt "range" (by decide)) ha (star_cons hs)
  have lim : ∀ j : Int, 0 ≤ j ∧ j ≤ (LIM : Nat) → RgOk 0 j := fun j h => RgOk.of_le (by omega) (by have := h.2; show j ≤ 16777216; simpa [LIM] using this) (by omega) h.1
  cases t with
  | true =>
    refine PE.imp (pe_tupRg (hC.calm hcal) (glB_ok hg) (hC.blt "tuple" (by decide)) pr) fun σ H Q ⟨A, ρ, μ, m, re, p⟩ => ?_
    refine ⟨A, ρ, μ, m, re, Pst.mono (Pst.bnd .refl p) fun v H1 ⟨A1, d, μ1, F, g, p1⟩ => ?_⟩
    have mm := g.mem; have st := g.stp
    cases d with
    | int j =>
      simp only at p1
      split at p1
      · rename_i hj
        cases g.rep
        refine ⟨j, rfl, lim j hj, fun r hr => ?_⟩
        have gl : GoodL X.K fa A H μ1 (rngL 0 j) (rgV 0 j) H1 A1 [] := ⟨st, mm, rgV_eq 0 j, List.nodup_nil, by simp⟩
        exact p1 _ _ _ _ (gl.tup hr)
      · exact p1.elim
    | _ => exact p1.elim
  | false =>
    refine PE.imp (pe_listRg (hC.calm hcal) (glB_ok hg) (hC.blt "list" (by decide)) pr) fun σ H Q ⟨A, ρ, μ, m, re, p⟩ => ?_
    refine ⟨A, ρ, μ, m, re, Pst.mono (Pst.bnd .refl p) fun v H1 ⟨A1, d, μ1, F, g, p1⟩ => ?_⟩
    have mm := g.mem; have st := g.stp
    cases d with
    | int j =>
      simp only at p1
      split at p1
      · rename_i hj
        cases g.rep
        refine ⟨j, rfl, lim j hj, fun r hr => ?_⟩
        have gl : GoodL X.K fa A H μ1 (rngL 0 j) (rgV 0 j) H1 A1 [] := ⟨st, mm, rgV_eq 0 j, List.nodup_nil, by simp⟩
        exact p1 _ _ _ _ (gl.lst hr)
      · exact p1.elim
    | _ => exact p1.elim
theorem still_rng (lo hi : Int) (μ : Store) : allocs (rngL lo hi) μ = (rngL lo hi, μ) := by
  unfold rngL
  generalize List.range (hi - lo).toNat = l
  induction l with
  | nil => rfl
  | cons i l ih => simp only [List.map_cons, allocs, alloc]; rw [ih]
theorem set_fold {e : Expr} {env : PySem.Env} (h : setB e = true) : ∀ x, foldedSetIterable e env x = pure x := by
  cases e <;> first | exact fun _ => rfl | (simp [setB] at h)
theorem pi_rng1D (hC : Cn X G call k fa fs W) {a : C} {tg e : Expr} {x : Str} {p pos : Pos} (hx : x = ("range" : Str)) (hg : glB X.env.scope x = true) (hs : starB e = true) (ha : PE X e (tD X.K fa W G call a)) : PI X tg (.Call (.Name x p) [e] [] pos) (tI G call X.K fa W (.rng1 a)) := by
  subst hx
  refine ⟨fun pins s σ H R I q => (pi_range1 (tg := tg) (glB_ok hg) (hC.blt "range" (by decide)) (pa_cons ha pa_nil (star_cons hs)) (star_cons hs)).run pins s σ H R I ?_⟩
  obtain ⟨A, ρ, μ, m, re, p⟩ := q
  refine ⟨A, ρ, μ, m, re, ?_⟩
  cases hr : ev G call a ρ μ with
  | no => simp only [ev, hr] at p; exact p
  | ex e μ' => simp only [ev, hr] at p; exact p
  | ok d μ1 =>
    simp only [ev, hr, Rs.bnd_ok] at p
    intro v H1 A1 F g
    have mm := g.mem; have st := g.stp
    cases d with
    | int j =>
      simp only at p
      split at p
      · rename_i hj
        cases g.rep
        obtain ⟨xs, hx, p⟩ := p
        refine ⟨j, rfl, hj.1, hj.2, ?_⟩
        have hset : settle (.tl (rngL 0 j)) μ1 = (.tl (rngL 0 j), μ1) := by simp only [settle, still_rng]
        rw [hset] at hx p
        cases hx
        have src := src_rng (K := X.K) (fa := fa) (lo := 0) (hi := j) (A := A1) (H := H1)
        rw [Int.sub_zero] at src
        exact p H1 A1 _ [] st mm src (by simp)
      · exact p.elim
    | _ => exact p.elim
theorem pi_rng2D (hC : Cn X G call k fa fs W) {a b : C} {tg e e2 : Expr} {x : Str} {p pos : Pos} (hx : x = ("range" : Str)) (hg : glB X.env.scope x = true) (hs : starB e = true) (hs2 : starB e2 = true) (ha : PE X e (tD X.K fa W G call a)) (hb : PE X e2 (tD X.K fa W G call b)) :
    PI X tg (.Call (.Name x p) [e, e2] [] pos) (tI G call X.K fa W (.rng2 a b)) := by
  subst hx
  refine ⟨fun pins s σ H R I q => (pi_range2 (tg := tg) (glB_ok hg) (hC.blt "range" (by decide)) (pa_cons ha (pa_cons hb pa_nil (star_cons hs2)) (star_cons hs)) (by rw [star_cons hs, star_cons hs2]; rfl) (star_cons hs2)).run pins s σ H R I ?_⟩
  obtain ⟨A, ρ, μ, m, re, p⟩ := q
  cases hr : ev G call a ρ μ with
  | no => simp only [ev, hr] at p; exact p.elim
  | ex e μ' =>
    simp only [ev, hr] at p
    refine ⟨A, ρ, μ, m, re, ?_⟩
    rw [hr]; exact p
  | ok d μ1 =>
    simp only [ev, hr, Rs.bnd_ok] at p
    refine ⟨A, ρ, μ, m, re, ?_⟩
    rw [hr]
    intro v H1 A1 F g
    refine ⟨A1, ρ, μ1, g.mem, re.step g.stp, ?_⟩
    cases hr2 : ev G call b ρ μ1 with
    | no => simp only [hr2] at p; exact p.elim
    | ex e μ' => simp only [hr2] at p; exact fun cls dd H' A' s m x => p cls dd H' A' (g.stp.trans s) m x
    | ok d2 μ2 =>
      simp only [hr2, Rs.bnd_ok] at p
      intro w H2 A2 F2 g2
      have mm := g2.mem; have st := g.stp.trans g2.stp
      cases d with
      | int i =>
        cases d2 with
        | int j =>
          simp only at p
          split at p
          · rename_i hj
            cases g.rep
            cases g2.rep
            obtain ⟨xs, hx, p⟩ := p
            refine ⟨i, j, rfl, ⟨hj.1.1, hj.1.2, hj.2.1, hj.2.2⟩, ?_⟩
            have hset : settle (.tl (rngL i j)) μ2 = (.tl (rngL i j), μ2) := by simp only [settle, still_rng]
            rw [hset] at hx p
            cases hx
            exact p H2 A2 _ [] st mm src_rng (by simp)
          · exact p.elim
        | _ => exact p.elim
      | _ => exact p.elim
end
end Mp
end SSnd11
section SSnd11b
/-! Snd11b: slices, join, ranges downwards. -/
namespace Mp
open PySem PySem.Spec PyProof.Rows L2
section
variable {K : PySem.W.Frag} {fa : FA} {W : WX} {A A0 A1 A2 A3 : List Addr} {H H0 H1 H2 H3 : Hp} {σ : L2.St}
theorem Good.later {μ1 μ3 : Store} {d : D} {v : V} {F : List Addr} (g : Good K fa A0 H0 μ1 d v H1 A1 F) (s : Stp A1 H1 A3 H3) (m : RelM K fa H3 A3 μ3) : Good K fa A0 H0 μ3 d v H3 A3 F :=
  ⟨g.stp.trans s, m, g.rep.step s fun a ha => (g.new a ha).2, g.nd, fun a ha => ⟨(g.new a ha).1, by
    obtain ⟨vs, t⟩ := g.tracked a ha
    exact s.out t (g.new a ha).2⟩⟩
theorem Reps.drop : ∀ (n : Nat) {vs : List V} {ds : List D} {F : List Addr}, Reps K fa H A vs ds F → ∃ F', Reps K fa H A (vs.drop n) (ds.drop n) F' ∧ F'.Sublist F
  | 0, _, _, F, r => ⟨F, r, List.Sublist.refl _⟩
  | n + 1, _, [], _, r => by cases r; exact ⟨[], .nil, List.Sublist.refl _⟩
  | n + 1, _, _ :: _, _, r => by
    cases r with
    | cons r t =>
      obtain ⟨F', h1, h2⟩ := Reps.drop n t
      exact ⟨F', h1, h2.trans (List.sublist_append_right _ _)⟩
theorem Reps.take : ∀ (n : Nat) {vs : List V} {ds : List D} {F : List Addr}, Reps K fa H A vs ds F → ∃ F', Reps K fa H A (vs.take n) (ds.take n) F' ∧ F'.Sublist F
  | 0, _, _, F, r => ⟨[], .nil, List.nil_sublist _⟩
  | n + 1, _, [], _, r => by cases r; exact ⟨[], .nil, List.Sublist.refl _⟩
  | n + 1, _, _ :: _, _, r => by
    cases r with
    | cons r t =>
      obtain ⟨F', h1, h2⟩ := Reps.take n t
      exact ⟨_, .cons r h1, List.Sublist.append (List.Sublist.refl _) h2⟩
theorem fromI_eq (n : Nat) (o : Option Int) : fromI n o = HT.sIx n 0 o := by cases o <;> rfl
theorem toI_eq (n : Nat) (o : Option Int) : toI n o = HT.sIx n n o := by cases o <;> rfl
theorem Reps.cutted {vs : List V} {ds : List D} {F : List Addr} (r : Reps K fa H A vs ds F) (lo hi : Option Int) : ∃ F', Reps K fa H A (cutV vs lo hi) (cutL ds lo hi) F' ∧ F'.Sublist F := by
  unfold cutV cutL
  rw [fromI_eq, toI_eq, r.length]
  obtain ⟨F1, h1, s1⟩ := r.drop (HT.sIx ds.length 0 lo)
  obtain ⟨F2, h2, s2⟩ := h1.take (HT.sIx ds.length ds.length hi - HT.sIx ds.length 0 lo)
  exact ⟨F2, h2, s2.trans s1⟩
theorem okS_sub {s t : List Nat} (h : okS s = true) (hl : t.length ≤ s.length) (hm : ∀ c ∈ t, c ∈ s) : okS t = true := by
  unfold okS at *
  simp only [Bool.and_eq_true, decide_eq_true_eq, List.all_eq_true] at *
  exact ⟨Nat.le_trans hl h.1, fun c hc => h.2 c (hm c hc)⟩
theorem cutL_len {α : Type} (l : List α) (lo hi : Option Int) : (cutL l lo hi).length ≤ l.length := by
  unfold cutL
  rw [List.length_take, List.length_drop]; omega
theorem cutS_eq (s : List Nat) (lo hi : Option Int) : cutS (toS s) lo hi = toS (cutL s lo hi) := by
  unfold cutS cutL
  rw [fromI_eq, toI_eq, toS_list, toS_length]
  rfl
theorem cutD_ok {μ : Store} {x z : D} {v : V} {F : List Addr} {lo hi : Option Int} {Q : VK} (g : Good K fa A0 H0 μ x v H1 A1 F) (e : cutD μ x lo hi = some z) (q : Pst K fa W A0 H0 σ (.ok z μ) Q) :
    rSlL K v lo hi H1 Q ∨ rSlA K v lo hi H1 Q ∨ rSlS v lo hi H1 Q := by
  cases x with
  | str s =>
    cases e
    have st := g.stp; have m := g.mem
    cases g.rep with
    | str _ h =>
      refine .inr (.inr ⟨_, rfl, by rw [toS_length]; exact okS_len h, ?_⟩)
      rw [cutS_eq]
      refine q.done st m (.str _ (okS_sub h (cutL_len ..) fun c hc => ?_))
      exact List.mem_of_mem_drop (List.mem_of_mem_take hc)
  | tup l =>
    cases e
    have g' := g
    cases g.rep with
    | @tup a vs _ _ hs r =>
      refine .inr (.inl ⟨a, vs, rfl, hs, fun hw => ?_, fun _ p hp => ?_⟩)
      · have e : cutL l lo hi = l := by
          unfold cutL
          rw [fromI_eq, toI_eq]
          rw [r.length] at hw
          rw [hw.1, hw.2]; simp
        rw [e] at q
        exact q _ _ _ _ g'
      · obtain ⟨F', h1, h2⟩ := r.cutted lo hi
        exact q _ _ _ _ (g'.copyT h1 h2 hp)
  | tl l =>
    cases e
    have g' := g
    cases g.rep with
    | @tl a vs _ _ hs r =>
      refine .inl ⟨a, vs, rfl, .inl (.of hs), fun p hp => ?_⟩
      obtain ⟨F', h1, h2⟩ := r.cutted lo hi
      exact q _ _ _ _ (g'.copyL h1 (h2.trans (List.sublist_append_left _ _)) hp)
  | fz l =>
    cases e
    have g' := g
    cases g.rep with
    | @fz a vs _ hs _ r =>
      refine .inl ⟨a, vs, rfl, hs, fun p hp => ?_⟩
      obtain ⟨F', h1, h2⟩ := r.cutted lo hi
      exact q _ _ _ _ (g'.copyL h1 h2 hp)
  | ref n =>
    simp only [cutD, Option.map_eq_some_iff] at e
    obtain ⟨l, e1, rfl⟩ := e
    have g' := g
    cases g.rep with
    | ref hs =>
      obtain ⟨vs, hv, r⟩ := Rep.getL g.mem hs e1
      refine .inl ⟨_, vs, rfl, .inl (.of hv), fun p hp => ?_⟩
      obtain ⟨F', h1, h2⟩ := r.cutted lo hi
      exact q _ _ _ _ (g'.copyL h1 h2 hp)
  | _ => cases e
end
section
variable {X : Cx} {fa : FA} {W : WX} {G : String → Option D} {call : String → List D → Store → Rs D} {k : Nat} {fs : FS}
theorem sl_all : SlR X (fun x lo hi H Q => rSlL X.K x lo hi H Q ∨ (rSlA X.K x lo hi H Q ∨ rSlS x lo hi H Q)) := SlR.or sl_list (SlR.or sl_tupA sl_str)
theorem pe_sl1D {a i : C} {a' i' : Expr} {p2 pos : Pos} (ha : PE X a' (tD X.K fa W G call a)) (hb : PE X i' (tD X.K fa W G call i)) : PE X (.Subscript a' (.Slice (some i') none none p2) pos) (tD X.K fa W G call (.sl1 a i)) := by
  refine PE.imp (pe_slice sl_all ha (po_some hb) po_none) fun σ H Q ⟨A, ρ, μ, m, re, p⟩ => ?_
  refine tD_mono (two_ok (f := fun x y μ => Rs.of (sl1D μ x y) μ) m re p) fun v H1 h => tD_mono h fun w H2 ⟨x, y, A2, μ2, F1, F2, t, p2⟩ => ?_
  obtain ⟨z, e1, p3⟩ := Pst.of p2
  have g := t.fst
  cases y with
  | int i =>
    cases t.two
    exact ⟨i, rfl, cutD_ok g e1 p3⟩
  | _ => cases e1
theorem pe_sl2D {a i : C} {a' i' : Expr} {p2 pos : Pos} (ha : PE X a' (tD X.K fa W G call a)) (hb : PE X i' (tD X.K fa W G call i)) : PE X (.Subscript a' (.Slice none (some i') none p2) pos) (tD X.K fa W G call (.sl2 a i)) := by
  refine PE.imp (pe_slice sl_all ha po_none (po_some hb)) fun σ H Q ⟨A, ρ, μ, m, re, p⟩ => ?_
  refine tD_mono (two_ok (f := fun x y μ => Rs.of (sl2D μ x y) μ) m re p) fun v H1 h => tD_mono h fun w H2 ⟨x, y, A2, μ2, F1, F2, t, p2⟩ => ?_
  obtain ⟨z, e1, p3⟩ := Pst.of p2
  have g := t.fst
  cases y with
  | int i =>
    cases t.two
    exact ⟨i, rfl, cutD_ok g e1 p3⟩
  | _ => cases e1
theorem pe_sl3D {a i j : C} {a' i' j' : Expr} {p2 pos : Pos} (ha : PE X a' (tD X.K fa W G call a)) (hb : PE X i' (tD X.K fa W G call i)) (hj : PE X j' (tD X.K fa W G call j)) : PE X (.Subscript a' (.Slice (some i') (some j') none p2) pos) (tD X.K fa W G call (.sl3 a i j)) := by
  refine PE.imp (pe_slice sl_all ha (po_some hb) (po_some hj)) fun σ H Q ⟨A, ρ, μ, m, re, p⟩ => ?_
  refine ⟨A, ρ, μ, m, re, Pst.mono (Pst.bnd .refl p) fun v H1 ⟨A1, x, μ1, F1, g1, p1⟩ => ?_⟩
  have re1 := re.step g1.stp
  refine ⟨A1, ρ, μ1, g1.mem, re1, Pst.mono (Pst.bnd g1.stp p1) fun w H2 ⟨A2, y, μ2, F2, g2, p2⟩ => ?_⟩
  have re2 := re1.step g2.stp
  cases y with
  | int i =>
    have r2 := g2.rep
    cases r2
    refine ⟨i, rfl, A2, ρ, μ2, g2.mem, re2, Pst.mono (Pst.bnd (g1.stp.trans g2.stp) p2) fun u H3 ⟨A3, z, μ3, F3, g3, p3⟩ => ?_⟩
    cases z with
    | int j =>
      have r3 := g3.rep
      cases r3
      obtain ⟨z, e1, p4⟩ := Pst.of p3
      exact ⟨j, rfl, cutD_ok (g1.later (g2.stp.trans g3.stp) g3.mem) e1 p4⟩
    | _ => exact p3.elim
  | _ => exact p2.elim
/-! ### join -/
theorem toS_empty : toS [] = Str.empty := rfl
theorem join_toS0 (a : List Nat) : ∀ ys : List (List Nat), Str.join (toS a) (ys.map toS) = toS (joinL a ys)
  | [] => rfl
  | [x] => rfl
  | x :: y :: r => by
    have ih := join_toS0 a (y :: r)
    show toS x ++ toS a ++ Str.join (toS a) ((y :: r).map toS) = _
    rw [ih, toS_append, toS_append]
    rfl
theorem join_toS (a : List Nat) (ys : List (List Nat)) : Txt.join (toS a) (ys.map toS) = toS (joinL a ys) := by
  show Builtin.Str.glued (toS a) (ys.map toS) = _
  rw [StrLaws.glued_eq_join]
  exact join_toS0 a ys
theorem Reps.strs : ∀ {vs : List V} {ds : List D} {F : List Addr} {ys : List (List Nat)}, Reps X.K fa H A vs ds F → strsOf ds = some ys → vs = ys.map (fun s => V.str (toS s)) ∧ ∀ y ∈ ys, okS y = true
  | _, [], _, _, r, e => by cases r; cases e; exact ⟨rfl, by simp⟩
  | _, d :: ds, _, ys, r, e => by
    cases d with
    | str s =>
      simp only [strsOf, Option.map_eq_some_iff] at e
      obtain ⟨r', h1, rfl⟩ := e
      cases r with
      | cons q t =>
        cases q with
        | str _ hs =>
          obtain ⟨h2, h3⟩ := Reps.strs t h1
          exact ⟨by rw [h2]; rfl, fun y hy => by
            rcases List.mem_cons.mp hy with rfl | hy
            · exact hs
            · exact h3 y hy⟩
    | _ => simp [strsOf] at e
theorem joinL_mem (a : List Nat) : ∀ (ys : List (List Nat)) (c : Nat), c ∈ joinL a ys → c ∈ a ∨ ∃ y ∈ ys, c ∈ y
  | [], c, h => by simp [joinL] at h
  | [x], c, h => .inr ⟨x, by simp, h⟩
  | x :: y :: r, c, h => by
    simp only [joinL, List.mem_append] at h
    rcases h with (h | h) | h
    · exact .inr ⟨x, by simp, h⟩
    · exact .inl h
    · rcases joinL_mem a (y :: r) c h with h | ⟨z, hz, hc⟩
      · exact .inl h
      · exact .inr ⟨z, List.mem_cons_of_mem _ hz, hc⟩
theorem joinL_len (a : List Nat) : ∀ ys : List (List Nat), (joinL a ys).length ≤ (ys.map List.length).sum + ys.length * a.length
  | [] => by simp [joinL]
  | [x] => by simp [joinL]
  | x :: y :: r => by
    have ih := joinL_len a (y :: r)
    simp only [joinL, List.length_append, List.map_cons, List.sum_cons, List.length_cons, Nat.add_mul, Nat.one_mul] at *
    omega
theorem okS_join {a : List Nat} {ys : List (List Nat)} (ha : okS a = true) (hy : ∀ y ∈ ys, okS y = true) (hl : (ys.map List.length).sum + ys.length * a.length ≤ LIM) : okS (joinL a ys) = true := by
  have hl2 := joinL_len a ys
  have code : ∀ s, okS s = true → ∀ c ∈ s, c < 1114112 := fun s hs c hc => by
    unfold okS at hs
    simp only [Bool.and_eq_true, decide_eq_true_eq, List.all_eq_true] at hs
    exact hs.2 c hc
  unfold okS
  simp only [Bool.and_eq_true, decide_eq_true_eq, List.all_eq_true]
  refine ⟨by omega, fun c hc => ?_⟩
  rcases joinL_mem a ys c hc with h | ⟨y, h1, h2⟩
  · exact code a ha c h
  · exact code y (hy y h1) c h2
theorem seqT_ok {μ : Store} {d : D} {l : List D} {v : V} {F : List Addr} {A0 A1 : List Addr} {H0 H1 : Hp} (g : Good X.K fa A0 H0 μ d v H1 A1 F) (e : seqT μ d = some l) : ∃ a ws F1, v = .ref a ∧ (SqL X.K H1 a ws ∨ SqT X.K H1 a ws) ∧ Reps X.K fa H1 A1 ws l F1 := by
  cases d with
  | tup l' =>
    cases e
    cases g.rep with
    | tup hs r => exact ⟨_, _, _, rfl, .inr hs, r⟩
  | tl l' =>
    cases e
    cases g.rep with
    | tl hs r => exact ⟨_, _, _, rfl, .inl (.inl (.of hs)), r⟩
  | fz l' =>
    cases e
    cases g.rep with
    | fz hs _ r => exact ⟨_, _, _, rfl, .inl hs, r⟩
  | ref n =>
    cases g.rep with
    | ref hs =>
      obtain ⟨ws, hv, r⟩ := Rep.getL g.mem hs e
      exact ⟨_, _, _, rfl, .inl (.inl (.of hv)), r⟩
  | _ => simp [seqT, seqL] at e
theorem recvT_base {e : Expr} {f : Str} {env : PySem.Env} (h : recvT e = true) : attributeBase e f env (eval e env) = eval e env := recv_base h
theorem pe_joinD {o c : C} {o' e : Expr} {m : Str} {p q : Pos} (hm : m = ("join" : Str)) (hr : recvT o' = true) (hl : (p.endLine == q.line) = true) (hs : starB e = true) (ho : PE X o' (tD X.K fa W G call o)) (ha : PE X e (tD X.K fa W G call c)) :
    PE X (.Call (.Attribute o' m p) [e] [] q) (tD X.K fa W G call (.meth .join o (.cons c .nil))) := by
  subst hm
  refine PE.imp (pe_join ho ha (star_cons hs) (recvT_base hr) hl) fun σ H Q ⟨A, ρ, μ, m, re, p⟩ => ?_
  refine ⟨A, ρ, μ, m, re, Pst.mono (Pst.bnd .refl p) fun v H1 ⟨A1, d, μ1, F, g, p1⟩ => ?_⟩
  split at p1
  · rename_i hrec
    cases d with
    | str a =>
      have r1 := g.rep
      cases r1 with
      | str _ hsa =>
        simp only [evs] at p1
        refine ⟨⟨_, rfl⟩, A1, ρ, μ1, g.mem, re.step g.stp, ?_⟩
        cases hr2 : ev G call c ρ μ1 with
        | no => rw [hr2] at p1; exact p1.elim
        | ex e' μ' => rw [hr2] at p1; exact fun cls dd H' A' s m x => p1 cls dd H' A' (g.stp.trans s) m x
        | ok y μ2 =>
          rw [hr2] at p1
          simp only [Rs.bnd_ok] at p1
          intro w H2 A2 F2 g2
          cases e1 : methop μ2 .join (.str a) [y] with
          | none => rw [e1] at p1; exact p1.elim
          | some r =>
            obtain ⟨z, μ'⟩ := r
            rw [e1] at p1
            simp only [methop, Option.bind_eq_some_iff] at e1
            obtain ⟨ys, ⟨l, e2, e3⟩, e4⟩ := e1
            split at e4
            · rename_i hlim
              cases e4
              obtain ⟨b, ws, F1, rfl, hsq, rr⟩ := seqT_ok g2 e2
              obtain ⟨rfl, hok⟩ := Reps.strs rr e3
              have hml : ((ys.map toS).map (·.length)).sum = (ys.map List.length).sum := by
                rw [List.map_map]
                exact congrArg List.sum (List.map_congr_left fun y _ => toS_length y)
              refine ⟨toS a, b, ys.map toS, rfl, rfl, ?_, by rw [hml, List.length_map, toS_length]; exact hlim, ?_⟩
              · rw [List.map_map]; exact hsq
              · rw [join_toS]
                exact Pst.done (g.stp.trans g2.stp) g2.mem (.str _ (okS_join hsa hok hlim)) p1
            · cases e4
    | _ => simp [recvOk] at hrec
  · exact p1.elim
/-! ### ranges downwards -/
theorem src_rngd {K : PySem.W.Frag} {A : List Addr} {H : Hp} {i j : Int} : Src K fa (Itc i (-1) (i - j).toNat) (.tl (rngD i j)) (rngD i j) [] A H := by
  refine ⟨by simp, fun _ _ => True, trivial, fun _ _ _ _ _ _ => trivial, fun A H μ _ m _ n => ⟨fun d hd => ?_, fun hn => ?_⟩⟩
  · unfold rngD at hd
    rw [List.getElem?_map, Option.map_eq_some_iff] at hd
    obtain ⟨k, hk, rfl⟩ := hd
    obtain ⟨hk1, hk2⟩ := List.getElem?_eq_some_iff.mp hk
    rw [List.getElem_range] at hk2
    subst hk2
    refine ⟨show n < (i - j).toNat by simpa using hk1, fun x H' y => ?_⟩
    obtain ⟨rfl, rfl⟩ := y
    refine ⟨.refl, m, ?_⟩
    have e : i + (n : Int) * -1 = i - n := by omega
    rw [e]
    exact .int _
  · unfold rngD at hn
    exact show (i - j).toNat ≤ n by simpa using hn
theorem still_rngd {μ : Store} {i j : Int} : allocs (rngD i j) μ = (rngD i j, μ) := by
  have h : ∀ l : List Nat, allocs (l.map fun (k : Nat) => D.int (i - k)) μ = (l.map fun (k : Nat) => D.int (i - k), μ) := by
    intro l
    induction l with
    | nil => rfl
    | cons a l ih => simp only [List.map_cons, allocs, alloc, ih]
  exact h _
theorem pi_rngdD (hC : Cn X G call k fa fs W) {a b : C} {tg e e2 : Expr} {x : Str} {kk : Nat} {p pos q1 q2 : Pos} (hx : x = ("range" : Str)) (hg : glB X.env.scope x = true) (hs : starB e = true) (hs2 : starB e2 = true) (ha : PE X e (tD X.K fa W G call a)) (hb : PE X e2 (tD X.K fa W G call b)) :
    PI X tg (.Call (.Name x p) [e, e2, .UnaryOp .USub (.Constant (.int 1) kk q1) q2] [] pos) (tI G call X.K fa W (.rngd a b)) := by
  subst hx
  have pl : PE X (.Constant (.int 1) kk q1) (tD X.K fa W G call (.lit (.int 1))) := pe_lit (N := X.N) (fs := fs) (sc := X.env.scope) (by simp [mE])
  have pn := pe_negD (pos := q2) pl
  refine ⟨fun pins s σ H R I q => (pi_range3 (tg := tg) (glB_ok hg) (hC.blt "range" (by decide)) (pa_cons ha (pa_cons hb (pa_cons pn pa_nil (by rfl)) (star_cons hs2)) (star_cons hs)) (star_cons hs) (by rw [star_cons hs2]; rfl)).run pins s σ H R I ?_⟩
  obtain ⟨A, ρ, μ, m, re, p⟩ := q
  cases hr : ev G call a ρ μ with
  | no => simp only [ev, hr] at p; exact p.elim
  | ex e μ' =>
    simp only [ev, hr] at p
    refine ⟨A, ρ, μ, m, re, ?_⟩
    rw [hr]; exact p
  | ok d μ1 =>
    simp only [ev, hr, Rs.bnd_ok] at p
    refine ⟨A, ρ, μ, m, re, ?_⟩
    rw [hr]
    intro v H1 A1 F g
    refine ⟨A1, ρ, μ1, g.mem, re.step g.stp, ?_⟩
    cases hr2 : ev G call b ρ μ1 with
    | no => simp only [hr2] at p; exact p.elim
    | ex e μ' => simp only [hr2] at p; exact fun cls dd H' A' s m x => p cls dd H' A' (g.stp.trans s) m x
    | ok d2 μ2 =>
      simp only [hr2, Rs.bnd_ok] at p
      intro w H2 A2 F2 g2
      have mm := g2.mem; have st := g.stp.trans g2.stp
      cases d with
      | int i =>
        cases d2 with
        | int j =>
          simp only at p
          split at p
          · rename_i hj
            cases g.rep
            cases g2.rep
            obtain ⟨xs, hx, p⟩ := p
            have hset : settle (.tl (rngD i j)) μ2 = (.tl (rngD i j), μ2) := by simp only [settle, still_rngd]
            rw [hset] at hx p
            cases hx
            refine ⟨A2, ρ, μ2, mm, (re.step g.stp).step g2.stp, ?_⟩
            simp only [ev, Rs.bnd_ok]
            intro u H3 A3 F3 g3
            cases g3.rep
            exact ⟨i, j, -1, _, rfl, RgC.neg hj.1.1 hj.1.2 hj.2.1 hj.2.2, p H3 A3 _ [] (st.trans g3.stp) g3.mem src_rngd (by simp)⟩
          · exact p.elim
        | _ => exact p.elim
      | _ => exact p.elim
end
end Mp
end SSnd11b
section SStep
/-! Step: the interpreter's rules, one by one; what comes behind a part has a name, so that simp goes from the left. -/
namespace Mp
section
variable {G : String → Option D} {call : String → List D → Store → Rs D}
variable {ρ : Env} {μ : Store}

def kBinR (op : BinK) (x y : D) (μ : Store) : Rs D := Rs.of (binop μ op x y) μ
def kBinL (G : String → Option D) (call : String → List D → Store → Rs D) (op : BinK) (b : C) (ρ : Env) (x : D) (μ : Store) : Rs D := (ev G call b ρ μ).bnd (kBinR op x)
def kNeg (x : D) (μ : Store) : Rs D := match x with
  | .int i => .ok (.int (-i)) μ
  | _ => .no
def kNt (x : D) (μ : Store) : Rs D := Rs.of ((truth μ x).map fun b => .bl (!b)) μ
def kIte (G : String → Option D) (call : String → List D → Store → Rs D) (a b : C) (ρ : Env) (x : D) (μ : Store) : Rs D := match truth μ x with
  | some true => ev G call a ρ μ
  | some false => ev G call b ρ μ
  | none => .no
def kCmpR (op : CmpK) (x y : D) (μ : Store) : Rs D := Rs.of ((cmpop μ op x y).map .bl) μ
def kCmpL (G : String → Option D) (call : String → List D → Store → Rs D) (op : CmpK) (b : C) (ρ : Env) (x : D) (μ : Store) : Rs D := (ev G call b ρ μ).bnd (kCmpR op x)
def kCmp2R (G : String → Option D) (call : String → List D → Store → Rs D) (op op' : CmpK) (c : C) (ρ : Env) (x y : D) (μ : Store) : Rs D := match cmpop μ op x y with
  | some true => (ev G call c ρ μ).bnd (kCmpR op' y)
  | some false => .ok (.bl false) μ
  | none => .no
def kCmp2L (G : String → Option D) (call : String → List D → Store → Rs D) (op op' : CmpK) (b c : C) (ρ : Env) (x : D) (μ : Store) : Rs D := (ev G call b ρ μ).bnd (kCmp2R G call op op' c ρ x)
def kBlt (f : Blt) (ds : List D) (μ : Store) : Rs D := Rs.of (bltin μ f ds) μ
def kIsi (k : Cls) (x : D) (μ : Store) : Rs D := Rs.of ((isOf μ k x).map .bl) μ
def kMethR (m : Mth) (x : D) (ds : List D) (μ : Store) : Rs D := match methop μ m x ds with
  | some (d, μ') => .ok d μ'
  | none => .no
def kMethL (G : String → Option D) (call : String → List D → Store → Rs D) (m : Mth) (l : Cs) (ρ : Env) (x : D) (μ : Store) : Rs D := if recvOk μ m x = true then (evs G call l ρ μ).bnd (kMethR m x) else .no
def kTup (ds : List D) (μ : Store) : Rs D := .ok (.tup ds) μ
def kLst (ds : List D) (μ : Store) : Rs D := .ok (.tl ds) μ
def kIxR (x y : D) (μ : Store) : Rs D := Rs.of (getIx μ x y) μ
def kIxL (G : String → Option D) (call : String → List D → Store → Rs D) (i : C) (ρ : Env) (x : D) (μ : Store) : Rs D := (ev G call i ρ μ).bnd (kIxR x)
def kLcD (d : D) (μ : Store) : Rs (Option D) := .ok (some d) μ
def kLcI (G : String → Option D) (call : String → List D → Store → Rs D) (e : C) (ρ : Env) (b : Bool) (μ : Store) : Rs (Option D) := if b = true then (ev G call e ρ μ).bnd kLcD else .ok none μ
/-- a turn of a comprehension -/
def lcT (G : String → Option D) (call : String → List D → Store → Rs D) (e : C) (tg : Tg) (own : List (String × Nat)) (ifs : Cs) (ρ : Env) (x : D) (μ : Store) : Rs (Option D) := match bindT tg x (wipeE ρ own) μ with
  | some (ρ', μ) => (evIfs G call ifs ρ' μ).bnd (kLcI G call e ρ')
  | none => .no
def kLc (G : String → Option D) (call : String → List D → Store → Rs D) (e : C) (tg : Tg) (own : List (String × Nat)) (ifs : Cs) (ρ : Env) (s : D) (μ : Store) : Rs D := match items (settle s μ).2 (settle s μ).1 with
  | some xs => lcGo (settle s μ).1 xs (lcT G call e tg own ifs ρ) xs (settle s μ).2 []
  | none => .no
def kRng1 (x : D) (μ : Store) : Rs D := match x with
    | .int j => if -(2 ^ 62) ≤ j ∧ j < 2 ^ 62 then .ok (.tl (rngL 0 j)) μ else .no
    | _ => .no
def kRng2R (x y : D) (μ : Store) : Rs D := match x, y with
    | .int i, .int j => if (-(2 ^ 62) ≤ i ∧ i < 2 ^ 62) ∧ -(2 ^ 62) ≤ j ∧ j < 2 ^ 62 then .ok (.tl (rngL i j)) μ else .no
    | _, _ => .no
def kRng2L (G : String → Option D) (call : String → List D → Store → Rs D) (b : C) (ρ : Env) (x : D) (μ : Store) : Rs D := (ev G call b ρ μ).bnd (kRng2R x)
def kLrng (t : Bool) (x : D) (μ : Store) : Rs D := match x with
    | .int j => if 0 ≤ j ∧ j ≤ LIM then .ok (if t = true then .tup (rngL 0 j) else .tl (rngL 0 j)) μ else .no
    | _ => .no
def kConsR (d : D) (ds : List D) (μ : Store) : Rs (List D) := .ok (d :: ds) μ
def kConsL (G : String → Option D) (call : String → List D → Store → Rs D) (r : Cs) (ρ : Env) (d : D) (μ : Store) : Rs (List D) := (evs G call r ρ μ).bnd (kConsR d)
def kAnd (G : String → Option D) (call : String → List D → Store → Rs D) (r : Cs) (ρ : Env) (x : D) (μ : Store) : Rs D := match truth μ x with
      | some true => evAnd G call r ρ μ
      | some false => .ok x μ
      | none => .no
def kOr (G : String → Option D) (call : String → List D → Store → Rs D) (r : Cs) (ρ : Env) (x : D) (μ : Store) : Rs D := match truth μ x with
      | some true => .ok x μ
      | some false => evOr G call r ρ μ
      | none => .no
def kIfs (G : String → Option D) (call : String → List D → Store → Rs D) (r : Cs) (ρ : Env) (x : D) (μ : Store) : Rs Bool := match truth μ x with
    | some true => evIfs G call r ρ μ
    | some false => .ok false μ
    | none => .no

theorem ev_lit {d : D} : ev G call (.lit d) ρ μ = .ok d μ := (rfl)
theorem ev_var {i : Nat} {d : D} (h : ρ[i]? = some (some d)) (hx : d.isX = false) : ev G call (.var i) ρ μ = .ok d μ := by simp only [ev, h, hx]; rfl
theorem ev_glo {x : String} : ev G call (.glo x) ρ μ = Rs.of (G x) μ := (rfl)
theorem ev_bin {op : BinK} {a b : C} : ev G call (.bin op a b) ρ μ = (ev G call a ρ μ).bnd (kBinL G call op b ρ) := (rfl)
theorem ev_neg {a : C} : ev G call (.neg a) ρ μ = (ev G call a ρ μ).bnd kNeg := (rfl)
theorem ev_nt {a : C} : ev G call (.nt a) ρ μ = (ev G call a ρ μ).bnd kNt := (rfl)
theorem ev_band {l : Cs} : ev G call (.band l) ρ μ = evAnd G call l ρ μ := (rfl)
theorem ev_bor {l : Cs} : ev G call (.bor l) ρ μ = evOr G call l ρ μ := (rfl)
theorem ev_ite {t a b : C} : ev G call (.ite t a b) ρ μ = (ev G call t ρ μ).bnd (kIte G call a b ρ) := (rfl)
theorem ev_cmp {op : CmpK} {a b : C} : ev G call (.cmp op a b) ρ μ = (ev G call a ρ μ).bnd (kCmpL G call op b ρ) := (rfl)
theorem ev_cmp2 {op op' : CmpK} {a b c : C} : ev G call (.cmp2 op op' a b c) ρ μ = (ev G call a ρ μ).bnd (kCmp2L G call op op' b c ρ) := (rfl)
theorem ev_call {f : String} {l : Cs} : ev G call (.call f l) ρ μ = (evs G call l ρ μ).bnd (callA call f) := (rfl)
theorem ev_callv {i : Nat} {f : String} {l : Cs} (h : ρ[i]? = some (some (.fn f))) : ev G call (.callv i l) ρ μ = (evs G call l ρ μ).bnd (callA call f) := by
  simp only [ev, h]
theorem ev_blt {f : Blt} {l : Cs} : ev G call (.blt f l) ρ μ = (evs G call l ρ μ).bnd (kBlt f) := (rfl)
theorem ev_isi {a : C} {k : Cls} : ev G call (.isi a k) ρ μ = (ev G call a ρ μ).bnd (kIsi k) := (rfl)
theorem ev_meth {m : Mth} {o : C} {l : Cs} : ev G call (.meth m o l) ρ μ = (ev G call o ρ μ).bnd (kMethL G call m l ρ) := (rfl)
theorem ev_tup {l : Cs} : ev G call (.tup l) ρ μ = (evs G call l ρ μ).bnd kTup := (rfl)
theorem ev_lst {l : Cs} : ev G call (.lst l) ρ μ = (evs G call l ρ μ).bnd kLst := (rfl)
theorem ev_ix {a i : C} : ev G call (.ix a i) ρ μ = (ev G call a ρ μ).bnd (kIxL G call i ρ) := (rfl)
theorem ev_lc {e it : C} {tg : Tg} {own : List (String × Nat)} {ifs : Cs} : ev G call (.lc e tg own it ifs) ρ μ = (ev G call it ρ μ).bnd (kLc G call e tg own ifs ρ) := (rfl)
theorem ev_rng1 {a : C} : ev G call (.rng1 a) ρ μ = (ev G call a ρ μ).bnd kRng1 := (rfl)
theorem ev_rng2 {a b : C} : ev G call (.rng2 a b) ρ μ = (ev G call a ρ μ).bnd (kRng2L G call b ρ) := (rfl)
theorem ev_lrng {t : Bool} {a : C} : ev G call (.lrng t a) ρ μ = (ev G call a ρ μ).bnd (kLrng t) := (rfl)
theorem callA_still {f : String} {ds : List D} (h : D.stills ds = true) : callA call f ds μ = call f ds μ := by unfold callA; exact if_pos h
theorem evs_nil : evs G call .nil ρ μ = .ok [] μ := (rfl)
theorem evs_cons {c : C} {r : Cs} : evs G call (.cons c r) ρ μ = (ev G call c ρ μ).bnd (kConsL G call r ρ) := (rfl)
theorem bnd_ok_id {α : Type} (r : Rs α) : r.bnd (fun x μ => .ok x μ) = r := by cases r <;> rfl
theorem evAnd_one {c : C} : evAnd G call (.cons c .nil) ρ μ = ev G call c ρ μ := bnd_ok_id _
theorem evAnd_cons {c c' : C} {r : Cs} : evAnd G call (.cons c (.cons c' r)) ρ μ = (ev G call c ρ μ).bnd (kAnd G call (.cons c' r) ρ) := (rfl)
theorem evOr_one {c : C} : evOr G call (.cons c .nil) ρ μ = ev G call c ρ μ := bnd_ok_id _
theorem evOr_cons {c c' : C} {r : Cs} : evOr G call (.cons c (.cons c' r)) ρ μ = (ev G call c ρ μ).bnd (kOr G call (.cons c' r) ρ) := (rfl)
theorem evIfs_nil : evIfs G call .nil ρ μ = .ok true μ := (rfl)
theorem evIfs_cons {c : C} {r : Cs} : evIfs G call (.cons c r) ρ μ = (ev G call c ρ μ).bnd (kIfs G call r ρ) := (rfl)

theorem kBinL_eq {op : BinK} {b : C} {x : D} : kBinL G call op b ρ x μ = (ev G call b ρ μ).bnd (kBinR op x) := (rfl)
theorem kBinR_eq {op : BinK} {x y : D} : kBinR op x y μ = Rs.of (binop μ op x y) μ := (rfl)
theorem kNeg_int {i : Int} : kNeg (.int i) μ = .ok (.int (-i)) μ := (rfl)
theorem kNt_eq {x : D} : kNt x μ = Rs.of ((truth μ x).map fun b => .bl (!b)) μ := (rfl)
theorem kIte_bl {a b : C} {c : Bool} : kIte G call a b ρ (.bl c) μ = if c = true then ev G call a ρ μ else ev G call b ρ μ := by cases c <;> rfl
theorem kCmpL_eq {op : CmpK} {b : C} {x : D} : kCmpL G call op b ρ x μ = (ev G call b ρ μ).bnd (kCmpR op x) := (rfl)
theorem kCmpR_eq {op : CmpK} {x y : D} : kCmpR op x y μ = Rs.of ((cmpop μ op x y).map .bl) μ := (rfl)
theorem kCmp2L_eq {op op' : CmpK} {b c : C} {x : D} : kCmp2L G call op op' b c ρ x μ = (ev G call b ρ μ).bnd (kCmp2R G call op op' c ρ x) := (rfl)
theorem kCmp2R_some {op op' : CmpK} {c : C} {x y : D} {b : Bool} (h : cmpop μ op x y = some b) : kCmp2R G call op op' c ρ x y μ = if b = true then (ev G call c ρ μ).bnd (kCmpR op' y) else .ok (.bl false) μ := by
  unfold kCmp2R; rw [h]; cases b <;> rfl
theorem kBlt_eq {f : Blt} {ds : List D} : kBlt f ds μ = Rs.of (bltin μ f ds) μ := (rfl)
theorem kIsi_eq {k : Cls} {x : D} : kIsi k x μ = Rs.of ((isOf μ k x).map .bl) μ := (rfl)
theorem kMethL_eq {m : Mth} {l : Cs} {x : D} : kMethL G call m l ρ x μ = if recvOk μ m x = true then (evs G call l ρ μ).bnd (kMethR m x) else .no := (rfl)
theorem kTup_eq {ds : List D} : kTup ds μ = .ok (.tup ds) μ := (rfl)
theorem kLst_eq {ds : List D} : kLst ds μ = .ok (.tl ds) μ := (rfl)
theorem kIxL_eq {i : C} {x : D} : kIxL G call i ρ x μ = (ev G call i ρ μ).bnd (kIxR x) := (rfl)
theorem kIxR_eq {x y : D} : kIxR x y μ = Rs.of (getIx μ x y) μ := (rfl)
theorem kLcD_eq {d : D} : kLcD d μ = .ok (some d) μ := (rfl)
theorem kLcI_eq {e : C} {b : Bool} : kLcI G call e ρ b μ = if b = true then (ev G call e ρ μ).bnd kLcD else .ok none μ := (rfl)
theorem lcT_v {e : C} {i : Nat} {own : List (String × Nat)} {ifs : Cs} {x : D} : lcT G call e (.v i) own ifs ρ x μ =
    (evIfs G call ifs ((wipeE ρ own).set i (some (alloc x μ).1)) (alloc x μ).2).bnd (kLcI G call e ((wipeE ρ own).set i (some (alloc x μ).1))) := (rfl)
theorem kLc_some {e : C} {tg : Tg} {own : List (String × Nat)} {ifs : Cs} {s : D} {xs : List D} (hs : settle s μ = (s, μ)) (h : items μ s = some xs) : kLc G call e tg own ifs ρ s μ = lcGo s xs (lcT G call e tg own ifs ρ) xs μ [] := by
  unfold kLc; rw [hs]; simp only [h]
theorem kRng1_int {j : Int} (h : -(2 ^ 62) ≤ j ∧ j < 2 ^ 62) : kRng1 (.int j) μ = .ok (.tl (rngL 0 j)) μ := by unfold kRng1; exact if_pos h
theorem kRng2L_eq {b : C} {x : D} : kRng2L G call b ρ x μ = (ev G call b ρ μ).bnd (kRng2R x) := (rfl)
theorem kRng2R_int {i j : Int} (h : (-(2 ^ 62) ≤ i ∧ i < 2 ^ 62) ∧ -(2 ^ 62) ≤ j ∧ j < 2 ^ 62) : kRng2R (.int i) (.int j) μ = .ok (.tl (rngL i j)) μ := by unfold kRng2R; exact if_pos h
theorem kConsL_eq {r : Cs} {d : D} : kConsL G call r ρ d μ = (evs G call r ρ μ).bnd (kConsR d) := (rfl)
theorem kConsR_eq {d : D} {ds : List D} : kConsR d ds μ = .ok (d :: ds) μ := (rfl)
theorem kAnd_bl {r : Cs} {c : Bool} : kAnd G call r ρ (.bl c) μ = if c = true then evAnd G call r ρ μ else .ok (.bl false) μ := by cases c <;> rfl
theorem kOr_bl {r : Cs} {c : Bool} : kOr G call r ρ (.bl c) μ = if c = true then .ok (.bl true) μ else evOr G call r ρ μ := by cases c <;> rfl
theorem kIfs_bl {r : Cs} {c : Bool} : kIfs G call r ρ (.bl c) μ = if c = true then evIfs G call r ρ μ else .ok false μ := by cases c <;> rfl

/-! statements -/
def kExpr (ρ : Env) (x : D) (μ : Store) : Ou := .nx ρ μ
def kSet (t : Tg) (ρ : Env) (d : D) (μ : Store) : Ou := match bindT t d ρ μ with
  | some (ρ', μ') => .nx ρ' μ'
  | none => .no
def kAug (i : Nat) (op : BinK) (ρ : Env) (x y : D) (μ : Store) : Ou := match augop op x y with
  | some z => match bindT (.v i) z ρ μ with
    | some (ρ', μ') => .nx ρ' μ'
    | none => .no
  | none => .no
def kSeti3 (ρ : Env) (d x y : D) (μ : Store) : Ou := match setIx (alloc d μ).2 x y (alloc d μ).1 with
    | some μ' => .nx ρ μ'
    | none => .no
def kSeti2 (G : String → Option D) (call : String → List D → Store → Rs D) (i : C) (ρ : Env) (d x : D) (μ : Store) : Ou := (ev G call i ρ μ).ou ρ (kSeti3 ρ d x)
def kSeti1 (G : String → Option D) (call : String → List D → Store → Rs D) (a i : C) (ρ : Env) (d : D) (μ : Store) : Ou := (ev G call a ρ μ).ou ρ (kSeti2 G call i ρ d)
def kRet (d : D) (μ : Store) : Ou := .rt d μ
def kIf (G : String → Option D) (call : String → List D → Store → Rs D) (a b : Ss) (ρ : Env) (x : D) (μ : Store) : Ou := match truth μ x with
    | some true => execs G call a ρ μ
    | some false => execs G call b ρ μ
    | none => .no
/-- a turn of a for -/
def forT (G : String → Option D) (call : String → List D → Store → Rs D) (t : Tg) (b : Ss) (x : D) (ρ : Env) (μ : Store) : Ou := match bindT t x ρ μ with
      | some (ρ', μ') => execs G call b ρ' μ'
      | none => .no
def kFor (G : String → Option D) (call : String → List D → Store → Rs D) (t : Tg) (b : Ss) (ρ : Env) (s : D) (μ : Store) : Ou := match items (settle s μ).2 (settle s μ).1 with
    | some xs => forGo (settle s μ).1 xs (forT G call t b) xs ρ (settle s μ).2
    | none => .no
def kRest (G : String → Option D) (call : String → List D → Store → Rs D) (r : Ss) (ρ : Env) (μ : Store) : Ou := execs G call r ρ μ
/-- while: what a turn's test and body lead to -/
def kWhB (o : Ou) : Ou := match o with
          | .nx ρ' μ' => .nx ρ' μ'
          | .ct ρ' μ' => .nx ρ' μ'
          | .br ρ' μ' => .br ρ' μ'
          | .rt d μ' => .rt d μ'
          | .ex e ρ' μ' => .ex e ρ' μ'
          | .no => .no
def kWhT (G : String → Option D) (call : String → List D → Store → Rs D) (b : Ss) (ρ : Env) (x : D) (μ : Store) : Ou := match truth μ x with
        | some true => kWhB (execs G call b ρ μ)
        | some false => .br ρ μ
        | none => .no
def whS (o : Ou) : Option (Sum (Env × Store) Ou) := match o with
      | .nx ρ' μ' => some (.inl (ρ', μ'))
      | .br ρ' μ' => some (.inr (.nx ρ' μ'))
      | .rt d μ' => some (.inr (.rt d μ'))
      | .ex e ρ' μ' => some (.inr (.ex e ρ' μ'))
      | .ct _ _ => none
      | .no => none
def whO (o : Option Ou) : Ou := match o with
    | some o => o
    | none => .no
def whGo (G : String → Option D) (call : String → List D → Store → Rs D) (c : C) (b : Ss) (p : Env × Store) : Option Ou :=
  whileM (fun (p : Env × Store) => whS ((ev G call c p.1 p.2).ou p.1 (kWhT G call b p.1))) p

theorem execs_nil : execs G call .nil ρ μ = .nx ρ μ := (rfl)
theorem execs_cons {s : S} {r : Ss} : execs G call (.cons s r) ρ μ = (exec G call s ρ μ).seq (kRest G call r) := (rfl)
theorem kRest_eq {r : Ss} : kRest G call r ρ μ = execs G call r ρ μ := (rfl)
theorem exec_expr {e : C} : exec G call (.expr e) ρ μ = (ev G call e ρ μ).ou ρ (kExpr ρ) := (rfl)
theorem exec_set {t : Tg} {e : C} : exec G call (.set t e) ρ μ = (ev G call e ρ μ).ou ρ (kSet t ρ) := (rfl)
theorem exec_aug {i : Nat} {op : BinK} {e : C} {x : D} (h : ρ[i]? = some (some x)) : exec G call (.aug i op e) ρ μ = (ev G call e ρ μ).ou ρ (kAug i op ρ x) := by
  simp only [exec, h]; rfl
theorem exec_seti {a i e : C} : exec G call (.seti a i e) ρ μ = (ev G call e ρ μ).ou ρ (kSeti1 G call a i ρ) := (rfl)
theorem exec_ret {e : C} : exec G call (.ret e) ρ μ = (ev G call e ρ μ).ou ρ kRet := (rfl)
theorem exec_ite {c : C} {a b : Ss} : exec G call (.ite c a b) ρ μ = (ev G call c ρ μ).ou ρ (kIf G call a b ρ) := (rfl)
theorem exec_wh {c : C} {b : Ss} : exec G call (.wh c b) ρ μ = whO (whGo G call c b (ρ, μ)) := (rfl)
theorem exec_for {t : Tg} {it : C} {b : Ss} : exec G call (.for_ t it b) ρ μ = (ev G call it ρ μ).ou ρ (kFor G call t b ρ) := (rfl)
theorem exec_brk : exec G call .brk ρ μ = .br ρ μ := (rfl)
theorem exec_cont : exec G call .cont ρ μ = .ct ρ μ := (rfl)
theorem exec_pass : exec G call .pass ρ μ = .nx ρ μ := (rfl)
theorem kExpr_eq {x : D} : kExpr ρ x μ = .nx ρ μ := (rfl)
theorem kSet_v {i : Nat} {d : D} : kSet (.v i) ρ d μ = .nx (ρ.set i (some (alloc d μ).1)) (alloc d μ).2 := (rfl)
theorem kSet_t {l : List Tg} {ds : List D} : kSet (.t l) ρ (.tup ds) μ = match bindTs l ds ρ μ with
  | some (ρ', μ') => .nx ρ' μ'
  | none => .no := (rfl)
theorem bindT_v {i : Nat} {d : D} : bindT (.v i) d ρ μ = some (ρ.set i (some (alloc d μ).1), (alloc d μ).2) := (rfl)
theorem bindT_t {l : List Tg} {ds : List D} : bindT (.t l) (.tup ds) ρ μ = bindTs l ds ρ μ := (rfl)
theorem bindTs_nil : bindTs [] [] ρ μ = some (ρ, μ) := (rfl)
theorem bindTs_cons {t : Tg} {ts : List Tg} {d : D} {ds : List D} : bindTs (t :: ts) (d :: ds) ρ μ = (bindT t d ρ μ).bind fun p => bindTs ts ds p.1 p.2 := (rfl)
theorem kAug_eq {i : Nat} {op : BinK} {x y z : D} (h : augop op x y = some z) : kAug i op ρ x y μ = .nx (ρ.set i (some (alloc z μ).1)) (alloc z μ).2 := by
  unfold kAug; rw [h]; rfl
theorem kSeti1_eq {a i : C} {d : D} : kSeti1 G call a i ρ d μ = (ev G call a ρ μ).ou ρ (kSeti2 G call i ρ d) := (rfl)
theorem kSeti2_eq {i : C} {d x : D} : kSeti2 G call i ρ d x μ = (ev G call i ρ μ).ou ρ (kSeti3 ρ d x) := (rfl)
theorem kSeti3_eq {d x y : D} : kSeti3 ρ d x y μ = match setIx (alloc d μ).2 x y (alloc d μ).1 with
    | some μ' => .nx ρ μ'
    | none => .no := (rfl)
theorem kRet_eq {d : D} : kRet d μ = .rt d μ := (rfl)
theorem kIf_bl {a b : Ss} {c : Bool} : kIf G call a b ρ (.bl c) μ = if c = true then execs G call a ρ μ else execs G call b ρ μ := by cases c <;> rfl
theorem kFor_some {t : Tg} {b : Ss} {s : D} {xs : List D} (hs : settle s μ = (s, μ)) (h : items μ s = some xs) : kFor G call t b ρ s μ = forGo s xs (forT G call t b) xs ρ μ := by unfold kFor; rw [hs]; simp only [h]
theorem forT_eq {t : Tg} {b : Ss} {x : D} : forT G call t b x ρ μ = match bindT t x ρ μ with
      | some (ρ', μ') => execs G call b ρ' μ'
      | none => .no := (rfl)
theorem kWhT_bl {b : Ss} {c : Bool} : kWhT G call b ρ (.bl c) μ = if c = true then kWhB (execs G call b ρ μ) else .br ρ μ := by cases c <;> rfl
theorem whGo_eq {c : C} {b : Ss} {p : Env × Store} : whGo G call c b p = match whS ((ev G call c p.1 p.2).ou p.1 (kWhT G call b p.1)) with
    | some (.inl p') => whGo G call c b p'
    | some (.inr o) => some o
    | none => none := by
  unfold whGo
  conv => lhs; unfold whileM
  show (whS _ >>= _) = _
  cases whS ((ev G call c p.1 p.2).ou p.1 (kWhT G call b p.1)) with
  | none => rfl
  | some r => cases r <;> rfl
end
end Mp
end SStep
section SSim
/-! Sim: the interpreter's run by simp alone. -/
namespace Mp
section
variable {G : String → Option D} {call : String → List D → Store → Rs D} {ρ : Env} {μ : Store}
def kVar (o : Option (Option D)) (μ : Store) : Rs D := match o with
  | some (some d) => if d.isX = true then .no else .ok d μ
  | _ => .no
theorem ev_varS {i : Nat} : ev G call (.var i) ρ μ = kVar ρ[i]? μ := by
  cases h : ρ[i]? with
  | none => simp only [ev, kVar, h]
  | some o => cases o <;> simp only [ev, kVar, h]
theorem isX_non : D.isX .non = false := (rfl)
theorem isX_bl {b : Bool} : D.isX (.bl b) = false := (rfl)
theorem isX_int {i : Int} : D.isX (.int i) = false := (rfl)
theorem isX_str {s : List Nat} : D.isX (.str s) = false := (rfl)
theorem isX_tup {l : List D} : D.isX (.tup l) = false := (rfl)
theorem isX_tl {l : List D} : D.isX (.tl l) = false := (rfl)
theorem isX_fz {l : List D} : D.isX (.fz l) = false := (rfl)
theorem isX_ref {n : Nat} : D.isX (.ref n) = false := (rfl)
theorem isX_fn {x : String} : D.isX (.fn x) = false := (rfl)
theorem kVar_some {d : D} : kVar (some (some d)) μ = if d.isX = true then .no else .ok d μ := (rfl)
def kFrz (x : D) (μ : Store) : Rs D := .ok (freeze x) μ
theorem ev_frz {a : C} : ev G call (.frz a) ρ μ = (ev G call a ρ μ).bnd kFrz := (rfl)
theorem kFrz_eq {x : D} : kFrz x μ = .ok (freeze x) μ := (rfl)
def kXf (n : String) (o : Option (Option D)) (μ : Store) : Rs D := match o with
  | some (some (.exn _ ns l)) => Rs.of (xField ns l n) μ
  | _ => .no
theorem ev_xf {i : Nat} {n : String} : ev G call (.xf i n) ρ μ = kXf n ρ[i]? μ := (rfl)
theorem kXf_some {n c : String} {ns : List String} {l : List D} : kXf n (some (some (.exn c ns l))) μ = Rs.of (xField ns l n) μ := (rfl)
def kIsx (c : String) (o : Option (Option D)) (μ : Store) : Rs D := match o with
  | some (some (.exn c' _ _)) => if c' = c then .ok (.bl true) μ else .no
  | _ => .no
theorem ev_isx {i : Nat} {c k : String} : ev G call (.isx i c k) ρ μ = kIsx c ρ[i]? μ := (rfl)
theorem kIsx_some {c c' : String} {ns : List String} {l : List D} : kIsx c (some (some (.exn c' ns l))) μ = if c' = c then .ok (.bl true) μ else .no := (rfl)
def kRais (c : String) (ns : List String) (ρ : Env) (ds : List D) (μ : Store) : Ou := if ds.length = ns.length ∧ ds.all D.flat = true then .ex (.exn c ns ds) ρ μ else .no
theorem exec_rais {c : String} {ns : List String} {l : Cs} : exec G call (.rais c ns l) ρ μ = (evs G call l ρ μ).ou ρ (kRais c ns ρ) := (rfl)
theorem kRais_eq {c : String} {ns : List String} {ds : List D} : kRais c ns ρ ds μ = if ds.length = ns.length ∧ ds.all D.flat = true then .ex (.exn c ns ds) ρ μ else .no := (rfl)
def kTryH (G : String → Option D) (call : String → List D → Store → Rs D) (i : Option Nat) (h : Ss) (e : D) (ρ : Env) (μ : Store) : Ou := match i with
  | none => (execs G call h ρ μ).unE
  | some i => (execs G call h (ρ.set i (some e)) μ).wipeO i
def kTry (G : String → Option D) (call : String → List D → Store → Rs D) (c : String) (i : Option Nat) (h : Ss) (o : Ou) : Ou := match o with
  | .ex (.exn c' ns ds) ρ' μ' => if c' = c then kTryH G call i h (.exn c' ns ds) ρ' μ' else .ex (.exn c' ns ds) ρ' μ'
  | .ex _ _ _ => .no
  | o => o
theorem exec_tryc {b h : Ss} {c : String} {i : Option Nat} : exec G call (.tryc b c i h) ρ μ = kTry G call c i h (execs G call b ρ μ) := (rfl)
theorem kTry_ex {h : Ss} {c c' : String} {ns : List String} {ds : List D} {i : Option Nat} : kTry G call c i h (.ex (.exn c' ns ds) ρ μ) = if c' = c then kTryH G call i h (.exn c' ns ds) ρ μ else .ex (.exn c' ns ds) ρ μ := (rfl)
theorem kTry_nx {h : Ss} {c : String} {i : Option Nat} : kTry G call c i h (.nx ρ μ) = .nx ρ μ := (rfl)
theorem kTry_br {h : Ss} {c : String} {i : Option Nat} : kTry G call c i h (.br ρ μ) = .br ρ μ := (rfl)
theorem kTry_ct {h : Ss} {c : String} {i : Option Nat} : kTry G call c i h (.ct ρ μ) = .ct ρ μ := (rfl)
theorem kTry_rt {h : Ss} {c : String} {d : D} {i : Option Nat} : kTry G call c i h (.rt d μ) = .rt d μ := (rfl)
theorem kTryH_none {h : Ss} {e : D} : kTryH G call none h e ρ μ = (execs G call h ρ μ).unE := (rfl)
theorem unE_nx : (Ou.nx ρ μ).unE = .nx ρ μ := (rfl)
theorem unE_br : (Ou.br ρ μ).unE = .br ρ μ := (rfl)
theorem unE_ct : (Ou.ct ρ μ).unE = .ct ρ μ := (rfl)
theorem unE_rt {d : D} : (Ou.rt d μ).unE = .rt d μ := (rfl)
theorem kTryH_some {h : Ss} {e : D} {i : Nat} : kTryH G call (some i) h e ρ μ = (execs G call h (ρ.set i (some e)) μ).wipeO i := (rfl)
theorem wipeO_nx {i : Nat} : (Ou.nx ρ μ).wipeO i = .nx (ρ.set i none) μ := (rfl)
theorem wipeO_br {i : Nat} : (Ou.br ρ μ).wipeO i = .br (ρ.set i none) μ := (rfl)
theorem wipeO_ct {i : Nat} : (Ou.ct ρ μ).wipeO i = .ct (ρ.set i none) μ := (rfl)
theorem wipeO_rt {i : Nat} {d : D} : (Ou.rt d μ).wipeO i = .rt d μ := (rfl)
def kAugV (G : String → Option D) (call : String → List D → Store → Rs D) (i : Nat) (op : BinK) (e : C) (ρ : Env) (o : Option (Option D)) (μ : Store) : Ou := match o with
  | some (some x) => (ev G call e ρ μ).ou ρ (kAug i op ρ x)
  | _ => .no
theorem exec_augS {i : Nat} {op : BinK} {e : C} : exec G call (.aug i op e) ρ μ = kAugV G call i op e ρ ρ[i]? μ := by
  unfold kAugV
  split
  · rename_i h; exact exec_aug h
  · rename_i h
    cases h' : ρ[i]? with
    | none => simp only [exec, h']
    | some o =>
      cases o with
      | none => simp only [exec, h']
      | some x => exact absurd h' (h x)
theorem kAugV_some {i : Nat} {op : BinK} {e : C} {x : D} : kAugV G call i op e ρ (some (some x)) μ = (ev G call e ρ μ).ou ρ (kAug i op ρ x) := (rfl)
def kAugS (i : Nat) (ρ : Env) (o : Option D) (μ : Store) : Ou := match o with
  | some z => .nx (ρ.set i (some (alloc z μ).1)) (alloc z μ).2
  | none => .no
theorem kAug_eqS {i : Nat} {op : BinK} {x y : D} : kAug i op ρ x y μ = kAugS i ρ (augop op x y) μ := by
  unfold kAug kAugS
  cases augop op x y <;> rfl
theorem kAugS_some {i : Nat} {z : D} : kAugS i ρ (some z) μ = .nx (ρ.set i (some (alloc z μ).1)) (alloc z μ).2 := (rfl)
def kBnd (o : Option (Env × Store)) : Ou := match o with
  | some (ρ', μ') => .nx ρ' μ'
  | none => .no
theorem kSet_tS {l : List Tg} {ds : List D} : kSet (.t l) ρ (.tup ds) μ = kBnd (bindTs l ds ρ μ) := (rfl)
theorem kBnd_some {ρ' : Env} {μ' : Store} : kBnd (some (ρ', μ')) = .nx ρ' μ' := (rfl)
def kSetS (ρ : Env) (o : Option Store) : Ou := match o with
  | some μ' => .nx ρ μ'
  | none => .no
theorem kSeti3_eqS {d x y : D} : kSeti3 ρ d x y μ = kSetS ρ (setIx (alloc d μ).2 x y (alloc d μ).1) := (rfl)
theorem kSetS_some : kSetS ρ (some μ) = .nx ρ μ := (rfl)
def kForI (G : String → Option D) (call : String → List D → Store → Rs D) (t : Tg) (b : Ss) (ρ : Env) (s : D) (o : Option (List D)) (μ : Store) : Ou := match o with
  | some xs => forGo s xs (forT G call t b) xs ρ μ
  | none => .no
theorem kFor_eqS {t : Tg} {b : Ss} {s : D} : kFor G call t b ρ s μ = kForI G call t b ρ (settle s μ).1 (items (settle s μ).2 (settle s μ).1) (settle s μ).2 := (rfl)
theorem kForI_some {t : Tg} {b : Ss} {s : D} {xs : List D} : kForI G call t b ρ s (some xs) μ = forGo s xs (forT G call t b) xs ρ μ := (rfl)
def kLcX (G : String → Option D) (call : String → List D → Store → Rs D) (e : C) (tg : Tg) (own : List (String × Nat)) (ifs : Cs) (ρ : Env) (s : D) (o : Option (List D)) (μ : Store) : Rs D := match o with
  | some xs => lcGo s xs (lcT G call e tg own ifs ρ) xs μ []
  | none => .no
theorem kLc_eqS {e : C} {tg : Tg} {own : List (String × Nat)} {ifs : Cs} {s : D} : kLc G call e tg own ifs ρ s μ = kLcX G call e tg own ifs ρ (settle s μ).1 (items (settle s μ).2 (settle s μ).1) (settle s μ).2 := (rfl)
theorem kLcX_some {e : C} {tg : Tg} {own : List (String × Nat)} {ifs : Cs} {s : D} {xs : List D} : kLcX G call e tg own ifs ρ s (some xs) μ = lcGo s xs (lcT G call e tg own ifs ρ) xs μ [] := (rfl)
def kForT (G : String → Option D) (call : String → List D → Store → Rs D) (b : Ss) (o : Option (Env × Store)) : Ou := match o with
  | some (ρ', μ') => execs G call b ρ' μ'
  | none => .no
theorem forT_eqS {t : Tg} {b : Ss} {x : D} : forT G call t b x ρ μ = kForT G call b (bindT t x ρ μ) := (rfl)
theorem kForT_some {b : Ss} {ρ' : Env} {μ' : Store} : kForT G call b (some (ρ', μ')) = execs G call b ρ' μ' := (rfl)
structure OkB (j : Int) : Prop where
  h : -(2 ^ 62) ≤ j ∧ j < 2 ^ 62
theorem okB_of {j : Int} (h1 : -1000000000 ≤ j) (h2 : j ≤ 1000000000) : OkB j := ⟨by omega, by omega⟩
theorem kRng1_intS {j : Int} (h : OkB j) : kRng1 (.int j) μ = .ok (.tl (rngL 0 j)) μ := kRng1_int h.h
theorem kRng2R_intS {i j : Int} (h : OkB i) (h' : OkB j) : kRng2R (.int i) (.int j) μ = .ok (.tl (rngL i j)) μ := kRng2R_int ⟨h.h, h'.h⟩
theorem kLrng_int {t : Bool} {j : Int} : kLrng t (.int j) μ = if 0 ≤ j ∧ j ≤ LIM then .ok (if t = true then .tup (rngL 0 j) else .tl (rngL 0 j)) μ else .no := (rfl)
def kEnum (x : D) (μ : Store) : Rs D := Rs.of (enumD x) μ
theorem ev_enum {a : C} : ev G call (.enum a) ρ μ = (ev G call a ρ μ).bnd kEnum := (rfl)
theorem kEnum_eq {x : D} : kEnum x μ = Rs.of (enumD x) μ := (rfl)
def kRev (x : D) (μ : Store) : Rs D := match x with
    | .str s => .ok (.str s.reverse) μ
    | _ => .no
theorem ev_rev {a : C} : ev G call (.rev a) ρ μ = (ev G call a ρ μ).bnd kRev := (rfl)
theorem kRev_str {s : List Nat} : kRev (.str s) μ = .ok (.str s.reverse) μ := (rfl)
theorem ofP_some {α : Type} {p : α × Store} : Rs.ofP (some p) = .ok p.1 p.2 := (rfl)
theorem ofP_none {α : Type} : Rs.ofP (none : Option (α × Store)) = .no := (rfl)
theorem ev_u0 {o : O0} : ev G call (.u0 o) ρ μ = .ok (op0 μ o).1 (op0 μ o).2 := (rfl)
def kU1 (o : O1) (x : D) (μ : Store) : Rs D := Rs.ofP (op1 μ o x)
theorem ev_u1 {o : O1} {a : C} : ev G call (.u1 o a) ρ μ = (ev G call a ρ μ).bnd (kU1 o) := (rfl)
theorem kU1_eq {o : O1} {x : D} : kU1 o x μ = Rs.ofP (op1 μ o x) := (rfl)
def kU2R (o : O2) (x y : D) (μ : Store) : Rs D := Rs.ofP (op2 μ o x y)
def kU2 (G : String → Option D) (call : String → List D → Store → Rs D) (o : O2) (b : C) (ρ : Env) (x : D) (μ : Store) : Rs D := if rOk2 μ o x = true then (ev G call b ρ μ).bnd (kU2R o x) else .no
theorem ev_u2 {o : O2} {a b : C} : ev G call (.u2 o a b) ρ μ = (ev G call a ρ μ).bnd (kU2 G call o b ρ) := (rfl)
theorem kU2_eq {o : O2} {b : C} {x : D} : kU2 G call o b ρ x μ = if rOk2 μ o x = true then (ev G call b ρ μ).bnd (kU2R o x) else .no := (rfl)
theorem kU2R_eq {o : O2} {x y : D} : kU2R o x y μ = Rs.ofP (op2 μ o x y) := (rfl)
def kU3R (o : O3) (x y z : D) (μ : Store) : Rs D := Rs.ofP (op3 μ o x y z)
def kU3M (G : String → Option D) (call : String → List D → Store → Rs D) (o : O3) (c : C) (ρ : Env) (x y : D) (μ : Store) : Rs D := (ev G call c ρ μ).bnd (kU3R o x y)
def kU3 (G : String → Option D) (call : String → List D → Store → Rs D) (o : O3) (b c : C) (ρ : Env) (x : D) (μ : Store) : Rs D := if rOk3 μ o x = true then (ev G call b ρ μ).bnd (kU3M G call o c ρ x) else .no
theorem ev_u3 {o : O3} {a b c : C} : ev G call (.u3 o a b c) ρ μ = (ev G call a ρ μ).bnd (kU3 G call o b c ρ) := (rfl)
theorem kU3_eq {o : O3} {b c : C} {x : D} : kU3 G call o b c ρ x μ = if rOk3 μ o x = true then (ev G call b ρ μ).bnd (kU3M G call o c ρ x) else .no := (rfl)
theorem kU3M_eq {o : O3} {c : C} {x y : D} : kU3M G call o c ρ x y μ = (ev G call c ρ μ).bnd (kU3R o x y) := (rfl)
theorem kU3R_eq {o : O3} {x y z : D} : kU3R o x y z μ = Rs.ofP (op3 μ o x y z) := (rfl)
def kDput3 (ρ : Env) (d x y : D) (μ : Store) : Ou := kSetS ρ (putD (alloc d μ).2 x y (alloc d μ).1)
def kDput2 (G : String → Option D) (call : String → List D → Store → Rs D) (i : C) (ρ : Env) (d x : D) (μ : Store) : Ou := (ev G call i ρ μ).ou ρ (kDput3 ρ d x)
def kDput1 (G : String → Option D) (call : String → List D → Store → Rs D) (a i : C) (ρ : Env) (d : D) (μ : Store) : Ou := (ev G call a ρ μ).ou ρ (kDput2 G call i ρ d)
theorem exec_dput {a k e : C} : exec G call (.dput a k e) ρ μ = (ev G call e ρ μ).ou ρ (kDput1 G call a k ρ) := (rfl)
theorem kDput1_eq {a i : C} {d : D} : kDput1 G call a i ρ d μ = (ev G call a ρ μ).ou ρ (kDput2 G call i ρ d) := (rfl)
theorem kDput2_eq {i : C} {d x : D} : kDput2 G call i ρ d x μ = (ev G call i ρ μ).ou ρ (kDput3 ρ d x) := (rfl)
theorem kDput3_eq {d x y : D} : kDput3 ρ d x y μ = kSetS ρ (putD (alloc d μ).2 x y (alloc d μ).1) := (rfl)
def kMthS (o : Option (D × Store)) : Rs D := match o with
  | some (d, μ') => .ok d μ'
  | none => .no
theorem kMethR_eqS {m : Mth} {x : D} {ds : List D} : kMethR m x ds μ = kMthS (methop μ m x ds) := (rfl)
theorem kMthS_some {d : D} : kMthS (some (d, μ)) = .ok d μ := (rfl)
theorem kCmp2R_eqS {op op' : CmpK} {c : C} {x y : D} : kCmp2R G call op op' c ρ x y μ = match cmpop μ op x y with
  | some true => (ev G call c ρ μ).bnd (kCmpR op' y)
  | some false => .ok (.bl false) μ
  | none => .no := (rfl)
/-- a call's body and its end -/
def endC (μ : Store) (o : Ou) : Rs D := match o with
  | .nx _ μ' => fin μ .non μ'
  | .rt d μ' => fin μ d μ'
  | .ex e _ μ' => finX μ e μ'
  | _ => .no
theorem callN_eq {P : Prog} {k : Nat} {f : String} {args : List D} {F : Fn} (h : P.fn f = some F) (hn : args.length = F.np) (hs : D.stills args = true) :
    callN P (k + 1) f args μ = endC μ (execs P.G (callN P k) F.body (args.map some ++ List.replicate (F.names.length - F.np) none) μ) := by
  rw [callN, h]
  simp only
  rw [if_pos ⟨hn, hs⟩]
  rfl
theorem endC_rt {d : D} {μ' : Store} : endC μ (.rt d μ') = fin μ d μ' := (rfl)
theorem endC_nx {μ' : Store} : endC μ (.nx ρ μ') = fin μ .non μ' := (rfl)
theorem set_same {μ : Store} {r : Nat} {o : Obj} (h : μ[r]? = some o) : μ.set r o = μ := by
  apply List.ext_getElem?
  intro i
  by_cases hi : r = i
  · subst hi
    rw [List.getElem?_set_self (List.getElem?_eq_some_iff.mp h).1, h]
  · rw [List.getElem?_set_ne hi]
/-- a call that writes nothing and gives nothing new -/
theorem fin_same {d : D} (h : d.under μ.length = true) : fin μ d μ = .ok d μ := by
  have h1 : oldOk μ μ.length μ = true := by
    unfold oldOk
    rw [List.all_eq_true]
    intro i _
    simp
  unfold fin
  rw [if_pos h1, if_pos h, List.take_length]
/-- .. with objects of its own -/
theorem fin_app {d : D} {N : Store} (h : d.under μ.length = true) : fin μ d (μ ++ N) = .ok d μ := by
  have h1 : oldOk μ μ.length (μ ++ N) = true := by
    unfold oldOk
    rw [List.all_eq_true]
    intro i hi
    rw [List.getElem?_append_left (List.mem_range.mp hi)]
    simp
  unfold fin
  rw [if_pos h1, if_pos h, List.take_append_of_le_length (Nat.le_refl _), List.take_length]
/-- .. that writes one elder object -/
theorem fin_set {d : D} {r : Nat} {l : List D} {N : Store} (h : d.under μ.length = true) (hl : D.unders μ.length l = true) : fin μ d (μ.set r (.lst l) ++ N) = .ok d (μ.set r (.lst l)) := by
  have hlen : (μ.set r (.lst l)).length = μ.length := by simp
  have h1 : oldOk μ μ.length (μ.set r (.lst l) ++ N) = true := by
    unfold oldOk
    rw [List.all_eq_true]
    intro i hi
    have hi := List.mem_range.mp hi
    rw [List.getElem?_append_left (by rw [hlen]; exact hi)]
    by_cases hr : r = i
    · subst hr
      rw [List.getElem?_set_self hi]
      simp [hl]
    · rw [List.getElem?_set_ne hr]; simp
  unfold fin
  rw [if_pos h1, if_pos h, List.take_append_of_le_length (by rw [hlen]; exact Nat.le_refl _), ← hlen, List.take_length]
theorem fin_set0 {d : D} {r : Nat} {l : List D} (h : d.under μ.length = true) (hl : D.unders μ.length l = true) : fin μ d (μ.set r (.lst l)) = .ok d (μ.set r (.lst l)) := by
  have := fin_set (μ := μ) (N := []) (r := r) h hl
  rwa [List.append_nil] at this
variable {μ' : Store}
theorem allocs_still {μ : Store} : ∀ {l : List D}, D.stills l = true → allocs l μ = (l, μ) := by
  have one : ∀ (d : D) , d.still = true → alloc d μ = (d, μ) := by
    intro d
    refine D.rec (motive_1 := fun d => d.still = true → alloc d μ = (d, μ)) (motive_2 := fun l => D.stills l = true → allocs l μ = (l, μ)) ?_ ?_ ?_ ?_ ?_ ?_ ?_ ?_ ?_ ?_ ?_ ?_ d
    all_goals intros
    all_goals first
      | rfl
      | (rename_i ih h; simp [D.still] at h; done)
      | (rename_i l ih h; rw [D.still] at h; rw [alloc, ih h])
      | (rename_i d l ih1 ih2 h; rw [D.stills, Bool.and_eq_true] at h; rw [allocs, ih1 h.1]; show (_ :: (allocs l μ).1, (allocs l μ).2) = _; rw [ih2 h.2])
  intro l h
  induction l with
  | nil => rfl
  | cons d l ih =>
    rw [D.stills, Bool.and_eq_true] at h
    rw [allocs, one d h.1]
    show (d :: (allocs l μ).1, (allocs l μ).2) = _
    rw [ih h.2]
theorem enumL_get : ∀ (l : List D) (n i : Nat), (enumL n l)[i]? = l[i]?.map fun d => .tup [.int ((n + i : Nat) : Int), d]
  | [], _, _ => rfl
  | d :: l, n, 0 => rfl
  | d :: l, n, i + 1 => by
    have := enumL_get l (n + 1) i
    rw [show n + 1 + i = n + (i + 1) by omega] at this
    exact this
theorem enumL_len : ∀ (l : List D) (n : Nat), (enumL n l).length = l.length
  | [], _ => rfl
  | d :: l, n => by simp [enumL, enumL_len l]
theorem enumL_still : ∀ (l : List D) (n : Nat), D.stills l = true → D.stills (enumL n l) = true
  | [], _, _ => rfl
  | d :: l, n, h => by
    rw [D.stills, Bool.and_eq_true] at h
    simp [enumL, D.stills, D.still, h.1, enumL_still l (n + 1) h.2]
theorem getL_set_ne {μ : Store} {r r0 : Nat} {o : Obj} (h : r0 ≠ r) : getL (μ.set r o) r0 = getL μ r0 := by
  unfold getL
  rw [List.getElem?_set_ne (Ne.symm h)]
theorem getL_of {μ : Store} {r : Nat} {l : List D} (h : μ[r]? = some (.lst l)) : getL μ r = some l := by
  unfold getL; rw [h]
theorem of_getL {μ : Store} {r : Nat} {l : List D} (h : getL μ r = some l) : μ[r]? = some (.lst l) := by
  unfold getL at h
  split at h
  · cases h; assumption
  · cases h
theorem lt_of_get {μ : Store} {r : Nat} {o : Obj} (h : μ[r]? = some o) : r < μ.length := (List.getElem?_eq_some_iff.mp h).1
theorem stills_ints : ∀ l : List Int, D.stills (l.map D.int) = true
  | [] => rfl
  | i :: l => by simp [D.stills, D.still, stills_ints l]
theorem unders_ints {n : Nat} : ∀ l : List Int, D.unders n (l.map D.int) = true
  | [] => rfl
  | i :: l => by simp [D.unders, D.under, unders_ints l]
theorem allocs_ints {μ : Store} : ∀ l : List Int, allocs (l.map D.int) μ = (l.map D.int, μ)
  | [] => rfl
  | i :: l => by simp [allocs, alloc, allocs_ints l]
theorem alloc_tupI {l : List Int} {μ : Store} : alloc (.tup (l.map D.int)) μ = (.tup (l.map D.int), μ) := by simp [alloc, allocs_ints]
theorem ixNat_nat {n j : Nat} (h : j < n) : ixNat n (j : Int) = some j := by
  unfold ixNat
  rw [if_pos (by omega), if_pos (by omega)]
  simp
theorem ixNat_int {n : Nat} {i : Int} (h0 : 0 ≤ i) (h : i < n) : ixNat n i = some i.toNat := by
  unfold ixNat
  rw [if_pos h0, if_pos h]
theorem eqD_int {i j : Int} : eqD μ (.int i) (.int j) = some (decide (i = j)) := by
  have h : eqD μ (.int i) (.int j) = if (D.int i).dep ≤ 60 ∧ (D.int j).dep ≤ 60 then some (peq (.int i) (.int j)) else none := (rfl)
  rw [h, if_pos ⟨Nat.zero_le _, Nat.zero_le _⟩]
  rfl
theorem getL_setS {r : Nat} {l : List D} (h : r < μ.length) : getL (μ.set r (.lst l)) r = some l := by
  unfold getL; rw [List.getElem?_set_self h]
def kSetI (μ : Store) (n : Nat) (i : Int) (d : D) (o : Option Obj) : Option Store := match o with
  | some (.lst l) => (ixNat l.length i).map fun j => μ.set n (.lst (l.set j d))
  | _ => none
theorem setIx_eqS {n : Nat} {i : Int} {d : D} : setIx μ (.ref n) (.int i) d = kSetI μ n i d μ[n]? := (rfl)
theorem kSetI_some {n : Nat} {i : Int} {d : D} {l : List D} : kSetI μ n i d (some (.lst l)) = (ixNat l.length i).map fun j => μ.set n (.lst (l.set j d)) := (rfl)
def kApp (μ : Store) (n : Nat) (d : D) (o : Option Obj) : Option (D × Store) := match o with
  | some (.lst l) => if l.length < LIM then some (.non, (alloc d μ).2.set n (.lst (l ++ [(alloc d μ).1]))) else none
  | _ => none
theorem methop_eqS {n : Nat} {d : D} : methop μ .append (.ref n) [d] = kApp μ n d μ[n]? := (rfl)
theorem kApp_some {n : Nat} {d : D} {l : List D} : kApp μ n d (some (.lst l)) = if l.length < LIM then some (.non, (alloc d μ).2.set n (.lst (l ++ [(alloc d μ).1]))) else none := (rfl)
theorem recvOk_eqS {n : Nat} : recvOk μ .append (.ref n) = (getL μ n).isSome := (rfl)
theorem get_last {o : Obj} : (μ ++ [o])[μ.length]? = some o := by simp
theorem getL_last {l : List D} : getL (μ ++ [.lst l]) μ.length = some l := getL_of get_last
theorem set_last {o o' : Obj} : (μ ++ [o]).set μ.length o' = μ ++ [o'] := by simp
theorem getL_last2 {l : List D} {r : Nat} {o : Obj} : getL (μ.set r o ++ [.lst l]) μ.length = some l := by
  have := getL_last (μ := μ.set r o) (l := l)
  rwa [List.length_set] at this
theorem get_last2 {o' : Obj} {r : Nat} {o : Obj} : (μ.set r o ++ [o'])[μ.length]? = some o' := by
  have := get_last (μ := μ.set r o) (o := o')
  rwa [List.length_set] at this
theorem set_last2 {o' o'' : Obj} {r : Nat} {o : Obj} : (μ.set r o ++ [o']).set μ.length o'' = μ.set r o ++ [o''] := by
  have := set_last (μ := μ.set r o) (o := o') (o' := o'')
  rwa [List.length_set] at this
theorem set_app {r : Nat} {o : Obj} {N : Store} (h : r < μ.length) : (μ ++ N).set r o = μ.set r o ++ N := List.set_append_left r o h
theorem eqD_str1 {a b : Nat} : eqD μ (.str [a]) (.str [b]) = some (decide (a = b)) := by
  have h : eqD μ (.str [a]) (.str [b]) = if (D.str [a]).dep ≤ 60 ∧ (D.str [b]).dep ≤ 60 then some (peq (.str [a]) (.str [b])) else none := rfl
  rw [h, if_pos ⟨Nat.zero_le _, Nat.zero_le _⟩]
  by_cases e : a = b
  · subst e; simp [peq]
  · simp [peq, e]
theorem eqD_bl {a b : Bool} : eqD μ (.bl a) (.bl b) = some (a == b) := by
  have h : eqD μ (.bl a) (.bl b) = if (D.bl a).dep ≤ 60 ∧ (D.bl b).dep ≤ 60 then some (peq (.bl a) (.bl b)) else none := (rfl)
  rw [h, if_pos ⟨Nat.zero_le _, Nat.zero_le _⟩]
  rfl
theorem plains_ints : ∀ l : List Int, D.plains (l.map D.int) = true
  | [] => rfl
  | i :: l => by simp [D.plains, D.plain, plains_ints l]
theorem deps_ints : ∀ l : List Int, D.deps (l.map D.int) = 0
  | [] => rfl
  | i :: l => by simp [D.deps, D.dep, deps_ints l]
theorem peqs_ints : ∀ l m : List Int, peqs (l.map D.int) (m.map D.int) = decide (l = m)
  | [], [] => rfl
  | [], _ :: _ => rfl
  | _ :: _, [] => rfl
  | i :: l, j :: m => by
    simp only [List.map_cons, peqs, peq, peqs_ints l m]
    by_cases h : i = j <;> by_cases h2 : l = m <;> simp [h, h2]
theorem eqD_tupI (l m : List Int) : eqD μ (.tup (l.map D.int)) (.tup (m.map D.int)) = some (decide (l = m)) := by
  unfold eqD plainOf
  rw [if_pos (by simp [D.plain, plains_ints]), if_pos (by simp [D.plain, plains_ints])]
  simp only [Option.bind_some]
  rw [if_pos (by simp [D.dep, deps_ints])]
  simp [peq, peqs_ints]
theorem rngL_ints (lo hi : Int) : rngL lo hi = ((List.range (hi - lo).toNat).map fun (i : Nat) => lo + (i : Int)).map D.int := by
  simp [rngL]
theorem allocs_rngL {lo hi : Int} : allocs (rngL lo hi) μ = (rngL lo hi, μ) := by rw [rngL_ints]; exact allocs_ints _
theorem length_rngL {lo hi : Int} : (rngL lo hi).length = (hi - lo).toNat := by simp [rngL]
theorem bool_beq_self (b : Bool) : (b == b) = true := by cases b <;> rfl
theorem kWhB_nx : kWhB (.nx ρ μ) = .nx ρ μ := (rfl)
theorem kWhB_ct : kWhB (.ct ρ μ) = .nx ρ μ := (rfl)
theorem kWhB_br : kWhB (.br ρ μ) = .br ρ μ := (rfl)
theorem kWhB_rt {d : D} : kWhB (.rt d μ) = .rt d μ := (rfl)
theorem whS_nx : whS (.nx ρ μ) = some (.inl (ρ, μ)) := (rfl)
theorem whS_br : whS (.br ρ μ) = some (.inr (.nx ρ μ)) := (rfl)
theorem whS_rt {d : D} : whS (.rt d μ) = some (.inr (.rt d μ)) := (rfl)
def Ss.hd : Ss → S
  | .cons s _ => s
  | .nil => .pass
def S.cnd : S → C
  | .wh c _ => c
  | .ite c _ _ => c
  | _ => .lit .non
def S.bod : S → Ss
  | .wh _ b => b
  | .for_ _ _ b => b
  | .ite _ b _ => b
  | _ => .nil
def Ss.tl : Ss → Ss
  | .cons _ r => r
  | .nil => .nil
theorem minI_eq {i j : Int} : (if j < i then j else i) = min i j := by
  rw [Int.min_def]; split <;> split <;> omega
end
end Mp
end SSim
section SSndE0
/-! SndE0: enumerate of texts. -/
namespace Mp
open PySem PySem.Spec PyProof.Rows L2
/-- the signs of x, each in a new pair -/
def IteS (x : Str) : It where
  go := fun i _ => i < x.cps.size
  yld := fun i H v H' => ∃ T c, v = .ref T ∧ H T = none ∧ H' = upd H T (.tup [.int (i : Nat), .str ⟨#[c]⟩]) ∧ x.cps[i]? = some c
  stop := fun i _ => x.cps.size ≤ i
theorem enum_doneS {P : Program} {w : World} {A : Around} {E : Value → Shared → Prop} {s : Shared} {e it : Addr} {x : Str} {t : Tok} {old : Value} {i : Nat} {Q : Option Value → Shared → Prop} (hh : A.in1.handled = none) (he : IsEnum s.heap e it i old) (hit : s.heap.IsStrIter it (strIterType x) x t i) (hx : x.cps[i]? = none)
    (q : ∀ h', Heap.ExtBut it s.heap h' → Q none { s with heap := h' }) : wpAny (model P w) A (pyNext (.ref e)) Q E s := by
  have ty : s.TypeIs (.ref e) "enumerate" := ⟨_, he, rfl⟩
  have nx : wpAny (model P w) A.in1 (Builtin.SmallTypes.nextOf (.ref it)) (fun _ _ => False) (fun v s' => ∃ h' x, v = .ref x ∧ s' = { s with heap := h' } ∧ Heap.ExtBut it s.heap h' ∧ ∃ o, h'.get? x = some o ∧ o.cls = .type "StopIteration") s :=
    by
      cases ha : x.cps.all (· < 128)
      · simp only [strIterType, ha, Bool.false_eq_true, if_false] at hit
        exact wpAny_nextOf_wide_end hh hit hx fun h' x k hx' => ⟨h', x, rfl, rfl, k, hx'⟩
      · simp only [strIterType, ha, if_true] at hit
        exact wpAny_nextOf_ascii_end hh hit hx fun h' x k hx' => ⟨h', x, rfl, rfl, k, hx'⟩
  unfold pyNext
  refine wpAny_bind (wpAny_attempt (wpAny_callSpecial?_slot (name := Str.ofString "__next__") ty F.slot_enumerate_next (wpAny_call_entry F.slot_enumerate_next ty F.entry_enumerate_next ?_ (F.args_enumerate_next_1 _))))
  show wpAny _ _ (field (.ref e) 2 >>= fun x => _) _ _ _
  refine wpAny_bind (wpAny_field he rfl (x := .ref it) rfl (wpAny_bind (wpAny_mono nx (fun _ _ z => z.elim) fun v s' ⟨h', x, e1, e2, k, o, ho, hc⟩ => ?_)))
  subst e1 e2
  exact wpAny_bind (wpAny_isInstance (T := "StopIteration") (b := true) ⟨o, ho, hc⟩ isSubtype_stop (wpAny_pure (q _ k)))
theorem turn_enumS {P : Program} {w : World} {K : PySem.W.Frag} {elts : List Expr} {kk : Nat} {tpos : Pos} (e it : Addr) (x : Str) (t : Tok) (hei : e ≠ it) :
    Turn P w K (.Tuple elts kk tpos) (IteS x) [e, it] e (fun i h => (∃ old, IsEnum h e it ((i : Nat) : Int) old) ∧ h.IsStrIter it (strIterType x) x t i) := by
  refine ⟨by simp, fun i h st b hb => ?_, fun i h h' st k => ?_, ?_, ?_, fun A i s Q E st h => let ⟨⟨_, he⟩, _⟩ := st; wpAny_pyIter_enum he h⟩
  · obtain ⟨⟨old, he⟩, o, ho, hc, hd⟩ := st
    rcases List.mem_cons.mp hb with z | z
    · subst z; exact ⟨_, he, fun v q => nomatch q⟩
    · cases List.mem_singleton.mp z
      exact ⟨o, ho, fun v q => by rw [hd] at q; cases q⟩
  · obtain ⟨⟨old, he⟩, o, ho, r⟩ := st
    exact ⟨⟨old, k e (by simp) _ he⟩, o, k it (by simp) o ho, r⟩
  · intro X hP hw hK hc i pins s σ H E I hf st hg
    subst hP hw hK
    obtain ⟨⟨old, he⟩, hit⟩ := st
    have hel : e < s.heap.objs.size := Heap.lt_size he
    have hil : it < s.heap.objs.size := by obtain ⟨_, q, _⟩ := hit; exact Heap.lt_size q
    have hA : X.A.in1.handled = none := I.ok.hd hc
    refine wpAny_pyNext_enum_itemD (Draws.text hA it x t) he hit hg hei (by simp [hei]) fun y h' tk hy ho st' hT hsz hk => ?_
    obtain ⟨c, u, hcx, rfl⟩ := hy
    refine ⟨_, rfl, wpAny_letOwnedTupleGo_enum (s := { s with heap := h', toks := tk + 1 }) ho fun h2 he' sb => ?_⟩
    have hT2 : h2.get? s.heap.objs.size = some { cls := .type "tuple", data := .seq #[.int i tk, .str ⟨#[c]⟩ u] } := (sb.2 _ (Nat.ne_of_gt hel)).trans hT
    have new : ObjOk X.prog X.w (upd H s.heap.objs.size (.tup [.int (i : Nat), .str ⟨#[c]⟩])) h2 s.heap.objs.size (.tup [.int (i : Nat), .str ⟨#[c]⟩]) := by
      refine ⟨by show 2 ≤ sizeLine; decide, [.int i tk, .str ⟨#[c]⟩ u], .cons ⟨_, rfl⟩ (.cons ⟨_, rfl⟩ .nil), ⟨_, hT2, rfl, _, rfl⟩⟩
    have I1 := I.turnedNew (h' := h2) (t' := tk + 1) (ch := [e, it]) (fun b ob hb q => (sb.2 b (fun z => hb (by simp [z]))).trans (hk b ob (fun z => hb (by simp [z])) (fun z => hb (by simp [z])) q)) hf (Nat.le_refl _) new
    have hst2 : h2.IsStrIter it (strIterType x) x t (i + 1) := by
      obtain ⟨o, q, r⟩ := st'
      exact ⟨o, (sb.2 it (Ne.symm hei)).trans q, r⟩
    refine ⟨.ref s.heap.objs.size, _, I1, rfl, ⟨_, c, rfl, I.hok.fresh (Nat.le_refl _), rfl, hcx⟩, ⟨⟨.str ⟨#[c]⟩ u, ?_⟩, hst2⟩, fun b hb => ?_⟩
    · have e1 : ((i + 1 : Nat) : Int) = (i : Int) + 1 := rfl
      rw [e1]
      exact he'
    · have hb' : b < s.heap.objs.size := by
        rcases List.mem_cons.mp hb with z | z
        · rw [z]; exact hel
        · rw [List.mem_singleton.mp z]; exact hil
      rw [upd_ne (Nat.ne_of_lt hb')]
      exact (hf b hb).1
  · intro X hP hw hK hc i pins s σ H E I hf st hg
    subst hP hw hK
    obtain ⟨⟨old, he⟩, hit⟩ := st
    obtain ⟨f0, f1, f2, f3, f4, f5⟩ := hf it (by simp)
    have hA : X.A.in1.handled = none := I.ok.hd hc
    have hg : x.cps.size ≤ i := hg
    exact enum_doneS hA he hit (by simp; omega) fun h' eb => ⟨rfl, I.turned (t' := s.toks) (fun b o hb q => eb b o hb q) f0 f1 f3 f4 f5⟩
end Mp
end SSndE0
section SSndE
/-! SndE: enumerate of tuples and lists. -/
namespace Mp
open PySem PySem.Spec PyProof.Rows L2
abbrev enO (a : Addr) : PySem.Obj := { cls := .type "enumerate", data := .fields #[.none, .bool false, .ref a, rawInt 0, .none, .none] }
set_option maxHeartbeats 1000000 in
theorem enum_new1 {v : Value} {o : PySem.Obj} {C : Heap → Prop} (B : Begins v o C) : Meets (Builtin.«enumerate.__new__» ⟨[.type "enumerate", v], []⟩) (fun _ R s => C s.heap ∧ R (.ok (.ret (.ref (s.heap.push o).objs.size))) { s with heap := (s.heap.push o).push (enO s.heap.objs.size) }) := by
  refine .of_wp fun prog w A R s hh => ?_
  obtain ⟨hp, gg, dd, tt, oo⟩ := s
  obtain ⟨hc, hh⟩ := hh
  have sb := sub_enumerate
  have it : ∀ {A' : Around} {E : Value → Shared → Prop} {Q : Value → Shared → Prop}, Q (.ref hp.objs.size) ⟨hp.push o, gg, dd, tt, oo⟩ → wpAny (model prog w) A' (pyIter v) Q E ⟨hp, gg, dd, tt, oo⟩ := B.iter prog w _ _ _ _ hc
  wp_walk using it
  refine wpAny_stack_any fun st => (wpAny_pure ?_)
  split
  · rename_i c _ _ _ _ _
    cases (c == Value.type "enumerate") <;> (wp_walk using it; exact ⟨_, rfl, hh⟩)
  · wp_walk using it; exact ⟨_, rfl, hh⟩
theorem call_enum1 {P : Program} {w : World} {A : Around} {E : Value → Shared → Prop} {s : Shared} {v : Value} {o : PySem.Obj} {C : Heap → Prop} {Q : Value → Shared → Prop} (B : Begins v o C) (hc : C s.heap)
    (q : ∀ h', IsEnum h' (s.heap.objs.size + 1) s.heap.objs.size 0 .none → h'.get? s.heap.objs.size = some o → (∀ b u, s.heap.get? b = some u → h'.get? b = some u) → Q (.ref (s.heap.objs.size + 1)) { s with heap := h' }) : wpAny (model P w) A (call (.type "enumerate") [v]) Q E s := by
  refine callType_new F.called_enumerate (by decide) (F.typeCall_enumerate_1 _) (F.newCall_enumerate_1 _) (fun ob => F.args_object_init_2 ob _) F.entry_enumerate_new (enum_new1 B) ⟨hc, ?_⟩
  have sz : (s.heap.push o).objs.size = s.heap.objs.size + 1 := Heap.size_push ..
  have e1 := Heap.get?_push_size (s.heap.push o) (o := enO s.heap.objs.size) rfl
  rw [sz] at e1
  show _ ∧ _
  rw [sz]
  exact ⟨⟨_, e1, rfl⟩, q _ e1 (Heap.get?_push_of_some _ (Heap.get?_push_size _ B.free)) fun b u hb => Heap.get?_push_of_some _ (Heap.get?_push_of_some _ hb)⟩
theorem enum_doneT {P : Program} {w : World} {A : Around} {E : Value → Shared → Prop} {s : Shared} {e it a : Addr} {i : Nat} {items : Array Value} {old : Value} {Q : Option Value → Shared → Prop} (hh : A.in1.handled = none) (he : IsEnum s.heap e it i old) (hit : s.heap.IsTupleIter it a i) (ht : s.heap.IsTuple a items) (hx : items[i]? = none)
    (q : ∀ h', Heap.ExtBut it s.heap h' → Q none { s with heap := h' }) : wpAny (model P w) A (pyNext (.ref e)) Q E s := by
  have ty : s.TypeIs (.ref e) "enumerate" := ⟨_, he, rfl⟩
  have nx : wpAny (model P w) A.in1 (Builtin.SmallTypes.nextOf (.ref it)) (fun _ _ => False) (fun v s' => ∃ h' x, v = .ref x ∧ s' = { s with heap := h' } ∧ Heap.ExtBut it s.heap h' ∧ ∃ o, h'.get? x = some o ∧ o.cls = .type "StopIteration") s :=
    wpAny_nextOf_tuple_end hh hit ht hx fun h' x k hx' => ⟨h', x, rfl, rfl, k, hx'⟩
  unfold pyNext
  refine wpAny_bind (wpAny_attempt (wpAny_callSpecial?_slot (name := Str.ofString "__next__") ty F.slot_enumerate_next (wpAny_call_entry F.slot_enumerate_next ty F.entry_enumerate_next ?_ (F.args_enumerate_next_1 _))))
  show wpAny _ _ (field (.ref e) 2 >>= fun x => _) _ _ _
  refine wpAny_bind (wpAny_field he rfl (x := .ref it) rfl (wpAny_bind (wpAny_mono nx (fun _ _ z => z.elim) fun v s' ⟨h', x, e1, e2, k, o, ho, hc⟩ => ?_)))
  subst e1 e2
  exact wpAny_bind (wpAny_isInstance (T := "StopIteration") (b := true) ⟨o, ho, hc⟩ isSubtype_stop (wpAny_pure (q _ k)))
/-- the tuple at a, each item in a new pair -/
def IteT (K : PySem.W.Frag) (a : Addr) : It where
  go := fun i H => ∃ (xs : List V) (x : V), SqT K H a xs ∧ xs[i]? = some x
  yld := fun i H v H' => ∃ T x, v = .ref T ∧ H T = none ∧ H' = upd H T (.tup [.int (i : Nat), x]) ∧ ∀ xs, SqT K H a xs → xs[i]? = some x
  stop := fun i H => ∃ xs : List V, SqT K H a xs ∧ xs.length ≤ i
theorem turn_enumT {P : Program} {w : World} {K : PySem.W.Frag} {elts : List Expr} {kk : Nat} {tpos : Pos} (a e it : Addr) (hea : e ≠ a) (hia : a ≠ it) (hei : e ≠ it) :
    Turn P w K (.Tuple elts kk tpos) (IteT K a) [e, it] e (fun i h => (∃ old, IsEnum h e it ((i : Nat) : Int) old) ∧ h.IsTupleIter it a i) := by
  refine ⟨by simp, fun i h st b hb => ?_, fun i h h' st k => ?_, ?_, ?_, fun A i s Q E st h => let ⟨⟨_, he⟩, _⟩ := st; wpAny_pyIter_enum he h⟩
  · obtain ⟨⟨old, he⟩, o, ho, hc, hd⟩ := st
    rcases List.mem_cons.mp hb with z | z
    · subst z; exact ⟨_, he, fun v q => nomatch q⟩
    · cases List.mem_singleton.mp z
      exact ⟨o, ho, fun v q => by rw [hd] at q; cases q⟩
  · obtain ⟨⟨old, he⟩, hi⟩ := st
    exact ⟨⟨old, k e (by simp) _ he⟩, hi.at fun o q => k it (by simp) o q⟩
  · intro X hP hw hK hc i pins s σ H E I hf st hg
    subst hP hw hK
    obtain ⟨⟨old, he⟩, hit⟩ := st
    obtain ⟨xs, x, hq, hx⟩ := hg
    obtain ⟨its, rv, p, hz⟩ := I.tuple hq
    obtain ⟨u, hu, ru⟩ := rv.get hx
    have hel : e < s.heap.objs.size := Heap.lt_size he
    have hil : it < s.heap.objs.size := by obtain ⟨_, q, _⟩ := hit; exact Heap.lt_size q
    have hlt : i < its.toArray.size := by
      have := (List.getElem?_eq_some_iff.mp hu).1
      simpa using this
    have hA : X.A.in1.handled = none := I.ok.hd hc
    refine wpAny_pyNext_enum_itemD (Draws.tuple hA it a hia its.toArray) he ⟨hit, p⟩ hlt hei (by simp [hei, hea]) fun y h' tk hy ho st' hT hsz hk => ?_
    have hyu : y = u := by
      have hy' : its.toArray[i]? = some y := hy
      simp at hy'
      rw [hu] at hy'
      exact (Option.some.inj hy').symm
    subst hyu
    refine ⟨_, rfl, wpAny_letOwnedTupleGo_enum (s := { s with heap := h', toks := tk + 1 }) ho fun h2 he' sb => ?_⟩
    have hT2 : h2.get? s.heap.objs.size = some { cls := .type "tuple", data := .seq #[.int i tk, y] } := (sb.2 _ (Nat.ne_of_gt hel)).trans hT
    have new : ObjOk X.prog X.w (upd H s.heap.objs.size (.tup [.int (i : Nat), x])) h2 s.heap.objs.size (.tup [.int (i : Nat), x]) := by
      refine ⟨by show 2 ≤ sizeLine; decide, [.int i tk, y], .cons ⟨_, rfl⟩ (.cons ru .nil), ⟨_, hT2, rfl, _, rfl⟩⟩
    have I1 := I.turnedNew (h' := h2) (t' := tk + 1) (ch := [e, it]) (fun b ob hb q => (sb.2 b (fun z => hb (by simp [z]))).trans (hk b ob (fun z => hb (by simp [z])) (fun z => hb (by simp [z])) q)) hf (Nat.le_refl _) new
    refine ⟨.ref s.heap.objs.size, _, I1, rfl, ⟨_, x, rfl, I.hok.fresh (Nat.le_refl _), rfl, fun ys hy => by rw [I.tuple_inj hy hq]; exact hx⟩, ⟨⟨y, ?_⟩, st'.1.at fun o q => (sb.2 it (Ne.symm hei)).trans q⟩, fun b hb => ?_⟩
    · have e1 : ((i + 1 : Nat) : Int) = (i : Int) + 1 := rfl
      rw [e1]
      exact he'
    · have hb' : b < s.heap.objs.size := by
        rcases List.mem_cons.mp hb with z | z
        · rw [z]; exact hel
        · rw [List.mem_singleton.mp z]; exact hil
      rw [upd_ne (Nat.ne_of_lt hb')]
      exact (hf b hb).1
  · intro X hP hw hK hc i pins s σ H E I hf st hg
    subst hP hw hK
    obtain ⟨⟨old, he⟩, hit⟩ := st
    obtain ⟨xs, hq, hx⟩ := hg
    obtain ⟨its, rv, p, hz⟩ := I.tuple hq
    obtain ⟨f0, f1, f2, f3, f4, f5⟩ := hf it (by simp)
    have hA : X.A.in1.handled = none := I.ok.hd hc
    have hl := rv.length
    exact enum_doneT hA he hit p (by simp; omega) fun h' eb => ⟨rfl, I.turned (t' := s.toks) (fun b o hb q => eb b o hb q) f0 f1 f3 f4 f5⟩
def iEnumA (K : PySem.W.Frag) (ta : TA) : TI := fun σ H R => ta σ H fun vs H1 => (∃ x, vs = [.str x] ∧ R (IteS x) H1) ∨ ∃ a, vs = [.ref a] ∧ ((∃ xs, SqL K H1 a xs ∧ R (Ite K a) H1) ∨ ∃ xs, SqT K H1 a xs ∧ R (IteT K a) H1)
theorem pi_enumA {X : Cx} {e : Expr} {ta : TA} {p pos tpos : Pos} {elts : List Expr} {kk : Nat} (hg : Gl X "enumerate") (hm : X.mg "enumerate" = none) (ha : PA X [e] ta) (hs : starEach [e] X.env = [(false, eval e X.env)]) : PI X (.Tuple elts kk tpos) (.Call (.Name "enumerate" p) [e] [] pos) (iEnumA X.K ta) := by
  refine ⟨fun pins s σ H R I h => Call_ (ld_blt I hg hm boot_enumerate (PyProof.Rows.callWith_type1 (thn (ha.run pos pins s σ H _ I h) fun us s1 ⟨vs, H1, I1, r1, q1⟩ => ?_) hs rfl))⟩
  have own : ∀ (h' : Heap) (b : Addr), b ∈ [s1.heap.objs.size + 1, s1.heap.objs.size] → FpOk X pins H1 b := fun h' b hb => by
    have le : s1.heap.objs.size ≤ b := by
      rcases List.mem_cons.mp hb with z | z
      · rw [z]; exact Nat.le_succ _
      · rw [List.mem_singleton.mp z]; exact Nat.le_refl _
    exact I1.fpOk le (I1.hok.fresh le)
  rcases q1 with ⟨x, rfl, q⟩ | ⟨a, rfl, q⟩
  · cases r1 with
    | cons r rr =>
      cases rr
      obtain ⟨t, rfl⟩ := r
      exact call_enum1 (begins_text x t) trivial fun h' he hit hk => wpAny_pyIter_enum he ⟨_, _, _, _, H1, rfl, I1.kept (t' := s1.toks) hk, turn_enumS _ _ x t (Nat.succ_ne_self _), ⟨⟨.none, he⟩, _, hit, rfl, rfl⟩, own h', q⟩
  cases r1 with
  | cons r rr =>
    cases rr
    cases r
    rcases q with ⟨xs, hq, q⟩ | ⟨xs, hq, q⟩
    · obtain ⟨its, rv, pl, hz⟩ := I1.list hq
      refine call_enumerate_list pl.isList fun h' he hit hsz hk => wpAny_pyIter_enum he ⟨_, _, _, _, H1, rfl, I1.kept (t' := s1.toks) hk, turn_enum a _ _, ⟨⟨.none, he⟩, hit, Nat.succ_ne_self _⟩, own h', q⟩
    · obtain ⟨its, rv, pl, hz⟩ := I1.tuple hq
      have ha : a < s1.heap.objs.size := by
        obtain ⟨o, ho, _⟩ := id pl
        exact Heap.lt_size ho
      refine call_enum1 (begins_tuple a its.toArray) pl fun h' he hit hk => wpAny_pyIter_enum he ⟨_, _, _, _, H1, rfl, I1.kept (t' := s1.toks) hk, turn_enumT a _ _ (Nat.ne_of_gt (Nat.lt_succ_of_lt ha)) (Nat.ne_of_lt ha) (Nat.succ_ne_self _), ⟨⟨.none, he⟩, _, hit, rfl, rfl⟩, own h', q⟩
/-! the core's reading -/
section
variable {K : PySem.W.Frag} {fa : FA} {W : WX} {A A0 A1 A2 : List Addr} {H H0 H1 H2 : Hp} {σ : L2.St}
theorem pair_ok {μ : Store} {i : Nat} {d : D} {x : V} {T : Addr} (m : RelM K fa H A μ) (hT : H T = none) (r : Rep K fa H A x d []) : Stp A H A (upd H T (.tup [.int (i : Nat), x])) ∧ RelM K fa (upd H T (.tup [.int (i : Nat), x])) A μ ∧ Rep K fa (upd H T (.tup [.int (i : Nat), x])) A (.ref T) (.tup [.int i, d]) [] := by
  have sn : Stp A H A (upd H T (.tup [.int (i : Nat), x])) := Stp.new hT
  refine ⟨sn, m.new hT, .tup (.of upd_same) ?_⟩
  have := Reps.cons (F := []) (F' := []) (.int (i : Int)) (Reps.one (r.step sn (by simp)))
  exact this
theorem stills_signs (l : List Nat) : D.stills (l.map fun c => D.str [c]) = true := by
  induction l with
  | nil => simp [D.stills]
  | cons c l ih => simp [D.stills, D.still, ih]
theorem src_enS {s : List Nat} (h : okS s = true) : Src K fa (IteS (toS s)) (.tl (enumL 0 (s.map fun c => .str [c]))) (enumL 0 (s.map fun c => .str [c])) [] A H := by
  have hsz : (toS s).cps.size = s.length := by simp [toS]
  refine ⟨by simp, fun _ _ => True, trivial, fun _ _ _ _ _ _ => trivial, fun A H μ _ m _ i => ⟨fun d hd => ?_, fun hi => ?_⟩⟩
  · rw [enumL_get, Option.map_eq_some_iff] at hd
    obtain ⟨d0, hd, rfl⟩ := hd
    rw [List.getElem?_map, Option.map_eq_some_iff] at hd
    obtain ⟨c, hc, rfl⟩ := hd
    refine ⟨show i < (toS s).cps.size by rw [hsz]; exact (List.getElem?_eq_some_iff.mp hc).1, fun x H' y => ?_⟩
    obtain ⟨T, c', rfl, hT, rfl, h1⟩ := y
    have : (toS s).cps[i]? = s[i]? := by simp [toS]
    rw [this, hc] at h1
    cases h1
    rw [Nat.zero_add]
    exact pair_ok m hT (.str [c] (okS_one h (List.mem_of_getElem? hc)))
  · show (toS s).cps.size ≤ i
    rw [hsz]
    have := enumL_len (s.map fun c => D.str [c]) 0
    rw [List.length_map] at this
    omega
theorem src_enT {a : Addr} {l : List D} {vs : List V} (h : SqT K H a vs) (r : Reps K fa H A vs l []) : Src K fa (IteT K a) (.tl (enumL 0 l)) (enumL 0 l) [] A H := by
  refine ⟨by simp, fun A H => SqT K H a vs ∧ Reps K fa H A vs l [], ⟨h, r⟩, fun A H A' H' p s => ⟨s.sqT p.1, p.2.sta s⟩, fun A H μ p m _ i => ⟨fun d hd => ?_, fun hi => ⟨vs, p.1, by rw [p.2.length, ← enumL_len l 0]; exact hi⟩⟩⟩
  rw [enumL_get, Option.map_eq_some_iff] at hd
  obtain ⟨d0, hd, rfl⟩ := hd
  obtain ⟨v, F1, h1, h2, h3⟩ := p.2.get hd
  cases List.sublist_nil.mp h3
  refine ⟨⟨vs, v, p.1, h1⟩, fun x H' y => ?_⟩
  obtain ⟨T, x, rfl, hT, rfl, hx⟩ := y
  have hx := hx vs p.1
  rw [h1] at hx; cases hx
  rw [Nat.zero_add]
  exact pair_ok m hT h2
theorem src_enL {a : Addr} {l : List D} {vs : List V} {F : List Addr} (hF : ∀ b ∈ F, b ∉ A ∧ ∃ ws, H b = some (.lst ws)) (C : Hp → Prop) (hC : ∀ A H A' H', C H → Sta F A H A' H' → C H') (hs : ∀ H, C H → SqL K H a vs) (h : C H) (r : Reps K fa H A vs l []) : Src K fa (Ite K a) (.tl (enumL 0 l)) (enumL 0 l) F A H := by
  refine ⟨hF, fun A H => C H ∧ Reps K fa H A vs l [], ⟨h, r⟩, fun A H A' H' p s => ⟨hC _ _ _ _ p.1 s, p.2.sta (s.less (by simp))⟩, fun A H μ p m _ i => ⟨fun d hd => ?_, fun hi => ⟨vs, hs _ p.1, by rw [p.2.length, ← enumL_len l 0]; exact hi⟩⟩⟩
  rw [enumL_get, Option.map_eq_some_iff] at hd
  obtain ⟨d0, hd, rfl⟩ := hd
  obtain ⟨v, F1, h1, h2, h3⟩ := p.2.get hd
  cases List.sublist_nil.mp h3
  refine ⟨⟨vs, v, hs _ p.1, h1⟩, fun x H' y => ?_⟩
  obtain ⟨T, x, rfl, hT, rfl, hx⟩ := y
  have hx := hx vs (hs _ p.1)
  rw [h1] at hx; cases hx
  rw [Nat.zero_add]
  exact pair_ok m hT h2
end
theorem pi_enumD {X : Cx} {W : WX} {fa : FA} {G : String → Option D} {call : String → List D → Store → Rs D} {k : Nat} {fs : FS} (hC : Cn X G call k fa fs W) {a : C} {e : Expr} {x : Str} {p pos tpos : Pos} {elts : List Expr} {kk : Nat} (hx : x = ("enumerate" : Str)) (hg : glB X.env.scope x = true) (hs : starB e = true) (ha : PE X e (tD X.K fa W G call a)) :
    PI X (.Tuple elts kk tpos) (.Call (.Name x p) [e] [] pos) (tI G call X.K fa W (.enum a)) := by
  subst hx
  refine ⟨fun pins s σ H R I q => (pi_enumA (elts := elts) (kk := kk) (tpos := tpos) (glB_ok hg) (hC.blt "enumerate" (by decide)) (pa_cons ha pa_nil (star_cons hs)) (star_cons hs)).run pins s σ H R I ?_⟩
  obtain ⟨A, ρ, μ, m, re, q⟩ := q
  simp only [ev] at q
  refine ⟨A, ρ, μ, m, re, ?_⟩
  cases hr : ev G call a ρ μ with
  | no => rw [hr] at q; exact q
  | ex e' μ' => rw [hr] at q; exact q
  | ok d μ1 =>
    rw [hr] at q
    simp only [Rs.bnd_ok] at q
    intro v H1 A1 F g
    cases hd : enumD d with
    | none => rw [hd] at q; exact q.elim
    | some z =>
      rw [hd] at q
      obtain ⟨xs, hx, q⟩ := q
      have fin : ∀ {l : List D}, D.stills l = true → z = .tl (enumL 0 l) → xs = enumL 0 l ∧ settle z μ1 = (.tl (enumL 0 l), μ1) := by
        intro l hl hz
        subst hz
        have hset : settle (.tl (enumL 0 l)) μ1 = (.tl (enumL 0 l), μ1) := by simp only [settle, allocs_still (enumL_still l 0 hl)]
        rw [hset] at hx
        exact ⟨(Option.some.inj hx).symm, hset⟩
      have g0 := g
      cases d with
      | str l =>
        simp only [enumD] at hd
        obtain ⟨rfl, hset⟩ := fin (l := l.map fun c => D.str [c]) (stills_signs l) (Option.some.inj hd).symm
        rw [hset] at q
        cases g.rep with
        | str _ hok => exact .inl ⟨toS l, rfl, q H1 A1 _ [] g0.stp g0.mem (src_enS hok) (by simp)⟩
      | tup l =>
        simp only [enumD] at hd
        split at hd
        · rename_i hl
          obtain ⟨rfl, hset⟩ := fin hl (Option.some.inj hd).symm
          rw [hset] at q
          cases g.rep with
          | @tup b vs _ _ hs' r =>
            cases r.still hl
            exact .inr ⟨b, rfl, .inr ⟨vs, hs', q H1 A1 _ [] g0.stp g0.mem (src_enT hs' r) (by simp)⟩⟩
        · cases hd
      | tl l =>
        simp only [enumD] at hd
        split at hd
        · rename_i hl
          obtain ⟨rfl, hset⟩ := fin hl (Option.some.inj hd).symm
          rw [hset] at q
          have nw := g.new
          cases g.rep with
          | @tl b vs _ F0 hs' r =>
            cases r.still hl
            refine .inr ⟨b, rfl, .inl ⟨vs, .inl (.of hs'), q H1 A1 _ [b] g0.stp g0.mem (src_enL (fun c hc => ?_) (fun H => H b = some (.lst vs)) (fun A H A' H' h s => s.keep b (by simp) _ h) (fun H h => .inl (.of h)) hs' r) (fun c hc => (nw c (by simpa using hc)).1)⟩⟩
            have e0 := List.mem_singleton.mp hc
            rw [e0]
            exact ⟨(nw b (by simp)).2, vs, hs'⟩
        · cases hd
      | fz l =>
        simp only [enumD] at hd
        split at hd
        · rename_i hl
          obtain ⟨rfl, hset⟩ := fin hl (Option.some.inj hd).symm
          rw [hset] at q
          cases g.rep with
          | @fz b vs _ hs' hp r =>
            refine .inr ⟨b, rfl, .inl ⟨vs, hs', q H1 A1 _ [] g0.stp g0.mem (src_enL (by simp) (fun H => SqL X.K H b vs ∧ ((∃ o, H b = some (.frz o (.lst vs))) ∨ ∀ H', SqL X.K H' b vs)) (fun A H A' H' h s => ?_) (fun H h => h.1) ⟨hs', hp⟩ r) (by simp)⟩⟩
            rcases h.2 with ⟨o, e⟩ | h2
            · exact ⟨.inl (.inr ⟨o, s.frzs _ _ _ e⟩), .inl ⟨o, s.frzs _ _ _ e⟩⟩
            · exact ⟨h2 _, .inr h2⟩
        · cases hd
      | _ => cases hd
end Mp
end SSndE
section SSndR
/-! SndR: a text from behind. -/
namespace Mp
open PySem PySem.Spec PyProof.Rows L2
def revT (z : Str) : Str := ⟨(((List.range z.length).map fun k => z.length - 1 - k).filterMap (z.cps[·]?)).toArray⟩
theorem rev_aux (s : List Nat) : ((List.range s.length).map fun k => s.length - 1 - k).filterMap (fun i => s[i]?) = s.reverse := by
  apply List.ext_getElem?
  intro i
  have h : ((List.range s.length).map fun k => s.length - 1 - k).filterMap (fun i => s[i]?) = (List.range s.length).map fun k => s.getD (s.length - 1 - k) 0 := by
    rw [List.filterMap_map]
    have : ∀ l : List Nat, (∀ k ∈ l, k < s.length) → l.filterMap ((fun i => s[i]?) ∘ fun k => s.length - 1 - k) = l.map fun k => s.getD (s.length - 1 - k) 0 := by
      intro l
      induction l with
      | nil => intro _; rfl
      | cons k l ih =>
        intro hl
        have hk := hl k (by simp)
        have hk2 : s.length - 1 - k < s.length := by omega
        rw [List.filterMap_cons, List.map_cons, ih fun j hj => hl j (by simp [hj])]
        simp [List.getElem?_eq_getElem hk2]
    exact this _ fun k hk => List.mem_range.mp hk
  rw [h]
  by_cases hi : i < s.length
  · rw [List.getElem?_map, List.getElem?_range hi, List.getElem?_reverse hi]
    have hk2 : s.length - 1 - i < s.length := by omega
    simp [List.getElem?_eq_getElem hk2]
  · rw [List.getElem?_eq_none (by simpa using hi), List.getElem?_eq_none (by simpa using hi)]
theorem revT_toS (s : List Nat) : revT (toS s) = toS s.reverse := by
  unfold revT
  rw [toS_length]
  have h := rev_aux s
  show (⟨(List.filterMap (fun i => (toS s).cps[i]?) _).toArray⟩ : Str) = _
  have e : (fun i : Nat => (toS s).cps[i]?) = fun i : Nat => s[i]? := by
    funext i
    simp [toS]
  rw [e, h]
  rfl
section
variable {X : Cx} {fa : FA} {W : WX} {G : String → Option D} {call : String → List D → Store → Rs D} {k : Nat} {fs : FS}
theorem pe_revS {e : Expr} {te : TE} {kk : Nat} {q1 q2 q3 pos : Pos} (he : PE X e te) : PE X (.Subscript e (.Slice none none (some (.UnaryOp .USub (.Constant (.int 1) kk q1) q2)) q3) pos) (fun σ H Q => te σ H fun x H1 => ∃ z, x = .str z ∧ z.length ≤ sizeLine ∧ Q (.str (revT z)) H1) := by
  have neg : PO X (some (.UnaryOp .USub (.Constant (.int 1) kk q1) q2)) (tPart (tUn (rU fun i => .int (-i)) (tC (.int 1)))) := po_some (pe_un un_neg pe_int)
  refine ⟨fun pins s σ H Q I h => Subscript_ (thn (he.run pins s σ H _ I h) fun u s1 hx => ?_)⟩
  obtain ⟨x, H1, I1, ru, z, ex, hz, q⟩ := hx
  subst ex
  obtain ⟨t, rfl⟩ := ru
  refine wpAny_Slice (thn (po_none.run pins s1 σ H1 (fun o J => o = none ∧ J = H1) I1 ⟨rfl, rfl⟩) fun v1 s2 ⟨o1, H2, I2, p1, e1, j1⟩ => ?_)
  subst e1 j1
  refine thn (po_none.run pins s2 σ H2 (fun o J => o = none ∧ J = H2) I2 ⟨rfl, rfl⟩) fun v2 s3 ⟨o2, H3, I3, p2, e2, j2⟩ => ?_
  subst e2 j2
  refine thn (neg.run pins s3 σ H3 (fun o J => o = some (-1) ∧ J = H3) I3 ⟨1, rfl, -1, rfl, rfl, rfl⟩) fun v3 s4 ⟨o3, H4, I4, p3, e3, j3⟩ => ?_
  subst e3 j3
  have I5 : Inv X pins σ H4 { s4 with heap := s4.heap.push { cls := .type "slice", data := .fields #[v1, v2, v3] } } := I4.kept (t' := s4.toks) fun b u hb => Heap.get?_push_of_some _ hb
  obtain ⟨l1, rfl, hl1⟩ := IsPart.raw p1
  obtain ⟨l2, rfl, hl2⟩ := IsPart.raw p2
  obtain ⟨l3, rfl, hl3⟩ := IsPart.raw p3
  have n1 : l1 = none := by cases l1 <;> first | rfl | cases hl1
  have n2 : l2 = none := by cases l2 <;> first | rfl | cases hl2
  subst n1 n2
  obtain ⟨tk, rfl⟩ : ∃ tk, l3 = some (-1, tk) := by
    cases l3 with
    | none => cases hl3
    | some p =>
      obtain ⟨i, tk⟩ := p
      have : -1 = i := by simpa using hl3.symm
      exact ⟨tk, by rw [← this]⟩
  show wpAny (model X.prog X.w) X.A (subscriptTail e (.Slice none none (some (.UnaryOp .USub (.Constant (.int 1) kk q1) q2)) q3) (.str z t) (.ref s4.heap.objs.size)) (EP X pins σ Q) X.xe _
  refine tail_any (ops := [.str z t, .ref s4.heap.objs.size]) (typeIs_str _ _ _) F.slot_str_getitem.lookup ?_ (by with_unfolding_all rfl)
  refine wpAny_getItem_str_slice (l := none) (u := none) (st := some (-1, tk)) (Heap.IsSliceOf.new ..) rfl ?_
  have hpk : (Builtin.Str.strSliceIndices none none (-1) z.length).filterMap (z.cps[·]?) = ((List.range z.length).map fun k => z.length - 1 - k).filterMap (z.cps[·]?) := by rw [picked_rev]
  show Made.post (if ((-1 : Int) == 1 && (Builtin.Str.strSliceIndices none none (-1) z.length).length == z.length) = true then Made.val (.str z t) else Made.str ⟨((Builtin.Str.strSliceIndices none none (-1) z.length).filterMap (z.cps[·]?)).toArray⟩) (EP X pins σ Q) _
  rw [if_neg (by simp), hpk]
  refine ⟨?_, .str _, H4, I5.tok _, ⟨_, rfl⟩, q⟩
  show (revT z).length ≤ sizeLine
  refine Nat.le_trans ?_ hz
  show (List.filterMap _ _).toArray.size ≤ _
  rw [List.size_toArray]
  exact Nat.le_trans (List.length_filterMap_le _ _) (by simp)
theorem pe_revD {a : C} {e : Expr} {kk : Nat} {q1 q2 q3 pos : Pos} (he : PE X e (tD X.K fa W G call a)) : PE X (.Subscript e (.Slice none none (some (.UnaryOp .USub (.Constant (.int 1) kk q1) q2)) q3) pos) (tD X.K fa W G call (.rev a)) := by
  refine PE.imp (pe_revS he) fun σ H Q ⟨A, ρ, μ, m, re, p⟩ => ?_
  refine ⟨A, ρ, μ, m, re, Pst.mono (Pst.bnd .refl p) fun v H1 ⟨A1, x, μ1, F, g, p1⟩ => ?_⟩
  cases x with
  | str s =>
    have r := g.rep
    cases r with
    | str _ hs =>
      refine ⟨_, rfl, by rw [toS_length]; exact okS_len hs, ?_⟩
      rw [revT_toS]
      exact Pst.done g.stp g.mem (.str _ (okS_sub hs (by simp) fun c hc => List.mem_reverse.mp hc)) p1
  | _ => exact p1.elim
end
end Mp
end SSndR
section SSndF
/-! SndF: lists that are written no more; calls of a name that holds a def; an error's fields. -/
namespace Mp
open PySem PySem.Spec PyProof.Rows L2
/-- the things at F are locked -/
structure Lk (F : List Addr) (H H2 : Hp) : Prop where
  out : ∀ b, b ∉ F → H2 b = H b
  into : ∀ b ∈ F, ∀ u, H b = some u → ∃ o, H2 b = some (.frz o u)
theorem Inv.locks {X : Cx} {pins : List (Addr × PySem.Obj)} {σ : L2.St} {s : Shared} : ∀ {F : List Addr} {H : Hp}, Inv X pins σ H s → (∀ a ∈ F, ∃ vs, H a = some (.lst vs)) → ∃ H2, Lk F H H2 ∧ Inv X pins σ H2 s
  | [], H, I, _ => ⟨H, ⟨fun _ _ => rfl, fun _ h => by cases h⟩, I⟩
  | a :: F, H, I, h => by
    obtain ⟨H2, L, I2⟩ := Inv.locks (F := F) I fun b hb => h b (List.mem_cons_of_mem _ hb)
    by_cases ha : a ∈ F
    · refine ⟨H2, ⟨fun b hb => L.out b fun z => hb (List.mem_cons_of_mem _ z), fun b hb u e => ?_⟩, I2⟩
      rcases List.mem_cons.mp hb with z | z
      · subst z; exact L.into _ ha u e
      · exact L.into b z u e
    · obtain ⟨vs, e⟩ := h a List.mem_cons_self
      have e2 : H2 a = some (.lst vs) := by rw [L.out a ha]; exact e
      obtain ⟨od, I3⟩ := I2.lock e2 True.intro
      refine ⟨_, ⟨fun b hb => ?_, fun b hb u e' => ?_⟩, I3⟩
      · have h1 : b ≠ a := fun z => hb (by rw [z]; exact List.mem_cons_self)
        rw [upd_ne h1]
        exact L.out b fun z => hb (List.mem_cons_of_mem _ z)
      · by_cases hba : b = a
        · subst hba
          rw [e] at e'; cases e'
          exact ⟨od, upd_same⟩
        · rw [upd_ne hba]
          exact L.into b ((List.mem_cons.mp hb).resolve_left hba) u e'
/-- the reading: what is fresh in the value is locked -/
def tFrz (t : TE) : TE := fun σ H Q => t σ H fun v H1 => ∃ F, (∀ a ∈ F, ∃ vs, H1 a = some (.lst vs)) ∧ ∀ H2, Lk F H1 H2 → Q v H2
theorem pe_frz {X : Cx} {e : Expr} {t : TE} (h : PE X e t) : PE X e (tFrz t) := by
  refine ⟨fun pins s σ H Q I hw => ?_⟩
  refine thn (h.run pins s σ H _ I hw) fun v s1 ⟨x, H1, I1, r, F, hF, q⟩ => ?_
  obtain ⟨H2, L, I2⟩ := Inv.locks I1 hF
  exact ⟨x, H2, I2, r, q H2 L⟩
/-- .. of a statement: at its end -/
def eFrz (D : Ends) (C : L2.St → Hp → List Addr → Prop) : Ends := { D with nx := fun σ' H' => ∃ F, (∀ a ∈ F, ∃ vs, H' a = some (.lst vs)) ∧ C σ' H' F ∧ ∀ H2, Lk F H' H2 → D.nx σ' H2 }
theorem ps_frz {X : Cx} {st : Stmt} {t : TS} (h : PS X st t) : PS X st (fun D σ H => t { D with nx := fun σ' H' => ∃ F, (∀ a ∈ F, ∃ vs, H' a = some (.lst vs)) ∧ ∀ H2, Lk F H' H2 → D.nx σ' H2 } σ H) := by
  refine ⟨fun pins s σ H D I hw => ?_⟩
  refine thn (h.run pins s σ H _ I hw) fun f s1 q => ?_
  cases f with
  | next =>
    obtain ⟨σ', H', I', F, hF, q⟩ := q
    obtain ⟨H2, L, I2⟩ := Inv.locks I' hF
    exact ⟨σ', H2, I2, q H2 L⟩
  | brk => exact q
  | cont => exact q
  | ret v => exact q

section
variable {K : PySem.W.Frag} {fa : FA} {H H2 : Hp} {A : List Addr} {F : List Addr}
theorem Lk.tups (L : Lk F H H2) (hF : ∀ a ∈ F, ∃ vs, H a = some (.lst vs)) : ∀ p xs, H p = some (.tup xs) → H2 p = some (.tup xs) := fun p xs e => by
  rw [L.out p fun hm => by obtain ⟨vs, e'⟩ := hF p hm; rw [e] at e'; cases e']; exact e
theorem Lk.frzs (L : Lk F H H2) (hF : ∀ a ∈ F, ∃ vs, H a = some (.lst vs)) : ∀ p o u, H p = some (.frz o u) → H2 p = some (.frz o u) := fun p o u e => by
  rw [L.out p fun hm => by obtain ⟨vs, e'⟩ := hF p hm; rw [e] at e'; cases e']; exact e
theorem Lk.xds (L : Lk F H H2) (hF : ∀ a ∈ F, ∃ vs, H a = some (.lst vs)) : ∀ p fs, H p = some (.xd fs) → H2 p = some (.xd fs) := fun p o e => by
  rw [L.out p fun hm => by obtain ⟨vs, e'⟩ := hF p hm; rw [e] at e'; cases e']; exact e
theorem Lk.sqT (L : Lk F H H2) (hF : ∀ a ∈ F, ∃ vs, H a = some (.lst vs)) {a : Addr} {xs : List V} (h : SqT K H a xs) : SqT K H2 a xs := by
  rcases h with (h | ⟨o, h⟩) | h
  · exact .inl (.inl (L.tups hF _ _ h))
  · exact .inl (.inr ⟨o, L.frzs hF _ _ _ h⟩)
  · exact .inr h
theorem Lk.sta (L : Lk F H H2) (hF : ∀ a ∈ F, ∃ vs, H a = some (.lst vs)) : Sta [] A H A H2 := ⟨⟨[], by simp⟩, by simp, L.tups hF, L.frzs hF⟩
mutual
theorem Rep.frz (L : Lk F H H2) (hF : ∀ a ∈ F, ∃ vs, H a = some (.lst vs)) : ∀ {v : V} {d : D} {F1 : List Addr}, Rep K fa H A v d F1 → (∀ a ∈ F1, a ∈ F) → Rep K fa H2 A v (freeze d) []
  | _, .non, _, h, _ => by cases h; exact .non
  | _, .bl _, _, h, _ => by cases h; exact .bl _
  | _, .int _, _, h, _ => by cases h; exact .int _
  | _, .str _, _, h, _ => by cases h with | str _ h => exact .str _ h
  | _, .fn _, _, h, _ => by cases h with | fn h => exact .fn h
  | _, .ref _, _, h, _ => by cases h with | ref h => exact .ref h
  | _, .fz l, _, h, _ => by cases h with | fz h hp r => exact (Rep.fz h hp r).sta (L.sta hF)
  | _, .tup l, _, h, s => by cases h with | tup h r => exact .tup (L.sqT hF h) (Reps.frz L hF r s)
  | _, .tl l, _, h, s => by
    cases h with
    | @tl a vs _ F0 h r =>
      obtain ⟨o, e⟩ := L.into a (s a (by simp)) _ h
      exact .fz (.inl (.inr ⟨o, e⟩)) (.inl ⟨o, e⟩) (Reps.frz L hF r fun b hb => s b (by simp [hb]))
theorem Reps.frz (L : Lk F H H2) (hF : ∀ a ∈ F, ∃ vs, H a = some (.lst vs)) : ∀ {vs : List V} {ds : List D} {F1 : List Addr}, Reps K fa H A vs ds F1 → (∀ a ∈ F1, a ∈ F) → Reps K fa H2 A vs (freezes ds) []
  | _, [], _, h, _ => by cases h; exact .nil
  | _, d :: ds, _, h, s => by
    cases h with
    | cons r t => exact Reps.cons (F := []) (F' := []) (Rep.frz L hF r fun a ha => s a (by simp [ha])) (Reps.frz L hF t fun a ha => s a (by simp [ha]))
end
theorem Good.frz {μ : Store} {d : D} {v : V} {A' : List Addr} {H' : Hp} (g : Good K fa A H μ d v H' A' F) (L : Lk F H' H2) : Good K fa A H μ (freeze d) v H2 A' [] := by
  have hF := g.tracked
  have nF : ∀ {p : Addr} {o : HO}, H p = some o → p ∉ F := fun e hm => by rw [(g.new _ hm).1] at e; cases e
  refine ⟨⟨g.stp.pre, fun p o e hp => ?_, fun p o e => ?_, fun p xs e => L.tups hF p xs (g.stp.tups p xs e), fun p o u e => L.frzs hF p o u (g.stp.frzs p o u e), fun p fs e => L.xds hF p fs (g.stp.xds p fs e)⟩, ?_, Rep.frz L hF g.rep fun a ha => ha, List.nodup_nil, by simp⟩
  · rw [L.out p (nF e)]; exact g.stp.keep p o e hp
  · obtain ⟨o', e'⟩ := g.stp.there p o e
    exact ⟨o', by rw [L.out p (nF e)]; exact e'⟩
  · refine ⟨g.mem.len, fun i o hi => ?_, g.mem.nd⟩
    obtain ⟨a, h1, h2⟩ := g.mem.obj i o hi
    have ha : a ∉ F := fun hm => (g.new a hm).2 (List.mem_of_getElem? h1)
    exact ⟨a, h1, h2.map rfl (fun u _ e => by rw [L.out a ha]; exact e) fun _ _ q => q.sta (L.sta hF)⟩
end
section
variable {fa : FA} {W : WX} {A A0 A1 A2 A' : List Addr} {H H0 H1 H2 H' : Hp} {σ σ' : L2.St} {X : Cx} {G : String → Option D} {call : String → List D → Store → Rs D} {k : Nat} {fs : FS}
theorem pe_frzD {a : C} {e : Expr} (ha : PE X e (tD X.K fa W G call a)) : PE X e (tD X.K fa W G call (.frz a)) := PE.imp (pe_frz ha) fun σ H Q ⟨A, ρ, μ, m, re, p⟩ => by
  refine ⟨A, ρ, μ, m, re, Pst.mono (Pst.bnd .refl p) fun v H1 ⟨A1, d, μ1, F, g, p1⟩ => ?_⟩
  exact ⟨F, g.tracked, fun H2 L => p1 _ _ _ _ (g.frz L)⟩
theorem truth_frz {μ : Store} : ∀ x : D, truth μ (freeze x) = truth μ x := by
  have e : ∀ l : List D, (freezes l).isEmpty = l.isEmpty := fun l => by cases l <;> rfl
  intro x
  cases x <;> simp [freeze, truth, e]
theorem pt_frz {a : C} {e : Expr} (ha : PT X e (Mp.tB X.K fa W G call a)) : PT X e (Mp.tB X.K fa W G call (.frz a)) := PT.imp ha fun σ H Q ⟨A, ρ, μ, m, re, p⟩ => by
  refine ⟨A, ρ, μ, m, re, ?_⟩
  have e : ((ev G call (.frz a) ρ μ).bnd fun x μ => Rs.of (truth μ x) μ) = (ev G call a ρ μ).bnd fun x μ => Rs.of (truth μ x) μ := by
    simp only [ev]
    cases ev G call a ρ μ with
    | ok d μ1 => show Rs.of (truth μ1 (freeze d)) μ1 = _; rw [truth_frz]; rfl
    | ex _ _ => rfl
    | no => rfl
  rw [e] at p
  exact p
/-- a call of a name that holds a def -/
theorem pe_callvD (hC : Cn X G call k fa fs W) {i : Nat} {l : Cs} {e : Expr} {es : List Expr} {x : Str} {p pos : Pos} (hcal : fs.calm = true) (h1 : X.N[i]? = some x) (h2 : Vis X.env.scope x) (h3 : plB x = true) (hs : (e :: es).all starB = true) (ha : PA X (e :: es) (tL X.K fa W G call l)) :
    PE X (.Call (.Name x p) (e :: es) [] pos) (tD X.K fa W G call (.callv i l)) := by
  obtain ⟨p1, p2⟩ := plB_ok h3
  have hs' : starB e = true ∧ es.all starB = true := by simpa using hs
  refine ⟨fun pins s σ H Q I h => ?_⟩
  obtain ⟨A, ρ, μ, m, re, q⟩ := h
  have ev_eq : ev G call (.callv i l) ρ μ = match ρ[i]? with
    | some (some (.fn f)) => (evs G call l ρ μ).bnd fun ds μ => callA call f ds μ
    | _ => .no := by simp only [ev] <;> rfl
  rw [ev_eq] at q
  split at q
  · rename_i f hf
    obtain ⟨v, e1, e2⟩ := re.2 i _ hf
    have r := e2.val rfl
    cases r with
    | @fn _ a hfa =>
      obtain ⟨a', fd, ps, c1, c2, c3, c4, c5⟩ := hC.call hcal f (hC.dom f a hfa)
      rw [hfa] at c1; cases c1
      refine wpAny_Call_Name_kw (thn ((pe_var (pos := p) h1 h2 p1 p2).run pins s σ H (fun v H1 => v = .ref a ∧ H1 = H) I ⟨.ref a, e1, rfl, rfl⟩) fun u s1 ⟨v, H1, I1, r1, q1⟩ => ?_)
      obtain ⟨rfl, rfl⟩ := q1
      cases r1
      have hq : tL X.K fa W G call l σ H1 fun vs H2 => spI X.K fa ps.length (call f) vs H2 Q (fun cls d H => W cls d σ H) := by
        refine ⟨A, ρ, μ, m, re, PstL.mono (PstL.bnd .refl q) fun vs H2 ⟨A1, ds, μ1, F, g, p1⟩ => ?_⟩
        refine callA_ok g ?_ p1
        unfold callA at p1
        split at p1
        · exact c5 ds μ1 fun z => by rw [z] at p1; exact p1
        · have h5 := c5 (allocs ds μ1).1 (allocs ds μ1).2 fun z => by rw [z] at p1; exact p1
          rw [← h5, ← g.alloc.rep.length, g.rep.length]
      refine PySem.W.callWith_K (h₀ := X.base) I.ok.mod.kin c2 (thn (ha.run pos pins s1 σ _ _ I1 hq) fun us s2 ⟨vs, H2, I2, r, q⟩ => ⟨I2.kIn, ?_⟩) (star_cons hs'.1) (star_any hs'.2)
      refine run_fnSD (dvs := []) (ds := []) (E := fun σ cls d H => W cls d σ H) c4 (hC.room hcal) c3 .nil (passAt hC.takes σ) I2 r ?_
      rw [List.append_nil]
      exact q
  · exact q.elim
end
end Mp
end SSndF
section SSndG
/-! SndG: an error's fields, and what it is, where it is handled. -/
namespace Mp
open PySem PySem.Spec PyProof.Rows L2
section
variable {prog : Program} {w : World} {A : Around} {E : Value → Shared → Prop} {s : Shared} {K : PySem.W.Frag}
/-- isinstance(x, S), x of a class under S -/
theorem is_under {x C S : Addr} {Q : Value → Shared → Prop} (kin : K.In s.heap) (hne : C ≠ S) (ty : PySem.W.Looks (model prog w) s.heap (typeOf (.ref x)) (.ref C)) (hc : PySem.W.kitCls K (.ref C) (.ref S) = some true) (q : Q (.bool true) s) :
    wpAny (model prog w) A (call (.builtin "isinstance") [.ref x, .ref S]) Q E s := by
  obtain ⟨k1, k2, k3⟩ := PySem.W.kit_cls (M := model prog w) kin hc
  have k4 : PySem.W.Looks (model prog w) s.heap (isInstance (.ref x) (.ref S)) true := ty.andThen k3
  have hb : ¬ ((Value.ref C == Value.ref S) = true) := fun z => hne (Value.ref.inj (beq_iff_eq.mp z))
  refine call_isinstance_of ?_ (fun z => nomatch z)
  unfold Builtin.«isinstance.nested»
  refine wpAny_bind (ty.at ?_)
  rw [if_neg hb]
  refine wpAny_bind (k1.at ?_)
  rw [if_pos (show (Value.type "type" == Value.type "type") = true from by decide)]
  k_delta "plainIsInstance"
  refine wpAny_bind (wpAny_bind (k2.at ?_))
  simp only [Bool.not_true, Bool.false_eq_true, if_false]
  refine wpAny_bind (k4.at ?_)
  first
    | exact wpAny_pure (wpAny_pure q)
    | (simp only [if_true]; first | exact wpAny_pure (wpAny_pure q) | exact wpAny_pure q | exact wpAny_bind (wpAny_pure (wpAny_pure q)))
end
section
variable {fa : FA} {W : WX} {A A0 A1 A2 A' : List Addr} {H H0 H1 H2 H' : Hp} {σ σ' : L2.St} {X : Cx} {G : String → Option D} {call : String → List D → Store → Rs D} {k : Nat} {fs : FS}
theorem call_under {Y : Cx} {a C S : Addr} {oe : PySem.Obj} {pn : List (Addr × PySem.Obj)} {dd : Addr} (hne : C ≠ S) (hz : Zc (.ref C) (some dd) oe) (hc : PySem.W.kitCls Y.K (.ref C) (.ref S) = some true) :
    CallR (Y.suite a ((a, oe) :: pn)) (.builtin "isinstance") (fun xs H Q => xs = [.ref a, .ref S] ∧ Q (.bl true) H) := by
  intro pins s σ H xs us Q I r h
  obtain ⟨rfl, q⟩ := h
  cases r with
  | cons rx rr =>
    cases rr with
    | cons rt rr =>
      cases rr
      cases rx
      cases rt
      obtain ⟨hget, _⟩ := I.pin (a, oe) (List.mem_append.mpr (.inl List.mem_cons_self))
      refine is_under (K := Y.K) I.kIn hne (fun A Q E s' k q => wpAny_typeOf_ref (k _ _ hget) (by rw [hz.1]; exact q)) hc ⟨.bl true, H, I, rfl, q⟩
theorem zipl_get : ∀ {ns : List String} {l : List D} {vs : List V} {n : String} {d : D}, (ns.map Str.ofString).Nodup → Reps X.K fa H A vs l [] → xField ns l n = some d →
    ∃ v, ((ns.map Str.ofString).zip vs).lookup (Str.ofString n) = some v ∧ Rep X.K fa H A v d [] ∧ ∀ y, ((Str.ofString n), y) ∈ (ns.map Str.ofString).zip vs → y = v
  | [], _, _, _, _, _, _, e => by cases e
  | _ :: _, [], _, _, _, _, _, e => by cases e
  | m :: ns, d0 :: l, vs, n, d, nd, r, e => by
    generalize hF : ([] : List Addr) = F at r
    cases r with
    | @cons v0 vs _ _ F1 F2 r1 t =>
      obtain ⟨e1, e2⟩ := List.append_eq_nil_iff.mp hF.symm
      subst e1 e2
      rw [List.map_cons, List.nodup_cons] at nd
      unfold xField at e
      split at e
      · rename_i hm
        subst hm
        cases e
        refine ⟨v0, by simp [List.lookup], r1, fun y hy => ?_⟩
        rcases List.mem_cons.mp hy with z | z
        · exact (Prod.mk.inj z).2
        · exact absurd (List.of_mem_zip z).1 nd.1
      · rename_i hm
        obtain ⟨v, h1, h2, h3⟩ := zipl_get nd.2 t e
        have hne : Str.ofString n ≠ Str.ofString m := fun z => by
          have := (List.of_mem_zip (lookup_mem0 h1)).1
          rw [z] at this
          exact nd.1 this
        refine ⟨v, ?_, h2, fun y hy => ?_⟩
        · have : (Str.ofString n == Str.ofString m) = false := by simpa using hne
          simp [List.lookup, this, h1]
        · rcases List.mem_cons.mp hy with z | z
          · exact absurd (Prod.mk.inj z).1 hne
          · exact h3 y z
where
  lookup_mem0 {l : List (Str × V)} {x : Str} {b : V} (h : l.lookup x = some b) : (x, b) ∈ l := by
    induction l with
    | nil => cases h
    | cons p l ih =>
      rw [List.lookup_cons] at h
      split at h
      · rename_i e
        have e := eq_of_beq e
        cases h
        subst e
        exact List.mem_cons_self
      · exact List.mem_cons_of_mem _ (ih h)
theorem lookup_rev {l : List (Str × V)} {x : Str} {v : V} (h1 : l.lookup x = some v) (h2 : ∀ y, (x, y) ∈ l → y = v) : l.reverse.lookup x = some v := by
  have key : ∀ {m : List (Str × V)}, (x, v) ∈ m → (∀ y, (x, y) ∈ m → y = v) → m.lookup x = some v := by
    intro m
    induction m with
    | nil => intro h _; cases h
    | cons p m ih =>
      intro h hu
      rw [List.lookup_cons]
      by_cases hp : x = p.1
      · have := hu p.2 (by rw [hp]; exact List.mem_cons_self)
        simp [hp, this]
      · have e : (x == p.1) = false := by simpa using hp
        rw [e]
        rcases List.mem_cons.mp h with z | z
        · exact absurd (congrArg Prod.fst z) hp
        · exact ih z fun y hy => hu y (List.mem_cons_of_mem _ hy)
  exact key (List.mem_reverse.mpr (zipl_get.lookup_mem0 h1)) fun y hy => h2 y (List.mem_reverse.mp hy)
theorem pe_xfD (hC : Cn X G call k fa fs W) {i : Nat} {n : String} {x y : Str} {p pos : Pos} (h1 : X.N[i]? = some x) (h2 : Vis X.env.scope x) (h3 : plB x = true) (hn : n ∈ ["at", "why"]) (hy : y = (n : Str)) :
    PE X (.Attribute (.Name x p) y pos) (tD X.K fa W G call (.xf i n)) := by
  subst hy
  obtain ⟨p1, p2⟩ := plB_ok h3
  refine ⟨fun pins s σ H Q I h => ?_⟩
  obtain ⟨A, ρ, μ, m, re, q⟩ := h
  simp only [ev] at q
  split at q
  · rename_i cls ns l hρ
    obtain ⟨v, e1, e2⟩ := re.2 i _ hρ
    rcases e2 with ⟨c', ns', l', a, dd, z1, hx, rfl, vs, hd, hr, hlen, hfl, hnd⟩ | e2
    · cases z1
      obtain ⟨d, hf, q2⟩ := Pst.of q
      obtain ⟨hcal, Y, oe, pn, C, hX, hz, ho, hcc, ns2, hes⟩ := hC.sx i a dd _ hx
      obtain ⟨C', hC1, ok⟩ := hC.exc _ _ hes
      rw [hcc] at hC1; cases hC1
      obtain ⟨vv, g1, g2, g3⟩ := zipl_get (X := X) (H := H) (A := A) hnd (hr A) hf
      have hno := ok.no n hn
      have hxf := ok.xf
      subst hX
      have pe := pe_xf (X := Y) (a := a) (oe := oe) (cls := .ref C) (d := some dd) (pn := pn) (n := (n : Str)) (pos := pos) hxf hno hz ho (pe_var (X := Y.suite a ((a, oe) :: pn)) (pos := p) h1 h2 p1 p2)
      refine pe.run pins s σ H Q I ?_
      exact ⟨.ref a, e1, rfl, rfl, dd, _, vv, rfl, hd, lookup_rev g1 g3, q2.done .refl m g2⟩
    · cases e2
  · exact q.elim
theorem pe_isxD (hC : Cn X G call k fa fs W) {i : Nat} {c b : String} {x y z : Str} {p q pos : Pos} (h1 : X.N[i]? = some x) (h2 : Vis X.env.scope x) (h3 : plB x = true) (hz : z = ("isinstance" : Str)) (hg : glB X.env.scope z = true) (hy : y = (b : Str)) (hg' : glB X.env.scope y = true) (hpy : plB y = true) (hs : (c, b) ∈ fs.s) (hp0 : Pos) :
    PE X (.Call (.Name z hp0) [.Name x p, .Name y q] [] pos) (tD X.K fa W G call (.isx i c b)) := by
  subst hy hz
  obtain ⟨p1, p2⟩ := plB_ok h3
  refine ⟨fun pins s σ H Q I h => ?_⟩
  obtain ⟨A, ρ, μ, m, re, qq⟩ := h
  simp only [ev] at qq
  split at qq
  · rename_i cls ns l hρ
    obtain ⟨v, e1, e2⟩ := re.2 i _ hρ
    rcases e2 with ⟨c', ns', l', a, dd, z1, hx, rfl, vs, hd, hr, hlen, hfl, hnd⟩ | e2
    · cases z1
      split at qq
      · rename_i hcc
        subst hcc
        obtain ⟨hcal, Y, oe, pn, C, hX, hz, ho, hcc, ns2, hes⟩ := hC.sx i a dd _ hx
        obtain ⟨C', hC1, sb⟩ := hC.sub _ _ hs
        rw [hcc] at hC1; cases hC1
        obtain ⟨S, hm, hne, hkit⟩ := sb.ex
        have hmi := hC.blt "isinstance" (by decide)
        subst hX
        have pv1 := pe_var (X := Y.suite a ((a, oe) :: pn)) (pos := p) h1 h2 p1 p2
        have pv2 : PE (Y.suite a ((a, oe) :: pn)) (.Name (b : Str) q) (tC (.ref S)) := pe_glob (glB_ok hg') hm rfl (plB_ok hpy).1
        refine (pe_callB (call_under hne hz hkit) (glB_ok hg) hmi (clsN_isi).1 (pa_cons pv1 (pa_cons pv2 pa_nil)) (clsN_isi).2.1 (clsN_isi).2.2 rfl rfl).run pins s σ H Q I ?_
        exact ⟨.ref a, e1, rfl, qq.done .refl m (.bl true)⟩
      · exact qq.elim
    · cases e2
  · exact qq.elim
where
  clsN_isi : bootBuiltins ("isinstance" : Str) = some (.builtin "isinstance") ∧ ("isinstance" : Str) ≠ "__name__" ∧ (("isinstance" : Str) == ("__debug__" : Str)) = false := by decide +kernel
end
end Mp
end SSndG
section SSndH
/-! SndH: calls without arguments, a sign's place in a text. -/
namespace Mp
open PySem PySem.Spec PyProof.Rows L2
section
variable {X : Cx} {fa : FA} {W : WX} {G : String → Option D} {call : String → List D → Store → Rs D} {k : Nat} {fs : FS}
theorem pe_call0D (hC : Cn X G call k fa fs W) {f : String} {x : Str} {p pos : Pos} (hcal : fs.calm = true) (hf : f ∈ fs.f)
    (hx : x = (f : Str)) (hg : glB X.env.scope x = true) (hp : plB x = true) :
    PE X (.Call (.Name x p) [] [] pos) (tD X.K fa W G call (.call f .nil)) := by
  obtain ⟨a, fd, ps, h1, h2, h3, h4, h5⟩ := hC.call hcal f hf
  subst hx
  refine ⟨fun pins s σ H Q I h => ?_⟩
  refine wpAny_Call_Name_kw (ld_glob I (glB_ok hg) (hC.fns f a h1) ?_ (plB_ok hp).1)
  refine PySem.W.callWith_K0 I.kIn h2 (run_fnSD (us := []) (vs := []) (dvs := []) (ds := []) (E := fun σ cls d H => W cls d σ H) h4 (hC.room hcal) h3 .nil (passAt hC.takes σ) I .nil ?_)
  obtain ⟨A, ρ, μ, m, re, p1⟩ := h
  have p1 : Pst X.K fa W A H σ (callA call f [] μ) Q := by
    have e : ev G call (.call f .nil) ρ μ = callA call f [] μ := by simp only [ev, evs, Rs.bnd_ok]
    rwa [e] at p1
  refine callA_ok (μ := μ) (A0 := A) (H0 := H) (F := []) (vs := []) (ds := []) ⟨.refl, m, .nil, List.nodup_nil, by simp⟩ ?_ p1
  unfold callA at p1
  exact h5 [] μ fun z => by rw [z] at p1; exact p1
theorem ltIdx_ne {c : Nat} : ∀ {s : List Nat} {j : Nat}, j < s.idxOf c → ∀ (h : j < s.length), s[j] ≠ c
  | [], _, h, _ => by simp at h
  | a :: s, 0, h, _ => by
    rw [List.idxOf_cons] at h
    intro e
    have e : a = c := e
    rw [e] at h
    simp at h
  | a :: s, j + 1, h, h2 => by
    rw [List.idxOf_cons] at h
    by_cases e : (a == c) = true
    · rw [e] at h; simp at h
    · have e' : (a == c) = false := by simpa using e
      rw [e', cond_false] at h
      exact ltIdx_ne (Nat.lt_of_succ_lt_succ h) (by simpa using h2)
open PySem.StrLaws in
theorem occ_index {s : List Nat} {c : Nat} (h : s.contains c = true) : ∃ rest, Builtin.Str.occurrences (toS s) (toS [c]) 0 (toS s).length 1 = s.idxOf c :: rest := by
  have hm : c ∈ s := by simpa using h
  have hlt : s.idxOf c < s.length := List.idxOf_lt_length_iff.mpr hm
  have at_ : ∀ i, PySem.StrLaws.At (toS s) (toS [c]) (toS s).length i ↔ s[i]? = some c := fun i => subAt_one (toS s) c i
  rcases occ_head (toS s) (toS [c]) 1 (Nat.le_refl _) with ⟨_, hn⟩ | ⟨i, r, e, ha, hn⟩
  · exact absurd ((at_ _).mpr (by rw [List.getElem?_eq_getElem hlt, List.getElem_idxOf hlt])) (hn _)
  · refine ⟨r, ?_⟩
    rw [e]
    have ha := (at_ i).mp ha
    have hle : s.idxOf c ≤ i := by
      refine Nat.le_of_not_lt fun hl => ?_
      obtain ⟨hi, he⟩ := List.getElem?_eq_some_iff.mp ha
      exact ltIdx_ne hl hi he
    have hge : i ≤ s.idxOf c := by
      refine Nat.le_of_not_lt fun hl => hn _ hl ((at_ _).mpr ?_)
      rw [List.getElem?_eq_getElem hlt, List.getElem_idxOf hlt]
    rw [Nat.le_antisymm hge hle]
theorem mt_index : MtR X "str.index" (fun x xs H Q => ∃ a c, x = .str (toS a) ∧ xs = [.str (toS [c])] ∧ a.contains c = true ∧ Q (.int (a.idxOf c : Nat)) H) := by
  intro pins s σ H x xs v us Q I rx rs h
  obtain ⟨a, c, rfl, rfl, hc, h⟩ := h
  obtain ⟨t, rfl⟩ := rx
  cases rs with
  | cons r1 rs =>
    cases rs
    obtain ⟨u, rfl⟩ := r1
    obtain ⟨rest, ho⟩ := occ_index hc
    exact PySem.SC.index (i := a.idxOf c) (rest := rest) ho ⟨.int _, H, I.tok _, ⟨_, rfl⟩, h⟩
theorem methop_index {μ μ' : Store} {a : List Nat} {y z : D} (h : methop μ .index (.str a) [y] = some (z, μ')) : ∃ c, y = .str [c] ∧ a.contains c = true ∧ z = .int (a.idxOf c : Nat) ∧ μ' = μ := by
  cases y with
  | str s =>
    match s, h with
    | [], h => simp [methop] at h
    | [c], h =>
      simp only [methop] at h
      split at h
      · rename_i hc; cases h; exact ⟨c, rfl, hc, rfl, rfl⟩
      · cases h
    | _ :: _ :: _, h => simp [methop] at h
  | _ => simp [methop] at h
theorem pe_indexD {o c : C} {o' e : Expr} {m : Str} {p q : Pos} (hm : m = ("index" : Str)) (hr : recvT o' = true) (hl : (p.endLine == q.line) = true) (hs : starB e = true) (ho : PE X o' (tD X.K fa W G call o)) (ha : PE X e (tD X.K fa W G call c)) :
    PE X (.Call (.Attribute o' m p) [e] [] q) (tD X.K fa W G call (.meth .index o (.cons c .nil))) := by
  subst hm
  refine PE.imp (pe_m1 F.slot_str_index F.type_str_index mt_index ho ha (star_cons hs) (recvT_base hr) hl) fun σ H Q ⟨A, ρ, μ, m, re, p⟩ => ?_
  refine ⟨A, ρ, μ, m, re, Pst.mono (Pst.bnd .refl p) fun v H1 ⟨A1, d, μ1, F, g, p1⟩ => ?_⟩
  split at p1
  · rename_i hrec
    cases d with
    | str a =>
      have r1 := g.rep
      cases r1 with
      | str _ hsa =>
        simp only [evs] at p1
        refine ⟨⟨_, rfl⟩, A1, ρ, μ1, g.mem, re.step g.stp, ?_⟩
        cases hr2 : ev G call c ρ μ1 with
        | no => rw [hr2] at p1; exact p1.elim
        | ex e' μ' => rw [hr2] at p1; exact fun cls dd H' A' s m x => p1 cls dd H' A' (g.stp.trans s) m x
        | ok y μ2 =>
          rw [hr2] at p1
          simp only [Rs.bnd_ok] at p1
          intro w H2 A2 F2 g2
          cases e1 : methop μ2 .index (.str a) [y] with
          | none => rw [e1] at p1; exact p1.elim
          | some r =>
            obtain ⟨z, μ'⟩ := r
            rw [e1] at p1
            obtain ⟨c', rfl, hc, rfl, rfl⟩ := methop_index e1
            cases g2.rep with
            | str _ _ => exact ⟨_, _, rfl, rfl, hc, Pst.done (g.stp.trans g2.stp) g2.mem (.int _) p1⟩
    | _ => simp [recvOk] at hrec
  · exact p1.elim
end
end Mp
end SSndH
section SSndD
/-! SndD: dicts. -/
namespace Mp
open PySem PySem.Spec PyProof.Rows L2
section
variable {K : PySem.W.Frag} {fa : FA} {A A0 A1 A2 : List Addr} {H H0 H1 H2 : Hp}

/-! ### keys -/
mutual
theorem rep_nv : ∀ {v : V} {d : D} {F : List Addr}, Rep K fa H A v d F → nkOk d = true → NV K H v (nkD d)
  | _, .non, _, h, _ => by cases h; exact .non
  | _, .int i, _, h, _ => by cases h; exact .int i
  | _, .str s, _, h, _ => by cases h; exact .str _
  | _, .tup l, _, h, e => by
    cases h with
    | tup hs r => exact .tup hs (reps_nv r (by simpa [nkOk] using e))
  | _, .bl _, _, _, e | _, .fn _, _, _, e | _, .ref _, _, _, e | _, .fz _, _, _, e | _, .tl _, _, _, e | _, .exn .., _, _, e => by simp [nkOk] at e
theorem reps_nv : ∀ {vs : List V} {ds : List D} {F : List Addr}, Reps K fa H A vs ds F → nkOks ds = true → NVs K H vs (nkDs ds)
  | _, [], _, h, _ => by cases h; exact .nil
  | _, d :: ds, _, h, e => by
    have e' : nkOk d = true ∧ nkOks ds = true := by simpa [nkOks] using e
    cases h with | cons r t => exact .cons (rep_nv r e'.1) (reps_nv t e'.2)
end
mutual
theorem nk_depth : ∀ d : D, nkOk d = true → (nkD d).depth = d.dep
  | .non, _ => rfl
  | .int i, _ => rfl
  | .str s, _ => rfl
  | .tup l, e => by
    have := nks_depth l (by simpa [nkOk] using e)
    simp only [nkD, NestedKey.depth, D.dep, this]
  | .bl _, e | .fn _, e | .ref _, e | .fz _, e | .tl _, e | .exn .., e => by simp [nkOk] at e
theorem nks_depth : ∀ l : List D, nkOks l = true → NestedKey.depthAll (nkDs l) = D.deps l
  | [], _ => rfl
  | d :: ds, e => by
    have e' : nkOk d = true ∧ nkOks ds = true := by simpa [nkOks] using e
    simp only [nkDs, NestedKey.depthAll, D.deps, nk_depth d e'.1, nks_depth ds e'.2]
end
theorem toS_inj {s t : List Nat} (h : toS s = toS t) : s = t := by rw [← toS_list s, h, toS_list]
mutual
theorem nk_inj : ∀ (d e : D), nkOk d = true → nkOk e = true → nkD d = nkD e → d = e
  | .non, e, _, h2, h => by cases e <;> simp_all [nkOk, nkD]
  | .int i, e, _, h2, h => by cases e <;> simp_all [nkOk, nkD]
  | .str s, e, _, h2, h => by
    cases e <;> simp_all [nkOk, nkD]
    exact toS_inj h
  | .tup l, e, h1, h2, h => by
    cases e with
    | tup m =>
      have q : nkDs l = nkDs m := by simpa [nkD] using h
      rw [nks_inj l m (by simpa [nkOk] using h1) (by simpa [nkOk] using h2) q]
    | _ => simp_all [nkOk, nkD]
  | .bl _, _, e, _, _ | .fn _, _, e, _, _ | .ref _, _, e, _, _ | .fz _, _, e, _, _ | .tl _, _, e, _, _ | .exn .., _, e, _, _ => by simp [nkOk] at e
theorem nks_inj : ∀ (d e : List D), nkOks d = true → nkOks e = true → nkDs d = nkDs e → d = e
  | [], e, _, _, h => by cases e <;> simp_all [nkDs]
  | d :: ds, e, h1, h2, h => by
    cases e with
    | nil => simp [nkDs] at h
    | cons e es =>
      have h1' : nkOk d = true ∧ nkOks ds = true := by simpa [nkOks] using h1
      have h2' : nkOk e = true ∧ nkOks es = true := by simpa [nkOks] using h2
      simp only [nkDs, List.cons.injEq] at h
      rw [nk_inj d e h1'.1 h2'.1 h.1, nks_inj ds es h1'.2 h2'.2 h.2]
end
/-- a number or a text as a key -/
def keyK : D → Key
  | .int i => .inl i
  | .str s => .inr (toS s)
  | _ => .inl 0
theorem keyK_inj {d e : D} (h1 : keyOk false d = true) (h2 : keyOk false e = true) (h : keyK d = keyK e) : d = e := by
  cases d <;> simp [keyOk] at h1 <;> cases e <;> simp [keyOk] at h2
  · simpa [keyK] using h
  · simp [keyK] at h
  · simp [keyK] at h
  · have h : (Sum.inr (toS _) : Key) = Sum.inr (toS _) := h
    rw [toS_inj (Sum.inr.inj h)]
theorem rep_keyK {v : V} {d : D} {F : List Addr} (r : Rep K fa H A v d F) (h : keyOk false d = true) : v = kV (keyK d) := by
  cases r <;> first | rfl | simp [keyOk] at h
theorem kV_keyK {k : Key} {d : D} {F : List Addr} (r : Rep K fa H A (kV k) d F) (h : keyOk false d = true) : k = keyK d := kV_inj (rep_keyK r h)
theorem keyT_nk {d : D} (h : keyOk true d = true) : nkOk d = true ∧ (nkD d).depth ≤ 8 := by
  cases d <;> simp [keyOk] at h
  rename_i l
  refine ⟨by simpa [nkOk] using h.1, ?_⟩
  rw [nk_depth _ (by simpa [nkOk] using h.1), D.dep]
  omega
theorem keyT_inj {d e : D} (h1 : keyOk true d = true) (h2 : keyOk true e = true) (h : nkD d = nkD e) : d = e := nk_inj d e (keyT_nk h1).1 (keyT_nk h2).1 h
theorem keyT_ref {v : V} {d : D} {F : List Addr} (r : Rep K fa H A v d F) (h : keyOk true d = true) : ∃ b, v = .ref b := by
  cases r <;> first | exact ⟨_, rfl⟩ | simp [keyOk] at h
theorem keyOk_still {t : Bool} {d : D} (h : keyOk t d = true) : d.still = true := by
  have nk : ∀ l, nkOks l = true → D.stills l = true := by
    intro l
    refine D.rec_1 (motive_1 := fun d => nkOk d = true → d.still = true) (motive_2 := fun l => nkOks l = true → D.stills l = true) ?_ ?_ ?_ ?_ ?_ ?_ ?_ ?_ ?_ ?_ ?_ ?_ l
    all_goals intros
    all_goals first
      | rfl
      | (rename_i ih h; rw [nkOk] at h; rw [D.still]; exact ih h)
      | (rename_i h; simp [nkOk] at h; done)
      | (rename_i d l ih1 ih2 h; rw [nkOks, Bool.and_eq_true] at h; rw [D.stills, ih1 h.1, ih2 h.2]; rfl)
  cases t <;> cases d <;> simp [keyOk] at h <;> first | rfl | (rw [D.still]; exact nk _ h.1)
theorem Reps.uncons {vs : List V} {d : D} {ds : List D} (r : Reps K fa H A vs (d :: ds) []) : ∃ v ws, vs = v :: ws ∧ Rep K fa H A v d [] ∧ Reps K fa H A ws ds [] := by
  generalize hF : ([] : List Addr) = F at r
  cases r with
  | @cons v ws _ _ F1 F2 r1 t =>
    obtain ⟨e1, e2⟩ := List.append_eq_nil_iff.mp hF.symm
    subst e1 e2
    exact ⟨v, ws, rfl, r1, t⟩
section
variable {κ : Type} [DecidableEq κ] {f : D → κ} {ok : D → Bool}
theorem find_rel (inj : ∀ {d e : D}, ok d = true → ok e = true → f d = f e → d = e) {k : D} (hk : ok k = true) : ∀ {kvs : List (D × D)} {ws : List (κ × V)}, kvs.map (fun p => f p.1) = ws.map (·.1) → (∀ p ∈ kvs, ok p.1 = true) → Reps K fa H A (ws.map (·.2)) (kvs.map (·.2)) [] →
    (∀ v, dgetL kvs k = some v → ∃ u, valV ws (f k) = some u ∧ Rep K fa H A u v []) ∧ (dgetL kvs k = none → valV ws (f k) = none)
  | [], ws, e, _, _ => by
    have : ws = [] := by simpa using e.symm
    subst this
    exact ⟨fun v h => (by simp [dgetL] at h), fun _ => rfl⟩
  | p :: kvs, [], e, _, _ => by simp at e
  | p :: kvs, q :: ws, e, h, r => by
    obtain ⟨v, vs, e1, r1, r2⟩ := Reps.uncons r
    simp only [List.map_cons, List.cons.injEq] at e e1
    have ih := find_rel inj hk e.2 (fun x hx => h x (by simp [hx])) (by rw [e1.2]; exact r2)
    by_cases c : p.1 = k
    · have c' : q.1 = f k := by rw [← e.1, c]
      rw [valV_pos c']
      have : dgetL (p :: kvs) k = some p.2 := by simp [dgetL, c]
      rw [this]
      exact ⟨fun v' hv => by cases hv; exact ⟨_, rfl, by rw [e1.1]; exact r1⟩, fun hn => nomatch hn⟩
    · have c' : ¬ q.1 = f k := fun z => c (inj (h p (by simp)) hk (by rw [e.1, z]))
      rw [valV_neg c']
      have : dgetL (p :: kvs) k = dgetL kvs k := by simp [dgetL, c]
      rw [this]
      exact ih
theorem repl_rel (inj : ∀ {d e : D}, ok d = true → ok e = true → f d = f e → d = e) {k v : D} {u : V} (hk : ok k = true) (hv : Rep K fa H A u v []) : ∀ {kvs : List (D × D)} {ws : List (κ × V)}, kvs.map (fun p => f p.1) = ws.map (·.1) → (∀ p ∈ kvs, ok p.1 = true) → Reps K fa H A (ws.map (·.2)) (kvs.map (·.2)) [] →
    Reps K fa H A ((ws.map fun x => if x.1 = f k then (x.1, u) else x).map (·.2)) ((kvs.map fun p => if p.1 = k then (p.1, v) else p).map (·.2)) []
  | [], ws, e, _, _ => by
    have : ws = [] := by simpa using e.symm
    subst this
    exact .nil
  | p :: kvs, [], e, _, _ => by simp at e
  | p :: kvs, q :: ws, e, h, r => by
    obtain ⟨v', vs, e1, r1, r2⟩ := Reps.uncons r
    simp only [List.map_cons, List.cons.injEq] at e e1
    have ih := repl_rel inj hk hv e.2 (fun x hx => h x (by simp [hx])) (by rw [e1.2]; exact r2)
    simp only [List.map_cons]
    by_cases c : p.1 = k
    · have c' : q.1 = f k := by rw [← e.1, c]
      rw [if_pos c, if_pos c']
      exact Reps.cons (F := []) (F' := []) hv ih
    · have c' : ¬ q.1 = f k := fun z => c (inj (h p (by simp)) hk (by rw [e.1, z]))
      rw [if_neg c, if_neg c']
      exact Reps.cons (F := []) (F' := []) (by rw [e1.1]; exact r1) ih
end
end
end Mp
end SSndD
section SSndD1
/-! SndD1: dicts of both kinds of keys: the rules. -/
namespace Mp
open PySem PySem.Spec PyProof.Rows L2
section
variable {X : Cx} {pins : List (Addr × PySem.Obj)} {σ : L2.St} {H : Hp} {s : Shared} {a : Addr} {y v z : V} {u w r : Value} {o : Option V} {A : Around} {E : Value → Shared → Prop}
/-- what the dict at a holds at y -/
def DG (X : Cx) (H : Hp) (a : Addr) (y : V) (o : Option V) : Prop :=
  (∃ (ws : List (Key × V)) (k : Key), H a = some (.dK ws) ∧ y = kV k ∧ o = valV ws k) ∨
  ∃ (ws : Ws) (k : NestedKey) (b : Addr), H a = some (DNO X.w a ws) ∧ KeysW X.K H ws ∧ y = .ref b ∧ NV X.K H (.ref b) k ∧ k.depth ≤ 8 ∧ o = atW ws k
/-- .. the heap behind a store -/
def DP (X : Cx) (H : Hp) (a : Addr) (y v : V) (H' : Hp) : Prop :=
  (∃ (ws : List (Key × V)) (k : Key), H a = some (.dK ws) ∧ y = kV k ∧ ws.length < sizeLine ∧ H' = upd H a (.dK (putK ws k v))) ∨
  ∃ (ws : Ws) (k : NestedKey) (b : Addr), H a = some (DNO X.w a ws) ∧ KeysW X.K H ws ∧ y = .ref b ∧ NV X.K H (.ref b) k ∧ k.depth ≤ 8 ∧ ws.length ≤ sizeLine ∧ H' = upd H a (DNO X.w a (putW ws k b v))
/-- a dict stands there -/
def DI (X : Cx) (H : Hp) (a : Addr) : Prop := (∃ ws, H a = some (.dK ws)) ∨ ∃ ws, H a = some (DNO X.w a ws)
theorem di_at (I : Inv X pins σ H s) (d : DI X H a) : s.TypeIs (.ref a) "dict" ∧ (∀ b, Value.ref a = .ref b → ∃ ob, s.heap.get? b = some ob ∧ ob.dict = none) ∧ (a == sysModules) = false := by
  rcases d with ⟨kvs, e⟩ | ⟨ws, e⟩
  · exact isD_at I (.inl ⟨kvs, .inl e⟩)
  · obtain ⟨hs, xs, _, ob, es, ep, h1, h2, _⟩ := (I.hok a _ e).1
    refine ⟨⟨ob, h1, h2.1⟩, fun b q => ?_, hs⟩
    cases q
    exact ⟨ob, h1, h2.2.1⟩
theorem DG.di (g : DG X H a y o) : DI X H a := by
  rcases g with ⟨ws, _, e, _⟩ | ⟨ws, _, _, e, _⟩
  · exact .inl ⟨ws, e⟩
  · exact .inr ⟨ws, e⟩
theorem dg_get {Q : Value → Shared → Prop} (hu : A.units + 64 < cLine) (I : Inv X pins σ H s) (g : DG X H a y (some v)) (ry : RelV y u) (h : ∀ w' s', Inv X pins σ H s' → RelV v w' → Q w' s') : wpAny (model X.prog X.w) A (getItem (.ref a) u) Q E s := by
  rcases g with ⟨ws, k, e, ey, l⟩ | ⟨ws, k, b, e, hk, ey, n, d, l⟩
  · exact d_getItem (by omega) I (.inl ⟨ws, k, .inl e, ey, l⟩) ry h
  · subst ey
    cases (show u = Value.ref b from ry)
    exact n_get hu I e hk n d l.symm h
theorem dg_in {Q : Value → Shared → Prop} (hu : A.units + 64 < cLine) (I : Inv X pins σ H s) (g : DG X H a y o) (ry : RelV y u) (h : ∀ s', Inv X pins σ H s' → Q (.bool o.isSome) s') : wpAny (model X.prog X.w) A (compareOp .In u (.ref a)) Q E s := by
  rcases g with ⟨ws, k, e, ey, l⟩ | ⟨ws, k, b, e, hk, ey, n, d, l⟩
  · exact d_in (by omega) I (.inl ⟨ws, k, .inl e, ey, l⟩) ry h
  · subst ey l
    cases (show u = Value.ref b from ry)
    exact n_in hu I e hk n d h
theorem dg_notin {Q : Value → Shared → Prop} (hu : A.units + 64 < cLine) (I : Inv X pins σ H s) (g : DG X H a y o) (ry : RelV y u) (h : ∀ s', Inv X pins σ H s' → Q (.bool (!o.isSome)) s') : wpAny (model X.prog X.w) A (compareOp .NotIn u (.ref a)) Q E s := by
  rcases g with ⟨ws, k, e, ey, l⟩ | ⟨ws, k, b, e, hk, ey, n, d, l⟩
  · exact d_notIn (by omega) I (.inl ⟨ws, k, .inl e, ey, l⟩) ry h
  · subst ey l
    cases (show u = Value.ref b from ry)
    exact n_notin hu I e hk n d h
theorem dg_set {H' : Hp} {Q : Unit → Shared → Prop} (hu : A.units + 64 < cLine) (I : Inv X pins σ H s) (g : DP X H a y v H') (ry : RelV y u) (rv : RelV v r) (h : ∀ s', Inv X pins σ H' s' → Q () s') : wpAny (model X.prog X.w) A (setItem (.ref a) u r) Q E s := by
  rcases g with ⟨ws, k, e, ey, l, e'⟩ | ⟨ws, k, b, e, hk, ey, n, d, l, e'⟩
  · exact d_setItem (by omega) I (.inl ⟨ws, k, e, ey, l, e'⟩) ry rv h
  · subst ey e'
    cases (show u = Value.ref b from ry)
    exact n_set hu I e hk n d l rv h
theorem dg_get1 {Q : Value → Shared → Prop} (hu : A.units + 64 < cLine) (I : Inv X pins σ H s) (g : DG X H a y o) (ry : RelV y u) (h : ∀ w' s', Inv X pins σ H s' → RelV (o.getD .non) w' → Q w' s') : wpAny (model X.prog X.w) A (call (.builtin "dict.get") [.ref a, u]) Q E s := by
  rcases g with ⟨ws, k, e, ey, l⟩ | ⟨ws, k, b, e, hk, ey, n, d, l⟩
  · exact d_get1 (by omega) I (.inl ⟨ws, k, .inl e, ey, l⟩) ry h
  · subst ey l
    cases (show u = Value.ref b from ry)
    exact n_get1 hu I e hk n d h
theorem dg_get2 {Q : Value → Shared → Prop} (hu : A.units + 64 < cLine) (I : Inv X pins σ H s) (g : DG X H a y o) (ry : RelV y u) (rz : RelV z r) (h : ∀ w' s', Inv X pins σ H s' → RelV (o.getD z) w' → Q w' s') : wpAny (model X.prog X.w) A (call (.builtin "dict.get") [.ref a, u, r]) Q E s := by
  rcases g with ⟨ws, k, e, ey, l⟩ | ⟨ws, k, b, e, hk, ey, n, d, l⟩
  · exact d_get2 (by omega) I (.inl ⟨ws, k, .inl e, ey, l⟩) ry rz h
  · subst ey l
    cases (show u = Value.ref b from ry)
    exact n_get2 hu I e hk n d rz h
/-- the dict at a, y looked for; behind a store there -/
def DSt (X : Cx) (H : Hp) (a : Addr) (y v : V) (o : Option V) (H' : Hp) : Prop :=
  (∃ (ws : List (Key × V)) (k : Key), H a = some (.dK ws) ∧ y = kV k ∧ ws.length < sizeLine ∧ o = valV ws k ∧ H' = upd H a (.dK (putK ws k v))) ∨
  ∃ (ws : Ws) (k : NestedKey) (b : Addr), H a = some (DNO X.w a ws) ∧ KeysW X.K H ws ∧ y = .ref b ∧ NV X.K H (.ref b) k ∧ k.depth ≤ 8 ∧ ws.length ≤ sizeLine ∧ o = atW ws k ∧ H' = upd H a (DNO X.w a (putW ws k b v))
theorem dg_setd {H' : Hp} {Q : Value → Shared → Prop} (hu : A.units + 64 < cLine) (I : Inv X pins σ H s) (g : DSt X H a y z o H') (ry : RelV y u) (rz : RelV z r) (h1 : ∀ v, o = some v → ∀ w' s', Inv X pins σ H s' → RelV v w' → Q w' s') (h2 : o = none → ∀ w' s', Inv X pins σ H' s' → RelV z w' → Q w' s') :
    wpAny (model X.prog X.w) A (call (.builtin "dict.setdefault") [.ref a, u, r]) Q E s := by
  rcases g with ⟨ws, k, e, ey, l, eo, e'⟩ | ⟨ws, k, b, e, hk, ey, n, d, l, eo, e'⟩
  · subst ey e' eo
    exact d_setd I e ry rz l h1 h2
  · subst ey e' eo
    cases (show u = Value.ref b from ry)
    exact n_setd hu I e hk n d l rz h1 fun hn s' I' => h2 hn _ s' I' rz
end
section
variable {X : Cx} {o i e f value : Expr} {pos pos' apos cpos : Pos} {td ty tx tv : TE}
theorem pe_nget (hu : X.A.units + 64 < cLine) (ho : PE X o td) (hi : PE X i ty) (hs : NoSl i) :
    PE X (.Subscript o i pos) (fun σ H Q => td σ H fun x H1 => ty σ H1 fun y H2 => ∃ a v, x = .ref a ∧ DG X H2 a y (some v) ∧ Q v H2) := by
  refine ⟨fun pins s σ H Q I h => ?_⟩
  refine subD_of PySem.F.slot_dict_getitem.lookup hs (thn (ho.run pins s σ H _ I h) fun u s1 ⟨x, H1, I1, rx, q1⟩ => thn (hi.run pins s1 σ H1 _ I1 q1) fun iv s2 ⟨y, H2, I2, ry, a, v, ex, g, q2⟩ => ?_)
  subst ex
  obtain rfl : u = Value.ref a := rx
  exact ⟨(di_at I2 g.di).1, dg_get hu I2 g ry fun w' s3 I3 rw' => ⟨v, H2, I3, rw', q2⟩⟩
theorem op_nin (hu : X.A.units + 64 < cLine) : OpR X (compareOp .In) (fun y x H Q => ∃ a o, x = .ref a ∧ DG X H a y o ∧ Q (.bl o.isSome) H) := by
  intro pins s σ H x y v u Q I rx ry h
  obtain ⟨a, o, rfl, g, q⟩ := h
  obtain rfl : u = Value.ref a := ry
  exact dg_in hu I g rx fun s' I' => ⟨.bl o.isSome, H, I', rfl, q⟩
theorem op_nnotin (hu : X.A.units + 64 < cLine) : OpR X (compareOp .NotIn) (fun y x H Q => ∃ a o, x = .ref a ∧ DG X H a y o ∧ Q (.bl (!o.isSome)) H) := by
  intro pins s σ H x y v u Q I rx ry h
  obtain ⟨a, o, rfl, g, q⟩ := h
  obtain rfl : u = Value.ref a := ry
  exact dg_notin hu I g rx fun s' I' => ⟨.bl (!o.isSome), H, I', rfl, q⟩
theorem ps_nput (hu : X.A.units + 64 < cLine) (ho : PE X o td) (hi : PE X i ty) (hv : PE X value tv) (hs : swapsWith value (some (.Subscript o i pos')) pos.line X.env = pure false) :
    PS X (.Assign [.Subscript o i pos'] value pos) (fun D σ H => tv σ H fun v H1 => td σ H1 fun x H2 => ty σ H2 fun y H3 => ∃ a H4, x = .ref a ∧ DP X H3 a y v H4 ∧ D.nx σ H4) := by
  refine ⟨fun pins s σ H D I h => ?_⟩
  refine wpAny_Assign_Subscript (thn (hv.run pins s σ H _ I h) fun r s1 ⟨v, H1, I1, rv, q1⟩ => thn (ho.run pins s1 σ H1 _ I1 q1) fun u s2 ⟨x, H2, I2, rx, q2⟩ => thn (hi.run pins s2 σ H2 _ I2 q2) fun iv s3 ⟨y, H3, I3, ry, a, H4, ex, g, q3⟩ => ?_) hs
  subst ex
  obtain rfl : u = Value.ref a := rx
  exact dg_set hu I3 g ry rv fun s4 I4 => ⟨σ, H4, I4, q3⟩
theorem pe_nget1 (hu : X.A.units + 64 < cLine) (ho : PE X o td) (he : PE X e ty) (m : M1 X o "get" apos e cpos) :
    PE X (.Call (.Attribute o "get" apos) [e] [] cpos) (fun σ H Q => td σ H fun x H1 => ∃ a, x = .ref a ∧ DI X H1 a ∧ ty σ H1 fun y H2 => ∃ o, DG X H2 a y o ∧ Q (o.getD .non) H2) := by
  refine ⟨fun pins s σ H Q I h => ?_⟩
  refine wpAny_Call_method m.base m.few m.line PySem.F.plainAttrs_dict PySem.F.slot_dict_get PySem.F.type_dict_get (thn (ho.run pins s σ H _ I h) fun u s1 ⟨x, H1, I1, rx, a, ex, d, q1⟩ => ?_)
  subst ex
  obtain rfl : u = Value.ref a := rx
  obtain ⟨t1, t2, _⟩ := di_at I1 d
  refine ⟨t1, t2, ?_⟩
  rw [m.trees]
  refine Calls.callWith_builtin rfl (Calls.evalArgs_plain (Calls.spliced_cons (thn (he.run pins s1 σ H1 _ I1 q1) fun iv s2 ⟨y, H2, I2, ry, ov, g, q2⟩ => Calls.spliced_nil ?_)))
  exact dg_get1 hu I2 g ry fun w' s3 I3 rw' => ⟨_, H2, I3, rw', q2⟩
theorem pe_nget2 (hu : X.A.units + 64 < cLine) (ho : PE X o td) (he : PE X e ty) (hf : PE X f tx) (m : M2 X o "get" apos e f cpos) :
    PE X (.Call (.Attribute o "get" apos) [e, f] [] cpos) (fun σ H Q => td σ H fun x H1 => ∃ a, x = .ref a ∧ DI X H1 a ∧ ty σ H1 fun y H2 => tx σ H2 fun z H3 => ∃ o, DG X H3 a y o ∧ Q (o.getD z) H3) := by
  refine ⟨fun pins s σ H Q I h => ?_⟩
  refine wpAny_Call_method m.base m.few m.line PySem.F.plainAttrs_dict PySem.F.slot_dict_get PySem.F.type_dict_get (thn (ho.run pins s σ H _ I h) fun u s1 ⟨x, H1, I1, rx, a, ex, d, q1⟩ => ?_)
  subst ex
  obtain rfl : u = Value.ref a := rx
  obtain ⟨t1, t2, _⟩ := di_at I1 d
  refine ⟨t1, t2, ?_⟩
  rw [m.trees]
  refine Calls.callWith_builtin rfl (Calls.evalArgs_plain (Calls.spliced_cons (thn (he.run pins s1 σ H1 _ I1 q1) fun iv s2 ⟨y, H2, I2, ry, q2⟩ =>
    Calls.spliced_cons (thn (hf.run pins s2 σ H2 _ I2 q2) fun fv s3 ⟨z, H3, I3, rz, ov, g, q3⟩ => Calls.spliced_nil ?_))))
  exact dg_get2 hu I3 g ry rz fun w' s4 I4 rw' => ⟨_, H3, I4, rw', q3⟩
theorem pe_nsetd (hu : X.A.units + 64 < cLine) (ho : PE X o td) (he : PE X e ty) (hf : PE X f tx) (m : M2 X o "setdefault" apos e f cpos) :
    PE X (.Call (.Attribute o "setdefault" apos) [e, f] [] cpos) (fun σ H Q => td σ H fun x H1 => ∃ a, x = .ref a ∧ DI X H1 a ∧ ty σ H1 fun y H2 => tx σ H2 fun z H3 => ∃ o H4, DSt X H3 a y z o H4 ∧ (∀ v, o = some v → Q v H3) ∧ (o = none → Q z H4)) := by
  refine ⟨fun pins s σ H Q I h => ?_⟩
  refine wpAny_Call_method m.base m.few m.line PySem.F.plainAttrs_dict PySem.F.slot_dict_setdefault PySem.F.type_dict_setdefault (thn (ho.run pins s σ H _ I h) fun u s1 ⟨x, H1, I1, rx, a, ex, d, q1⟩ => ?_)
  subst ex
  obtain rfl : u = Value.ref a := rx
  obtain ⟨t1, t2, _⟩ := di_at I1 d
  refine ⟨t1, t2, ?_⟩
  rw [m.trees]
  refine Calls.callWith_builtin rfl (Calls.evalArgs_plain (Calls.spliced_cons (thn (he.run pins s1 σ H1 _ I1 q1) fun iv s2 ⟨y, H2, I2, ry, q2⟩ =>
    Calls.spliced_cons (thn (hf.run pins s2 σ H2 _ I2 q2) fun fv s3 ⟨z, H3, I3, rz, ov, H4, g, q3, q4⟩ => Calls.spliced_nil ?_))))
  exact dg_setd hu I3 g ry rz (fun v hv w' s4 I4 rw' => ⟨v, H3, I4, rw', q3 v hv⟩) fun hn w' s4 I4 rw' => ⟨z, H4, I4, rw', q4 hn⟩
/-- {} -/
theorem pe_nnew {pos : Pos} : PE X (.Dict [] [] pos) (fun _ H Q => ∀ p, H p = none → Q (.ref p) (upd H p (DNO X.w p []))) := ⟨fun pins s σ H Q I h =>
  wpAny_Dict_empty ⟨.ref s.heap.objs.size, _, I.laid (a := s.heap.objs.size) (o := DNO X.w s.heap.objs.size []) (t' := s.toks) (fun _ _ q => Heap.get?_push_of_some _ q) (Nat.le_refl _)
    (dno_new (xs := []) (beq_eq_false_iff_ne.mpr (Ne.symm (Nat.ne_of_lt I.big))) .nil ⟨_, #[], 0, Heap.get?_push_size _ rfl, ⟨rfl, rfl, rfl⟩, rfl, rfl, (fun _ hx => nomatch hx), List.nodup_nil⟩), rfl, h _ (I.hok.fresh (Nat.le_refl _))⟩⟩
end
end Mp
end SSndD1
section SSndD2
/-! SndD2: the store's dicts. -/
namespace Mp
open PySem PySem.Spec PyProof.Rows L2
section
variable {K : PySem.W.Frag} {fa : FA} {A : List Addr} {H H' : Hp} {X : Cx} {a : Addr} {n : Nat} {t : Bool} {kvs : List (D × D)} {μ : Store} {k d : D} {y v : V} {F : List Addr}
theorem dict_at (r : RelM K fa H A μ) (h : A[n]? = some a) (e : getD μ n = some (t, kvs)) : RepO K fa H A a (.dct t kvs) := by
  obtain ⟨o, h1, h2⟩ := r.at h
  unfold getD at e
  rw [h1] at e
  cases o with
  | lst l => cases e
  | dct t' kvs' => cases e; exact h2
theorem keys_map : ∀ {kvs : List (D × D)} {ws : List (Key × V)}, Reps K fa H A (ws.map fun x => kV x.1) (kvs.map (·.1)) [] → (∀ p ∈ kvs, keyOk false p.1 = true) → kvs.map (fun p => keyK p.1) = ws.map (·.1)
  | [], ws, r, _ => by
    have := r.length
    have : ws = [] := by simpa using this
    rw [this]; rfl
  | p :: kvs, [], r, _ => by have := r.length; simp at this
  | p :: kvs, q :: ws, r, h => by
    obtain ⟨v, vs, e, r1, r2⟩ := Reps.uncons r
    simp only [List.map_cons, List.cons.injEq] at e ⊢
    rw [← e.1] at r1
    rw [← e.2] at r2
    exact ⟨(kV_keyK r1 (h p (by simp))).symm, keys_map r2 fun x hx => h x (by simp [hx])⟩
theorem keysW_of : ∀ {kvs : List (D × D)} {ws : Ws}, Reps K fa H A (ws.map fun x => V.ref x.2.1) (kvs.map (·.1)) [] → (∀ p ∈ kvs, keyOk true p.1 = true) → kvs.map (fun p => nkD p.1) = ws.map (·.1) → KeysW K H ws
  | [], ws, r, _, e => by
    have : ws = [] := by simpa using e.symm
    subst this
    exact fun _ h => nomatch h
  | p :: kvs, [], r, _, e => by simp at e
  | p :: kvs, q :: ws, r, h, e => by
    obtain ⟨v, vs, e1, r1, r2⟩ := Reps.uncons r
    simp only [List.map_cons, List.cons.injEq] at e e1
    rw [← e1.1] at r1
    rw [← e1.2] at r2
    obtain ⟨n1, n2⟩ := keyT_nk (h p (by simp))
    have ih := keysW_of r2 (fun x hx => h x (by simp [hx])) e.2
    intro x hx
    rcases List.mem_cons.mp hx with z | hx
    · subst z
      rw [← e.1]
      exact ⟨rep_nv r1 n1, n2⟩
    · exact ih x hx
theorem atW_valV (ws : Ws) (k : NestedKey) : atW ws k = valV (ws.map fun x => (x.1, x.2.2)) k := by
  induction ws with
  | nil => rfl
  | cons p ws ih =>
    by_cases e : p.1 = k
    · simp [atW, valV, e]
    · simpa [atW, valV, e] using ih
theorem DG_of (hw : fa.w = some X.w) (o : RepO X.K fa H A a (.dct t kvs)) (hk : keyOk t k = true) (rk : Rep X.K fa H A y k F) :
    ∃ r, DG X H a y r ∧ (∀ v, dgetL kvs k = some v → ∃ u, r = some u ∧ Rep X.K fa H A u v []) ∧ (dgetL kvs k = none → r = none) := by
  cases t with
  | false =>
    obtain ⟨ws, e, ok, q1, q2⟩ := o
    exact ⟨_, .inl ⟨ws, keyK k, e, rep_keyK rk hk, rfl⟩, find_rel (fun h1 h2 => keyK_inj h1 h2) hk (keys_map q1 ok) ok q2⟩
  | true =>
    obtain ⟨w, ws, h1, e, ok, q1, h2, q2⟩ := o
    rw [hw] at h1; cases h1
    obtain ⟨b, rfl⟩ := keyT_ref rk hk
    obtain ⟨n1, n2⟩ := keyT_nk hk
    refine ⟨_, .inr ⟨ws, nkD k, b, e, keysW_of q1 ok h2, rfl, rep_nv rk n1, n2, rfl⟩, ?_⟩
    rw [atW_valV]
    refine find_rel (ok := keyOk true) (fun h1 h2 => keyT_inj h1 h2) hk ?_ ok ?_
    · rw [List.map_map]; exact h2
    · rw [List.map_map]; exact q2
theorem dput_keys (kvs : List (D × D)) (k v : D) : (dputL kvs k v).map (·.1) = if (dgetL kvs k).isSome then kvs.map (·.1) else kvs.map (·.1) ++ [k] := by
  unfold dputL
  split
  · rw [List.map_map]
    refine List.map_congr_left fun p _ => ?_
    simp only [Function.comp]
    split <;> rfl
  · simp
theorem dput_ok {kvs : List (D × D)} {k v : D} (hk : keyOk t k = true) (h : ∀ p ∈ kvs, keyOk t p.1 = true) : ∀ p ∈ dputL kvs k v, keyOk t p.1 = true := by
  intro p hp
  unfold dputL at hp
  split at hp
  · obtain ⟨q, hq, rfl⟩ := List.mem_map.mp hp
    split
    · exact h q hq
    · exact h q hq
  · rcases List.mem_append.mp hp with hp | hp
    · exact h p hp
    · have : p = (k, v) := by simpa using hp
      rw [this]; exact hk
theorem map_if {α β : Type} (f : α → α) (g : α → β) (h : ∀ x, g (f x) = g x) (l : List α) : (l.map f).map g = l.map g := by
  rw [List.map_map]
  exact List.map_congr_left fun x _ => h x
/-- the object behind a store -/
theorem put_false (hk : keyOk false k = true) {ws : List (Key × V)} (ok : ∀ p ∈ kvs, keyOk false p.1 = true) (q1 : Reps K fa H A (ws.map fun x => kV x.1) (kvs.map (·.1)) []) (q2 : Reps K fa H A (ws.map (·.2)) (kvs.map (·.2)) []) (rk : Rep K fa H A y k []) (rv : Rep K fa H A v d []) :
    Reps K fa H A ((putK ws (keyK k) v).map fun x => kV x.1) ((dputL kvs k d).map (·.1)) [] ∧ Reps K fa H A ((putK ws (keyK k) v).map (·.2)) ((dputL kvs k d).map (·.2)) [] := by
  have km := keys_map q1 ok
  have fr := find_rel (ok := keyOk false) (fun h1 h2 => keyK_inj h1 h2) hk km ok q2
  have same : (ws.any fun x => decide (x.1 = keyK k)) = (dgetL kvs k).isSome := by
    rw [valV_any]
    cases e : dgetL kvs k with
    | none => rw [fr.2 e]; rfl
    | some z => obtain ⟨u, hu, _⟩ := fr.1 z e; rw [hu]; rfl
  rw [dput_keys]
  unfold putK dputL
  rw [same]
  by_cases c : (dgetL kvs k).isSome = true
  · rw [if_pos c, if_pos c, if_pos c]
    refine ⟨?_, repl_rel (ok := keyOk false) (fun h1 h2 => keyK_inj h1 h2) hk rv km ok q2⟩
    rw [map_if _ _ (fun x => by split <;> rfl)]
    exact q1
  · rw [if_neg c, if_neg c, if_neg c]
    rw [List.map_append, List.map_append, List.map_append]
    rw [rep_keyK rk hk] at rk
    exact ⟨q1.append (Reps.one rk), q2.append (Reps.one rv)⟩
theorem putW_valV (ws : Ws) (k : NestedKey) (b : Addr) (v : V) : (putW ws k b v).map (fun x => (x.1, x.2.2)) = putK (ws.map fun x => (x.1, x.2.2)) k v := by
  unfold putW putK
  rw [valV_any, ← atW_valV]
  split
  · rw [List.map_map, List.map_map]
    refine List.map_congr_left fun x _ => ?_
    simp only [Function.comp]
    split <;> rfl
  · simp
theorem put_true {b : Addr} (hk : keyOk true k = true) {ws : Ws} (ok : ∀ p ∈ kvs, keyOk true p.1 = true) (q1 : Reps K fa H A (ws.map fun x => V.ref x.2.1) (kvs.map (·.1)) []) (h2 : (kvs.map fun p => nkD p.1) = ws.map (·.1)) (q2 : Reps K fa H A (ws.map (·.2.2)) (kvs.map (·.2)) []) (rk : Rep K fa H A (.ref b) k []) (rv : Rep K fa H A v d []) :
    Reps K fa H A ((putW ws (nkD k) b v).map fun x => V.ref x.2.1) ((dputL kvs k d).map (·.1)) [] ∧ ((dputL kvs k d).map fun p => nkD p.1) = (putW ws (nkD k) b v).map (·.1) ∧ Reps K fa H A ((putW ws (nkD k) b v).map (·.2.2)) ((dputL kvs k d).map (·.2)) [] := by
  have hm : kvs.map (fun p => nkD p.1) = (ws.map fun x => (x.1, x.2.2)).map (·.1) := by rw [List.map_map]; exact h2
  have q2' : Reps K fa H A ((ws.map fun x => (x.1, x.2.2)).map (·.2)) (kvs.map (·.2)) [] := by rw [List.map_map]; exact q2
  have fr := find_rel (ok := keyOk true) (fun h1 h2 => keyT_inj h1 h2) hk hm ok q2'
  have same : (atW ws (nkD k)).isSome = (dgetL kvs k).isSome := by
    rw [atW_valV]
    cases e : dgetL kvs k with
    | none => rw [fr.2 e]; rfl
    | some z => obtain ⟨u, hu, _⟩ := fr.1 z e; rw [hu]; rfl
  have nm : ((dputL kvs k d).map fun p => nkD p.1) = if (dgetL kvs k).isSome then kvs.map (fun p => nkD p.1) else kvs.map (fun p => nkD p.1) ++ [nkD k] := by
    have := congrArg (List.map nkD) (dput_keys kvs k d)
    rw [List.map_map] at this
    rw [show (fun p : D × D => nkD p.1) = nkD ∘ fun x => x.1 from rfl, this]
    split <;> simp [List.map_map]
  rw [nm, dput_keys]
  unfold putW dputL
  rw [same]
  by_cases c : (dgetL kvs k).isSome = true
  · rw [if_pos c, if_pos c, if_pos c, if_pos c]
    have rr := repl_rel (ok := keyOk true) (fun h1 h2 => keyT_inj h1 h2) hk rv hm ok q2'
    refine ⟨?_, ?_, ?_⟩
    · rw [map_if _ _ (fun x => by split <;> rfl)]
      exact q1
    · rw [map_if _ _ (fun x => by split <;> rfl)]
      exact h2
    · rw [List.map_map, List.map_map] at rr
      rw [List.map_map]
      have e : ws.map ((fun x : NestedKey × V => x.2) ∘ (fun x => if x.1 = nkD k then (x.1, v) else x) ∘ fun x => (x.1, x.2.2)) = ws.map ((fun x : NestedKey × Addr × V => x.2.2) ∘ fun x => if x.1 = nkD k then (x.1, x.2.1, v) else x) := by
        refine List.map_congr_left fun x _ => ?_
        simp only [Function.comp]
        split <;> rfl
      rw [← e]
      exact rr
  · rw [if_neg c, if_neg c, if_neg c, if_neg c]
    rw [List.map_append, List.map_append, List.map_append, List.map_append]
    exact ⟨q1.append (Reps.one rk), by rw [h2]; rfl, q2.append (Reps.one rv)⟩
theorem DPS_of (hw : fa.w = some X.w) (o : RepO X.K fa H A a (.dct t kvs)) (hk : keyOk t k = true) (hl : kvs.length < LIM) (rk : Rep X.K fa H A y k F) :
    ∃ r, ((∀ v, dgetL kvs k = some v → ∃ u, r = some u ∧ Rep X.K fa H A u v []) ∧ (dgetL kvs k = none → r = none)) ∧ ∀ v, ∃ u, DP X H a y v (upd H a u) ∧ DSt X H a y v r (upd H a u) ∧
      ∀ {N : List Addr} {μ : Store} {n : Nat} {d : D}, RelM X.K fa H (A ++ N) μ → (A ++ N)[n]? = some a → Rep X.K fa H (A ++ N) v d [] → RelM X.K fa (upd H a u) (A ++ N) (μ.set n (.dct t (dputL kvs k d))) ∧ Stp (A ++ N) H (A ++ N) (upd H a u) := by
  have rk0 := rk
  rw [rk.still (keyOk_still hk)] at rk0
  cases t with
  | false =>
    obtain ⟨ws, e1, ok, q1, q2⟩ := o
    have hlen : ws.length < sizeLine := by
      have := q2.length
      rw [List.length_map, List.length_map] at this
      rw [this, sizeLine_eq]; exact hl
    refine ⟨_, find_rel (fun h1 h2 => keyK_inj h1 h2) hk (keys_map q1 ok) ok q2, fun v => ⟨_, .inl ⟨ws, keyK k, e1, rep_keyK rk hk, hlen, rfl⟩, .inl ⟨ws, keyK k, e1, rep_keyK rk hk, hlen, rfl, rfl⟩, fun {N μ n d} m h rv => ?_⟩⟩
    obtain ⟨p1, p2⟩ := put_false hk ok (q1.mono (N := N)) (q2.mono (N := N)) (rk0.mono (N := N)) rv
    exact ⟨m.writeO h fun s => ⟨_, upd_same, dput_ok hk ok, p1.step s (by simp), p2.step s (by simp)⟩, Stp.write m h⟩
  | true =>
    obtain ⟨w, ws, h1, e1, ok, q1, h2, q2⟩ := o
    rw [hw] at h1; cases h1
    obtain ⟨b, rfl⟩ := keyT_ref rk hk
    obtain ⟨n1, n2⟩ := keyT_nk hk
    have hlen : ws.length ≤ sizeLine := by
      have := q2.length
      rw [List.length_map, List.length_map] at this
      rw [this, sizeLine_eq]; exact Nat.le_of_lt hl
    refine ⟨atW ws (nkD k), ?_, fun v => ⟨_, .inr ⟨ws, nkD k, b, e1, keysW_of q1 ok h2, rfl, rep_nv rk n1, n2, hlen, rfl⟩, .inr ⟨ws, nkD k, b, e1, keysW_of q1 ok h2, rfl, rep_nv rk n1, n2, hlen, rfl, rfl⟩, fun {N μ n d} m h rv => ?_⟩⟩
    · rw [atW_valV]
      refine find_rel (ok := keyOk true) (fun h1 h2 => keyT_inj h1 h2) hk ?_ ok ?_
      · rw [List.map_map]; exact h2
      · rw [List.map_map]; exact q2
    · obtain ⟨p1, p2, p3⟩ := put_true hk ok (q1.mono (N := N)) h2 (q2.mono (N := N)) (rk0.mono (N := N)) rv
      exact ⟨m.writeO h fun s => ⟨_, _, hw, upd_same, dput_ok hk ok, p1.step s (by simp), p2, p3.step s (by simp)⟩, Stp.write m h⟩
mutual
theorem alloc_pre : ∀ (d : D) (μ : Store), ∃ N, (alloc d μ).2 = μ ++ N
  | .tl l, μ => by
    obtain ⟨N, e⟩ := allocs_pre l μ
    exact ⟨N ++ [.lst (allocs l μ).1], by rw [← List.append_assoc, ← e]; rfl⟩
  | .tup l, μ => allocs_pre l μ
  | .non, μ | .bl _, μ | .int _, μ | .str _, μ | .fn _, μ | .ref _, μ | .fz _, μ | .exn .., μ => ⟨[], by simp [alloc]⟩
theorem allocs_pre : ∀ (l : List D) (μ : Store), ∃ N, (allocs l μ).2 = μ ++ N
  | [], μ => ⟨[], by simp [allocs]⟩
  | d :: r, μ => by
    obtain ⟨N, e⟩ := alloc_pre d μ
    obtain ⟨M, e2⟩ := allocs_pre r (alloc d μ).2
    exact ⟨N ++ M, by rw [← List.append_assoc, ← e, ← e2]; rfl⟩
end
theorem alloc_get (d : D) {μ : Store} {n : Nat} (h : n < μ.length) : (alloc d μ).2[n]? = μ[n]? := by
  obtain ⟨N, e⟩ := alloc_pre d μ
  rw [e, List.getElem?_append_left h]
end
end Mp
end SSndD2
section SSndD3
/-! SndD3: the operations of no, one, two, three parts. -/
namespace Mp
open PySem PySem.Spec PyProof.Rows L2
section
variable {X : Cx} {fa : FA} {W : WX} {G : String → Option D} {call : String → List D → Store → Rs D} {k : Nat} {fs : FS} {A A0 A1 A2 : List Addr} {H H0 H1 H2 : Hp} {σ : L2.St} {K : PySem.W.Frag}
theorem Pst.ofP {o : Option (D × Store)} {Q : VK} (h : Pst K fa W A H σ (Rs.ofP o) Q) : ∃ p, o = some p ∧ Pst K fa W A H σ (.ok p.1 p.2) Q := by
  cases o with
  | none => exact h.elim
  | some p => exact ⟨p, rfl, h⟩
/-! ### a new dict -/
theorem new_obj {μ : Store} {p : Addr} {u : HO} {ob : Obj} (m : RelM K fa H A μ) (hp : H p = none) (hr : RepO K fa (upd H p u) (A ++ [p]) p ob) : Good K fa A H (μ ++ [ob]) (.ref μ.length) (.ref p) (upd H p u) (A ++ [p]) [] := by
  have ha : p ∉ A := m.fresh hp
  have s1 : Stp A H A (upd H p u) := Stp.new hp
  have m1 : RelM K fa (upd H p u) A μ := m.new hp
  refine ⟨s1.join (F := [p]) fun a h => ?_, ⟨?_, fun i o hi => ?_, ?_⟩, .ref ?_, List.nodup_nil, by simp⟩
  · have : a = p := by simpa using h
    rw [this]; exact hp
  · simp [m.len]
  · by_cases hl : i < μ.length
    · rw [List.getElem?_append_left hl] at hi
      obtain ⟨a, h1, h2⟩ := m1.obj i o hi
      refine ⟨a, ?_, h2.map rfl (fun _ _ e => e) fun _ _ q => q.mono⟩
      rw [List.getElem?_append_left (by rw [m.len]; exact hl)]; exact h1
    · have he : i = μ.length := by
        have := (List.getElem?_eq_some_iff.mp hi).1
        simp at this; omega
      subst he
      rw [List.getElem?_append_right (Nat.le_refl _)] at hi
      simp at hi
      subst hi
      refine ⟨p, ?_, hr⟩
      rw [← m.len, List.getElem?_append_right (Nat.le_refl _)]
      simp
  · exact List.nodup_append.mpr ⟨m.nd, by simp, fun x hx y hy => by simp at hy; subst hy; exact fun e => ha (e ▸ hx)⟩
  · rw [← m.len, List.getElem?_append_right (Nat.le_refl _)]
    simp
theorem pe_u0D (hC : Cn X G call k fa fs W) {o : O0} {e : Expr} (h : m0 o e = true) : PE X e (tD X.K fa W G call (.u0 o)) := by
  match o, e, h with
  | .dict t, .Dict [] [] pos, _ =>
    cases t with
    | false =>
      refine PE.imp pe_dnewK fun σ H Q ⟨A, ρ, μ, m, re, p⟩ q hq => ?_
      exact p _ _ _ _ (new_obj m hq ⟨[], upd_same, by simp, .nil, .nil⟩)
    | true =>
      refine PE.imp pe_nnew fun σ H Q ⟨A, ρ, μ, m, re, p⟩ q hq => ?_
      exact p _ _ _ _ (new_obj m hq ⟨_, [], hC.wd, upd_same, by simp, .nil, rfl, .nil⟩)

/-! ### of one part -/
theorem one_ok {a : C} {ρ : Env} {μ : Store} {f : D → Store → Rs D} {Q : VK} (m : RelM K fa H A μ) (re : RelE K fa H A ρ σ) (p : Pst K fa W A H σ ((ev G call a ρ μ).bnd f) Q) : tD K fa W G call a σ H fun v H1 => ∃ x A1 μ1 F, Good K fa A H μ1 x v H1 A1 F ∧ Pst K fa W A H σ (f x μ1) Q :=
  ⟨A, ρ, μ, m, re, Pst.mono (Pst.bnd .refl p) fun v H1 ⟨A1, d, μ1, F, g, p1⟩ => ⟨d, A1, μ1, F, g, p1⟩⟩
theorem Good.get {μ : Store} {n : Nat} {v : V} {F : List Addr} (g : Good K fa A H μ (.ref n) v H1 A1 F) : ∃ a, v = .ref a ∧ A1[n]? = some a := by
  cases g.rep with
  | ref h => exact ⟨_, rfl, h⟩
theorem call_len_d : CallR X (.builtin "len") (fun xs H Q => ∃ a, xs = [.ref a] ∧ ((∃ ws : List (Key × V), H a = some (.dK ws) ∧ Q (.int ws.length) H) ∨ ∃ ws, H a = some (DNO X.w a ws) ∧ KeysW X.K H ws ∧ ws.length ≤ sizeLine ∧ Q (.int ws.length) H)) := by
  intro pins s σ H xs us Q I r h
  obtain ⟨a, rfl, h⟩ := h
  rw [Vals.ref1 r]
  rcases h with ⟨ws, e, q⟩ | ⟨ws, e, hk, hl, q⟩
  · exact d_len I (.inl e) fun t s' I' => ⟨.int ws.length, H, I', ⟨t, rfl⟩, q⟩
  · obtain ⟨hs, xs, rel, dd⟩ := dn_of I e hk
    have hx : ws.length = xs.length := Paired.length rel
    refine call_len_dictH hs dd (by rw [← hx]; rw [sizeLine_eq] at hl; omega) ?_
    rw [← hx]
    exact ⟨.int (ws.length : Nat), H, I.tok _, ⟨_, rfl⟩, q⟩
theorem kmapI : ∀ {ks : List Int} {kvs : List (D × D)}, kvs.map (·.1) = ks.map .int → kvs.map (fun p => keyK p.1) = ks.map Sum.inl
  | [], kvs, e => by
    have : kvs = [] := by simpa using e
    rw [this]; rfl
  | k :: ks, [], e => by simp at e
  | k :: ks, p :: kvs, e => by
    simp only [List.map_cons, List.cons.injEq] at e ⊢
    exact ⟨by rw [e.1]; rfl, kmapI e.2⟩
theorem kmapS : ∀ {ks : List (List Nat)} {kvs : List (D × D)}, kvs.map (·.1) = ks.map .str → kvs.map (fun p => keyK p.1) = (ks.map toS).map Sum.inr
  | [], kvs, e => by
    have : kvs = [] := by simpa using e
    rw [this]; rfl
  | k :: ks, [], e => by simp at e
  | k :: ks, p :: kvs, e => by
    simp only [List.map_cons, List.cons.injEq] at e ⊢
    exact ⟨by rw [e.1]; rfl, kmapS e.2⟩
theorem risS : ∀ (p : Str) (l : List Str), risingS p l = true → (∀ x ∈ l, ¬ x.cps.toList < p.cps.toList) ∧ l.Pairwise (fun x y => ¬ y.cps.toList < x.cps.toList)
  | p, [], _ => ⟨by simp, List.Pairwise.nil⟩
  | p, x :: r, h => by
    have h' : ltCps x.cps.toList p.cps.toList = false ∧ risingS x r = true := by simpa [risingS] using h
    have hx : ¬ x.cps.toList < p.cps.toList := by
      have z := h'.1
      rw [ltCps_eq] at z
      exact of_decide_eq_false z
    obtain ⟨a, b⟩ := risS x r h'.2
    refine ⟨fun y hy => ?_, List.pairwise_cons.mpr ⟨a, b⟩⟩
    rcases List.mem_cons.mp hy with e | hy
    · rw [e]; exact hx
    · exact List.not_lt.mpr (List.le_trans (List.not_lt.mp hx) (List.not_lt.mp (a y hy)))
theorem sortS_pw {l : List Str} (h : sortedS l = true) : l.Pairwise (fun x y => ¬ y.cps.toList < x.cps.toList) := by
  cases l with
  | nil => exact List.Pairwise.nil
  | cons x r => exact List.pairwise_cons.mpr (risS x r h)
theorem pe_u1D (hC : Cn X G call k fa fs W) {o : O1} {a : C} {e a' : Expr} (hcal : fs.calm = true ∨ calm1 o = false) (h : m1 X.env.scope o e = some a') (pa : PE X a' (tD X.K fa W G call a)) : PE X e (tD X.K fa W G call (.u1 o a)) := by
  cases o with
  | sset =>
    have hc := hC.calm (hcal.resolve_right (by decide))
    unfold m1 at h
    split at h
    all_goals first | (rename_i z; cases z; done) | cases h; done | skip
    rename_i x p y q a0 pos2 pos z
    split at h
    · rename_i hh
      cases h
      obtain ⟨rfl, g1, rfl, g2, st⟩ := hh
      have pi := pe_callTy (p := q) (pos := pos2) (Se.cr_setL (X := X) hc) (glB_ok g2) (hC.blt "set" (by decide)) (by decide +kernel) (pa_cons pa pa_nil (star_cons st)) (by decide +kernel) (by decide +kernel) (star_cons st) (by rfl)
      have po := pe_callB (p := p) (pos := pos) (CallR.or (Se.cr_srtI (X := X) hc) (Se.cr_srtS (X := X) hc)) (glB_ok g1) (hC.blt "sorted" (by decide)) (by decide +kernel) (pa_cons pi pa_nil (by rfl)) (by decide +kernel) (by decide +kernel) (by rfl) (by rfl)
      refine PE.imp po fun σ H Q ⟨A, ρ, μ, m, re, p⟩ => ?_
      refine tD_mono (one_ok m re p) fun v H1 ⟨x, A1, μ1, F, g, p1⟩ => ?_
      obtain ⟨z, e1, p2⟩ := Pst.ofP (show Pst X.K fa W A H σ (Rs.ofP (op1 μ1 .sset x)) Q from p1)
      simp only [op1, Option.bind_eq_some_iff] at e1
      obtain ⟨l, e1, e2⟩ := e1
      split at e2
      · rename_i hlen
        rw [Option.map_eq_some_iff] at e2
        obtain ⟨r, e2, rfl⟩ := e2
        obtain ⟨b, ws, F1, rfl, hs, hr⟩ := seqT_ok g e1
        rcases setD_cases e2 with ⟨ns, rfl, rfl⟩ | ⟨ss, rfl, rfl⟩
        · rw [hr.ints] at hs
          rw [List.length_map] at hlen
          refine ⟨b, ns.map Sum.inl, rfl, by rw [List.map_map]; exact hs, by rw [List.length_map]; show ns.length + 1 < 4096; omega, fun js q nd mem hq => ?_⟩
          obtain ⟨ks, rfl⟩ : ∃ ks : List Int, js = ks.map Sum.inl := by
            refine ⟨js.map fun j => match j with | .inl i => i | .inr _ => 0, ?_⟩
            rw [List.map_map]
            conv => lhs; rw [← List.map_id js]
            refine List.map_congr_left fun j hj => ?_
            obtain ⟨i, _, rfl⟩ := List.mem_map.mp ((mem j).mp hj)
            rfl
          have nd' : ks.Nodup := List.Pairwise.of_map _ (fun a b hab e => hab (by rw [e])) nd
          refine .inl ⟨q, ks, rfl, upd_same, nd', fun ns' p' h1 h2 hp => ?_⟩
          have e : ns' = srtU ltI ns := eq_srtU sto_int (h1.nodup_iff.mpr nd') (fun z => by
            rw [h1.mem_iff]
            have := mem (Sum.inl z)
            simpa using this) (h2.imp fun {x y} h => decide_eq_false (by omega))
          rw [e]
          have g' : Good X.K fa A H μ1 .non .non (upd H1 q (Se.SMO X.w q (ks.map Sum.inl))) A1 [] := ⟨g.stp.trans (Stp.new hq), g.mem.new hq, .non, List.nodup_nil, by simp⟩
          exact p2 _ _ _ _ (g'.newL (reps_ints0 _) hp)
        · obtain ⟨hvs, ok⟩ := hr.strs0
          rw [hvs] at hs
          rw [List.length_map] at hlen
          refine ⟨b, (ss.map toS).map Sum.inr, rfl, by rw [List.map_map, List.map_map]; exact hs, by rw [List.length_map, List.length_map]; show ss.length + 1 < 4096; omega, fun js q nd mem hq => ?_⟩
          obtain ⟨ks, rfl⟩ : ∃ ks : List Str, js = ks.map Sum.inr := by
            refine ⟨js.map fun j => match j with | .inr i => i | .inl _ => ⟨#[]⟩, ?_⟩
            rw [List.map_map]
            conv => lhs; rw [← List.map_id js]
            refine List.map_congr_left fun j hj => ?_
            obtain ⟨i, _, rfl⟩ := List.mem_map.mp ((mem j).mp hj)
            rfl
          have nd' : ks.Nodup := List.Pairwise.of_map _ (fun a b hab e => hab (by rw [e])) nd
          refine .inr ⟨q, ks, rfl, upd_same, nd', fun ns' p' h1 h2 hp => ?_⟩
          have e : ns' = (srtU ltN ss).map toS := set_toS (h1.nodup_iff.mpr nd') (fun z => by
            rw [h1.mem_iff]
            have := mem (Sum.inr z)
            simpa using this) h2
          rw [e, List.map_map]
          have g' : Good X.K fa A H μ1 .non .non (upd H1 q (Se.SMO X.w q (ks.map Sum.inr))) A1 [] := ⟨g.stp.trans (Stp.new hq), g.mem.new hq, .non, List.nodup_nil, by simp⟩
          exact p2 _ _ _ _ (g'.newL (reps_strs fun s hs => ok s ((srtU_mem sto_str s ss).mp hs)) hp)
      · cases e2
    · cases h
  | dlen =>
    unfold m1 at h
    split at h
    all_goals first | (rename_i z; cases z; done) | cases h; done | skip
    rename_i x p a0 pos z
    split at h
    · rename_i hh
      cases h
      obtain ⟨rfl, g1, st⟩ := hh
      have po := pe_callB (p := p) (pos := pos) (call_len_d (X := X)) (glB_ok g1) (hC.blt "len" (by decide)) (by decide +kernel) (pa_cons pa pa_nil (star_cons st)) (by decide +kernel) (by decide +kernel) (star_cons st) (by rfl)
      refine PE.imp po fun σ H Q ⟨A, ρ, μ, m, re, p⟩ => ?_
      refine tD_mono (one_ok m re p) fun v H1 ⟨x, A1, μ1, F, g, p1⟩ => ?_
      obtain ⟨z, e1, p2⟩ := Pst.ofP (show Pst X.K fa W A H σ (Rs.ofP (op1 μ1 .dlen x)) Q from p1)
      cases x with
      | ref n =>
        simp only [op1, Option.bind_eq_some_iff] at e1
        obtain ⟨⟨t, kvs⟩, e1, e3⟩ := e1
        split at e3 <;> first | cases e3; done | skip
        rename_i hlim
        cases e3
        obtain ⟨b, rfl, hb⟩ := g.get
        have o := dict_at g.mem hb e1
        cases t with
        | false =>
          obtain ⟨ws, e2, _, _, q2⟩ := o
          refine ⟨b, rfl, .inl ⟨ws, e2, ?_⟩⟩
          have hl := q2.length
          rw [List.length_map, List.length_map] at hl
          rw [hl]
          exact p2.done g.stp g.mem (.int _)
        | true =>
          obtain ⟨w, ws, hw, e2, ok, q1, h2, q2⟩ := o
          rw [hC.wd] at hw; cases hw
          have hl := q2.length
          rw [List.length_map, List.length_map] at hl
          refine ⟨b, rfl, .inr ⟨ws, e2, keysW_of q1 ok h2, by rw [hl, sizeLine_eq]; exact hlim, ?_⟩⟩
          rw [hl]
          exact p2.done g.stp g.mem (.int _)
      | _ => cases e1
    · cases h
  | sdict =>
    have hc := hC.calm (hcal.resolve_right (by decide))
    unfold m1 at h
    split at h
    all_goals first | (rename_i z; cases z; done) | cases h; done | skip
    rename_i x p a0 pos z
    split at h
    · rename_i hh
      cases h
      obtain ⟨rfl, g1, st⟩ := hh
      have po := pe_callB (p := p) (pos := pos) (CallR.or (call_sortedDI (X := X) hc) (call_sortedD (X := X) hc)) (glB_ok g1) (hC.blt "sorted" (by decide)) (by decide +kernel) (pa_cons pa pa_nil (star_cons st)) (by decide +kernel) (by decide +kernel) (star_cons st) (by rfl)
      refine PE.imp po fun σ H Q ⟨A, ρ, μ, m, re, p⟩ => ?_
      refine tD_mono (one_ok m re p) fun v H1 ⟨x, A1, μ1, F, g, p1⟩ => ?_
      obtain ⟨z, e1, p2⟩ := Pst.ofP (show Pst X.K fa W A H σ (Rs.ofP (op1 μ1 .sdict x)) Q from p1)
      cases x with
      | ref n =>
        simp only [op1, Option.bind_eq_some_iff] at e1
        obtain ⟨⟨t, kvs⟩, e1, e2⟩ := e1
        split at e2
        · rename_i ht
          obtain ⟨ht, h64⟩ := ht
          simp only at ht h64
          subst ht
          rw [Option.map_eq_some_iff] at e2
          obtain ⟨r, e2, rfl⟩ := e2
          obtain ⟨b, rfl, hb⟩ := g.get
          obtain ⟨ws, e3, ok, q1, q2⟩ := dict_at g.mem hb e1
          have km := keys_map q1 ok
          rcases sortD_cases e2 with ⟨ns, en, rfl⟩ | ⟨ss, es, rfl⟩
          · have kw : ws.map (·.1) = ns.map Sum.inl := by rw [← km]; exact kmapI en
            have hl : ns.length < 64 := by
              have : kvs.length = ns.length := by simpa using congrArg List.length en
              omega
            refine .inl ⟨b, ws, ns, rfl, .inl e3, kw, hl, fun ns' p' h1 h2 hp => ?_⟩
            have e : ns' = srtB ltI ns := eq_srtB sto_int h1 (h2.imp fun {x y} h => decide_eq_false (by omega))
            rw [e]
            exact p2 _ _ _ _ (g.newL (reps_ints0 _) hp)
          · have kw : ws.map (·.1) = (ss.map toS).map Sum.inr := by rw [← km]; exact kmapS es
            have hl : ss.length < 64 := by
              have : kvs.length = ss.length := by simpa using congrArg List.length es
              omega
            rw [es] at q1
            have okk : ∀ s ∈ ss, okS s = true := q1.strs0.2
            refine .inr ⟨b, ws, ss.map toS, rfl, .inl e3, kw, by rw [List.length_map]; exact hl, fun ys p' h1 h2 hp => ?_⟩
            have e : ys = (srtB ltN ss).map toS := srt_toS h1 (sortS_pw h2)
            rw [e, List.map_map]
            exact p2 _ _ _ _ (g.newL (reps_strs fun s hs => okk s ((srtB_perm ss).mem_iff.mp hs)) hp)
        · cases e2
      | _ => cases e1
    · cases h
end
end Mp
end SSndD3
section SHelp
/-! Help: the helpers that stand in every law. -/
namespace Mp.Help
def f_law_draws : Fn := {
  name := "_law_draws", np := 1, names := ["script"],
  body := 
    (.cons (.ret (.lst (.cons (.blt .list (.cons (.var 0) .nil)) (.cons (.lit (.int 0)) (.cons (.lit (.int 0)) (.cons (.lit (.int 1)) .nil)))))) .nil) }
def f_law_draw : Fn := {
  name := "_law_draw", np := 2, names := ["draws", "limit", "cell", "value"],
  body := 
    (.cons (.ite (.band (.cons (.cmp .eq (.ix (.var 0) (.lit (.int 2))) (.lit (.int 0))) (.cons (.cmp .lt (.ix (.var 0) (.lit (.int 1))) (.blt .len (.cons (.ix (.var 0) (.lit (.int 0))) .nil))) .nil))) 
      (.cons (.set (.v 2) (.ix (.ix (.var 0) (.lit (.int 0))) (.ix (.var 0) (.lit (.int 1))))) 
      (.cons (.seti (.var 0) (.lit (.int 1)) (.bin .add (.ix (.var 0) (.lit (.int 1))) (.lit (.int 1)))) 
      (.cons (.ite (.cmp .ge (.var 2) (.bin .pow (.lit (.int 10)) (.lit (.int 18)))) 
        (.cons (.seti (.var 0) (.lit (.int 2)) (.var 2)) .nil) .nil) 
      (.cons (.seti (.var 0) (.lit (.int 3)) (.bin .mod (.blt .int (.cons (.bin .add (.bin .add (.bin .mul (.ix (.var 0) (.lit (.int 3))) (.lit (.int 48271))) (.var 2)) (.lit (.int 13))) .nil)) (.lit (.int 2147483647)))) .nil)))) .nil) 
    (.cons (.ite (.cmp .gt (.ix (.var 0) (.lit (.int 2))) (.lit (.int 0))) 
      (.cons (.set (.v 3) (.bin .mod (.blt .int (.cons (.ix (.var 0) (.lit (.int 2))) .nil)) (.var 1))) 
      (.cons (.seti (.var 0) (.lit (.int 2)) (.bin .fdiv (.ix (.var 0) (.lit (.int 2))) (.var 1))) 
      (.cons (.ret (.var 3)) .nil))) .nil) 
    (.cons (.seti (.var 0) (.lit (.int 3)) (.bin .mod (.blt .int (.cons (.bin .add (.bin .mul (.ix (.var 0) (.lit (.int 3))) (.lit (.int 69621))) (.lit (.int 7))) .nil)) (.lit (.int 2147483629)))) 
    (.cons (.ret (.bin .mod (.blt .int (.cons (.bin .fdiv (.ix (.var 0) (.lit (.int 3))) (.lit (.int 11))) .nil)) (.var 1))) .nil)))) }
def f_law_same : Fn := {
  name := "_law_same", np := 2, names := ["actual", "expected", "k"],
  body := 
    (.cons (.ite (.bor (.cons (.isi (.var 1) .tuple) (.cons (.isi (.var 1) .list) .nil))) 
      (.cons (.ite (.bor (.cons (.cmp .ne (.isi (.var 0) .tuple) (.isi (.var 1) .tuple)) (.cons (.cmp .ne (.isi (.var 0) .list) (.isi (.var 1) .list)) .nil))) 
        (.cons (.ret (.lit (.bl false))) .nil) .nil) 
      (.cons (.ite (.cmp .ne (.blt .len (.cons (.var 0) .nil)) (.blt .len (.cons (.var 1) .nil))) 
        (.cons (.ret (.lit (.bl false))) .nil) .nil) 
      (.cons (.ret (.cmp .eq (.blt .len (.cons (.lc (.var 2) (.v 2) [("k", 2)] (.rng1 (.blt .len (.cons (.var 1) .nil))) (.cons (.nt (.call "_law_same" (.cons (.ix (.var 0) (.var 2)) (.cons (.ix (.var 1) (.var 2)) .nil)))) .nil)) .nil)) (.lit (.int 0)))) .nil))) .nil) 
    (.cons (.ite (.bor (.cons (.isi (.var 1) .bool) (.cons (.isi (.var 0) .bool) .nil))) 
      (.cons (.ret (.band (.cons (.isi (.var 1) .bool) (.cons (.isi (.var 0) .bool) (.cons (.cmp .eq (.var 0) (.var 1)) .nil))))) .nil) .nil) 
    (.cons (.ite (.bor (.cons (.cmp .is (.var 1) (.lit .non)) (.cons (.cmp .is (.var 0) (.lit .non)) .nil))) 
      (.cons (.ret (.band (.cons (.cmp .is (.var 1) (.lit .non)) (.cons (.cmp .is (.var 0) (.lit .non)) .nil)))) .nil) .nil) 
    (.cons (.ite (.bor (.cons (.isi (.var 1) .str) (.cons (.isi (.var 0) .str) .nil))) 
      (.cons (.ret (.band (.cons (.isi (.var 1) .str) (.cons (.isi (.var 0) .str) (.cons (.cmp .eq (.var 0) (.var 1)) .nil))))) .nil) .nil) 
    (.cons (.ret (.band (.cons (.isi (.var 0) .int) (.cons (.isi (.var 1) .int) (.cons (.cmp .eq (.var 0) (.var 1)) .nil))))) .nil))))) }
def f_law_pick : Fn := {
  name := "_law_pick", np := 2, names := ["draws", "row"],
  body := 
    (.cons (.ret (.ix (.var 1) (.call "_law_draw" (.cons (.var 0) (.cons (.blt .len (.cons (.var 1) .nil)) .nil))))) .nil) }
end Mp.Help
end SHelp
section SGo
/-! Go: rules for a run by simp with arithmetic by omega. -/
namespace Mp
section
variable {G : String → Option D} {call : String → List D → Store → Rs D} {ρ : Env} {μ : Store}
/-! arithmetic conditions -/
theorem ilt_T {a b : Int} (h : a < b) : (a < b) = True := eq_true h
theorem ilt_F {a b : Int} (h : b ≤ a) : (a < b) = False := eq_false (by omega)
theorem ile_T {a b : Int} (h : a ≤ b) : (a ≤ b) = True := eq_true h
theorem ile_F {a b : Int} (h : b < a) : (a ≤ b) = False := eq_false (by omega)
theorem ieq_T {a b : Int} (h : a = b) : (a = b) = True := eq_true h
theorem ieq_F {a b : Int} (h : a < b ∨ b < a) : (a = b) = False := eq_false (by omega)
theorem nlt_T {a b : Nat} (h : a < b) : (a < b) = True := eq_true h
theorem nlt_F {a b : Nat} (h : b ≤ a) : (a < b) = False := eq_false (by omega)
theorem nle_T {a b : Nat} (h : a ≤ b) : (a ≤ b) = True := eq_true h
theorem nle_F {a b : Nat} (h : b < a) : (a ≤ b) = False := eq_false (by omega)
theorem neq_T {a b : Nat} (h : a = b) : (a = b) = True := eq_true h
theorem neq_F {a b : Nat} (h : a < b ∨ b < a) : (a = b) = False := eq_false (by omega)
theorem tn_add {a : Nat} {b : Int} (h : 0 ≤ b) : ((a : Int) + b).toNat = a + b.toNat := by omega
theorem tn_sub {a : Nat} {b : Int} (h : 0 ≤ b) : ((a : Int) - b).toNat = a - b.toNat := by omega
theorem tn_neg {a b : Nat} : (-(b : Int) + (a : Int)).toNat = a - b := by omega
theorem tn_neg1 {a : Nat} : (-1 + (a : Int)).toNat = a - 1 := by omega
theorem tn_zero : (0 : Int).toNat = 0 := (rfl)
theorem tn_one : (1 : Int).toNat = 1 := (rfl)
theorem tn_two : (2 : Int).toNat = 2 := (rfl)
theorem tn_three : (3 : Int).toNat = 3 := (rfl)
theorem get_D {α : Type} [Inhabited α] {l : List α} {j : Nat} (h : j < l.length) : l[j]? = some (l.getD j default) := by
  rw [List.getD_eq_getElem?_getD, List.getElem?_eq_getElem h]; rfl
/-! the store -/
def getO : Option Obj → Option (List D)
  | some (.lst l) => some l
  | _ => none
def getDO : Option Obj → Option (Bool × List (D × D))
  | some (.dct t kvs) => some (t, kvs)
  | _ => none
theorem getD_eqO {n : Nat} : getD μ n = getDO μ[n]? := by
  unfold getD getDO
  cases μ[n]? with
  | none => rfl
  | some o => cases o <;> rfl
theorem getDO_some {t : Bool} {kvs : List (D × D)} : getDO (some (.dct t kvs)) = some (t, kvs) := (rfl)
theorem op0_dict {t : Bool} : op0 μ (.dict t) = (.ref μ.length, μ ++ [.dct t []]) := (rfl)
def putDO (μ : Store) (n : Nat) (k v : D) : Option (Bool × List (D × D)) → Option Store
  | some (t, kvs) => if keyOk t k = true ∧ kvs.length < LIM then some (μ.set n (.dct t (dputL kvs k v))) else none
  | none => none
theorem putD_eqS {n : Nat} {k v : D} : putD μ (.ref n) k v = putDO μ n k v (getD μ n) := by
  simp only [putD]
  cases getD μ n <;> rfl
theorem putDO_some {n : Nat} {k v : D} {t : Bool} {kvs : List (D × D)} : putDO μ n k v (some (t, kvs)) = if keyOk t k = true ∧ kvs.length < LIM then some (μ.set n (.dct t (dputL kvs k v))) else none := (rfl)
theorem op1_sset {x : D} : op1 μ .sset x = (seqT μ x).bind fun l => if l.length ≤ 4000 then (setD l).map fun r => (.tl r, μ) else none := (rfl)
theorem op1_dlen {n : Nat} : op1 μ .dlen (.ref n) = (getD μ n).bind fun p => if p.2.length ≤ LIM then some (.int p.2.length, μ) else none := (rfl)
theorem op1_sdict {n : Nat} : op1 μ .sdict (.ref n) = (getD μ n).bind fun p => if p.1 = false ∧ p.2.length < 64 then (sortD (p.2.map (·.1))).map fun r => (.tl r, μ) else none := (rfl)
theorem op2_dix {n : Nat} {k : D} : op2 μ .dix (.ref n) k = (getD μ n).bind fun p => if keyOk p.1 k = true then (dgetL p.2 k).map fun v => (v, μ) else none := (rfl)
theorem op2_din {n : Nat} {k : D} : op2 μ .din k (.ref n) = (getD μ n).bind fun p => if keyOk p.1 k = true then some (.bl (dgetL p.2 k).isSome, μ) else none := by cases k <;> rfl
theorem op2_dnin {n : Nat} {k : D} : op2 μ .dnin k (.ref n) = (getD μ n).bind fun p => if keyOk p.1 k = true then some (.bl (!(dgetL p.2 k).isSome), μ) else none := by cases k <;> rfl
theorem op2_get {n : Nat} {k : D} : op2 μ .get (.ref n) k = (getD μ n).bind fun p => if keyOk p.1 k = true then some ((dgetL p.2 k).getD .non, μ) else none := (rfl)
theorem op2_ext {n : Nat} {y : List D} : op2 μ .ext (.ref n) (.tl y) = (getL μ n).bind fun l => if l.length + y.length ≤ LIM then some (.non, (allocs y μ).2.set n (.lst (l ++ (allocs y μ).1))) else none := (rfl)
theorem op3_get {n : Nat} {k x : D} : op3 μ .get (.ref n) k x = (getD μ n).bind fun p => if keyOk p.1 k = true ∧ x.still = true then some ((dgetL p.2 k).getD x, μ) else none := (rfl)
def setdO (μ : Store) (n : Nat) (k x : D) (p : Bool × List (D × D)) : Option D → Option (D × Store)
  | some v => some (v, μ)
  | none => some ((alloc x μ).1, (alloc x μ).2.set n (.dct p.1 (p.2 ++ [(k, (alloc x μ).1)])))
theorem op3_setd {n : Nat} {k x : D} : op3 μ .setd (.ref n) k x = (getD μ n).bind fun p => if keyOk p.1 k = true ∧ p.2.length < LIM then setdO μ n k x p (dgetL p.2 k) else none := by
  simp only [op3]
  refine congrArg _ ?_
  funext p
  cases dgetL p.2 k <;> rfl
theorem setdO_some {n : Nat} {k x v : D} {p : Bool × List (D × D)} : setdO μ n k x p (some v) = some (v, μ) := (rfl)
theorem setdO_none {n : Nat} {k x : D} {p : Bool × List (D × D)} : setdO μ n k x p none = some ((alloc x μ).1, (alloc x μ).2.set n (.dct p.1 (p.2 ++ [(k, (alloc x μ).1)]))) := (rfl)
theorem rOk2_dix {x : D} : rOk2 μ .dix x = true := by cases x <;> rfl
theorem rOk2_din {x : D} : rOk2 μ .din x = true := by cases x <;> rfl
theorem rOk2_dnin {x : D} : rOk2 μ .dnin x = true := by cases x <;> rfl
theorem rOk2_get {n : Nat} : rOk2 μ .get (.ref n) = (getD μ n).isSome := (rfl)
theorem rOk2_ext {n : Nat} : rOk2 μ .ext (.ref n) = (getL μ n).isSome := (rfl)
theorem rOk3_get {n : Nat} : rOk3 μ .get (.ref n) = (getD μ n).isSome := (rfl)
theorem rOk3_setd {n : Nat} : rOk3 μ .setd (.ref n) = (getD μ n).isSome := (rfl)
theorem keyOk_int {i : Int} : keyOk false (.int i) = true := (rfl)
theorem keyOk_str {s : List Nat} : keyOk false (.str s) = true := (rfl)
theorem intsOf_map (ns : List Int) : intsOf (ns.map .int) = some ns := by
  induction ns with
  | nil => rfl
  | cons n ns ih => simp [intsOf, ih]
theorem strsOf_map (ns : List (List Nat)) : strsOf (ns.map .str) = some ns := by
  induction ns with
  | nil => rfl
  | cons n ns ih => simp [strsOf, ih]
theorem sortD_ints {ns : List Int} : sortD (ns.map .int) = some ((srtB ltI ns).map .int) := by unfold sortD; rw [intsOf_map]
theorem setD_ints {ns : List Int} : setD (ns.map .int) = some ((srtU ltI ns).map .int) := by unfold setD; rw [intsOf_map]
theorem sortD_strs {ns : List (List Nat)} : sortD (ns.map .str) = some ((srtB ltN ns).map .str) := by
  unfold sortD
  cases ns with
  | nil => rfl
  | cons n ns =>
    rw [strsOf_map]
    rfl
theorem setD_strs {ns : List (List Nat)} : setD (ns.map .str) = some ((srtU ltN ns).map .str) := by
  unfold setD
  cases ns with
  | nil => rfl
  | cons n ns =>
    rw [strsOf_map]
    rfl
theorem getL_eqO {n : Nat} : getL μ n = getO μ[n]? := by
  unfold getL getO
  cases μ[n]? with
  | none => rfl
  | some o => cases o <;> rfl
theorem getO_some {l : List D} : getO (some (.lst l)) = some l := (rfl)
theorem app_get0 {N : Store} : (μ ++ N)[μ.length]? = N[0]? := by rw [List.getElem?_append_right (Nat.le_refl _), Nat.sub_self]
theorem app_getk {N : Store} {k : Nat} : (μ ++ N)[μ.length + k]? = N[k]? := by rw [List.getElem?_append_right (by omega), Nat.add_sub_cancel_left]
theorem app_getl {N : Store} {r : Nat} (h : r < μ.length) : (μ ++ N)[r]? = μ[r]? := List.getElem?_append_left h
theorem app_set0 {N : Store} {o : Obj} : (μ ++ N).set μ.length o = μ ++ N.set 0 o := by rw [List.set_append_right _ _ (Nat.le_refl _), Nat.sub_self]
theorem app_setk {N : Store} {k : Nat} {o : Obj} : (μ ++ N).set (μ.length + k) o = μ ++ N.set k o := by rw [List.set_append_right _ _ (by omega), Nat.add_sub_cancel_left]
theorem len_set {n : Nat} {o : Obj} : (μ.set n o).length = μ.length := by simp
/-! calls -/
def callF (call : String → List D → Store → Rs D) (f : String) (ds : List D) (μ : Store) : Rs D := match call f (allocs ds μ).1 (allocs ds μ).2 with
    | .ok d μ' => fin μ d μ'
    | .ex e μ' => finX μ e μ'
    | .no => .no
theorem callA_ite {f : String} {ds : List D} : callA call f ds μ = if D.stills ds = true then call f ds μ else callF call f ds μ := (rfl)
theorem callN_go {P : Prog} {k : Nat} {f : String} {args : List D} {F : Fn} (h : P.fn f = some F) (hn : args.length = F.np) :
    callN P (k + 1) f args μ = if D.stills args = true then endC μ (execs P.G (callN P k) F.body (args.map some ++ List.replicate (F.names.length - F.np) none) μ) else .no := by
  rw [callN, h]
  simp only [hn, true_and]
  rfl
theorem endC_ex {e : D} {μ' : Store} : endC μ (.ex e ρ μ') = finX μ e μ' := (rfl)
theorem callN_list {P : Prog} : callN P = callN P := (rfl)
def finF (μ : Store) (d : D) (N : Store) : Rs D := fin μ d (μ ++ N)
theorem fin_app0 {d : D} {N : Store} : fin μ d (μ ++ N) = if d.under μ.length = true then .ok d μ else finF μ d N := by
  split
  · rename_i h; exact fin_app h
  · rfl
theorem fin_self {d : D} : fin μ d μ = if d.under μ.length = true then .ok d μ else finF μ d [] := by
  split
  · rename_i h; exact fin_same h
  · unfold finF; rw [List.append_nil]
theorem oldOk_app {N : Store} : oldOk μ μ.length (μ ++ N) = true := by
  unfold oldOk
  rw [List.all_eq_true]
  intro i hi
  rw [List.getElem?_append_left (List.mem_range.mp hi)]
  simp
theorem finX_app {e : D} {N : Store} : finX μ e (μ ++ N) = .ex e μ := by
  unfold finX
  rw [if_pos oldOk_app, List.take_append_of_le_length (Nat.le_refl _), List.take_length]
theorem finX_self {e : D} : finX μ e μ = .ex e μ := by
  have := finX_app (μ := μ) (e := e) (N := [])
  rwa [List.append_nil] at this
-- no place, no fresh list in it
mutual
def D.pure : D → Bool
  | .ref _ => false
  | .tl _ => false
  | .fz l => D.pures l
  | .tup l => D.pures l
  | .exn .. => false
  | .fn _ => false
  | _ => true
def D.pures : List D → Bool
  | [] => true
  | d :: ds => D.pure d && D.pures ds
end
mutual
theorem under_pure {n : Nat} : ∀ d : D, d.pure = true → d.under n = true
  | .non, _ | .bl _, _ | .int _, _ | .str _, _ => by simp [D.under]
  | .ref _, h => by simp [D.pure] at h
  | .tl _, h => by simp [D.pure] at h
  | .fn _, h => by simp [D.pure] at h
  | .exn .., h => by simp [D.pure] at h
  | .fz l, h => by simpa [D.under] using unders_pure l (by simpa [D.pure] using h)
  | .tup l, h => by simpa [D.under] using unders_pure l (by simpa [D.pure] using h)
theorem unders_pure {n : Nat} : ∀ l : List D, D.pures l = true → D.unders n l = true
  | [], _ => by simp [D.unders]
  | d :: ds, h => by
    have h' : d.pure = true ∧ D.pures ds = true := by simpa [D.pures] using h
    simp [D.unders, under_pure d h'.1, unders_pure ds h'.2]
end
mutual
theorem still_pure : ∀ d : D, d.pure = true → d.still = true
  | .non, _ | .bl _, _ | .int _, _ | .str _, _ | .fz _, _ => by simp [D.still]
  | .ref _, h => by simp [D.pure] at h
  | .tl _, h => by simp [D.pure] at h
  | .fn _, h => by simp [D.pure] at h
  | .exn .., h => by simp [D.pure] at h
  | .tup l, h => by simpa [D.still] using stills_pure l (by simpa [D.pure] using h)
theorem stills_pure : ∀ l : List D, D.pures l = true → D.stills l = true
  | [], _ => by simp [D.stills]
  | d :: ds, h => by
    have h' : d.pure = true ∧ D.pures ds = true := by simpa [D.pures] using h
    simp [D.stills, still_pure d h'.1, stills_pure ds h'.2]
end
mutual
theorem freeze_pure : ∀ d : D, d.pure = true → freeze d = d
  | .non, _ | .bl _, _ | .int _, _ | .str _, _ | .fz _, _ => by simp [freeze]
  | .ref _, h => by simp [D.pure] at h
  | .tl _, h => by simp [D.pure] at h
  | .fn _, h => by simp [D.pure] at h
  | .exn .., h => by simp [D.pure] at h
  | .tup l, h => by simp [freeze, freezes_pure l (by simpa [D.pure] using h)]
theorem freezes_pure : ∀ l : List D, D.pures l = true → freezes l = l
  | [], _ => by simp [freezes]
  | d :: ds, h => by
    have h' : d.pure = true ∧ D.pures ds = true := by simpa [D.pures] using h
    simp [freezes, freeze_pure d h'.1, freezes_pure ds h'.2]
end
theorem alloc_still {d : D} (h : d.still = true) : alloc d μ = (d, μ) := by
  have := allocs_still (μ := μ) (l := [d]) (by simp [D.stills, h])
  simp only [allocs] at this
  have h1 := congrArg Prod.fst this
  have h2 := congrArg Prod.snd this
  simp only [List.cons.injEq, and_true] at h1
  simp only at h2
  exact Prod.ext h1 h2
theorem alloc_pure {d : D} (h : d.pure = true) : alloc d μ = (d, μ) := alloc_still (still_pure d h)
theorem allocs_pure {l : List D} (h : D.pures l = true) : allocs l μ = (l, μ) := allocs_still (stills_pure l h)
theorem isX_pure {d : D} (h : d.pure = true) : d.isX = false := by
  cases d <;> first | rfl | simp [D.pure] at h
theorem pures_map {α : Type} {l : List α} {f : α → D} : D.pures (l.map f) = l.all fun x => (f x).pure := by
  induction l with
  | nil => rfl
  | cons x l ih => simp [D.pures, ih]
theorem stills_map {α : Type} {l : List α} {f : α → D} : D.stills (l.map f) = l.all fun x => (f x).still := by
  induction l with
  | nil => rfl
  | cons x l ih => simp [D.stills, ih]
theorem unders_map {α : Type} {n : Nat} {l : List α} {f : α → D} : D.unders n (l.map f) = l.all fun x => (f x).under n := by
  induction l with
  | nil => rfl
  | cons x l ih => simp [D.unders, ih]
theorem freezes_map {α : Type} {l : List α} {f : α → D} : freezes (l.map f) = l.map fun x => freeze (f x) := by
  induction l with
  | nil => rfl
  | cons x l ih => simp [freezes, ih]
theorem pures_app {l m : List D} : D.pures (l ++ m) = (D.pures l && D.pures m) := by
  induction l with
  | nil => rfl
  | cons x l ih => simp [D.pures, ih, Bool.and_assoc]
theorem unders_app {n : Nat} {l m : List D} : D.unders n (l ++ m) = (D.unders n l && D.unders n m) := by
  induction l with
  | nil => rfl
  | cons x l ih => simp [D.unders, ih, Bool.and_assoc]
theorem stills_app {l m : List D} : D.stills (l ++ m) = (D.stills l && D.stills m) := by
  induction l with
  | nil => rfl
  | cons x l ih => simp [D.stills, ih, Bool.and_assoc]
theorem freezes_app {l m : List D} : freezes (l ++ m) = freezes l ++ freezes m := by
  induction l with
  | nil => rfl
  | cons x l ih => simp [freezes, ih]
theorem all_T {α : Type} {l : List α} : (l.all fun _ => true) = true := by simp
/-- allocs of a list of still data -/
theorem allocs_map {α : Type} {l : List α} {f : α → D} (h : (l.all fun x => (f x).still) = true) : allocs (l.map f) μ = (l.map f, μ) := allocs_still (by rw [stills_map]; exact h)
theorem stills_rng {lo hi : Int} : D.stills (rngL lo hi) = true := by rw [rngL_ints]; exact stills_ints _
/-- a call's end: a list of its own handed out -/
theorem lift_pure {n : Nat} {μ' : Store} : ∀ (f : Nat) (d : D), d.pure = true → (∀ x, d ≠ .fz x) → True := fun _ _ _ _ => trivial
-- no lists, no places
mutual
def D.flatT : D → Bool
  | .non | .bl _ | .int _ | .str _ => true
  | .tup l => D.flatTs l
  | _ => false
def D.flatTs : List D → Bool
  | [] => true
  | d :: ds => D.flatT d && D.flatTs ds
end
mutual
def D.ht : D → Nat
  | .tup l => D.hts l + 1
  | _ => 0
def D.hts : List D → Nat
  | [] => 0
  | d :: ds => max (D.ht d) (D.hts ds)
end
theorem map_fst0 (l : List D) : List.map ((fun (x : D × List Nat) => x.1) ∘ fun d => (d, [])) l = l := by
  induction l with
  | nil => rfl
  | cons x l ih => simp [ih]
mutual
theorem lift_flat {n : Nat} {μ' : Store} : ∀ (d : D) (f : Nat), d.flatT = true → d.ht < f → lift n μ' f d = some (d, [])
  | .non, f + 1, _, _ | .bl _, f + 1, _, _ | .int _, f + 1, _, _ | .str _, f + 1, _, _ => by simp [lift]
  | .tup l, f + 1, h, hh => by
    simp only [lift]
    rw [lifts_flat l f (by simpa [D.flatT] using h) (by simp only [D.ht] at hh; omega)]
    simp [map_fst0]
  | .ref _, _, h, _ | .tl _, _, h, _ | .fz _, _, h, _ | .fn _, _, h, _ | .exn .., _, h, _ => by simp [D.flatT] at h
theorem lifts_flat {n : Nat} {μ' : Store} : ∀ (l : List D) (f : Nat), D.flatTs l = true → D.hts l < f → l.mapM (lift n μ' f) = some (l.map fun d => (d, []))
  | [], _, _, _ => rfl
  | d :: ds, f, h, hh => by
    have h' : d.flatT = true ∧ D.flatTs ds = true := by simpa [D.flatTs] using h
    simp only [D.hts] at hh
    rw [List.mapM_cons, lift_flat d f h'.1 (by omega), lifts_flat ds f h'.2 (by omega)]
    rfl
end
theorem fin_list {k : Nat} {N : Store} {l : List D} (hN : N[k]? = some (.lst l)) (hl : D.flatTs l = true) (hh : D.hts l < 90) : fin μ (.ref (μ.length + k)) (μ ++ N) = .ok (.tl l) μ := by
  unfold fin
  rw [if_pos oldOk_app, if_neg (by simp [D.under])]
  have e : lift μ.length (μ ++ N) 100 (.ref (μ.length + k)) = some (.tl l, [μ.length + k]) := by
    have h1 : (μ ++ N)[μ.length + k]? = some (.lst l) := by rw [app_getk]; exact hN
    simp only [lift, h1]
    rw [if_neg (by omega), lifts_flat l 99 hl (by omega)]
    simp [map_fst0]
  rw [e]
  simp
theorem finF_list {k : Nat} {N : Store} {l : List D} (hN : N[k]? = some (.lst l)) (hl : D.flatTs l = true) (hh : D.hts l < 90) : finF μ (.ref (μ.length + k)) N = .ok (.tl l) μ := fin_list hN hl hh
theorem finF_list0 {N : Store} {l : List D} (hl : D.flatTs l = true) (hh : D.hts l < 90) : finF μ (.ref μ.length) (.lst l :: N) = .ok (.tl l) μ := fin_list (k := 0) rfl hl hh
theorem flatTs_map {α : Type} {l : List α} {f : α → D} : D.flatTs (l.map f) = l.all fun x => (f x).flatT := by
  induction l with
  | nil => rfl
  | cons x l ih => simp [D.flatTs, ih]
def kRngdR (x y : D) (μ : Store) : Rs D := match x, y with
    | .int i, .int j => if (-(2 ^ 62) ≤ i ∧ i < 2 ^ 62) ∧ -(2 ^ 62) ≤ j ∧ j < 2 ^ 62 then .ok (.tl (rngD i j)) μ else .no
    | _, _ => .no
def kRngdL (G : String → Option D) (call : String → List D → Store → Rs D) (b : C) (ρ : Env) (x : D) (μ : Store) : Rs D := (ev G call b ρ μ).bnd (kRngdR x)
theorem ev_rngd {a b : C} : ev G call (.rngd a b) ρ μ = (ev G call a ρ μ).bnd (kRngdL G call b ρ) := (rfl)
theorem kRngdL_eq {b : C} {x : D} : kRngdL G call b ρ x μ = (ev G call b ρ μ).bnd (kRngdR x) := (rfl)
theorem kRngdR_int {i j : Int} (h : (-(2 ^ 62) ≤ i ∧ i < 2 ^ 62) ∧ -(2 ^ 62) ≤ j ∧ j < 2 ^ 62) : kRngdR (.int i) (.int j) μ = .ok (.tl (rngD i j)) μ := by unfold kRngdR; exact if_pos h
theorem allocs_rngD {hi lo : Int} : allocs (rngD hi lo) μ = (rngD hi lo, μ) := by
  unfold rngD
  exact allocs_still (by rw [stills_map]; simp [D.still])
def kZipR (x y : D) (μ : Store) : Rs D := Rs.of (zipD x y) μ
def kZipL (G : String → Option D) (call : String → List D → Store → Rs D) (b : C) (ρ : Env) (x : D) (μ : Store) : Rs D := (ev G call b ρ μ).bnd (kZipR x)
theorem ev_zip {a b : C} : ev G call (.zip a b) ρ μ = (ev G call a ρ μ).bnd (kZipL G call b ρ) := (rfl)
theorem kZipL_eq {b : C} {x : D} : kZipL G call b ρ x μ = (ev G call b ρ μ).bnd (kZipR x) := (rfl)
theorem kZipR_eq {x y : D} : kZipR x y μ = Rs.of (zipD x y) μ := (rfl)
theorem zipD_tup {l m : List D} : zipD (.tup l) (.tup m) = if D.stills l = true ∧ D.stills m = true then some (.tl (zipL l m)) else none := (rfl)
theorem zipL_still : ∀ (l m : List D), D.stills l = true → D.stills m = true → D.stills (zipL l m) = true
  | [], m, _, _ => by simp [zipL, D.stills]
  | d :: l, [], _, _ => by simp [zipL, D.stills]
  | d :: l, e :: m, h, h' => by
    simp only [D.stills, Bool.and_eq_true] at h h'
    simp only [zipL, D.stills, D.still, h.1, h'.1, zipL_still l m h.2 h'.2, Bool.and_self]
def kRngsQ (x y z : D) (μ : Store) : Rs D := match x, y, z with
    | .int i, .int j, .int k => if ((-(2 ^ 62) ≤ i ∧ i < 2 ^ 62) ∧ -(2 ^ 62) ≤ j ∧ j < 2 ^ 62) ∧ 0 < k ∧ k < 1073741824 then .ok (.tl (rngS i j k)) μ else .no
    | _, _, _ => .no
def kRngsR (G : String → Option D) (call : String → List D → Store → Rs D) (c : C) (ρ : Env) (x y : D) (μ : Store) : Rs D := (ev G call c ρ μ).bnd (kRngsQ x y)
def kRngsL (G : String → Option D) (call : String → List D → Store → Rs D) (b c : C) (ρ : Env) (x : D) (μ : Store) : Rs D := (ev G call b ρ μ).bnd (kRngsR G call c ρ x)
theorem ev_rngs {a b c : C} : ev G call (.rngs a b c) ρ μ = (ev G call a ρ μ).bnd (kRngsL G call b c ρ) := (rfl)
theorem kRngsL_eq {b c : C} {x : D} : kRngsL G call b c ρ x μ = (ev G call b ρ μ).bnd (kRngsR G call c ρ x) := (rfl)
theorem kRngsR_eq {c : C} {x y : D} : kRngsR G call c ρ x y μ = (ev G call c ρ μ).bnd (kRngsQ x y) := (rfl)
theorem kRngsQ_int {i j k : Int} (h : ((-(2 ^ 62) ≤ i ∧ i < 2 ^ 62) ∧ -(2 ^ 62) ≤ j ∧ j < 2 ^ 62) ∧ 0 < k ∧ k < 1073741824) : kRngsQ (.int i) (.int j) (.int k) μ = .ok (.tl (rngS i j k)) μ := by unfold kRngsQ; exact if_pos h
theorem allocs_rngS {lo hi k : Int} : allocs (rngS lo hi k) μ = (rngS lo hi k, μ) := by
  unfold rngS
  exact allocs_still (by rw [stills_map]; simp [D.still])
def kLcB (G : String → Option D) (call : String → List D → Store → Rs D) (e : C) (ifs : Cs) (o : Option (Env × Store)) : Rs (Option D) := match o with
  | some (ρ', μ) => (evIfs G call ifs ρ' μ).bnd (kLcI G call e ρ')
  | none => .no
theorem lcT_eqS {e : C} {tg : Tg} {own : List (String × Nat)} {ifs : Cs} {x : D} : lcT G call e tg own ifs ρ x μ = kLcB G call e ifs (bindT tg x (wipeE ρ own) μ) := (rfl)
theorem kLcB_some {e : C} {ifs : Cs} {ρ' : Env} {μ' : Store} : kLcB G call e ifs (some (ρ', μ')) = (evIfs G call ifs ρ' μ').bnd (kLcI G call e ρ') := (rfl)
theorem enumD_str {s : List Nat} : enumD (.str s) = some (.tl (enumL 0 (s.map fun c => .str [c]))) := (rfl)
theorem divOk_lit {j : Int} (h0 : 0 < j) (h1 : j < 18446744073709551616) : divOk j = true := by
  have b : j < 2 ^ 4000 := Int.lt_of_lt_of_le h1 (by
    have e : (18446744073709551616 : Int) = 2 ^ 64 := by decide
    rw [e]
    have := Nat.pow_le_pow_right (n := 2) (by decide) (by decide : 64 ≤ 4000)
    exact_mod_cast this)
  unfold divOk
  rw [decide_eq_true h0, decide_eq_true b]; simp
theorem divOk_pow {w : Nat} (h : w < 4000) : divOk (2 ^ w) = true := by
  have a : (0 : Int) < 2 ^ w := Int.pow_pos (by decide)
  have b : (2 : Int) ^ w < 2 ^ 4000 := by
    have := Nat.pow_lt_pow_right (a := 2) (by decide) h
    exact_mod_cast this
  unfold divOk
  rw [decide_eq_true a, decide_eq_true b]; simp
theorem repOk_lit {n : Nat} {k : Int} (h0 : 0 ≤ k) (h1 : k ≤ 1000000000) (h2 : n * k.toNat ≤ 16777216) : repOk n k = true := by
  have e : (2 : Int) ^ 63 = 9223372036854775808 := by decide
  have a1 : -9223372036854775808 ≤ k := by omega
  have a2 : k < 9223372036854775808 := by omega
  unfold repOk
  rw [e, decide_eq_true a1, decide_eq_true a2, decide_eq_true (show n * k.toNat ≤ LIM from h2)]
  rfl
/-! slices -/
def kSl1R (x y : D) (μ : Store) : Rs D := Rs.of (sl1D μ x y) μ
def kSl1L (G : String → Option D) (call : String → List D → Store → Rs D) (i : C) (ρ : Env) (x : D) (μ : Store) : Rs D := (ev G call i ρ μ).bnd (kSl1R x)
theorem ev_sl1 {a i : C} : ev G call (.sl1 a i) ρ μ = (ev G call a ρ μ).bnd (kSl1L G call i ρ) := (rfl)
theorem kSl1L_eq {i : C} {x : D} : kSl1L G call i ρ x μ = (ev G call i ρ μ).bnd (kSl1R x) := (rfl)
theorem kSl1R_eq {x y : D} : kSl1R x y μ = Rs.of (sl1D μ x y) μ := (rfl)
def kSl2R (x y : D) (μ : Store) : Rs D := Rs.of (sl2D μ x y) μ
def kSl2L (G : String → Option D) (call : String → List D → Store → Rs D) (i : C) (ρ : Env) (x : D) (μ : Store) : Rs D := (ev G call i ρ μ).bnd (kSl2R x)
theorem ev_sl2 {a i : C} : ev G call (.sl2 a i) ρ μ = (ev G call a ρ μ).bnd (kSl2L G call i ρ) := (rfl)
theorem kSl2L_eq {i : C} {x : D} : kSl2L G call i ρ x μ = (ev G call i ρ μ).bnd (kSl2R x) := (rfl)
theorem kSl2R_eq {x y : D} : kSl2R x y μ = Rs.of (sl2D μ x y) μ := (rfl)
def kSl3Q (x y z : D) (μ : Store) : Rs D := Rs.of (sl3D μ x y z) μ
def kSl3R (G : String → Option D) (call : String → List D → Store → Rs D) (j : C) (ρ : Env) (x y : D) (μ : Store) : Rs D := match y with
  | .int i => (ev G call j ρ μ).bnd (kSl3Q x (.int i))
  | _ => .no
def kSl3L (G : String → Option D) (call : String → List D → Store → Rs D) (i j : C) (ρ : Env) (x : D) (μ : Store) : Rs D := (ev G call i ρ μ).bnd (kSl3R G call j ρ x)
theorem ev_sl3 {a i j : C} : ev G call (.sl3 a i j) ρ μ = (ev G call a ρ μ).bnd (kSl3L G call i j ρ) := by
  simp only [ev]
  refine congrArg _ ?_
  funext x μ
  unfold kSl3L
  refine congrArg _ ?_
  funext y μ
  cases y <;> rfl
theorem kSl3L_eq {i j : C} {x : D} : kSl3L G call i j ρ x μ = (ev G call i ρ μ).bnd (kSl3R G call j ρ x) := (rfl)
theorem kSl3R_int {j : C} {x : D} {i : Int} : kSl3R G call j ρ x (.int i) μ = (ev G call j ρ μ).bnd (kSl3Q x (.int i)) := (rfl)
theorem kSl3Q_eq {x y z : D} : kSl3Q x y z μ = Rs.of (sl3D μ x y z) μ := (rfl)
theorem cut_to {α : Type} {l : List α} {i : Int} (h : 0 ≤ i) : cutL l none (some i) = l.take i.toNat := by
  simp only [cutL, fromI, toI, atEnd]
  rw [if_neg (by omega), List.drop_zero, Nat.sub_zero, List.take_eq_take_iff]
  omega
theorem cut_from {α : Type} {l : List α} {i : Int} (h : 0 ≤ i) : cutL l (some i) none = l.drop i.toNat := by
  simp only [cutL, fromI, toI, atEnd]
  rw [if_neg (by omega)]
  rw [List.take_of_length_le (by rw [List.length_drop]; omega)]
  by_cases c : i.toNat ≤ l.length
  · rw [Nat.min_eq_left c]
  · rw [Nat.min_eq_right (by omega), List.drop_length, List.drop_of_length_le (by omega)]
theorem cut_fromto {α : Type} {l : List α} {i j : Int} (h : 0 ≤ i) (h' : 0 ≤ j) : cutL l (some i) (some j) = (l.take j.toNat).drop i.toNat := by
  simp only [cutL, fromI, toI, atEnd]
  rw [if_neg (by omega), if_neg (by omega), List.drop_take]
  by_cases c : i.toNat ≤ l.length
  · rw [Nat.min_eq_left c, List.take_eq_take_iff, List.length_drop]; omega
  · have c' : l.length ≤ i.toNat := by omega
    rw [Nat.min_eq_right (a := i.toNat) c', List.drop_length, List.drop_of_length_le c']
    simp
/-! loops -/
def kCv (G : String → Option D) (call : String → List D → Store → Rs D) (l : Cs) (ρ : Env) (μ : Store) : Option (Option D) → Rs D
  | some (some (.fn f)) => (evs G call l ρ μ).bnd fun ds μ => callA call f ds μ
  | _ => .no
theorem ev_callvS {i : Nat} {l : Cs} : ev G call (.callv i l) ρ μ = kCv G call l ρ μ ρ[i]? := (rfl)
theorem kCv_some {f : String} {l : Cs} : kCv G call l ρ μ (some (some (.fn f))) = (evs G call l ρ μ).bnd fun ds μ => callA call f ds μ := (rfl)
theorem kWhB_ex {e : D} : kWhB (.ex e ρ μ) = .ex e ρ μ := (rfl)
theorem whS_ex {e : D} : whS (.ex e ρ μ) = some (.inr (.ex e ρ μ)) := (rfl)
theorem forGo_nil {s : D} {xs : List D} {f : D → Env → Store → Ou} (h : srcOk μ s xs = true) : forGo s xs f [] ρ μ = .nx ρ μ := by unfold forGo; rw [if_pos h]
def forK (s : D) (xs : List D) (f : D → Env → Store → Ou) (r : List D) (o : Ou) : Ou := match o with
      | .nx ρ' μ' => forGo s xs f r ρ' μ'
      | .ct ρ' μ' => forGo s xs f r ρ' μ'
      | .br ρ' μ' => .nx ρ' μ'
      | .rt d μ' => .rt d μ'
      | .ex e ρ' μ' => .ex e ρ' μ'
      | .no => .no
theorem forGo_cons {s x : D} {xs r : List D} {f : D → Env → Store → Ou} : forGo s xs f (x :: r) ρ μ = if srcOk μ s xs = true then forK s xs f r (f x ρ μ) else .no := by
  conv => lhs; unfold forGo
  rfl
theorem forGo_nilS {s : D} {xs : List D} {f : D → Env → Store → Ou} : forGo s xs f [] ρ μ = if srcOk μ s xs = true then .nx ρ μ else .no := by
  conv => lhs; unfold forGo
theorem forK_nx {s : D} {xs r : List D} {f : D → Env → Store → Ou} : forK s xs f r (.nx ρ μ) = forGo s xs f r ρ μ := (rfl)
theorem forK_ct {s : D} {xs r : List D} {f : D → Env → Store → Ou} : forK s xs f r (.ct ρ μ) = forGo s xs f r ρ μ := (rfl)
theorem forK_br {s : D} {xs r : List D} {f : D → Env → Store → Ou} : forK s xs f r (.br ρ μ) = .nx ρ μ := (rfl)
theorem forK_rt {s : D} {xs r : List D} {f : D → Env → Store → Ou} {d : D} : forK s xs f r (.rt d μ) = .rt d μ := (rfl)
theorem forK_ex {s : D} {xs r : List D} {f : D → Env → Store → Ou} {e : D} : forK s xs f r (.ex e ρ μ) = .ex e ρ μ := (rfl)
theorem srcOk_tup {l xs : List D} : srcOk μ (.tup l) xs = true := (rfl)
theorem srcOk_fz {l xs : List D} : srcOk μ (.fz l) xs = true := (rfl)
theorem srcOk_tl {l xs : List D} : srcOk μ (.tl l) xs = true := (rfl)
theorem srcOk_str {s : List Nat} {xs : List D} : srcOk μ (.str s) xs = true := (rfl)
theorem srcOk_ref {n : Nat} {xs : List D} : srcOk μ (.ref n) xs = decide (getL μ n = some xs) := (rfl)
/-- a comprehension, turn by turn -/
def lcK (s : D) (xs : List D) (f : D → Store → Rs (Option D)) (r acc : List D) (o : Rs (Option D)) : Rs D := match o with
      | .ok (some d) μ' => if acc.length < LIM then lcGo s xs f r μ' (acc ++ [d]) else .no
      | .ok none μ' => lcGo s xs f r μ' acc
      | _ => .no
theorem lcGo_cons {s x : D} {xs r acc : List D} {f : D → Store → Rs (Option D)} : lcGo s xs f (x :: r) μ acc = if srcOk μ s xs = true then lcK s xs f r acc (f x μ) else .no := by
  conv => lhs; unfold lcGo
  rfl
theorem lcGo_nilS {s : D} {xs acc : List D} {f : D → Store → Rs (Option D)} : lcGo s xs f [] μ acc = if srcOk μ s xs = true then .ok (.tl acc) μ else .no := by
  conv => lhs; unfold lcGo
theorem lcK_some {s d : D} {xs r acc : List D} {f : D → Store → Rs (Option D)} : lcK s xs f r acc (.ok (some d) μ) = if acc.length < LIM then lcGo s xs f r μ (acc ++ [d]) else .no := (rfl)
theorem lcK_none {s : D} {xs r acc : List D} {f : D → Store → Rs (Option D)} : lcK s xs f r acc (.ok none μ) = lcGo s xs f r μ acc := (rfl)
/-- a comprehension whose turns leave the store as it is -/
theorem lcGo_eq {α : Type} {s : D} {xs : List D} {f : D → Store → Rs (Option D)} {e : α → D} {g : α → Option D} (hs : srcOk μ s xs = true) : ∀ (l : List α) (acc : List D), (∀ x ∈ l, f (e x) μ = .ok (g x) μ) → acc.length + l.length ≤ LIM →
    lcGo s xs f (l.map e) μ acc = .ok (.tl (acc ++ l.filterMap g)) μ
  | [], acc, _, _ => by rw [List.map_nil, lcGo_nilS, if_pos hs]; simp
  | x :: l, acc, h, hl => by
    rw [List.map_cons, lcGo_cons, if_pos hs, h x (by simp)]
    cases hg : g x with
    | none =>
      rw [lcK_none, lcGo_eq hs l acc (fun y hy => h y (by simp [hy])) (by simp at hl; omega)]
      simp [hg]
    | some d =>
      rw [lcK_some, if_pos (by simp at hl; omega), lcGo_eq hs l (acc ++ [d]) (fun y hy => h y (by simp [hy])) (by simp at hl ⊢; omega)]
      simp [hg]
theorem lcGo_map' {α : Type} {s : D} {xs : List D} {f : D → Store → Rs (Option D)} {e : α → D} {g : α → D} (hs : srcOk μ s xs = true) (l : List α) (h : ∀ x ∈ l, f (e x) μ = .ok (some (g x)) μ) (hl : l.length ≤ LIM) :
    lcGo s xs f (l.map e) μ [] = .ok (.tl (l.map g)) μ := by
  rw [lcGo_eq (g := fun x => some (g x)) hs l [] h (by simpa using hl)]
  simp
/-- a comprehension whose turns may turn the store -/
theorem lcGo_inv {s : D} {xs : List D} {f : D → Store → Rs (Option D)} (I : Nat → Store → List D → Prop) (hs : ∀ i μ acc, I i μ acc → srcOk μ s xs = true) (hl : xs.length ≤ 1000000)
    (h : ∀ i x μ acc, xs[i]? = some x → I i μ acc → ∃ r μ', f x μ = .ok r μ' ∧ I (i + 1) μ' (acc ++ r.toList)) {μ : Store} (h0 : I 0 μ []) : ∃ acc μ', lcGo s xs f xs μ [] = .ok (.tl acc) μ' ∧ I xs.length μ' acc := by
  have go : ∀ (n i : Nat) (μ : Store) (acc : List D), i + n = xs.length → acc.length ≤ i → I i μ acc → ∃ acc' μ', lcGo s xs f (xs.drop i) μ acc = .ok (.tl acc') μ' ∧ I xs.length μ' acc' := by
    intro n
    induction n with
    | zero =>
      intro i μ acc hi _ hI
      have e : i = xs.length := by omega
      subst e
      rw [List.drop_length, lcGo_nilS, if_pos (hs _ _ _ hI)]
      exact ⟨acc, μ, rfl, hI⟩
    | succ n ih =>
      intro i μ acc hi ha hI
      have hlt : i < xs.length := by omega
      rw [List.drop_eq_getElem_cons hlt, lcGo_cons, if_pos (hs _ _ _ hI)]
      obtain ⟨r, μ', e, hI'⟩ := h i _ μ acc (List.getElem?_eq_getElem hlt) hI
      rw [e]
      cases r with
      | none =>
        rw [lcK_none]
        exact ih (i + 1) μ' acc (by omega) (by omega) (by simpa using hI')
      | some d =>
        rw [lcK_some, if_pos (by show _ < 16777216; omega)]
        exact ih (i + 1) μ' (acc ++ [d]) (by omega) (by simp; omega) (by simpa using hI')
  have := go xs.length 0 μ [] (by omega) (by simp) h0
  rwa [List.drop_zero] at this
end
end Mp
end SGo
section SSndD4
/-! SndD4: the operations of two and three parts; a store into a dict. -/
namespace Mp
open PySem PySem.Spec PyProof.Rows L2
section
variable {X : Cx} {fa : FA} {W : WX} {G : String → Option D} {call : String → List D → Store → Rs D} {k : Nat} {fs : FS} {A A0 A1 A2 : List Addr} {H H0 H1 H2 : Hp} {σ : L2.St} {K : PySem.W.Frag}
theorem two1 {x y : D} {v w : V} {μ : Store} {F1 F2 : List Addr} (t : Two K fa A H x y v w H2 A2 μ F1 F2) {n : Nat} (e : x = .ref n) : ∃ a, v = .ref a ∧ A2[n]? = some a := by
  subst e
  exact t.fst.get
theorem two2 {x y : D} {v w : V} {μ : Store} {F1 F2 : List Addr} (t : Two K fa A H x y v w H2 A2 μ F1 F2) {n : Nat} (e : y = .ref n) : ∃ a, w = .ref a ∧ A2[n]? = some a := by
  subst e
  exact t.snd.get
theorem two_okR {r : Store → D → Bool} {a b : C} {ρ : Env} {μ : Store} {f : D → D → Store → Rs D} {Q : VK} (m : RelM K fa H A μ) (re : RelE K fa H A ρ σ)
    (h : Pst K fa W A H σ ((ev G call a ρ μ).bnd fun x μ => if r μ x = true then (ev G call b ρ μ).bnd fun y μ => f x y μ else .no) Q) :
    tD K fa W G call a σ H fun v H1 => (∃ x A1 μ1 F, Good K fa A H μ1 x v H1 A1 F ∧ r μ1 x = true) ∧ tD K fa W G call b σ H1 fun w H2 => ∃ x y A2 μ2 F1 F2, Two K fa A H x y v w H2 A2 μ2 F1 F2 ∧ Pst K fa W A H σ (f x y μ2) Q := by
  refine ⟨A, ρ, μ, m, re, Pst.mono (Pst.bnd Stp.refl h) fun v H1 ⟨A1, x, μ1, F1, g1, h1⟩ => ?_⟩
  split at h1
  · rename_i hr
    exact ⟨⟨x, A1, μ1, F1, g1, hr⟩, A1, ρ, μ1, g1.mem, re.step g1.stp, Pst.mono (Pst.bnd g1.stp h1) fun w H2 ⟨A2, y, μ2, F2, g2, h2⟩ => ⟨x, y, A2, μ2, F1, F2, Two.of g1 g2, h2⟩⟩
  · exact h1.elim
theorem op2_dix_inv {μ : Store} {x y : D} {z : D × Store} (h : op2 μ .dix x y = some z) : ∃ n t kvs v, x = .ref n ∧ getD μ n = some (t, kvs) ∧ keyOk t y = true ∧ dgetL kvs y = some v ∧ z = (v, μ) := by
  cases x <;> try cases h
  rename_i n
  rw [op2_dix, Option.bind_eq_some_iff] at h
  obtain ⟨⟨t, kvs⟩, h1, h2⟩ := h
  split at h2
  · rename_i hk
    rw [Option.map_eq_some_iff] at h2
    obtain ⟨v, h2, rfl⟩ := h2
    exact ⟨n, t, kvs, v, rfl, h1, hk, h2, rfl⟩
  · cases h2
theorem op2_din_inv {μ : Store} {x y : D} {z : D × Store} (h : op2 μ .din x y = some z) : ∃ n t kvs, y = .ref n ∧ getD μ n = some (t, kvs) ∧ keyOk t x = true ∧ z = (.bl (dgetL kvs x).isSome, μ) := by
  cases y <;> try (cases x <;> cases h; done)
  rename_i n
  rw [op2_din, Option.bind_eq_some_iff] at h
  obtain ⟨⟨t, kvs⟩, h1, h2⟩ := h
  split at h2
  · rename_i hk
    cases h2
    exact ⟨n, t, kvs, rfl, h1, hk, rfl⟩
  · cases h2
theorem op2_dnin_inv {μ : Store} {x y : D} {z : D × Store} (h : op2 μ .dnin x y = some z) : ∃ n t kvs, y = .ref n ∧ getD μ n = some (t, kvs) ∧ keyOk t x = true ∧ z = (.bl (!(dgetL kvs x).isSome), μ) := by
  cases y <;> try (cases x <;> cases h; done)
  rename_i n
  rw [op2_dnin, Option.bind_eq_some_iff] at h
  obtain ⟨⟨t, kvs⟩, h1, h2⟩ := h
  split at h2
  · rename_i hk
    cases h2
    exact ⟨n, t, kvs, rfl, h1, hk, rfl⟩
  · cases h2
theorem isSome_of {r : Option V} {kvs : List (D × D)} {k : D} {P : V → D → Prop} (h1 : ∀ v, dgetL kvs k = some v → ∃ u, r = some u ∧ P u v) (h2 : dgetL kvs k = none → r = none) : r.isSome = (dgetL kvs k).isSome := by
  cases e : dgetL kvs k with
  | none => rw [h2 e]; rfl
  | some v => obtain ⟨u, hu, _⟩ := h1 v e; rw [hu]; rfl
/-- a test in a dict, as a value and as a condition -/
theorem pe_inD {o : O2} {op : CmpOp} {neg : Bool} {a b : C} {a' b' : Expr} {pos : Pos} (hw : fa.w = some X.w) (hr : OpR X (compareOp op) (fun y x H Q => ∃ a o, x = .ref a ∧ DG X H a y o ∧ Q (.bl (o.isSome != neg)) H))
    (inv : ∀ {μ : Store} {x y : D} {z : D × Store}, op2 μ o x y = some z → ∃ n t kvs, y = .ref n ∧ getD μ n = some (t, kvs) ∧ keyOk t x = true ∧ z = (.bl ((dgetL kvs x).isSome != neg), μ))
    (hro : ∀ μ x, rOk2 μ o x = true)
    (ha : PE X a' (tD X.K fa W G call a)) (hb : PE X b' (tD X.K fa W G call b)) (hs : setB b' = true) :
    PE X (.Compare a' [op] [b'] pos) (tD X.K fa W G call (.u2 o a b)) ∧ PT X (.Compare a' [op] [b'] pos) (Mp.tB X.K fa W G call (.u2 o a b)) := by
  have main : ∀ {A : List Addr} {H : Hp} {ρ : Env} {μ : Store} {σ : L2.St} {Q : VK}, RelM X.K fa H A μ → RelE X.K fa H A ρ σ → Pst X.K fa W A H σ (ev G call (.u2 o a b) ρ μ) Q →
      tD X.K fa W G call a σ H fun v H1 => tD X.K fa W G call b σ H1 fun w H2 => ∃ a o, w = .ref a ∧ DG X H2 a v o ∧ Q (.bl (o.isSome != neg)) H2 := by
    intro A H ρ μ σ Q m re p
    refine tD_mono (two_okR (r := fun μ x => rOk2 μ o x) (f := fun x y μ => Rs.ofP (op2 μ o x y)) m re p) fun v H1 h => tD_mono h.2 fun w H2 ⟨x, y, A2, μ2, F1, F2, t, p2⟩ => ?_
    obtain ⟨z, e1, p3⟩ := Pst.ofP p2
    obtain ⟨n, tt, kvs, ey, hg, hk, rfl⟩ := inv e1
    obtain ⟨ad, rfl, hA⟩ := two2 t ey
    obtain ⟨r, g1, g2, g3⟩ := DG_of hw (dict_at t.mem hA hg) hk t.one
    refine ⟨ad, r, rfl, g1, ?_⟩
    rw [isSome_of g2 g3]
    exact p3.done t.stp t.mem (.bl _)
  constructor
  · exact PE.imp (pe_cmpR hr ha hb (set_mark hs)) fun σ H Q ⟨A, ρ, μ, m, re, p⟩ => main m re p
  · refine PT.imp (pt_cmpR hr ha hb (set_mark hs)) fun σ H Q ⟨A, ρ, μ, m, re, p⟩ => ?_
    have p' : Pst X.K fa W A H σ (ev G call (.u2 o a b) ρ μ) fun v H' => ∃ k, v = .bl k ∧ Q k H' := by
     cases hr : ev G call (.u2 o a b) ρ μ with
     | no => rw [hr] at p; exact p
     | ex e μ' => rw [hr] at p; exact p
     | ok d μ1 =>
       rw [hr] at p
       simp only [Rs.bnd_ok] at p
       obtain ⟨c, e1, p2⟩ := PstB.of p
       intro v H' A' F g
       have isb : ∃ c, d = .bl c := by
         simp only [ev] at hr
         cases h1 : ev G call a ρ μ with
         | no => rw [h1] at hr; cases hr
         | ex _ _ => rw [h1] at hr; cases hr
         | ok x μ2 =>
           rw [h1] at hr
           simp only [Rs.bnd_ok, hro, if_true] at hr
           cases h2 : ev G call b ρ μ2 with
           | no => rw [h2] at hr; cases hr
           | ex _ _ => rw [h2] at hr; cases hr
           | ok y μ3 =>
             rw [h2] at hr
             simp only [Rs.bnd_ok] at hr
             cases h3 : op2 μ3 o x y with
             | none => rw [h3] at hr; cases hr
             | some c =>
               obtain ⟨_, _, _, _, _, _, e⟩ := inv h3
               rw [h3, e] at hr
               cases hr
               exact ⟨_, rfl⟩
       obtain ⟨c', rfl⟩ := isb
       cases e1
       have mm := g.mem; have st := g.stp
       cases g.rep
       exact ⟨_, rfl, p2.done st mm⟩
    exact main m re p'
theorem din_rule (hu : X.A.units + 64 < cLine) : OpR X (compareOp .In) (fun y x H Q => ∃ a o, x = .ref a ∧ DG X H a y o ∧ Q (.bl (o.isSome != false)) H) := by
  intro pins s σ H x y v u Q I rx ry ⟨a, o, e, g, q⟩
  exact op_nin hu pins s σ H x y v u Q I rx ry ⟨a, o, e, g, by simpa using q⟩
theorem dnin_rule (hu : X.A.units + 64 < cLine) : OpR X (compareOp .NotIn) (fun y x H Q => ∃ a o, x = .ref a ∧ DG X H a y o ∧ Q (.bl (o.isSome != true)) H) := by
  intro pins s σ H x y v u Q I rx ry ⟨a, o, e, g, q⟩
  exact op_nnotin hu pins s σ H x y v u Q I rx ry ⟨a, o, e, g, by cases o <;> simpa using q⟩
theorem NoSl_of {e : Expr} (h : plainIxB e = true) : NoSl e := by
  intro v w
  cases e <;> first | rfl | cases h
/-- d.get(k), d.get(k, x), d.setdefault(k, x), xs.extend(y), d[k] -/
theorem pe_dixD (hC : Cn X G call k fa fs W) {a b : C} {a' b' : Expr} {pos : Pos} (hi : plainIxB b' = true) (ha : PE X a' (tD X.K fa W G call a)) (hb : PE X b' (tD X.K fa W G call b)) : PE X (.Subscript a' b' pos) (tD X.K fa W G call (.u2 .dix a b)) := by
  refine PE.imp (pe_nget hC.units' ha hb (NoSl_of hi)) fun σ H Q ⟨A, ρ, μ, m, re, p⟩ => ?_
  refine tD_mono (two_okR (r := fun μ x => rOk2 μ .dix x) (f := fun x y μ => Rs.ofP (op2 μ .dix x y)) m re p) fun v H1 h => tD_mono h.2 fun w H2 ⟨x, y, A2, μ2, F1, F2, t, p2⟩ => ?_
  obtain ⟨z, e1, p3⟩ := Pst.ofP p2
  obtain ⟨n, tt, kvs, d, ex, hg, hk, hd, rfl⟩ := op2_dix_inv e1
  obtain ⟨ad, rfl, hA⟩ := two1 t ex
  obtain ⟨r, g1, g2, g3⟩ := DG_of hC.wd (dict_at t.mem hA hg) hk t.two
  obtain ⟨u, rfl, ru⟩ := g2 d hd
  exact ⟨ad, u, rfl, g1, p3.done t.stp t.mem ru⟩
theorem DI_of {μ : Store} {n : Nat} {t : Bool} {kvs : List (D × D)} {ad : Addr} (hw : fa.w = some X.w) (o : RepO X.K fa H A ad (.dct t kvs)) : DI X H ad := by
  cases t with
  | false => obtain ⟨ws, e, _⟩ := o; exact .inl ⟨ws, e⟩
  | true =>
    obtain ⟨w, ws, h1, e, _⟩ := o
    rw [hw] at h1; cases h1
    exact .inr ⟨ws, e⟩
theorem m1_of {o e : Expr} {m : Str} {p q : Pos} {X : Cx} (hr : recvT o = true) (hl : p.endLine = q.line) (hs : starB e = true) : M1 X o m p e q :=
  ⟨recv_base hr, by rw [star_all (by simp [hs])]; rfl, by simp [hl], by rw [star_cons hs]; rfl⟩
theorem m2_of {o e f : Expr} {m : Str} {p q : Pos} {X : Cx} (hr : recvT o = true) (hl : p.endLine = q.line) (hs : starB e = true) (hf : starB f = true) : M2 X o m p e f q :=
  ⟨recv_base hr, by rw [star_all (by simp [hs, hf])]; rfl, by simp [hl], by rw [star_cons hs, star_cons hf]; rfl⟩
end
end Mp
end SSndD4
section SSndD5
/-! SndD5: methods of dicts, extend; a store into a dict; all the operations. -/
namespace Mp
open PySem PySem.Spec PyProof.Rows L2
section
variable {X : Cx} {fa : FA} {W : WX} {G : String → Option D} {call : String → List D → Store → Rs D} {k : Nat} {fs : FS} {A A0 A1 A2 : List Addr} {H H0 H1 H2 : Hp} {σ : L2.St} {K : PySem.W.Frag}
theorem getD_isSome {μ : Store} {n : Nat} (h : (Mp.getD μ n).isSome = true) : ∃ t kvs, Mp.getD μ n = some (t, kvs) := by
  obtain ⟨⟨t, kvs⟩, e⟩ := Option.isSome_iff_exists.mp h
  exact ⟨t, kvs, e⟩
theorem di_of {μ : Store} {x : D} {v : V} {F : List Addr} {n : Nat} (hw : fa.w = some X.w) (g : Good X.K fa A H μ x v H1 A1 F) (e : x = .ref n) (h : (Mp.getD μ n).isSome = true) : ∃ a, v = .ref a ∧ DI X H1 a := by
  subst e
  obtain ⟨t, kvs, e⟩ := getD_isSome h
  obtain ⟨a, rfl, hA⟩ := g.get
  exact ⟨a, rfl, DI_of (μ := μ) (n := n) hw (dict_at g.mem hA e)⟩
theorem pe_get1D (hC : Cn X G call k fa fs W) {a b : C} {a' b' : Expr} {p q : Pos} (hr : recvT a' = true) (hl : p.endLine = q.line) (hs : starB b' = true) (ha : PE X a' (tD X.K fa W G call a)) (hb : PE X b' (tD X.K fa W G call b)) :
    PE X (.Call (.Attribute a' "get" p) [b'] [] q) (tD X.K fa W G call (.u2 .get a b)) := by
  refine PE.imp (pe_nget1 hC.units' ha hb (m1_of hr hl hs)) fun σ H Q ⟨A, ρ, μ, m, re, pp⟩ => ?_
  refine tD_mono (two_okR (r := fun μ x => rOk2 μ .get x) (f := fun x y μ => Rs.ofP (op2 μ .get x y)) m re pp) fun v H1 ⟨⟨x, A1, μ1, F, g, hro⟩, h⟩ => ?_
  obtain ⟨n, rfl⟩ : ∃ n, x = .ref n := by cases x <;> first | exact ⟨_, rfl⟩ | (simp [rOk2] at hro)
  obtain ⟨ad, rfl, di⟩ := di_of hC.wd g rfl hro
  refine ⟨ad, rfl, di, tD_mono h fun w H2 ⟨x, y, A2, μ2, F1, F2, t, p2⟩ => ?_⟩
  obtain ⟨z, e1, p3⟩ := Pst.ofP p2
  obtain ⟨n', rfl⟩ : ∃ n, x = .ref n := by cases x <;> first | exact ⟨_, rfl⟩ | cases e1
  rw [op2_get, Option.bind_eq_some_iff] at e1
  obtain ⟨⟨tt, kvs⟩, hg, e2⟩ := e1
  split at e2
  · rename_i hk
    cases e2
    obtain ⟨ad', e3, hA⟩ := two1 t rfl
    cases e3
    obtain ⟨r, g1, g2, g3⟩ := DG_of hC.wd (dict_at t.mem hA hg) hk t.two
    refine ⟨r, g1, ?_⟩
    cases ed : dgetL kvs y with
    | none =>
      rw [g3 ed]
      simp only [ed] at p3
      exact p3.done t.stp t.mem .non
    | some d =>
      obtain ⟨u, rfl, ru⟩ := g2 d ed
      simp only [ed] at p3
      exact p3.done t.stp t.mem ru
  · cases e2
theorem pe_extD (hC : Cn X G call k fa fs W) {a b : C} {a' b' : Expr} {p q : Pos} (hr : recvT a' = true) (hl : p.endLine = q.line) (hs : starB b' = true) (ha : PE X a' (tD X.K fa W G call a)) (hb : PE X b' (tD X.K fa W G call b)) (hcal : X.calm = true) :
    PE X (.Call (.Attribute a' "extend" p) [b'] [] q) (tD X.K fa W G call (.u2 .ext a b)) := by
  refine PE.imp (pe_bm PySem.F.plainAttrs_list PySem.F.slot_list_extend PySem.F.type_list_extend mt_extend ha (pa_cons hb pa_nil (star_cons hs)) (recv_base hr) (by rw [star_all (by simp [hs])]; rfl) (by simp [hl]) (star_cons hs) (by rfl)) fun σ H Q ⟨A, ρ, μ, m, re, pp⟩ => ?_
  refine tD_mono (two_okR (r := fun μ x => rOk2 μ .ext x) (f := fun x y μ => Rs.ofP (op2 μ .ext x y)) m re pp) fun v H1 ⟨⟨x, A1, μ1, F, g, hro⟩, h⟩ => ?_
  obtain ⟨n, rfl⟩ : ∃ n, x = .ref n := by cases x <;> first | exact ⟨_, rfl⟩ | (simp [rOk2] at hro)
  obtain ⟨l1, hl1⟩ := Option.isSome_iff_exists.mp (show (getL μ1 n).isSome = true from hro)
  obtain ⟨ad, rfl, hA1⟩ := g.get
  obtain ⟨vs1, hv1, _⟩ := Rep.getL g.mem hA1 hl1
  refine ⟨.inl ⟨rfl, vs1, .of hv1⟩, tD_mono h fun w H2 ⟨x, y, A2, μ2, F1, F2, t, p2⟩ => ?_⟩
  obtain ⟨z, e1, p3⟩ := Pst.ofP p2
  obtain ⟨n', rfl⟩ : ∃ n, x = .ref n := by cases x <;> first | exact ⟨_, rfl⟩ | cases e1
  obtain ⟨ys, rfl⟩ : ∃ l, y = .tl l := by cases y <;> first | exact ⟨_, rfl⟩ | cases e1
  rw [op2_ext, Option.bind_eq_some_iff] at e1
  obtain ⟨l, hl', e2⟩ := e1
  split at e2
  · rename_i hlen
    cases e2
    have t1 := t.one
    cases t1 with
    | @ref _ ad' hA =>
      obtain ⟨vs, hv, rl⟩ := Rep.getL t.mem hA hl'
      have g2 := t.snd
      cases hrep : g2.rep with
      | @tl b ws _ F0 hb' rr =>
        have ndF : F0.Nodup := (List.nodup_append.mp g2.nd).1
        have newF : ∀ c ∈ F0, H c = none ∧ c ∉ A2 := fun c hc => g2.new c (by simp [hc])
        obtain ⟨m3, q3⟩ := allocs_ok rr g2.mem ndF fun c hc => (newF c hc).2
        have hA3 : (A2 ++ F0)[n']? = some ad := by
          have := (List.getElem?_eq_some_iff.mp hA).1
          rw [List.getElem?_append_left this]; exact hA
        have stp3 : Stp A H (A2 ++ F0) H2 := g2.stp.join fun c hc => (newF c hc).1
        have m4 := m3.write hA3 ((rl.mono (N := F0)).append q3)
        have s4 := Stp.write m3 (o := .lst (vs ++ ws)) hA3
        refine ⟨ad, b, vs, ws, rfl, rfl, hv, hb', by rw [rl.length, rr.length, sizeLine_eq]; exact hlen, ?_⟩
        exact p3.done (stp3.trans s4) m4 .non
  · cases e2
theorem three_ok {r : Store → D → Bool} {a b c : C} {ρ : Env} {μ : Store} {f : D → D → D → Store → Rs D} {Q : VK} (m : RelM K fa H A μ) (re : RelE K fa H A ρ σ)
    (h : Pst K fa W A H σ ((ev G call a ρ μ).bnd fun x μ => if r μ x = true then (ev G call b ρ μ).bnd fun y μ => (ev G call c ρ μ).bnd fun z μ => f x y z μ else .no) Q) :
    tD K fa W G call a σ H fun v H1 => (∃ x A1 μ1 F, Good K fa A H μ1 x v H1 A1 F ∧ r μ1 x = true) ∧ tD K fa W G call b σ H1 fun w H2 => tD K fa W G call c σ H2 fun u H3 => ∃ x y z A3 μ3 F1 F2 F3, Good K fa A H μ3 x v H3 A3 F1 ∧ Good K fa A H μ3 y w H3 A3 F2 ∧ Good K fa A H μ3 z u H3 A3 F3 ∧ Pst K fa W A H σ (f x y z μ3) Q := by
  refine ⟨A, ρ, μ, m, re, Pst.mono (Pst.bnd Stp.refl h) fun v H1 ⟨A1, x, μ1, F1, g1, h1⟩ => ?_⟩
  split at h1
  · rename_i hr
    refine ⟨⟨x, A1, μ1, F1, g1, hr⟩, A1, ρ, μ1, g1.mem, re.step g1.stp, Pst.mono (Pst.bnd g1.stp h1) fun w H2 ⟨A2, y, μ2, F2, g2, h2⟩ => ?_⟩
    have t12 := Two.of g1 g2
    refine ⟨A2, ρ, μ2, g2.mem, (re.step g1.stp).step g2.stp, Pst.mono (Pst.bnd t12.stp h2) fun u H3 ⟨A3, z, μ3, F3, g3, h3⟩ => ?_⟩
    have ta := Two.of t12.fst g3
    have tb := Two.of t12.snd g3
    exact ⟨x, y, z, A3, μ3, F1, F2, F3, ta.fst, tb.fst, ta.snd, h3⟩
  · exact h1.elim
theorem pe_get2D (hC : Cn X G call k fa fs W) {a b c : C} {a' b' c' : Expr} {p q : Pos} (hr : recvT a' = true) (hl : p.endLine = q.line) (hs : starB b' = true) (hs2 : starB c' = true) (ha : PE X a' (tD X.K fa W G call a)) (hb : PE X b' (tD X.K fa W G call b)) (hc : PE X c' (tD X.K fa W G call c)) :
    PE X (.Call (.Attribute a' "get" p) [b', c'] [] q) (tD X.K fa W G call (.u3 .get a b c)) := by
  refine PE.imp (pe_nget2 hC.units' ha hb hc (m2_of hr hl hs hs2)) fun σ H Q ⟨A, ρ, μ, m, re, pp⟩ => ?_
  refine tD_mono (three_ok (r := fun μ x => rOk3 μ .get x) (f := fun x y z μ => Rs.ofP (op3 μ .get x y z)) m re pp) fun v H1 ⟨⟨x, A1, μ1, F, g, hro⟩, h⟩ => ?_
  obtain ⟨n, rfl⟩ : ∃ n, x = .ref n := by cases x <;> first | exact ⟨_, rfl⟩ | (simp [rOk3] at hro)
  obtain ⟨ad, rfl, di⟩ := di_of hC.wd g rfl hro
  refine ⟨ad, rfl, di, tD_mono h fun w H2 h => tD_mono h fun u H3 ⟨x, y, z, A3, μ3, F1, F2, F3, gx, gy, gz, p2⟩ => ?_⟩
  obtain ⟨zz, e1, p3⟩ := Pst.ofP p2
  obtain ⟨n', rfl⟩ : ∃ n, x = .ref n := by cases x <;> first | exact ⟨_, rfl⟩ | cases e1
  rw [op3_get, Option.bind_eq_some_iff] at e1
  obtain ⟨⟨tt, kvs⟩, hg, e2⟩ := e1
  split at e2
  · rename_i hk
    cases e2
    obtain ⟨ad', e3, hA⟩ := gx.get
    cases e3
    obtain ⟨r, g1, g2, g3⟩ := DG_of hC.wd (dict_at gx.mem hA hg) hk.1 gy.rep
    refine ⟨r, g1, ?_⟩
    cases ed : dgetL kvs y with
    | none =>
      rw [g3 ed]
      simp only [ed] at p3
      have rz := gz.rep
      rw [rz.still hk.2] at rz
      exact p3.done gx.stp gx.mem rz
    | some d =>
      obtain ⟨u, rfl, ru⟩ := g2 d ed
      simp only [ed] at p3
      exact p3.done gx.stp gx.mem ru
  · cases e2
theorem pe_setdD (hC : Cn X G call k fa fs W) {a b c : C} {a' b' c' : Expr} {p q : Pos} (hr : recvT a' = true) (hl : p.endLine = q.line) (hs : starB b' = true) (hs2 : starB c' = true) (ha : PE X a' (tD X.K fa W G call a)) (hb : PE X b' (tD X.K fa W G call b)) (hc : PE X c' (tD X.K fa W G call c)) :
    PE X (.Call (.Attribute a' "setdefault" p) [b', c'] [] q) (tD X.K fa W G call (.u3 .setd a b c)) := by
  refine PE.imp (pe_nsetd hC.units' ha hb hc (m2_of hr hl hs hs2)) fun σ H Q ⟨A, ρ, μ, m, re, pp⟩ => ?_
  refine tD_mono (three_ok (r := fun μ x => rOk3 μ .setd x) (f := fun x y z μ => Rs.ofP (op3 μ .setd x y z)) m re pp) fun v H1 ⟨⟨x, A1, μ1, F, g, hro⟩, h⟩ => ?_
  obtain ⟨n, rfl⟩ : ∃ n, x = .ref n := by cases x <;> first | exact ⟨_, rfl⟩ | (simp [rOk3] at hro)
  obtain ⟨ad, rfl, di⟩ := di_of hC.wd g rfl hro
  refine ⟨ad, rfl, di, tD_mono h fun w H2 h => tD_mono h fun u H3 ⟨x, y, z, A3, μ3, F1, F2, F3, gx, gy, gz, p2⟩ => ?_⟩
  obtain ⟨zz, e1, p3⟩ := Pst.ofP p2
  obtain ⟨n', rfl⟩ : ∃ n, x = .ref n := by cases x <;> first | exact ⟨_, rfl⟩ | cases e1
  rw [op3_setd, Option.bind_eq_some_iff] at e1
  obtain ⟨⟨tt, kvs⟩, hg, e2⟩ := e1
  split at e2
  · rename_i hk
    obtain ⟨ad', e3, hA⟩ := gx.get
    cases e3
    have ga := gz.alloc
    have hA3 : (A3 ++ F3)[n']? = some ad := by
      have := (List.getElem?_eq_some_iff.mp hA).1
      rw [List.getElem?_append_left this]; exact hA
    obtain ⟨r, ⟨d5, d6⟩, dd⟩ := DPS_of hC.wd (dict_at gx.mem hA hg) hk.1 hk.2 gy.rep
    obtain ⟨u', d1, d2, d3⟩ := dd u
    refine ⟨r, _, d2, fun v hv => ?_, fun hn => ?_⟩
    · cases ed : dgetL kvs y with
      | none => rw [d6 ed] at hv; cases hv
      | some d =>
        obtain ⟨u1, hu, ru⟩ := d5 d ed
        rw [hv] at hu; cases hu
        rw [ed, setdO_some] at e2
        cases e2
        exact p3.done gx.stp gx.mem ru
    · cases ed : dgetL kvs y with
      | some d => obtain ⟨u1, hu, _⟩ := d5 d ed; rw [hn] at hu; cases hu
      | none =>
        rw [ed, setdO_none] at e2
        cases e2
        have ee : dputL kvs y (alloc z μ3).1 = kvs ++ [(y, (alloc z μ3).1)] := by
          unfold dputL
          rw [ed]; rfl
        obtain ⟨m4, s4⟩ := d3 ga.mem hA3 ga.rep
        rw [ee] at m4
        exact p3 _ _ _ _ ⟨ga.stp.trans s4, m4, ga.rep.step s4 (by simp), List.nodup_nil, by simp⟩
  · cases e2
theorem ite_some {p : Prop} [Decidable p] {α : Type} {x y : α} (h : (if p then some x else none) = some y) : p ∧ x = y := by
  split at h
  · rename_i hp; exact ⟨hp, Option.some.inj h⟩
  · cases h
theorem m2_inv {o : O2} {e a' b' : Expr} (h : m2 o e = some (a', b')) : match o with
    | .dix => ∃ pos, e = .Subscript a' b' pos ∧ plainIxB b' = true
    | .din => ∃ pos, e = .Compare a' [.In] [b'] pos ∧ setB b' = true
    | .dnin => ∃ pos, e = .Compare a' [.NotIn] [b'] pos ∧ setB b' = true
    | .get => ∃ p q, e = .Call (.Attribute a' "get" p) [b'] [] q ∧ recvT a' = true ∧ p.endLine = q.line ∧ starB b' = true
    | .ext => ∃ p q, e = .Call (.Attribute a' "extend" p) [b'] [] q ∧ recvT a' = true ∧ p.endLine = q.line ∧ starB b' = true := by
  unfold m2 at h
  split at h
  all_goals first
    | (cases h; done)
    | (obtain ⟨hh, e⟩ := ite_some h; cases e)
  · exact ⟨_, rfl, hh⟩
  · exact ⟨_, rfl, hh⟩
  · exact ⟨_, rfl, hh⟩
  · obtain ⟨rfl, h2⟩ := hh; exact ⟨_, _, rfl, h2⟩
  · obtain ⟨rfl, h2⟩ := hh; exact ⟨_, _, rfl, h2⟩
theorem m3_inv {o : O3} {e a' b' c' : Expr} (h : m3 o e = some (a', b', c')) : match o with
    | .get => ∃ p q, e = .Call (.Attribute a' "get" p) [b', c'] [] q ∧ recvT a' = true ∧ p.endLine = q.line ∧ starB b' = true ∧ starB c' = true
    | .setd => ∃ p q, e = .Call (.Attribute a' "setdefault" p) [b', c'] [] q ∧ recvT a' = true ∧ p.endLine = q.line ∧ starB b' = true ∧ starB c' = true := by
  unfold m3 at h
  split at h
  all_goals first
    | (cases h; done)
    | (obtain ⟨hh, e⟩ := ite_some h; cases e)
  · obtain ⟨rfl, h2⟩ := hh; exact ⟨_, _, rfl, h2⟩
  · obtain ⟨rfl, h2⟩ := hh; exact ⟨_, _, rfl, h2⟩
theorem pt_call {e : Expr} {f : Expr} {es : List Expr} {kw : List Keyword} {pos : Pos} {c : C} (h : e = .Call f es kw pos) (p : PE X e (tD X.K fa W G call c)) : PT X e (Mp.tB X.K fa W G call c) := by
  subst h
  exact pt_of p fun _ => rfl
theorem u2_snd (hC : Cn X G call k fa fs W) {o : O2} {a b : C} {e a' b' : Expr} (hcal : fs.calm = true ∨ calm2 o = false) (h : m2 o e = some (a', b')) (ha : PE X a' (tD X.K fa W G call a)) (hb : PE X b' (tD X.K fa W G call b)) :
    PE X e (tD X.K fa W G call (.u2 o a b)) ∧ PT X e (Mp.tB X.K fa W G call (.u2 o a b)) := by
  cases o with
  | dix =>
    obtain ⟨pos, rfl, hp⟩ := m2_inv h
    have p := pe_dixD (pos := pos) hC hp ha hb
    exact ⟨p, pt_of p fun _ => rfl⟩
  | din =>
    obtain ⟨pos, rfl, hp⟩ := m2_inv h
    exact pe_inD (neg := false) hC.wd (din_rule hC.units') (fun {μ x y z} h => by obtain ⟨n, t, kvs, e1, e2, e3, e4⟩ := op2_din_inv h; exact ⟨n, t, kvs, e1, e2, e3, by rw [e4]; simp⟩) (fun _ _ => rOk2_din) ha hb hp
  | dnin =>
    obtain ⟨pos, rfl, hp⟩ := m2_inv h
    exact pe_inD (neg := true) hC.wd (dnin_rule hC.units') (fun {μ x y z} h => by obtain ⟨n, t, kvs, e1, e2, e3, e4⟩ := op2_dnin_inv h; exact ⟨n, t, kvs, e1, e2, e3, by rw [e4]; simp⟩) (fun _ _ => rOk2_dnin) ha hb hp
  | get =>
    obtain ⟨p, q, rfl, h1, h2, h3⟩ := m2_inv h
    have p := pe_get1D (p := p) (q := q) hC h1 h2 h3 ha hb
    exact ⟨p, pt_of p fun _ => rfl⟩
  | ext =>
    obtain ⟨p, q, rfl, h1, h2, h3⟩ := m2_inv h
    have p := pe_extD (p := p) (q := q) hC h1 h2 h3 ha hb (hC.calm (hcal.resolve_right (by decide)))
    exact ⟨p, pt_of p fun _ => rfl⟩
theorem u3_snd (hC : Cn X G call k fa fs W) {o : O3} {a b c : C} {e a' b' c' : Expr} (h : m3 o e = some (a', b', c')) (ha : PE X a' (tD X.K fa W G call a)) (hb : PE X b' (tD X.K fa W G call b)) (hc : PE X c' (tD X.K fa W G call c)) :
    PE X e (tD X.K fa W G call (.u3 o a b c)) ∧ PT X e (Mp.tB X.K fa W G call (.u3 o a b c)) := by
  cases o with
  | get =>
    obtain ⟨p, q, rfl, h1, h2, h3, h4⟩ := m3_inv h
    have p := pe_get2D (p := p) (q := q) hC h1 h2 h3 h4 ha hb hc
    exact ⟨p, pt_of p fun _ => rfl⟩
  | setd =>
    obtain ⟨p, q, rfl, h1, h2, h3, h4⟩ := m3_inv h
    have p := pe_setdD (p := p) (q := q) hC h1 h2 h3 h4 ha hb hc
    exact ⟨p, pt_of p fun _ => rfl⟩
theorem m1_call {sc : Scope} {o : O1} {e a' : Expr} (h : m1 sc o e = some a') : ∃ f es kw pos, e = .Call f es kw pos := by
  unfold m1 at h
  split at h <;> first | exact ⟨_, _, _, _, rfl⟩ | cases h
theorem u1_snd (hC : Cn X G call k fa fs W) {o : O1} {a : C} {e a' : Expr} (hcal : fs.calm = true ∨ calm1 o = false) (h : m1 X.env.scope o e = some a') (ha : PE X a' (tD X.K fa W G call a)) :
    PE X e (tD X.K fa W G call (.u1 o a)) ∧ PT X e (Mp.tB X.K fa W G call (.u1 o a)) := by
  obtain ⟨f, es, kw, pos, rfl⟩ := m1_call h
  have p := pe_u1D hC hcal h ha
  exact ⟨p, pt_of p fun _ => rfl⟩
theorem u0_snd (hC : Cn X G call k fa fs W) {o : O0} {e : Expr} (h : m0 o e = true) : PE X e (tD X.K fa W G call (.u0 o)) ∧ PT X e (Mp.tB X.K fa W G call (.u0 o)) := by
  have p := pe_u0D (k := k) hC h
  match o, e, h with
  | .dict t, .Dict [] [] pos, h => exact ⟨p, pt_of p fun _ => rfl⟩
end
end Mp
end SSndD5
section SSndZ
/-! SndZ: zip of two tuples, ranges with a step. -/
namespace Mp
open PySem PySem.Spec PyProof.Rows L2
theorem zipL_get : ∀ (l m : List D) (i : Nat), (zipL l m)[i]? = (l[i]?).bind fun d => (m[i]?).map fun e => D.tup [d, e]
  | [], m, i => by simp [zipL]
  | d :: l, [], i => by simp [zipL]
  | d :: l, e :: m, 0 => by simp [zipL]
  | d :: l, e :: m, i + 1 => by simp only [zipL, List.getElem?_cons_succ, zipL_get l m i]
theorem zipL_len : ∀ (l m : List D), (zipL l m).length = min l.length m.length
  | [], m => by simp [zipL]
  | d :: l, [] => by simp [zipL]
  | d :: l, e :: m => by simp only [zipL, List.length_cons, zipL_len l m]; omega
theorem zipL_stillZ : ∀ (l m : List D), D.stills l = true → D.stills m = true → D.stills (zipL l m) = true
  | [], m, _, _ => by simp [zipL, D.stills]
  | d :: l, [], _, _ => by simp [zipL, D.stills]
  | d :: l, e :: m, h, h' => by
    simp only [D.stills, Bool.and_eq_true] at h h'
    simp only [zipL, D.stills, D.still, h.1, h'.1, zipL_stillZ l m h.2 h'.2, Bool.and_self]
section
variable {K : PySem.W.Frag} {fa : FA} {W : WX} {A A0 A1 A2 : List Addr} {H H0 H1 H2 : Hp} {σ : L2.St}
theorem src_zipT {a b : Addr} {l m : List D} {vs ws : List V} (h : SqT K H a vs) (r : Reps K fa H A vs l []) (h' : SqT K H b ws) (r' : Reps K fa H A ws m []) : Src K fa (RZ.ItzT K a b) (.tl (zipL l m)) (zipL l m) [] A H := by
  refine ⟨by simp, fun A H => (SqT K H a vs ∧ Reps K fa H A vs l []) ∧ SqT K H b ws ∧ Reps K fa H A ws m [], ⟨⟨h, r⟩, h', r'⟩, fun A H A' H' p s => ⟨⟨s.sqT p.1.1, p.1.2.sta s⟩, s.sqT p.2.1, p.2.2.sta s⟩, fun A H μ p mm _ i => ⟨fun d hd => ?_, fun hi => ⟨vs, ws, p.1.1, p.2.1, ?_⟩⟩⟩
  · rw [zipL_get, Option.bind_eq_some_iff] at hd
    obtain ⟨d1, hd1, hd⟩ := hd
    rw [Option.map_eq_some_iff] at hd
    obtain ⟨d2, hd2, rfl⟩ := hd
    obtain ⟨v, F1, h1, h2, h3⟩ := p.1.2.get hd1
    cases List.sublist_nil.mp h3
    obtain ⟨w, F2, g1, g2, g3⟩ := p.2.2.get hd2
    cases List.sublist_nil.mp g3
    refine ⟨⟨vs, ws, v, w, p.1.1, p.2.1, h1, g1⟩, fun x H' y => ?_⟩
    obtain ⟨T, x, y, rfl, hT, rfl, hx, hy⟩ := y
    have hx := hx vs p.1.1
    rw [h1] at hx; cases hx
    have hy := hy ws p.2.1
    rw [g1] at hy; cases hy
    have sn : Stp A H A (upd H T (.tup [v, w])) := Stp.new hT
    refine ⟨sn, mm.new hT, .tup (.of upd_same) ?_⟩
    have := Reps.cons (F := []) (F' := []) (h2.step sn (by simp)) (Reps.one (g2.step sn (by simp)))
    exact this
  · rw [zipL_len] at hi
    rw [p.1.2.length, p.2.2.length]
    omega
theorem src_rngS {i j c : Int} : Src K fa (Itc i c (if i < j then (j - i - 1) / c + 1 else 0).toNat) (.tl (rngS i j c)) (rngS i j c) [] A H := by
  refine ⟨by simp, fun _ _ => True, trivial, fun _ _ _ _ _ _ => trivial, fun A H μ _ m _ n => ⟨fun d hd => ?_, fun hn => ?_⟩⟩
  · unfold rngS at hd
    rw [List.getElem?_map, Option.map_eq_some_iff] at hd
    obtain ⟨k, hk, rfl⟩ := hd
    obtain ⟨hk1, hk2⟩ := List.getElem?_eq_some_iff.mp hk
    rw [List.getElem_range] at hk2
    subst hk2
    rw [List.length_range] at hk1
    refine ⟨hk1, fun x H' y => ?_⟩
    obtain ⟨rfl, rfl⟩ := y
    exact ⟨.refl, m, .int _⟩
  · unfold rngS at hn
    rw [List.length_map, List.length_range] at hn
    exact hn
end
theorem still_rngS {μ : Store} {i j c : Int} : allocs (rngS i j c) μ = (rngS i j c, μ) := by
  unfold rngS
  exact allocs_still (by
    generalize List.range _ = l
    induction l with
    | nil => rfl
    | cons a l ih => simp [D.stills, D.still, ih])
theorem RgC_pos {i j c : Int} (ha : -(2 ^ 62) ≤ i) (ha' : i < 2 ^ 62) (hb : -(2 ^ 62) ≤ j) (hb' : j < 2 ^ 62) (hc : 0 < c) (hc' : c < 1073741824) : RgC i j c (if i < j then (j - i - 1) / c + 1 else 0).toNat := by
  have e : Builtin.Range.rangeSize i j c = if i < j then (j - i - 1) / c + 1 else 0 := by
    unfold Builtin.Range.rangeSize
    rw [if_pos hc]
  have hd : i < j → 0 ≤ (j - i - 1) / c ∧ (j - i - 1) / c ≤ j - i - 1 := fun h => ⟨Int.ediv_nonneg (by omega) (by omega), Int.ediv_le_self _ (by omega)⟩
  refine ⟨by omega, by omega, ?_, ?_⟩
  · unfold Builtin.Range.small
    rw [e]
    simp only [Builtin.Range.rangeFitsLong, Bool.and_eq_true, Bool.or_eq_true, decide_eq_true_eq, beq_iff_eq, show c > 0 from hc, if_true]
    split <;> omega
  · rw [e]
    split <;> omega
theorem pi_zipD {X : Cx} {W : WX} {fa : FA} {G : String → Option D} {call : String → List D → Store → Rs D} {k : Nat} {fs : FS} (hC : Cn X G call k fa fs W) {a b : C} {e e2 : Expr} {x : Str} {p pos tpos : Pos} {elts : List Expr} {kk : Nat} (hx : x = ("zip" : Str)) (hg : glB X.env.scope x = true) (hs : starB e = true) (hs2 : starB e2 = true) (ha : PE X e (tD X.K fa W G call a)) (hb : PE X e2 (tD X.K fa W G call b)) :
    PI X (.Tuple elts kk tpos) (.Call (.Name x p) [e, e2] [] pos) (tI G call X.K fa W (.zip a b)) := by
  subst hx
  refine ⟨fun pins s σ H R I q => (RZ.pi_zipA (elts := elts) (kk := kk) (tpos := tpos) (glB_ok hg) (hC.blt "zip" (by decide)) (pa_cons ha (pa_cons hb pa_nil (star_cons hs2)) (star_cons hs)) (star_cons hs) (by rw [star_cons hs2]; rfl)).run pins s σ H R I ?_⟩
  obtain ⟨A, ρ, μ, m, re, q⟩ := q
  simp only [ev] at q
  refine ⟨A, ρ, μ, m, re, ?_⟩
  cases hr : ev G call a ρ μ with
  | no => rw [hr] at q; exact q
  | ex e' μ' => rw [hr] at q; exact q
  | ok d μ1 =>
    rw [hr] at q
    simp only [Rs.bnd_ok] at q
    intro v H1 A1 F g
    refine ⟨A1, ρ, μ1, g.mem, re.step g.stp, ?_⟩
    cases hr2 : ev G call b ρ μ1 with
    | no => rw [hr2] at q; exact q.elim
    | ex e μ' => rw [hr2] at q; exact fun cls dd H' A' s m x => q cls dd H' A' (g.stp.trans s) m x
    | ok d2 μ2 =>
      rw [hr2] at q
      simp only [Rs.bnd_ok] at q
      intro w H2 A2 F2 g2
      cases hd : zipD d d2 with
      | none => rw [hd] at q; exact q.elim
      | some z =>
        rw [hd] at q
        obtain ⟨xs, hx, q⟩ := q
        cases d with
        | tup l =>
          cases d2 with
          | tup l2 =>
            simp only [zipD] at hd
            split at hd
            · rename_i hl
              cases Option.some.inj hd
              have hset : settle (.tl (zipL l l2)) μ2 = (.tl (zipL l l2), μ2) := by simp only [settle, allocs_still (zipL_stillZ l l2 hl.1 hl.2)]
              rw [hset] at hx q
              cases hx
              have r1 := g.rep
              have st2 := g2.stp
              cases r1 with
              | @tup b1 vs _ _ hs1 rr1 =>
                cases rr1.still hl.1
                cases g2.rep with
                | @tup b2 ws _ _ hs2 rr2 =>
                  cases rr2.still hl.2
                  exact ⟨b1, b2, vs, ws, rfl, .inr ⟨st2.sqT hs1, hs2, q H2 A2 _ [] (g.stp.trans g2.stp) g2.mem (src_zipT (st2.sqT hs1) (rr1.step st2 (by simp)) hs2 rr2) (by simp)⟩⟩
            · cases hd
          | _ => cases hd
        | _ => cases hd
theorem pi_rngsD {X : Cx} {W : WX} {fa : FA} {G : String → Option D} {call : String → List D → Store → Rs D} {k : Nat} {fs : FS} (hC : Cn X G call k fa fs W) {a b c : C} {tg e e2 e3 : Expr} {x : Str} {p pos : Pos} (hx : x = ("range" : Str)) (hg : glB X.env.scope x = true) (hs : starB e = true) (hs2 : starB e2 = true) (hs3 : starB e3 = true) (ha : PE X e (tD X.K fa W G call a)) (hb : PE X e2 (tD X.K fa W G call b)) (hc : PE X e3 (tD X.K fa W G call c)) :
    PI X tg (.Call (.Name x p) [e, e2, e3] [] pos) (tI G call X.K fa W (.rngs a b c)) := by
  subst hx
  refine ⟨fun pins s σ H R I q => (pi_range3 (tg := tg) (glB_ok hg) (hC.blt "range" (by decide)) (pa_cons ha (pa_cons hb (pa_cons hc pa_nil (star_cons hs3)) (star_cons hs2)) (star_cons hs)) (star_cons hs) (by rw [star_cons hs2, star_cons hs3]; rfl)).run pins s σ H R I ?_⟩
  obtain ⟨A, ρ, μ, m, re, q⟩ := q
  simp only [ev] at q
  refine ⟨A, ρ, μ, m, re, ?_⟩
  cases hr : ev G call a ρ μ with
  | no => rw [hr] at q; exact q
  | ex e' μ' => rw [hr] at q; exact q
  | ok d μ1 =>
    rw [hr] at q
    simp only [Rs.bnd_ok] at q
    intro v H1 A1 F g
    refine ⟨A1, ρ, μ1, g.mem, re.step g.stp, ?_⟩
    cases hr2 : ev G call b ρ μ1 with
    | no => rw [hr2] at q; exact q.elim
    | ex e μ' => rw [hr2] at q; exact fun cls dd H' A' s m x => q cls dd H' A' (g.stp.trans s) m x
    | ok d2 μ2 =>
      rw [hr2] at q
      simp only [Rs.bnd_ok] at q
      intro w H2 A2 F2 g2
      refine ⟨A2, ρ, μ2, g2.mem, (re.step g.stp).step g2.stp, ?_⟩
      cases hr3 : ev G call c ρ μ2 with
      | no => rw [hr3] at q; exact q.elim
      | ex e μ' => rw [hr3] at q; exact fun cls dd H' A' s m x => q cls dd H' A' ((g.stp.trans g2.stp).trans s) m x
      | ok d3 μ3 =>
        rw [hr3] at q
        simp only [Rs.bnd_ok] at q
        intro u H3 A3 F3 g3
        cases d with
        | int i =>
          cases d2 with
          | int j =>
            cases d3 with
            | int n =>
              simp only at q
              split at q
              · rename_i hj
                cases g.rep
                cases g2.rep
                cases g3.rep
                obtain ⟨xs, hx, q⟩ := q
                have hset : settle (.tl (rngS i j n)) μ3 = (.tl (rngS i j n), μ3) := by simp only [settle, still_rngS]
                rw [hset] at hx q
                cases hx
                exact ⟨i, j, n, _, rfl, RgC_pos hj.1.1.1 hj.1.1.2 hj.1.2.1 hj.1.2.2 hj.2.1 hj.2.2, q H3 A3 _ [] ((g.stp.trans g2.stp).trans g3.stp) g3.mem src_rngS (by simp)⟩
              · exact q.elim
            | _ => exact q.elim
          | _ => exact q.elim
        | _ => exact q.elim
end Mp
end SSndZ
section SSnd12
/-! Snd12: every expression that is matched is sound. -/
namespace Mp
open PySem PySem.Spec PyProof.Rows L2
section
variable {fa : FA} {G : String → Option D} {call : String → List D → Store → Rs D} {k : Nat} {fs : FS}

theorem Cn.blk {X : Cx} {W : WX} (hC : Cn X G call k fa fs W) (hcal : fs.calm = true) (s : Shared) (H : Hp) (scope : Scope) (cenv : PySem.Env) (fp : List Addr) : Cn (X.blk s H scope cenv fp) G call k fa fs (fun _ _ _ _ => False) :=
  ⟨hC.nd, hC.calm, hC.units, hC.room, fun _ _ x => by obtain ⟨_, _, _, _, _, _, _, _, _, _, _, _, _, _, _, _, z⟩ := x; exact z.elim, hC.fns, hC.glob, hC.call, hC.blt, hC.dom, hC.two, hC.exc, hC.exq, hC.sub,
    fun i a dd c e => (by have := (hC.sx i a dd c e).1; rw [hcal] at this; cases this), hC.wd⟩
theorem relS_eq (scope : Scope) (cl : List (Str × Addr)) (C : Addr) (env : PySem.Env) : (compEnvC scope cl C env).scope = relS scope env.scope := rfl
/-- names that a comprehension stores -/
theorem blk_kind {X : Cx} {s : Shared} {H : Hp} {scope : Scope} {cl : List (Str × Addr)} {C : Addr} {fp : List Addr} : ∀ x, locB scope x = true → Loc (X.blk s H scope (compEnvC scope cl C X.env) fp).env.scope x ∧
    ((X.blk s H scope (compEnvC scope cl C X.env) fp).fn x = true ∨ (X.blk s H scope (compEnvC scope cl C X.env) fp).env.scope.names.lookup x = some .local) := by
  intro x h
  have hl := locB_ok h
  have keep : ∀ {k : NameKind}, k ≠ .free → scope.names.lookup x = some k → (relS scope X.env.scope).names.lookup x = some k := fun hk h => lookup_relS_keep hk h
  rcases hl with hl | hl
  · exact ⟨.inl (keep (by decide) hl), .inr (keep (by decide) hl)⟩
  · refine ⟨.inr (keep (by decide) hl), .inl ?_⟩
    show (scope.names.lookup x == some .cell) = true
    rw [hl]; rfl
theorem isTrue_plain_of {e : Expr} {env : PySem.Env} (h : ∀ op vs p, e ≠ .BoolOp op vs p) (h1 : ∀ x p, e ≠ .UnaryOp .Not x p) (h2 : ∀ a b c p, e ≠ .IfExp a b c p) (h3 : ∀ a b c p, e ≠ .Compare a b c p) :
    ∀ whole, isTrue e env whole = (do let v ← whole; standAt e.pos; holding [v] (truthy v)) := by
  intro whole
  cases e <;> first
    | rfl
    | exact absurd rfl (h _ _ _)
    | exact absurd rfl (h2 _ _ _ _)
    | exact absurd rfl (h3 _ _ _ _)
    | (rename_i op x p; cases op <;> first | rfl | exact absurd rfl (h1 _ _))
theorem mE_lc {N : List Str} {sc : Scope} {e it : C} {tg : Tg} {own : List (String × Nat)} {ifs : Cs} {elt tg' it' : Expr} {ifs' : List Expr} {scope : Scope} (pos : Pos) : mE N fs sc (.lc e tg own it ifs) (.ListComp elt [⟨tg', it', ifs', 0⟩] scope pos) =
    (fs.calm && (blkC N sc scope (own.map fun p => ((p.1 : Str), p.2)) && mE N fs (relS scope sc) e elt && mTg N scope tg tg' && (tg.slots.all fun i => (own.map (·.2)).contains i) && setB it' && mI N fs sc it it' && enOk it tg && mEs N fs (relS scope sc) ifs ifs' && decide (ifs'.length ≤ 1))) := by
  rw [mE]; rfl
theorem mE_lcA {N : List Str} {sc : Scope} {e it : C} {tg : Tg} {own : List (String × Nat)} {ifs : Cs} {elt tg' it' : Expr} {ifs' : List Expr} {scope : Scope} {pos : Pos} {ia : Int} (h : mE N fs sc (.lc e tg own it ifs) (.ListComp elt [⟨tg', it', ifs', ia⟩] scope pos) = true) : ia = 0 := by
  unfold mE at h
  split at h <;> simp_all
theorem mE_u1 {N : List Str} {sc : Scope} {o : O1} {a : C} {e : Expr} (h : mE N fs sc (.u1 o a) e = true) : (fs.calm = true ∨ calm1 o = false) ∧ ∃ a', m1 sc o e = some a' ∧ mE N fs sc a a' = true := by
  have h : ((fs.calm || !calm1 o) && match m1 sc o e with | some a' => mE N fs sc a a' | none => false) = true := by
    rw [← h]; cases e <;> (simp only [mE] <;> rfl)
  rw [Bool.and_eq_true] at h
  refine ⟨by simpa using h.1, ?_⟩
  cases e1 : m1 sc o e with
  | none => rw [e1] at h; cases h.2
  | some a' => rw [e1] at h; exact ⟨a', rfl, h.2⟩
theorem mE_u2 {N : List Str} {sc : Scope} {o : O2} {a b : C} {e : Expr} (h : mE N fs sc (.u2 o a b) e = true) : (fs.calm = true ∨ calm2 o = false) ∧ ∃ a' b', m2 o e = some (a', b') ∧ mE N fs sc a a' = true ∧ mE N fs sc b b' = true := by
  have h : ((fs.calm || !calm2 o) && match m2 o e with | some p => mE N fs sc a p.1 && mE N fs sc b p.2 | none => false) = true := by
    rw [← h]; cases e <;> (simp only [mE] <;> rfl)
  rw [Bool.and_eq_true] at h
  refine ⟨by simpa using h.1, ?_⟩
  cases e1 : m2 o e with
  | none => rw [e1] at h; cases h.2
  | some p =>
    rw [e1] at h
    have h2 := h.2
    simp only [Bool.and_eq_true] at h2
    exact ⟨p.1, p.2, rfl, h2.1, h2.2⟩
theorem mE_u3 {N : List Str} {sc : Scope} {o : O3} {a b c : C} {e : Expr} (h : mE N fs sc (.u3 o a b c) e = true) : ∃ a' b' c', m3 o e = some (a', b', c') ∧ mE N fs sc a a' = true ∧ mE N fs sc b b' = true ∧ mE N fs sc c c' = true := by
  have h : (match m3 o e with | some p => mE N fs sc a p.1 && mE N fs sc b p.2.1 && mE N fs sc c p.2.2 | none => false) = true := by
    rw [← h]; cases e <;> (simp only [mE] <;> rfl)
  cases e1 : m3 o e with
  | none => rw [e1] at h; cases h
  | some p =>
    rw [e1] at h
    simp only [Bool.and_eq_true] at h
    exact ⟨p.1, p.2.1, p.2.2, rfl, h.1.1, h.1.2, h.2⟩
theorem mE_rev {N : List Str} {sc : Scope} {a : C} {e : Expr} (h : mE N fs sc (.rev a) e = true) : ∃ (a' : Expr) (kk : Nat) (q1 q2 q3 pos : Pos), e = .Subscript a' (.Slice none none (some (.UnaryOp .USub (.Constant (.int 1) kk q1) q2)) q3) pos ∧ mE N fs sc a a' = true := by
  unfold mE at h
  split at h
  all_goals first
    | (rename_i z; cases z; done)
    | cases h
    | skip
  all_goals (rename_i z; cases z; exact ⟨_, _, _, _, _, _, rfl, h⟩)
theorem mR_enum {N : List Str} {sc : Scope} {a : C} {it' : Expr} (h : mR N fs sc (.enum a) it' = true) : ∃ (x : Str) (p : Pos) (a' : Expr) (pos : Pos), it' = .Call (.Name x p) [a'] [] pos ∧ x = ("enumerate" : Str) ∧ glB sc x = true ∧ mE N fs sc a a' = true ∧ starB a' = true := by
  unfold mR at h
  split at h
  all_goals first
    | (rename_i z; cases z; done)
    | cases h
    | skip
  all_goals (rename_i z; cases z; simp only [Bool.and_eq_true, decide_eq_true_eq] at h; exact ⟨_, _, _, _, rfl, h.1.1.1, h.1.1.2, h.1.2, h.2⟩)
theorem mR_zip {N : List Str} {sc : Scope} {a b : C} {it' : Expr} (h : mR N fs sc (.zip a b) it' = true) : ∃ (x : Str) (p : Pos) (a' b' : Expr) (pos : Pos), it' = .Call (.Name x p) [a', b'] [] pos ∧ x = ("zip" : Str) ∧ glB sc x = true ∧ mE N fs sc a a' = true ∧ mE N fs sc b b' = true ∧ starB a' = true ∧ starB b' = true := by
  unfold mR at h
  split at h
  all_goals first
    | (rename_i z; cases z; done)
    | cases h
    | skip
  all_goals (rename_i z; cases z; simp only [Bool.and_eq_true, decide_eq_true_eq] at h; exact ⟨_, _, _, _, _, rfl, h.1.1.1.1.1, h.1.1.1.1.2, h.1.1.1.2, h.1.1.2, h.1.2, h.2⟩)
theorem mR_rngs {N : List Str} {sc : Scope} {a b c : C} {it' : Expr} (h : mR N fs sc (.rngs a b c) it' = true) : ∃ (x : Str) (p : Pos) (a' b' c' : Expr) (pos : Pos), it' = .Call (.Name x p) [a', b', c'] [] pos ∧ x = ("range" : Str) ∧ glB sc x = true ∧ mE N fs sc a a' = true ∧ mE N fs sc b b' = true ∧ mE N fs sc c c' = true ∧ starB a' = true ∧ starB b' = true ∧ starB c' = true := by
  unfold mR at h
  split at h
  all_goals first
    | (rename_i z; cases z; done)
    | cases h
    | skip
  all_goals (rename_i z; cases z; simp only [Bool.and_eq_true, decide_eq_true_eq] at h; exact ⟨_, _, _, _, _, _, rfl, h.1.1.1.1.1.1.1, h.1.1.1.1.1.1.2, h.1.1.1.1.1.2, h.1.1.1.1.2, h.1.1.1.2, h.1.1.2, h.1.2, h.2⟩)
theorem enOk_tupZ {N : List Str} {sc : Scope} {a b : C} {tg : Tg} {tg' : Expr} (h : enOk (.zip a b) tg = true) (h2 : mTg N sc tg tg' = true) : ∃ es kk tp, tg' = .Tuple es kk tp := by
  cases tg with
  | v i => cases h
  | t l =>
    cases tg' with
    | Tuple es kk tp => exact ⟨es, kk, tp, rfl⟩
    | _ => simp [mTg] at h2
theorem enOk_tup {N : List Str} {sc : Scope} {a : C} {tg : Tg} {tg' : Expr} (h : enOk (.enum a) tg = true) (h2 : mTg N sc tg tg' = true) : ∃ es kk tp, tg' = .Tuple es kk tp := by
  cases tg with
  | v i => cases h
  | t l =>
    cases tg' with
    | Tuple es kk tp => exact ⟨es, kk, tp, rfl⟩
    | _ => simp [mTg] at h2
theorem mR_rngd {N : List Str} {sc : Scope} {a b : C} {it' : Expr} (h : mR N fs sc (.rngd a b) it' = true) : ∃ (x : Str) (p : Pos) (a' b' : Expr) (kk : Nat) (q1 q2 pos : Pos), it' = .Call (.Name x p) [a', b', .UnaryOp .USub (.Constant (.int 1) kk q1) q2] [] pos ∧ x = ("range" : Str) ∧ glB sc x = true ∧ mE N fs sc a a' = true ∧ mE N fs sc b b' = true ∧ starB a' = true ∧ starB b' = true := by
  unfold mR at h
  split at h
  all_goals first
    | (rename_i z; cases z; done)
    | cases h
    | skip
  all_goals (rename_i z; cases z; simp only [Bool.and_eq_true, decide_eq_true_eq] at h; exact ⟨_, _, _, _, _, _, _, _, rfl, h.1.1.1.1.1, h.1.1.1.1.2, h.1.1.1.2, h.1.1.2, h.1.2, h.2⟩)
mutual
theorem sndE : ∀ (c : C) {X : Cx} {W : WX} {e : Expr}, Cn X G call k fa fs W → mE X.N fs X.env.scope c e = true → PE X e (tD X.K fa W G call c) ∧ PT X e (Mp.tB X.K fa W G call c)
  | .lit d, X, W, e, hC, h => by
    have p : PE X e (tD X.K fa W G call (.lit d)) := pe_lit h
    refine ⟨p, pt_of p (isTrue_plain_of ?_ ?_ ?_ ?_)⟩ <;> (intros; rintro rfl; cases d <;> simp [mE] at h)
  | .var i, X, W, e, hC, h => by
    cases e with
    | Name x pos =>
      have h' : (decide (X.N[i]? = some x) = true ∧ visB X.env.scope x = true) ∧ plB x = true := by simpa [mE] using h
      have p : PE X (.Name x pos) (tD X.K fa W G call (.var i)) := pe_varD (of_decide_eq_true h'.1.1) (visB_ok h'.1.2) h'.2
      exact ⟨p, pt_of p fun _ => rfl⟩
    | _ => simp [mE] at h
  | .glo x, X, W, e, hC, h => by
    cases e with
    | Name y pos =>
      have h' : (y = (x : Str) ∧ glB X.env.scope y = true) ∧ plB y = true := by simpa [mE] using h
      have p : PE X (.Name y pos) (tD X.K fa W G call (.glo x)) := pe_gloD hC h'.1.1 h'.1.2 h'.2
      exact ⟨p, pt_of p fun _ => rfl⟩
    | _ => simp [mE] at h
  | .bin op a b, X, W, e, hC, h => by
    cases e with
    | BinOp a' op' b' pos =>
      have h' : (op' = opB op ∧ mE X.N fs X.env.scope a a' = true) ∧ mE X.N fs X.env.scope b b' = true := by simpa [mE] using h
      obtain ⟨⟨rfl, h1⟩, h2⟩ := h'
      have p := pe_binD (op := op) (pos := pos) (sndE a hC h1).1 (sndE b hC h2).1
      exact ⟨p, pt_of p fun _ => rfl⟩
    | _ => simp [mE] at h
  | .neg a, X, W, e, hC, h => by
    cases e with
    | UnaryOp op a' pos =>
      cases op with
      | USub =>
        have p := pe_negD (pos := pos) (sndE a hC (by simpa [mE] using h)).1
        exact ⟨p, pt_of p fun _ => rfl⟩
      | _ => simp [mE] at h
    | _ => simp [mE] at h
  | .nt a, X, W, e, hC, h => by
    cases e with
    | UnaryOp op a' pos =>
      cases op with
      | Not =>
        obtain ⟨p, q⟩ := sndE a hC (by simpa [mE] using h)
        exact ⟨pe_ntD p, pt_ntD q⟩
      | _ => simp [mE] at h
    | _ => simp [mE] at h
  | .band l, X, W, e, hC, h => by
    cases e with
    | BoolOp op es pos =>
      cases op with
      | And =>
        obtain ⟨p, q⟩ := sndAnd l (pos := pos) hC (by simpa [mE] using h)
        exact ⟨p, q.pt⟩
      | Or => simp [mE] at h
    | _ => simp [mE] at h
  | .bor l, X, W, e, hC, h => by
    cases e with
    | BoolOp op es pos =>
      cases op with
      | Or =>
        obtain ⟨p, q⟩ := sndOr l (pos := pos) hC (by simpa [mE] using h)
        exact ⟨p, q.pt⟩
      | And => simp [mE] at h
    | _ => simp [mE] at h
  | .ite t a b, X, W, e, hC, h => by
    cases e with
    | IfExp t' a' b' pos =>
      have h' : (mE X.N fs X.env.scope t t' = true ∧ mE X.N fs X.env.scope a a' = true) ∧ mE X.N fs X.env.scope b b' = true := by simpa [mE] using h
      obtain ⟨p1, q1⟩ := sndE t hC h'.1.1
      obtain ⟨p2, q2⟩ := sndE a hC h'.1.2
      obtain ⟨p3, q3⟩ := sndE b hC h'.2
      exact ⟨pe_iteD q1 p2 p3, pt_iteD q1 q2 q3⟩
    | _ => simp [mE] at h
  | .cmp op a b, X, W, e, hC, h => by
    cases e with
    | Compare a' ops bs pos =>
      match ops, bs, h with
      | [op'], [b'], h =>
        have h' : ((op' = opC op ∧ mE X.N fs X.env.scope a a' = true) ∧ mE X.N fs X.env.scope b b' = true) ∧ setB b' = true := by simpa [mE] using h
        obtain ⟨⟨⟨rfl, h1⟩, h2⟩, h3⟩ := h'
        exact pe_cmpD hC (sndE a hC h1).1 (sndE b hC h2).1 h3
      | [], _, h => simp [mE] at h
      | [_], [], h => simp [mE] at h
      | [_], _ :: _ :: _, h => simp [mE] at h
      | _ :: _ :: _, _, h => simp [mE] at h
    | _ => simp [mE] at h
  | .cmp2 o1 o2 a b c, X, W, e, hC, h => by
    cases e with
    | Compare a' ops bs pos =>
      match ops, bs, h with
      | [p1, p2], [b', c'], h =>
        have h' : (((((p1 = opC o1 ∧ p2 = opC o2) ∧ mE X.N fs X.env.scope a a' = true) ∧ mE X.N fs X.env.scope b b' = true) ∧ mE X.N fs X.env.scope c c' = true) ∧ setB b' = true) ∧ setB c' = true := by simpa [mE] using h
        obtain ⟨⟨⟨⟨⟨⟨rfl, rfl⟩, h1⟩, h2⟩, h3⟩, h4⟩, h5⟩ := h'
        exact pe_cmp2D hC (sndE a hC h1).1 (sndE b hC h2).1 (sndE c hC h3).1 h5
      | [], _, h => simp [mE] at h
      | [_], _, h => simp [mE] at h
      | [_, _], [], h => simp [mE] at h
      | [_, _], [_], h => simp [mE] at h
      | [_, _], _ :: _ :: _ :: _, h => simp [mE] at h
      | _ :: _ :: _ :: _, _, h => simp [mE] at h
    | _ => simp [mE] at h
  | .call f l, X, W, e, hC, h => by
    cases e with
    | Call g es kws pos =>
      match g, es, kws, h with
      | .Name x p, e :: es, [], h =>
        have hh : fs.calm = true ∧ (((x = (f : Str) ∧ glB X.env.scope x = true) ∧ plB x = true) ∧ f ∈ fs.f) ∧ mEs X.N fs X.env.scope l (e :: es) = true := by simpa [mE] using h
        have h' := hh.2
        have p := pe_callD (p := p) (pos := pos) hC hh.1 h'.1.2 h'.1.1.1.1 h'.1.1.1.2 h'.1.1.2 (mEs_len h'.2).2 (sndL l hC h'.2)
        exact ⟨p, pt_of p fun _ => rfl⟩
      | .Name x p, [], [], h =>
        cases l with
        | nil =>
          have hh : fs.calm = true ∧ ((x = (f : Str) ∧ glB X.env.scope x = true) ∧ plB x = true) ∧ f ∈ fs.f := by simpa [mE] using h
          have p := pe_call0D (p := p) (pos := pos) hC hh.1 hh.2.2 hh.2.1.1.1 hh.2.1.1.2 hh.2.1.2
          exact ⟨p, pt_of p fun _ => rfl⟩
        | cons _ _ => simp [mE] at h
      | .Name _ _, [], _ :: _, h => simp [mE] at h
      | .Name _ _, _ :: _, _ :: _, h => simp [mE] at h
      | .BoolOp .., _, _, h | .NamedExpr .., _, _, h | .BinOp .., _, _, h | .UnaryOp .., _, _, h | .Lambda .., _, _, h | .IfExp .., _, _, h | .Dict .., _, _, h | .Set .., _, _, h | .ListComp .., _, _, h
      | .SetComp .., _, _, h | .DictComp .., _, _, h | .GeneratorExp .., _, _, h | .Await .., _, _, h | .Yield .., _, _, h | .YieldFrom .., _, _, h | .Compare .., _, _, h | .Call .., _, _, h | .FormattedValue .., _, _, h
      | .JoinedStr .., _, _, h | .Constant .., _, _, h | .Attribute .., _, _, h | .Subscript .., _, _, h | .Starred .., _, _, h | .List .., _, _, h | .Tuple .., _, _, h | .Slice .., _, _, h => simp [mE] at h
    | _ => simp [mE] at h
  | .frz a, X, W, e, hC, h => by
    have p := pe_frzD (sndE a hC (by simpa [mE] using h)).1
    refine ⟨p, ?_⟩
    exact pt_frz (sndE a hC (by simpa [mE] using h)).2
  | .callv i l, X, W, e, hC, h => by
    cases e with
    | Call g es kws pos =>
      match g, es, kws, h with
      | .Name x p, e :: es, [], h =>
        have hh : fs.calm = true ∧ ((X.N[i]? = some x ∧ visB X.env.scope x = true) ∧ plB x = true) ∧ mEs X.N fs X.env.scope l (e :: es) = true := by simpa [mE] using h
        have p := pe_callvD (p := p) (pos := pos) hC hh.1 hh.2.1.1.1 (visB_ok hh.2.1.1.2) hh.2.1.2 (mEs_len hh.2.2).2 (sndL l hC hh.2.2)
        exact ⟨p, pt_of p fun _ => rfl⟩
      | .Name _ _, [], _, h => simp [mE] at h
      | .Name _ _, _ :: _, _ :: _, h => simp [mE] at h
      | .BoolOp .., _, _, h | .NamedExpr .., _, _, h | .BinOp .., _, _, h | .UnaryOp .., _, _, h | .Lambda .., _, _, h | .IfExp .., _, _, h | .Dict .., _, _, h | .Set .., _, _, h | .ListComp .., _, _, h
      | .SetComp .., _, _, h | .DictComp .., _, _, h | .GeneratorExp .., _, _, h | .Await .., _, _, h | .Yield .., _, _, h | .YieldFrom .., _, _, h | .Compare .., _, _, h | .Call .., _, _, h | .FormattedValue .., _, _, h
      | .JoinedStr .., _, _, h | .Constant .., _, _, h | .Attribute .., _, _, h | .Subscript .., _, _, h | .Starred .., _, _, h | .List .., _, _, h | .Tuple .., _, _, h | .Slice .., _, _, h => simp [mE] at h
    | _ => simp [mE] at h
  | .xf i n, X, W, e, hC, h => by
    cases e with
    | Attribute o y pos =>
      cases o with
      | Name x p =>
        have hh : (((X.N[i]? = some x ∧ visB X.env.scope x = true) ∧ plB x = true) ∧ n ∈ ["at", "why"]) ∧ y = (n : Str) := by
          unfold mE at h
          simpa only [Bool.and_eq_true, decide_eq_true_eq] using h
        have p := pe_xfD (p := p) (pos := pos) hC hh.1.1.1.1 (visB_ok hh.1.1.1.2) hh.1.1.2 hh.1.2 hh.2
        exact ⟨p, pt_of p fun _ => rfl⟩
      | _ => simp [mE] at h
    | _ => simp [mE] at h
  | .isx i c b, X, W, e, hC, h => by
    cases e with
    | Call g es kws pos =>
      cases g with
      | Name z hp0 =>
        match es, kws, h with
        | [a', b'], [], h =>
          cases a' with
          | Name x p =>
            cases b' with
            | Name y q =>
              have hh : (((((((X.N[i]? = some x ∧ visB X.env.scope x = true) ∧ plB x = true) ∧ z = ("isinstance" : Str)) ∧ glB X.env.scope z = true) ∧ y = (b : Str)) ∧ glB X.env.scope y = true) ∧ plB y = true) ∧ (c, b) ∈ fs.s := by
                unfold mE at h
                simpa only [Bool.and_eq_true, decide_eq_true_eq] using h
              have p := pe_isxD (p := p) (q := q) (pos := pos) hC hh.1.1.1.1.1.1.1.1 (visB_ok hh.1.1.1.1.1.1.1.2) hh.1.1.1.1.1.1.2 hh.1.1.1.1.1.2 hh.1.1.1.1.2 hh.1.1.1.2 hh.1.1.2 hh.1.2 hh.2 hp0
              exact ⟨p, pt_of p fun _ => rfl⟩
            | _ => simp [mE] at h
          | _ => simp [mE] at h
        | [], _, h => simp [mE] at h
        | [_], _, h => simp [mE] at h
        | [_, _], _ :: _, h => simp [mE] at h
        | _ :: _ :: _ :: _, _, h => simp [mE] at h
      | _ => simp [mE] at h
    | _ => simp [mE] at h
  | .blt f l, X, W, e, hC, h => by
    cases e with
    | Call g es kws pos =>
      match g, es, kws, h with
      | .Name x p, e :: es, [], h =>
        have hh : (fs.calm = true ∨ bltC f = true) ∧ (x = (bltN f : Str) ∧ glB X.env.scope x = true) ∧ mEs X.N fs X.env.scope l (e :: es) = true := by simpa [mE] using h
        have h' := hh.2
        have p := pe_bltD (p := p) (pos := pos) hC hh.1 h'.1.1 h'.1.2 (mEs_len h'.2).2 (sndL l hC h'.2)
        exact ⟨p, pt_of p fun _ => rfl⟩
      | .Name _ _, [], _, h => simp [mE] at h
      | .Name _ _, _ :: _, _ :: _, h => simp [mE] at h
      | .BoolOp .., _, _, h | .NamedExpr .., _, _, h | .BinOp .., _, _, h | .UnaryOp .., _, _, h | .Lambda .., _, _, h | .IfExp .., _, _, h | .Dict .., _, _, h | .Set .., _, _, h | .ListComp .., _, _, h
      | .SetComp .., _, _, h | .DictComp .., _, _, h | .GeneratorExp .., _, _, h | .Await .., _, _, h | .Yield .., _, _, h | .YieldFrom .., _, _, h | .Compare .., _, _, h | .Call .., _, _, h | .FormattedValue .., _, _, h
      | .JoinedStr .., _, _, h | .Constant .., _, _, h | .Attribute .., _, _, h | .Subscript .., _, _, h | .Starred .., _, _, h | .List .., _, _, h | .Tuple .., _, _, h | .Slice .., _, _, h => simp [mE] at h
    | _ => simp [mE] at h
  | .isi a c, X, W, e, hC, h => by
    cases e with
    | Call g es kws pos =>
      cases g with
      | Name x p =>
        match es, kws, h with
        | [a', b'], [], h =>
          cases b' with
          | Name y q =>
            have h' : ((((x = ("isinstance" : Str) ∧ glB X.env.scope x = true) ∧ y = (clsN c : Str)) ∧ glB X.env.scope y = true) ∧ mE X.N fs X.env.scope a a' = true) ∧ starB a' = true := by simpa [mE] using h
            have p := pe_isiD (p := p) (q := q) (pos := pos) hC h'.1.1.1.1.1 h'.1.1.1.1.2 h'.1.1.1.2 h'.1.1.2 h'.2 (sndE a hC h'.1.2).1
            exact ⟨p, pt_of p fun _ => rfl⟩
          | _ => simp [mE] at h
        | [], _, h => simp [mE] at h
        | [_], _, h => simp [mE] at h
        | [_, _], _ :: _, h => simp [mE] at h
        | _ :: _ :: _ :: _, _, h => simp [mE] at h
      | _ => simp [mE] at h
    | _ => simp [mE] at h
  | .meth m o l, X, W, e, hC, h => by
    cases m with
    | append =>
      cases e with
      | Call g es kws q =>
        cases g with
        | Attribute o' m p =>
          match es, kws, h with
          | [e], [], h =>
            have h' : (((m = ("append" : Str) ∧ recvB o' = true) ∧ p.endLine = q.line) ∧ mE X.N fs X.env.scope o o' = true) ∧ mEs X.N fs X.env.scope l [e] = true := by simpa [mE] using h
            have hl := mEs_len h'.2
            have p := pe_appendD (p := p) (q := q) h'.1.1.1.1 h'.1.1.1.2 (by simpa using h'.1.1.2) (by simpa using hl.2) (sndE o hC h'.1.2).1 (sndL l hC h'.2) hl.1
            exact ⟨p, pt_of p fun _ => rfl⟩
          | [], _, h => simp [mE] at h
          | [_], _ :: _, h => simp [mE] at h
          | _ :: _ :: _, _, h => simp [mE] at h
        | _ => simp [mE] at h
      | _ => simp [mE] at h
    | join =>
      cases e with
      | Call g es kws q =>
        cases g with
        | Attribute o' m p =>
          match l, es, kws, h with
          | .cons c .nil, [e], [], h =>
            have h' : (((m = ("join" : Str) ∧ recvT o' = true) ∧ p.endLine = q.line) ∧ mE X.N fs X.env.scope o o' = true) ∧ mE X.N fs X.env.scope c e = true ∧ starB e = true := by simpa [mE, mEs] using h
            have p := pe_joinD (p := p) (q := q) h'.1.1.1.1 h'.1.1.1.2 (by simpa using h'.1.1.2) h'.2.2 (sndE o hC h'.1.2).1 (sndE c hC h'.2.1).1
            exact ⟨p, pt_of p fun _ => rfl⟩
          | .nil, [_], [], h => simp [mE, mEs] at h
          | .cons _ (.cons _ _), [_], [], h => simp [mE, mEs] at h
          | _, [], _, h => simp [mE] at h
          | _, [_], _ :: _, h => simp [mE] at h
          | _, _ :: _ :: _, _, h => simp [mE] at h
        | _ => simp [mE] at h
      | _ => simp [mE] at h
    | index =>
      cases e with
      | Call g es kws q =>
        cases g with
        | Attribute o' m p =>
          match l, es, kws, h with
          | .cons c .nil, [e], [], h =>
            have h' : (((m = ("index" : Str) ∧ recvT o' = true) ∧ p.endLine = q.line) ∧ mE X.N fs X.env.scope o o' = true) ∧ mE X.N fs X.env.scope c e = true ∧ starB e = true := by simpa [mE, mEs] using h
            have p := pe_indexD (p := p) (q := q) h'.1.1.1.1 h'.1.1.1.2 (by simpa using h'.1.1.2) h'.2.2 (sndE o hC h'.1.2).1 (sndE c hC h'.2.1).1
            exact ⟨p, pt_of p fun _ => rfl⟩
          | .nil, [_], [], h => simp [mE, mEs] at h
          | .cons _ (.cons _ _), [_], [], h => simp [mE, mEs] at h
          | _, [], _, h => simp [mE] at h
          | _, [_], _ :: _, h => simp [mE] at h
          | _, _ :: _ :: _, _, h => simp [mE] at h
        | _ => simp [mE] at h
      | _ => simp [mE] at h
  | .tup l, X, W, e, hC, h => by
    cases e with
    | Tuple es j pos =>
      have h' : mEs X.N fs X.env.scope l es = true ∧ l.len ≤ 1000 := by simpa [mE] using h
      have p := pe_tupD (j := j) (pos := pos) h'.2 (sndL l hC h'.1)
      exact ⟨p, pt_of p fun _ => rfl⟩
    | _ => simp [mE] at h
  | .lst l, X, W, e, hC, h => by
    cases e with
    | List es pos =>
      have h' : mEs X.N fs X.env.scope l es = true ∧ l.len ≤ 1000 := by simpa [mE] using h
      have p := pe_lstD (pos := pos) h'.2 (sndL l hC h'.1)
      exact ⟨p, pt_of p fun _ => rfl⟩
    | _ => simp [mE] at h
  | .ix a i, X, W, e, hC, h => by
    cases e with
    | Subscript a' i' pos =>
      have h' : (mE X.N fs X.env.scope a a' = true ∧ mE X.N fs X.env.scope i i' = true) ∧ plainIxB i' = true := by simpa [mE] using h
      have p := pe_ixD (pos := pos) h'.2 (sndE a hC h'.1.1).1 (sndE i hC h'.1.2).1
      exact ⟨p, pt_of p fun _ => rfl⟩
    | _ => simp [mE] at h
  | .lc e tg own it ifs, X, W, e', hC, h => by
    cases e' with
    | ListComp elt gens scope pos =>
      match gens, h with
      | [⟨tg', it', ifs', ia⟩], h =>
        have hia := mE_lcA h
        subst hia
        have hh : fs.calm = true ∧ (((((((blkC X.N X.env.scope scope (own.map fun p => ((p.1 : Str), p.2)) = true ∧ mE X.N fs (relS scope X.env.scope) e elt = true) ∧ mTg X.N scope tg tg' = true) ∧
            (∀ i ∈ tg.slots, i ∈ own.map (·.2))) ∧ setB it' = true) ∧ mI X.N fs X.env.scope it it' = true) ∧ enOk it tg = true) ∧ mEs X.N fs (relS scope X.env.scope) ifs ifs' = true) ∧ ifs'.length ≤ 1 := by
          have h0 : (fs.calm && (blkC X.N X.env.scope scope (own.map fun p => ((p.1 : Str), p.2)) && mE X.N fs (relS scope X.env.scope) e elt && mTg X.N scope tg tg' &&
            (tg.slots.all fun i => (own.map (·.2)).contains i) && setB it' && mI X.N fs X.env.scope it it' && enOk it tg && mEs X.N fs (relS scope X.env.scope) ifs ifs' && decide (ifs'.length ≤ 1))) = true := by rw [← mE_lc pos]; exact h
          simp only [Bool.and_eq_true, List.all_eq_true, List.contains_iff_mem, decide_eq_true_eq] at h0
          exact h0
        obtain ⟨hcal, ⟨⟨⟨⟨⟨⟨⟨h1, h2⟩, h3⟩, h4⟩, h5⟩, h6⟩, hen⟩, h7⟩, h8⟩ := hh
        have pi : PI X tg' it' (tI G call X.K fa W it) := by
          cases it with
          | rng1 a =>
            cases it' with
            | Call g es kws pos =>
              cases g with
              | Name x p =>
                match es, kws, h6 with
                | [a'], [], h6 =>
                  have h6' : ((x = ("range" : Str) ∧ glB X.env.scope x = true) ∧ mE X.N fs X.env.scope a a' = true) ∧ starB a' = true := by simpa [mI, mR, mE] using h6
                  exact pi_rng1D hC h6'.1.1.1 h6'.1.1.2 h6'.2 (sndE a hC h6'.1.2).1
                | [], _, h6 => simp [mI, mR, mE] at h6
                | [_], _ :: _, h6 => simp [mI, mR, mE] at h6
                | _ :: _ :: _, _, h6 => simp [mI, mR, mE] at h6
              | _ => simp [mI, mR, mE] at h6
            | _ => simp [mI, mR, mE] at h6
          | rng2 a b =>
            cases it' with
            | Call g es kws pos =>
              cases g with
              | Name x p =>
                match es, kws, h6 with
                | [a', b'], [], h6 =>
                  have h6' : ((((x = ("range" : Str) ∧ glB X.env.scope x = true) ∧ mE X.N fs X.env.scope a a' = true) ∧ mE X.N fs X.env.scope b b' = true) ∧ starB a' = true) ∧ starB b' = true := by simpa [mI, mR, mE] using h6
                  exact pi_rng2D hC h6'.1.1.1.1.1 h6'.1.1.1.1.2 h6'.1.2 h6'.2 (sndE a hC h6'.1.1.1.2).1 (sndE b hC h6'.1.1.2).1
                | [], _, h6 => simp [mI, mR, mE] at h6
                | [_], _, h6 => simp [mI, mR, mE] at h6
                | [_, _], _ :: _, h6 => simp [mI, mR, mE] at h6
                | _ :: _ :: _ :: _, _, h6 => simp [mI, mR, mE] at h6
              | _ => simp [mI, mR, mE] at h6
            | _ => simp [mI, mR, mE] at h6
          | enum a =>
            have hr : mR X.N fs X.env.scope (.enum a) it' = true := by
              unfold mI at h6
              rw [Bool.or_eq_true] at h6
              rcases h6 with h6 | h6
              · exact h6
              · cases it' <;> simp [mE] at h6
            obtain ⟨x, p, a', pos, rfl, hx, hg, ha, s1⟩ := mR_enum hr
            obtain ⟨es, kk, tp, rfl⟩ := enOk_tup hen h3
            exact pi_enumD hC hx hg s1 (sndE a hC ha).1
          | zip a b =>
            have hr : mR X.N fs X.env.scope (.zip a b) it' = true := by
              unfold mI at h6
              rw [Bool.or_eq_true] at h6
              rcases h6 with h6 | h6
              · exact h6
              · cases it' <;> simp [mE] at h6
            obtain ⟨x, p, a', b', pos, rfl, hx, hg, ha, hb, s1, s2⟩ := mR_zip hr
            obtain ⟨es, kk, tp, rfl⟩ := enOk_tupZ hen h3
            exact pi_zipD hC hx hg s1 s2 (sndE a hC ha).1 (sndE b hC hb).1
          | rngs a b c =>
            have hr : mR X.N fs X.env.scope (.rngs a b c) it' = true := by
              unfold mI at h6
              rw [Bool.or_eq_true] at h6
              rcases h6 with h6 | h6
              · exact h6
              · cases it' <;> simp [mE] at h6
            obtain ⟨x, p, a', b', c', pos, rfl, hx, hg, ha, hb, hc, s1, s2, s3⟩ := mR_rngs hr
            exact pi_rngsD hC hx hg s1 s2 s3 (sndE a hC ha).1 (sndE b hC hb).1 (sndE c hC hc).1
          | rngd a b =>
            have hr : mR X.N fs X.env.scope (.rngd a b) it' = true := by
              unfold mI at h6
              rw [Bool.or_eq_true] at h6
              rcases h6 with h6 | h6
              · exact h6
              · cases it' <;> simp [mE] at h6
            obtain ⟨x, p, a', b', kk, q1, q2, pos, rfl, hx, hg, ha, hb, s1, s2⟩ := mR_rngd hr
            exact pi_rngdD hC hx hg s1 s2 (sndE a hC ha).1 (sndE b hC hb).1
          | rev a => exact pi_any (sndE (.rev a) hC (by simpa [mI, mR] using h6)).1
          | sl1 a b => exact pi_any (sndE (.sl1 a b) hC (by simpa [mI, mR] using h6)).1
          | sl2 a b => exact pi_any (sndE (.sl2 a b) hC (by simpa [mI, mR] using h6)).1
          | sl3 a b c => exact pi_any (sndE (.sl3 a b c) hC (by simpa [mI, mR] using h6)).1
          | lit d => exact pi_any (sndE (.lit d) hC (by simpa [mI, mR] using h6)).1
          | var d => exact pi_any (sndE (.var d) hC (by simpa [mI, mR] using h6)).1
          | glo d => exact pi_any (sndE (.glo d) hC (by simpa [mI, mR] using h6)).1
          | bin op a b => exact pi_any (sndE (.bin op a b) hC (by simpa [mI, mR] using h6)).1
          | neg a => exact pi_any (sndE (.neg a) hC (by simpa [mI, mR] using h6)).1
          | nt a => exact pi_any (sndE (.nt a) hC (by simpa [mI, mR] using h6)).1
          | band a => exact pi_any (sndE (.band a) hC (by simpa [mI, mR] using h6)).1
          | bor a => exact pi_any (sndE (.bor a) hC (by simpa [mI, mR] using h6)).1
          | ite a b c => exact pi_any (sndE (.ite a b c) hC (by simpa [mI, mR] using h6)).1
          | cmp a b c => exact pi_any (sndE (.cmp a b c) hC (by simpa [mI, mR] using h6)).1
          | cmp2 a b c d e => exact pi_any (sndE (.cmp2 a b c d e) hC (by simpa [mI, mR] using h6)).1
          | call a b => exact pi_any (sndE (.call a b) hC (by simpa [mI, mR] using h6)).1
          | callv a b => exact pi_any (sndE (.callv a b) hC (by simpa [mI, mR] using h6)).1
          | blt a b => exact pi_any (sndE (.blt a b) hC (by simpa [mI, mR] using h6)).1
          | isi a b => exact pi_any (sndE (.isi a b) hC (by simpa [mI, mR] using h6)).1
          | meth a b c => exact pi_any (sndE (.meth a b c) hC (by simpa [mI, mR] using h6)).1
          | tup a => exact pi_any (sndE (.tup a) hC (by simpa [mI, mR] using h6)).1
          | lst a => exact pi_any (sndE (.lst a) hC (by simpa [mI, mR] using h6)).1
          | ix a b => exact pi_any (sndE (.ix a b) hC (by simpa [mI, mR] using h6)).1
          | lc a b c d e => exact pi_any (sndE (.lc a b c d e) hC (by simpa [mI, mR] using h6)).1
          | lrng a b => exact pi_any (sndE (.lrng a b) hC (by simpa [mI, mR] using h6)).1
          | frz a => exact pi_any (sndE (.frz a) hC (by simpa [mI, mR] using h6)).1
          | xf a b => exact pi_any (sndE (.xf a b) hC (by simpa [mI, mR] using h6)).1
          | isx a b c => exact pi_any (sndE (.isx a b c) hC (by simpa [mI, mR] using h6)).1
          | u0 a => exact pi_any (sndE (.u0 a) hC (by simpa [mI, mR] using h6)).1
          | u1 a b => exact pi_any (sndE (.u1 a b) hC (by simpa [mI, mR] using h6)).1
          | u2 a b c => exact pi_any (sndE (.u2 a b c) hC (by simpa [mI, mR] using h6)).1
          | u3 a b c d => exact pi_any (sndE (.u3 a b c d) hC (by simpa [mI, mR] using h6)).1
        have p : PE X (.ListComp elt [⟨tg', it', ifs', 0⟩] scope pos) (tD X.K fa W G call (.lc e tg own it ifs)) := by
          have hv : (own.map fun p => ((p.1 : Str), p.2)).map (·.2) = own.map (·.2) := by rw [List.map_map]; rfl
          have pl := pe_lc (pos := pos) (own := own.map fun p => ((p.1 : Str), p.2)) (g := tG X.K fa tg) (tt := tIfs X.K fa (fun _ _ _ _ => False) G call ifs) (te := tD X.K fa (fun _ _ _ _ => False) G call e) (hC.calm hcal) hC.nd pi (blkOk_by h1)
            (fun s H C cl fp => pg_ok (X := X.blk s H scope (compEnvC scope cl C X.env) fp) (fa := fa) hC.nd (hC.calm hcal) (sc := scope) blk_kind tg tg' h3)
            (fun s H C cl fp => sndIfs ifs (X := X.blk s H scope (compEnvC scope cl C X.env) fp) (hC.blk hcal ..) h7 h8)
            (fun s H C cl fp => (sndE e (X := X.blk s H scope (compEnvC scope cl C X.env) fp) (hC.blk hcal ..) h2).1) (set_fold h5)
          rw [hv] at pl
          exact PE.imp pl fun σ H Q q => lc_ok (tt := fun _ _ _ => True) (te := fun _ _ _ => True) h4 q
        exact ⟨p, pt_of p fun _ => rfl⟩
      | [], h => simp [mE] at h
      | _ :: _ :: _, h => simp [mE] at h
    | _ => simp [mE] at h
  | .sl1 a i, X, W, e, hC, h => by
    cases e with
    | Subscript a' s pos =>
      cases s with
      | Slice lo hi st p2 =>
        match lo, hi, st, h with
        | some i', none, none, h =>
          have h' : mE X.N fs X.env.scope a a' = true ∧ mE X.N fs X.env.scope i i' = true := by simpa [mE] using h
          have p := pe_sl1D (p2 := p2) (pos := pos) (sndE a hC h'.1).1 (sndE i hC h'.2).1
          exact ⟨p, pt_of p fun _ => rfl⟩
        | none, _, _, h => simp [mE] at h
        | some _, some _, _, h => simp [mE] at h
        | some _, none, some _, h => simp [mE] at h
      | _ => simp [mE] at h
    | _ => simp [mE] at h
  | .rev a, X, W, e, hC, h => by
    obtain ⟨a', kk, q1, q2, q3, pos, rfl, h'⟩ := mE_rev h
    have p := pe_revD (kk := kk) (q1 := q1) (q2 := q2) (q3 := q3) (pos := pos) (sndE a hC h').1
    exact ⟨p, pt_of p fun _ => rfl⟩
  | .sl2 a i, X, W, e, hC, h => by
    cases e with
    | Subscript a' s pos =>
      cases s with
      | Slice lo hi st p2 =>
        match lo, hi, st, h with
        | none, some i', none, h =>
          have h' : mE X.N fs X.env.scope a a' = true ∧ mE X.N fs X.env.scope i i' = true := by simpa [mE] using h
          have p := pe_sl2D (p2 := p2) (pos := pos) (sndE a hC h'.1).1 (sndE i hC h'.2).1
          exact ⟨p, pt_of p fun _ => rfl⟩
        | some _, _, _, h => simp [mE] at h
        | none, none, _, h => simp [mE] at h
        | none, some _, some _, h => simp [mE] at h
      | _ => simp [mE] at h
    | _ => simp [mE] at h
  | .sl3 a i j, X, W, e, hC, h => by
    cases e with
    | Subscript a' s pos =>
      cases s with
      | Slice lo hi st p2 =>
        match lo, hi, st, h with
        | some i', some j', none, h =>
          have h' : (mE X.N fs X.env.scope a a' = true ∧ mE X.N fs X.env.scope i i' = true) ∧ mE X.N fs X.env.scope j j' = true := by simpa [mE] using h
          have p := pe_sl3D (p2 := p2) (pos := pos) (sndE a hC h'.1.1).1 (sndE i hC h'.1.2).1 (sndE j hC h'.2).1
          exact ⟨p, pt_of p fun _ => rfl⟩
        | none, _, _, h => simp [mE] at h
        | some _, none, _, h => simp [mE] at h
        | some _, some _, some _, h => simp [mE] at h
      | _ => simp [mE] at h
    | _ => simp [mE] at h
  | .rngd a b, X, W, e, hC, h => by cases e <;> simp [mE] at h
  | .enum a, X, W, e, hC, h => by cases e <;> simp [mE] at h
  | .zip a b, X, W, e, hC, h => by cases e <;> simp [mE] at h
  | .rngs a b c, X, W, e, hC, h => by cases e <;> simp [mE] at h
  | .rng1 a, X, W, e, hC, h => by cases e <;> simp [mE] at h
  | .rng2 a b, X, W, e, hC, h => by cases e <;> simp [mE] at h
  | .lrng t a, X, W, e, hC, h => by
    cases e with
    | Call g es kws pos =>
      cases g with
      | Name x p =>
        match es, kws, h with
        | [e1], [], h =>
          cases e1 with
          | Call g2 es2 kws2 pos2 =>
            cases g2 with
            | Name y q =>
              match es2, kws2, h with
              | [a'], [], h =>
                have hh : fs.calm = true ∧ ((((x = ((if t then "tuple" else "list" : String) : Str) ∧ glB X.env.scope x = true) ∧ y = ("range" : Str)) ∧ glB X.env.scope y = true) ∧ mE X.N fs X.env.scope a a' = true) ∧ starB a' = true := by
                  unfold mE at h
                  simpa only [Bool.and_eq_true, decide_eq_true_eq] using h
                have h' := hh.2
                have p := pe_lrngD (p := p) (q := q) (p2 := pos2) (pos := pos) hC hh.1 h'.1.1.1.1.1 h'.1.1.1.1.2 h'.1.1.1.2 h'.1.1.2 h'.2 (sndE a hC h'.1.2).1
                exact ⟨p, pt_of p fun _ => rfl⟩
              | [], _, h => simp [mE] at h
              | [_], _ :: _, h => simp [mE] at h
              | _ :: _ :: _, _, h => simp [mE] at h
            | _ => simp [mE] at h
          | _ => simp [mE] at h
        | [], _, h => simp [mE] at h
        | [_], _ :: _, h => simp [mE] at h
        | _ :: _ :: _, _, h => simp [mE] at h
      | _ => simp [mE] at h
    | _ => simp [mE] at h
  | .u0 o, X, W, e, hC, h => u0_snd (k := k) hC (by simpa [mE] using h)
  | .u1 o a, X, W, e, hC, h => by
    obtain ⟨hcal, a', h1, h2⟩ := mE_u1 h
    exact u1_snd hC hcal h1 (sndE a hC h2).1
  | .u2 o a b, X, W, e, hC, h => by
    obtain ⟨hcal, a', b', h1, h2, h3⟩ := mE_u2 h
    exact u2_snd hC hcal h1 (sndE a hC h2).1 (sndE b hC h3).1
  | .u3 o a b c, X, W, e, hC, h => by
    obtain ⟨a', b', c', h1, h2, h3, h4⟩ := mE_u3 h
    exact u3_snd hC h1 (sndE a hC h2).1 (sndE b hC h3).1 (sndE c hC h4).1
theorem sndL : ∀ (l : Cs) {X : Cx} {W : WX} {es : List Expr}, Cn X G call k fa fs W → mEs X.N fs X.env.scope l es = true → PA X es (tL X.K fa W G call l)
  | .nil, X, W, [], hC, h => pa_nilD
  | .nil, X, W, _ :: _, hC, h => by simp [mEs] at h
  | .cons c r, X, W, [], hC, h => by simp [mEs] at h
  | .cons c r, X, W, e :: es, hC, h => by
    have h' : (mE X.N fs X.env.scope c e = true ∧ starB e = true) ∧ mEs X.N fs X.env.scope r es = true := by simpa [mEs] using h
    exact pa_consD h'.1.2 (sndE c hC h'.1.1).1 (sndL r hC h'.2)
theorem sndAnd : ∀ (l : Cs) {X : Cx} {W : WX} {es : List Expr} {pos : Pos}, Cn X G call k fa fs W → mEs X.N fs X.env.scope l es = true → PE X (.BoolOp .And es pos) (tAn X.K fa W G call l) ∧ PW X (.BoolOp .And es pos) (tAnB X.K fa W G call l)
  | .nil, X, W, es, pos, hC, h => ⟨⟨fun _ _ _ _ _ _ q => by obtain ⟨A, ρ, μ, m, re, p⟩ := q; exact p.elim⟩, ⟨fun _ _ _ _ _ _ _ q => by obtain ⟨A, ρ, μ, m, re, p⟩ := q; exact p.elim⟩⟩
  | .cons c r, X, W, [], pos, hC, h => by simp [mEs] at h
  | .cons c r, X, W, e :: es, pos, hC, h => by
    have h' : (mE X.N fs X.env.scope c e = true ∧ starB e = true) ∧ mEs X.N fs X.env.scope r es = true := by simpa [mEs] using h
    obtain ⟨p, q⟩ := sndE c hC h'.1.1
    have ih := sndAnd r (pos := pos) hC h'.2
    match r, es, h'.2, ih with
    | .nil, [], _, _ => exact pe_andOne p q
    | .nil, _ :: _, h2, _ => simp [mEs] at h2
    | .cons _ _, [], h2, _ => simp [mEs] at h2
    | .cons c2 r2, e2 :: es2, h2, ih => exact pe_andMore p q ih.1 ih.2
theorem sndOr : ∀ (l : Cs) {X : Cx} {W : WX} {es : List Expr} {pos : Pos}, Cn X G call k fa fs W → mEs X.N fs X.env.scope l es = true → PE X (.BoolOp .Or es pos) (tOr' X.K fa W G call l) ∧ PW X (.BoolOp .Or es pos) (tOrB X.K fa W G call l)
  | .nil, X, W, es, pos, hC, h => ⟨⟨fun _ _ _ _ _ _ q => by obtain ⟨A, ρ, μ, m, re, p⟩ := q; exact p.elim⟩, ⟨fun _ _ _ _ _ _ _ q => by obtain ⟨A, ρ, μ, m, re, p⟩ := q; exact p.elim⟩⟩
  | .cons c r, X, W, [], pos, hC, h => by simp [mEs] at h
  | .cons c r, X, W, e :: es, pos, hC, h => by
    have h' : (mE X.N fs X.env.scope c e = true ∧ starB e = true) ∧ mEs X.N fs X.env.scope r es = true := by simpa [mEs] using h
    obtain ⟨p, q⟩ := sndE c hC h'.1.1
    have ih := sndOr r (pos := pos) hC h'.2
    match r, es, h'.2, ih with
    | .nil, [], _, _ => exact pe_orOne p q
    | .nil, _ :: _, h2, _ => simp [mEs] at h2
    | .cons _ _, [], h2, _ => simp [mEs] at h2
    | .cons c2 r2, e2 :: es2, h2, ih => exact pe_orMore p q ih.1 ih.2
theorem sndIfs : ∀ (l : Cs) {X : Cx} {W : WX} {es : List Expr}, Cn X G call k fa fs W → mEs X.N fs X.env.scope l es = true → es.length ≤ 1 → PTs X es (tIfs X.K fa W G call l)
  | .nil, X, W, [], hC, h, _ => ⟨fun pins s σ H Q I q => (pts_nil (X := X)).run pins s σ H Q I (by obtain ⟨A, ρ, μ, m, re, p⟩ := q; exact p.done .refl m)⟩
  | .nil, X, W, _ :: _, hC, h, _ => by simp [mEs] at h
  | .cons c r, X, W, [], hC, h, _ => by simp [mEs] at h
  | .cons c r, X, W, [e], hC, h, _ => by
    have h' : (mE X.N fs X.env.scope c e = true ∧ starB e = true) ∧ mEs X.N fs X.env.scope r [] = true := by simpa [mEs] using h
    obtain ⟨p, q⟩ := sndE c hC h'.1.1
    match r, h'.2 with
    | .nil, _ =>
      refine ⟨fun pins s σ H Q I q' => (pts_one q).run pins s σ H Q I ?_⟩
      obtain ⟨A, ρ, μ, m, re, p⟩ := q'
      refine ⟨A, ρ, μ, m, re, ?_⟩
      simp only [evIfs] at p
      cases hr : ev G call c ρ μ with
      | no => rw [hr] at p; exact p
      | ex e μ' => rw [hr] at p; exact p
      | ok d μ1 =>
        rw [hr] at p
        simp only [Rs.bnd_ok] at p ⊢
        cases e1 : truth μ1 d with
        | none => rw [e1] at p; exact p
        | some b => rw [e1] at p; cases b <;> exact p
    | .cons _ _, h2 => simp [mEs] at h2
  | .cons c r, X, W, _ :: _ :: _, hC, h, hl => by simp at hl
end
end
end Mp
end SSnd12
section SSnd13
/-! Snd13: the reading of a statement; one statement each. -/
namespace Mp
open PySem PySem.Spec PyProof.Rows L2

def PstS (K : PySem.W.Frag) (fa : FA) (W : WX) (A : List Addr) (H : Hp) (o : Ou) (Q : Ends) : Prop := match o with
  | .nx ρ' μ' => ∀ σ' H' A', Stp A H A' H' → RelM K fa H' A' μ' → RelE K fa H' A' ρ' σ' → Q.nx σ' H'
  | .br ρ' μ' => ∀ σ' H' A', Stp A H A' H' → RelM K fa H' A' μ' → RelE K fa H' A' ρ' σ' → Q.bk σ' H'
  | .ct ρ' μ' => ∀ σ' H' A', Stp A H A' H' → RelM K fa H' A' μ' → RelE K fa H' A' ρ' σ' → Q.ct σ' H'
  | .rt d μ' => ∀ v H' A' F, Good K fa A H μ' d v H' A' F → Q.rt v H'
  | .ex e ρ' μ' => ∀ cls dd σ' H' A', Stp A H A' H' → RelM K fa H' A' μ' → RelE K fa H' A' ρ' σ' → RepX K fa H' A' e cls dd → W cls dd σ' H'
  | .no => False
def tS (K : PySem.W.Frag) (fa : FA) (W : WX) (G : String → Option D) (call : String → List D → Store → Rs D) (s : S) : TS := fun Q σ H => ∃ A ρ μ, RelM K fa H A μ ∧ RelE K fa H A ρ σ ∧ PstS K fa W A H (exec G call s ρ μ) Q
def tSs (K : PySem.W.Frag) (fa : FA) (W : WX) (G : String → Option D) (call : String → List D → Store → Rs D) (s : Ss) : TS := fun Q σ H => ∃ A ρ μ, RelM K fa H A μ ∧ RelE K fa H A ρ σ ∧ PstS K fa W A H (execs G call s ρ μ) Q
theorem PS.imp {X : Cx} {st : Stmt} {t t' : TS} (h : PS X st t) (m : ∀ Q σ H, t' Q σ H → t Q σ H) : PS X st t' := ⟨fun pins s σ H D I q => h.run pins s σ H D I (m D σ H q)⟩
theorem PSs.imp {X : Cx} {st : List Stmt} {t t' : TS} (h : PSs X st t) (m : ∀ Q σ H, t' Q σ H → t Q σ H) : PSs X st t' := ⟨fun pins s σ H D I q => h.run pins s σ H D I (m D σ H q)⟩

section
variable {K : PySem.W.Frag} {fa : FA} {W : WX} {A A0 A1 A2 : List Addr} {H H0 H1 H2 : Hp} {σ : L2.St}
/-- from a later place on -/
theorem PstS.from {o : Ou} {Q : Ends} (s : Stp A0 H0 A H) (h : PstS K fa W A0 H0 o Q) : PstS K fa W A H o Q := by
  cases o with
  | nx ρ μ => exact fun σ' H' A' s' => h σ' H' A' (s.trans s')
  | br ρ μ => exact fun σ' H' A' s' => h σ' H' A' (s.trans s')
  | ct ρ μ => exact fun σ' H' A' s' => h σ' H' A' (s.trans s')
  | rt d μ => exact fun v H' A' F g => h v H' A' F (g.pre s)
  | ex e ρ μ => exact fun cls dd σ' H' A' s' => h cls dd σ' H' A' (s.trans s')
  | no => exact h
theorem PstS.ou {r : Rs D} {ρ : Env} {f : D → Store → Ou} {Q : Ends} (s : Stp A0 H0 A H) (re : RelE K fa H A ρ σ) (h : PstS K fa W A0 H0 (r.ou ρ f) Q) :
    Pst K fa W A H σ r fun v H1 => ∃ A1 d μ F, Good K fa A H μ d v H1 A1 F ∧ PstS K fa W A0 H0 (f d μ) Q := by
  cases r with
  | ok d μ => intro v H' A' F g; exact ⟨A', d, μ, F, g, h⟩
  | ex e μ => intro cls dd H' A' s' r x; exact h cls dd σ H' A' (s.trans s') r (re.step s') x
  | no => exact h
theorem PstS.seq {o : Ou} {f : Env → Store → Ou} {Q : Ends} (s : Stp A0 H0 A H) (h : PstS K fa W A0 H0 (o.seq f) Q) :
    PstS K fa W A H o { Q with nx := fun σ1 H1 => ∃ A1 ρ1 μ1, Stp A H A1 H1 ∧ RelM K fa H1 A1 μ1 ∧ RelE K fa H1 A1 ρ1 σ1 ∧ PstS K fa W A0 H0 (f ρ1 μ1) Q } := by
  cases o with
  | nx ρ μ => exact fun σ' H' A' s' r e => ⟨A', ρ, μ, s', r, e, h⟩
  | br ρ μ => exact fun σ' H' A' s' => h σ' H' A' (s.trans s')
  | ct ρ μ => exact fun σ' H' A' s' => h σ' H' A' (s.trans s')
  | rt d μ => exact fun v H' A' F g => h v H' A' F (g.pre s)
  | ex e ρ μ => exact fun cls dd σ' H' A' s' => h cls dd σ' H' A' (s.trans s')
  | no => exact h
end
section
variable {X : Cx} {fa : FA} {W : WX} {G : String → Option D} {call : String → List D → Store → Rs D}
theorem pss_nilD : PSs X [] (tSs X.K fa W G call .nil) := PSs.imp pss_nil fun Q σ H q => by
  obtain ⟨A, ρ, μ, m, re, p⟩ := q
  exact p σ H A .refl m re
theorem pss_consD {st : Stmt} {rest : List Stmt} {s : S} {r : Ss} (h1 : PS X st (tS X.K fa W G call s)) (h2 : PSs X rest (tSs X.K fa W G call r)) : PSs X (st :: rest) (tSs X.K fa W G call (.cons s r)) := PSs.imp (pss_cons h1 h2) fun Q σ H q => by
  obtain ⟨A, ρ, μ, m, re, p⟩ := q
  refine ⟨A, ρ, μ, m, re, ?_⟩
  have p' := PstS.seq (s := Stp.refl) (o := exec G call s ρ μ) (f := fun ρ μ => execs G call r ρ μ) p
  have mono : ∀ {o : Ou} {Q Q' : Ends}, PstS X.K fa W A H o Q → (∀ σ H, Q.nx σ H → Q'.nx σ H) → Q.bk = Q'.bk → Q.ct = Q'.ct → Q.rt = Q'.rt → PstS X.K fa W A H o Q' := by
    intro o Q Q' h a b c d
    cases o with
    | nx ρ μ => exact fun σ' H' A' s' r e => a _ _ (h σ' H' A' s' r e)
    | br ρ μ => intro σ' H' A' s' r e; rw [← b]; exact h σ' H' A' s' r e
    | ct ρ μ => intro σ' H' A' s' r e; rw [← c]; exact h σ' H' A' s' r e
    | rt e μ => intro v H' A' F g; rw [← d]; exact h v H' A' F g
    | ex e ρ μ => exact h
    | no => exact h
  exact mono p' (fun σ1 H1 ⟨A1, ρ1, μ1, s1, m1, e1, q1⟩ => ⟨A1, ρ1, μ1, m1, e1, q1.from s1⟩) rfl rfl rfl
theorem ps_passD {pos : Pos} : PS X (.Pass pos) (tS X.K fa W G call .pass) := PS.imp ps_pass fun Q σ H q => by
  obtain ⟨A, ρ, μ, m, re, p⟩ := q
  exact p σ H A .refl m re
theorem ps_brkD {pos : Pos} : PS X (.Break pos) (tS X.K fa W G call .brk) := PS.imp ps_break fun Q σ H q => by
  obtain ⟨A, ρ, μ, m, re, p⟩ := q
  exact p σ H A .refl m re
theorem ps_contD {pos : Pos} : PS X (.Continue pos) (tS X.K fa W G call .cont) := PS.imp ps_continue fun Q σ H q => by
  obtain ⟨A, ρ, μ, m, re, p⟩ := q
  exact p σ H A .refl m re
theorem ps_exprD {e : Expr} {c : C} {pos : Pos} (he : PE X e (tD X.K fa W G call c)) (hs : swapsWith e none pos.line X.env = pure false) : PS X (.Expr e pos) (tS X.K fa W G call (.expr c)) := PS.imp (ps_expr he hs) fun Q σ H q => by
  obtain ⟨A, ρ, μ, m, re, p⟩ := q
  refine ⟨A, ρ, μ, m, re, (PstS.ou .refl re p).mono fun v H1 ⟨A1, d, μ1, F, g, p1⟩ => ?_⟩
  exact p1 σ H1 A1 g.stp g.mem (re.step g.stp)
theorem ps_retD {e : Expr} {c : C} {pos : Pos} (he : PE X e (tD X.K fa W G call c)) : PS X (.Return (some e) pos) (tS X.K fa W G call (.ret c)) := PS.imp (ps_ret he) fun Q σ H q => by
  obtain ⟨A, ρ, μ, m, re, p⟩ := q
  refine ⟨A, ρ, μ, m, re, (PstS.ou .refl re p).mono fun v H1 ⟨A1, d, μ1, F, g, p1⟩ => ?_⟩
  exact p1 v H1 A1 F g
theorem ps_retND {pos : Pos} : PS X (.Return none pos) (tS X.K fa W G call (.ret (.lit .non))) := PS.imp ps_retN fun Q σ H q => by
  obtain ⟨A, ρ, μ, m, re, p⟩ := q
  exact p .non H A [] ⟨.refl, m, .non, List.nodup_nil, by simp⟩
theorem PstB.mono' {K : PySem.W.Frag} {fa : FA} {W : WX} {A : List Addr} {H : Hp} {σ : L2.St} {r : Rs Bool} {Q Q' : Bool → Hp → Prop} (h : PstB K fa W A H σ r Q) (m : ∀ v H, Q v H → Q' v H) : PstB K fa W A H σ r Q' := h.mono m
/-- a test and what comes of it -/
theorem PstS.test {c : C} {ρ : Env} {μ : Store} {A : List Addr} {H : Hp} {σ : L2.St} {Q : Ends} {f : Bool → Store → Ou} (re : RelE X.K fa H A ρ σ)
    (h : PstS X.K fa W A H ((ev G call c ρ μ).ou ρ fun x μ => match truth μ x with
      | some b => f b μ
      | none => .no) Q) :
    PstB X.K fa W A H σ ((ev G call c ρ μ).bnd fun x μ => Rs.of (truth μ x) μ) fun b H1 => ∃ A1 μ1, Stp A H A1 H1 ∧ RelM X.K fa H1 A1 μ1 ∧ PstS X.K fa W A H (f b μ1) Q := by
  cases hr : ev G call c ρ μ with
  | no => rw [hr] at h; exact h
  | ex e μ1 => rw [hr] at h; exact fun cls dd H' A' s' r x => h cls dd σ H' A' s' r (re.step s') x
  | ok d μ1 =>
    rw [hr] at h
    simp only [Rs.ou_ok, Rs.bnd_ok] at h ⊢
    cases ht : truth μ1 d with
    | none => rw [ht] at h; exact h
    | some b => rw [ht] at h; exact fun H1 A1 s1 r1 => ⟨A1, μ1, s1, r1, h⟩
theorem ps_ifD {t : Expr} {a b : List Stmt} {c : C} {sa sb : Ss} {pos : Pos} (ht : PT X t (Mp.tB X.K fa W G call c)) (ha : PSs X a (tSs X.K fa W G call sa)) (hb : PSs X b (tSs X.K fa W G call sb)) : PS X (.If t a b pos) (tS X.K fa W G call (.ite c sa sb)) := PS.imp (ps_if ht ha hb) fun Q σ H q => by
  obtain ⟨A, ρ, μ, m, re, p⟩ := q
  have p' : PstS X.K fa W A H ((ev G call c ρ μ).ou ρ fun x μ => match truth μ x with
      | some b => (fun b μ => if b = true then execs G call sa ρ μ else execs G call sb ρ μ) b μ
      | none => .no) Q := by
    have e : (fun (x : D) (μ : Store) => match truth μ x with
      | some b => (fun b μ => if b = true then execs G call sa ρ μ else execs G call sb ρ μ) b μ
      | none => Ou.no) = fun x μ => match truth μ x with
      | some true => execs G call sa ρ μ
      | some false => execs G call sb ρ μ
      | none => .no := by
      funext x μ
      cases truth μ x with
      | none => rfl
      | some b => cases b <;> rfl
    rw [e]; exact p
  refine ⟨A, ρ, μ, m, re, (PstS.test re p').mono fun b H1 ⟨A1, μ1, s1, m1, p1⟩ => ?_⟩
  cases b with
  | true => exact ⟨A1, ρ, μ1, m1, re.step s1, p1.from s1⟩
  | false => exact ⟨A1, ρ, μ1, m1, re.step s1, p1.from s1⟩

/-! ### stores -/
/-- what is put under a target -/
theorem bind_go {t : Tg} {d : D} {v : V} {F : List Addr} {ρ ρ' : Env} {μ μ' : Store} {A A0 : List Addr} {H H0 : Hp} {σ : L2.St} {Q : Ends} (s0 : Stp A0 H0 A H) (m : RelM X.K fa H A μ) (re : RelE X.K fa H A ρ σ) (r : Rep X.K fa H A v d F) (nd : F.Nodup) (ne : ∀ a ∈ F, H0 a = none ∧ a ∉ A) (hb : bindT t d ρ μ = some (ρ', μ'))
    (p : PstS X.K fa W A0 H0 (.nx ρ' μ') Q) : tG X.K fa t v σ H Q.nx := by
  refine ⟨A, ρ, μ, d, F, ρ', μ', m, re, r, nd, fun a ha => (ne a ha).2, hb, fun σ' A' ⟨N, eN, hN⟩ m' re' _ => ?_⟩
  subst eN
  exact p σ' H (A ++ N) (s0.join fun a ha => (ne a (hN a ha)).1) m' re'
theorem ps_setD {tg e : Expr} {c : C} {t : Tg} {pos : Pos} (he : PE X e (tD X.K fa W G call c)) (hg : PG X tg (tG X.K fa t)) (hs : swapsWithSole [tg] e pos.line X.env = pure false) (hw : swappedStores [tg] e X.env = pure none) (h1 : (assignEach [tg] X.env).map (·.2) = [assign tg X.env]) :
    PS X (.Assign [tg] e pos) (tS X.K fa W G call (.set t c)) := PS.imp (ps_asg he hg hs hw h1) fun Q σ H q => by
  obtain ⟨A, ρ, μ, m, re, p⟩ := q
  refine ⟨A, ρ, μ, m, re, (PstS.ou .refl re p).mono fun v H1 ⟨A1, d, μ1, F, g, p1⟩ => ?_⟩
  cases hb : bindT t d ρ μ1 with
  | none => rw [hb] at p1; exact p1.elim
  | some x => rw [hb] at p1; exact bind_go g.stp g.mem (re.step g.stp) g.rep g.nd g.new hb p1
theorem Reps.cons_still {K : PySem.W.Frag} {H : Hp} {A : List Addr} {vs : List V} {d : D} {ds : List D} (h : Reps K fa H A vs (d :: ds) []) : ∃ v ws, vs = v :: ws ∧ Rep K fa H A v d [] ∧ Reps K fa H A ws ds [] := by
  generalize hF : ([] : List Addr) = F at h
  cases h with
  | @cons v ws _ _ F1 F2 r t =>
    obtain ⟨e1, e2⟩ := List.append_eq_nil_iff.mp hF.symm
    subst e1 e2
    exact ⟨v, ws, rfl, r, t⟩
theorem Reps.nil_still {K : PySem.W.Frag} {H : Hp} {A : List Addr} {vs : List V} {F : List Addr} (h : Reps K fa H A vs [] F) : vs = [] := by cases h; rfl
/-- the tuple's parts, put under plain names -/
theorem ps_par2D {i j : Nat} {x y : Str} {a b : Expr} {l : Cs} {px py pt pos : Pos} {kt k2 pt2} (hc : X.calm = true) (hN : X.N.Nodup) (hi : X.N[i]? = some x) (hj : X.N[j]? = some y) (hij : i ≠ j)
    (hx : X.env.scope.names.lookup x = some .local) (hy : X.env.scope.names.lookup y = some .local) (ha : PA X [a, b] (tL X.K fa W G call l))
    (hw : swappedStores [.Tuple [.Name x px, .Name y py] kt pt] (.Tuple [a, b] k2 pt2) X.env = pure (some [x, y])) :
    PS X (.Assign [.Tuple [.Name x px, .Name y py] kt pt] (.Tuple [a, b] k2 pt2) pos) (tS X.K fa W G call (.set (.t [.v i, .v j]) (.tup l))) := PS.imp (ps_par hc hN hi hj hij hx hy ha hw) fun Q σ H q => by
  obtain ⟨A, ρ, μ, m, re, p⟩ := q
  refine ⟨A, ρ, μ, m, re, ?_⟩
  simp only [exec, ev] at p
  cases hr : evs G call l ρ μ with
  | no => rw [hr] at p; exact p
  | ex e μ1 => rw [hr] at p; exact fun cls dd H' A' s' r x => p cls dd σ H' A' s' r (re.step s') x
  | ok ds μ1 =>
    rw [hr] at p
    simp only [Rs.bnd_ok, Rs.ou_ok] at p
    intro vs H1 A1 F g
    match ds, p, g with
    | [d1, d2], p, g =>
      simp only [bindT, bindTs, Option.bind_some] at p
      have g' := g.alloc
      obtain ⟨v1, vs', rfl, q1, t1⟩ := Reps.cons_still g'.rep
      obtain ⟨v2, vs', rfl, q2, t2⟩ := Reps.cons_still t1
      cases Reps.nil_still t2
      exact ⟨v1, v2, rfl, p _ H1 (A1 ++ F) g'.stp g'.mem (((re.step g'.stp).set q1).set q2)⟩
    | [], p, g => exact p.elim
    | [_], p, g => simp [bindT, bindTs] at p; exact p.elim
    | _ :: _ :: _ :: _, p, g => simp [bindT, bindTs] at p; exact p.elim
theorem ps_par3D {i j k : Nat} {x y z : Str} {a b c : Expr} {l : Cs} {px py pz pt pos : Pos} {kt k2 pt2} (hc : X.calm = true) (hN : X.N.Nodup) (hi : X.N[i]? = some x) (hj : X.N[j]? = some y) (hk : X.N[k]? = some z) (hij : i ≠ j) (hik : i ≠ k) (hjk : j ≠ k)
    (hx : X.env.scope.names.lookup x = some .local) (hy : X.env.scope.names.lookup y = some .local) (hz : X.env.scope.names.lookup z = some .local) (ha : PA X [a, b, c] (tL X.K fa W G call l))
    (hw : swappedStores [.Tuple [.Name x px, .Name y py, .Name z pz] kt pt] (.Tuple [a, b, c] k2 pt2) X.env = pure (some [x, y, z])) :
    PS X (.Assign [.Tuple [.Name x px, .Name y py, .Name z pz] kt pt] (.Tuple [a, b, c] k2 pt2) pos) (tS X.K fa W G call (.set (.t [.v i, .v j, .v k]) (.tup l))) := PS.imp (ps_par3 hc hN hi hj hk hij hik hjk hx hy hz ha hw) fun Q σ H q => by
  obtain ⟨A, ρ, μ, m, re, p⟩ := q
  refine ⟨A, ρ, μ, m, re, ?_⟩
  simp only [exec, ev] at p
  cases hr : evs G call l ρ μ with
  | no => rw [hr] at p; exact p
  | ex e μ1 => rw [hr] at p; exact fun cls dd H' A' s' r x => p cls dd σ H' A' s' r (re.step s') x
  | ok ds μ1 =>
    rw [hr] at p
    simp only [Rs.bnd_ok, Rs.ou_ok] at p
    intro vs H1 A1 F g
    match ds, p, g with
    | [d1, d2, d3], p, g =>
      simp only [bindT, bindTs, Option.bind_some] at p
      have g' := g.alloc
      obtain ⟨v1, vs', rfl, q1, t1⟩ := Reps.cons_still g'.rep
      obtain ⟨v2, vs', rfl, q2, t2⟩ := Reps.cons_still t1
      obtain ⟨v3, vs', rfl, q3, t3⟩ := Reps.cons_still t2
      cases Reps.nil_still t3
      exact ⟨v1, v2, v3, rfl, p _ H1 (A1 ++ F) g'.stp g'.mem ((((re.step g'.stp).set q1).set q2).set q3)⟩
    | [], p, g => exact p.elim
    | [_], p, g => simp [bindT, bindTs] at p; exact p.elim
    | [_, _], p, g => simp [bindT, bindTs] at p; exact p.elim
    | _ :: _ :: _ :: _ :: _, p, g => simp [bindT, bindTs] at p; exact p.elim
/-! ### op= -/
theorem augop_ok (op : BinK) : ∃ r : TIp, PIp X (opB op) r ∧
    ∀ {A0 : List Addr} {H0 : Hp} {σ : L2.St} {x y z : D} {v w : V} {H2 : Hp} {A2 : List Addr} {μ : Store} {F1 F2 : List Addr} {Q : VK}, Two X.K fa A0 H0 x y v w H2 A2 μ F1 F2 → augop op x y = some z → Pst X.K fa W A0 H0 σ (.ok z μ) Q → r v w H2 Q := by
  cases op with
  | add =>
    refine ⟨_, OpR.or iop_add iop_add_str, fun {A0 H0 σ x y z v w H2 A2 μ F1 F2 Q} t e q => ?_⟩
    unfold augop at e
    split at e <;> first | contradiction | skip
    · cases e
      have m := t.mem; have s := t.stp
      cases t.one; cases t.two
      exact .inl ⟨_, _, rfl, rfl, q.done s m (.int _)⟩
    · rename_i a b _
      split at e
      · rename_i hl
        cases e
        have m := t.mem; have s := t.stp
        cases t.one with
        | str _ h1 =>
          cases t.two with
          | str _ h2 =>
            refine .inr ⟨_, _, rfl, rfl, by rw [toS_length, toS_length, sizeLine_eq]; exact hl, ?_⟩
            rw [toS_append]
            exact q.done s m (.str _ (okS_append h1 h2 hl))
      · cases e
  | sub =>
    refine ⟨_, iop_sub, fun {A0 H0 σ x y z v w H2 A2 μ F1 F2 Q} t e q => ?_⟩
    unfold augop at e
    split at e <;> first | contradiction | skip
    cases e
    have m := t.mem; have s := t.stp
    cases t.one; cases t.two
    exact ⟨_, _, rfl, rfl, q.done s m (.int _)⟩
  | mul =>
    refine ⟨_, iop_mul, fun {A0 H0 σ x y z v w H2 A2 μ F1 F2 Q} t e q => ?_⟩
    unfold augop at e
    split at e <;> first | contradiction | skip
    split at e
    · rename_i hm
      cases e
      have m := t.mem; have s := t.stp
      cases t.one; cases t.two
      refine ⟨_, _, rfl, rfl, ?_, q.done s m (.int _)⟩
      unfold mulOk at hm
      simpa [CMul] using hm
    · cases e
  | fdiv =>
    refine ⟨_, iop_fdiv, fun {A0 H0 σ x y z v w H2 A2 μ F1 F2 Q} t e q => ?_⟩
    unfold augop at e
    split at e <;> first | contradiction | skip
    split at e
    · rename_i hm
      cases e
      have m := t.mem; have s := t.stp
      cases t.one; cases t.two
      exact ⟨_, _, rfl, rfl, hm, q.done s m (.int _)⟩
    · cases e
  | mod =>
    refine ⟨_, iop_mod, fun {A0 H0 σ x y z v w H2 A2 μ F1 F2 Q} t e q => ?_⟩
    unfold augop at e
    split at e <;> first | contradiction | skip
    split at e
    · rename_i hm
      cases e
      have m := t.mem; have s := t.stp
      cases t.one; cases t.two
      exact ⟨_, _, rfl, rfl, hm, q.done s m (.int _)⟩
    · cases e
  | pow =>
    refine ⟨fun _ _ _ _ => False, fun _ _ _ _ _ _ _ _ _ _ _ _ h => h.elim, fun {A0 H0 σ x y z v w H2 A2 μ F1 F2 Q} t e q => ?_⟩
    simp [augop] at e
theorem augop_noX {op : BinK} {x y z : D} (h : augop op x y = some z) : x.isX = false := by
  cases x <;> first | rfl | (cases op <;> simp [augop] at h)
theorem ps_augD {i : Nat} {x : Str} {e : Expr} {c : C} {op : BinK} {pos pos' : Pos} (hN : X.N.Nodup) (hi : X.N[i]? = some x) (hx : Loc X.env.scope x) (he : PE X e (tD X.K fa W G call c)) (hf : X.fn x = true ∨ X.env.scope.names.lookup x = some .local) :
    PS X (.AugAssign (.Name x pos') (opB op) e pos) (tS X.K fa W G call (.aug i op c)) := by
  obtain ⟨r, h1, h2⟩ := augop_ok (X := X) (fa := fa) (W := W) op
  refine PS.imp (ps_aug hN hi hx he h1 hf) fun Q σ H q => ?_
  obtain ⟨A, ρ, μ, m, re, p⟩ := q
  simp only [exec] at p
  cases hρ : ρ[i]? with
  | none => rw [hρ] at p; exact p.elim
  | some o =>
    cases o with
    | none => rw [hρ] at p; exact p.elim
    | some dx =>
      rw [hρ] at p
      simp only at p
      obtain ⟨vx, hv, rx⟩ := re.2 i dx hρ
      refine ⟨vx, hv, A, ρ, μ, m, re, (PstS.ou .refl re p).mono fun v H1 ⟨A1, d, μ1, F, g, p1⟩ => ?_⟩
      cases ha : augop op dx d with
      | none => rw [ha] at p1; exact p1.elim
      | some z =>
        rw [ha] at p1
        have rx := rx.val (augop_noX ha)
        have gx : Good X.K fa A H μ dx vx H A [] := ⟨.refl, m, rx, List.nodup_nil, by simp⟩
        refine h2 (σ := σ) (Two.of gx g) ha fun w H2 A2 F2 g2 => ?_
        have g3 := g2.alloc
        exact p1 _ H2 (A2 ++ F2) g3.stp g3.mem ((re.step g3.stp).set g3.rep)
/-! ### o[i] = e -/
theorem setIx_some {μ μ' : Store} {x y d : D} (h : setIx μ x y d = some μ') : ∃ n k l j, x = .ref n ∧ y = .int k ∧ μ[n]? = some (.lst l) ∧ ixNat l.length k = some j ∧ μ' = μ.set n (.lst (l.set j d)) := by
  unfold setIx at h
  split at h
  · rename_i n i
    cases hn : μ[n]? with
    | none => rw [hn] at h; cases h
    | some o =>
      rw [hn] at h
      cases o with
      | dct t kvs => cases h
      | lst l =>
        simp only [Option.map_eq_some_iff] at h
        obtain ⟨j, h1, h2⟩ := h
        exact ⟨n, i, l, j, rfl, rfl, hn, h1, h2.symm⟩
  · cases h
theorem sole_sub {o i e : Expr} {p : Pos} {l : Nat} {env : PySem.Env} : swapsWithSole [.Subscript o i p] e l env = pure false := by cases e <;> rfl
theorem ps_setiD {o i e : Expr} {c ca ci : C} {p pos : Pos} (he : PE X e (tD X.K fa W G call c)) (ho : PE X o (tD X.K fa W G call ca)) (hi : PE X i (tD X.K fa W G call ci)) (hp : plainIxB i = true) :
    PS X (.Assign [.Subscript o i p] e pos) (tS X.K fa W G call (.seti ca ci c)) := by
  refine PS.imp (ps_asg he (pg_sub ho hi set_list (by intro v; cases i <;> first | rfl | cases hp)) sole_sub (by rfl) (by rfl)) fun Q σ H q => ?_
  obtain ⟨A, ρ, μ, m, re, q⟩ := q
  refine ⟨A, ρ, μ, m, re, (PstS.ou .refl re q).mono fun v H1 ⟨A1, d, μ1, F, g, p1⟩ => ?_⟩
  refine ⟨A1, ρ, μ1, g.mem, re.step g.stp, (PstS.ou g.stp (re.step g.stp) p1).mono fun w H2 ⟨A2, x, μ2, F2, g2, p2⟩ => ?_⟩
  have re2 := (re.step g.stp).step g2.stp
  refine ⟨A2, ρ, μ2, g2.mem, re2, (PstS.ou (g.stp.trans g2.stp) re2 p2).mono fun u H3 ⟨A3, y, μ3, F3, g3, p3⟩ => ?_⟩
  cases hs : setIx (alloc d μ3).2 x y (alloc d μ3).1 with
  | none => rw [hs] at p3; exact p3.elim
  | some μ4 =>
    rw [hs] at p3
    obtain ⟨n, k, l, j, rfl, rfl, hn, hj, rfl⟩ := setIx_some hs
    have s23 := g2.stp.trans g3.stp
    have gd : Good X.K fa A H μ3 d v H3 A3 F := ⟨g.stp.trans s23, g3.mem, g.rep.step s23 fun a ha => (g.new a ha).2, g.nd, fun a ha => ⟨(g.new a ha).1, by
      obtain ⟨vs, t⟩ := g.tracked a ha
      exact s23.out t (g.new a ha).2⟩⟩
    have ga := gd.alloc
    have rx := g2.rep
    have ry := g3.rep
    cases ry
    cases rx with
    | @ref _ a ha =>
      have ha3 : (A3 ++ F)[n]? = some a := by
        have h3 := g3.stp.sub ha
        rw [List.getElem?_append_left (List.getElem?_eq_some_iff.mp h3).1]
        exact h3
      obtain ⟨a', h1, vs, hv, r⟩ := ga.mem.obj n _ hn
      rw [ha3] at h1; cases h1
      refine ⟨a, vs, k, j, rfl, rfl, hv, by rw [ixN_eq, r.length]; exact hj, ?_⟩
      have rr := r.set_still (j := j) ga.rep
      have m4 := ga.mem.write ha3 rr
      have s4 := Stp.write ga.mem (o := .lst (vs.set j v)) ha3
      exact p3 σ _ (A3 ++ F) (ga.stp.trans s4) m4 ((re.step ga.stp).step s4)

theorem sw_sub {o i e : Expr} {p : Pos} {l : Nat} {env : PySem.Env} : swapsWith e (some (.Subscript o i p)) l env = pure false := by cases e <;> rfl
theorem putD_some {μ μ' : Store} {x y d : D} (h : putD μ x y d = some μ') : ∃ n t kvs, x = .ref n ∧ Mp.getD μ n = some (t, kvs) ∧ keyOk t y = true ∧ kvs.length < LIM ∧ μ' = μ.set n (.dct t (dputL kvs y d)) := by
  cases x <;> try cases h
  rename_i n
  simp only [putD] at h
  cases e : Mp.getD μ n with
  | none => rw [e] at h; cases h
  | some p =>
    obtain ⟨t, kvs⟩ := p
    rw [e] at h
    simp only at h
    split at h
    · rename_i hk
      cases h
      exact ⟨n, t, kvs, rfl, e, hk.1, hk.2, rfl⟩
    · cases h
theorem ps_dputD (hw : fa.w = some X.w) (hu : X.A.units + 64 < cLine) {o i e : Expr} {c ca ci : C} {p pos : Pos} (he : PE X e (tD X.K fa W G call c)) (ho : PE X o (tD X.K fa W G call ca)) (hi : PE X i (tD X.K fa W G call ci)) :
    PS X (.Assign [.Subscript o i p] e pos) (tS X.K fa W G call (.dput ca ci c)) := by
  refine PS.imp (ps_nput hu ho hi he sw_sub) fun Q σ H q => ?_
  obtain ⟨A, ρ, μ, m, re, q⟩ := q
  refine ⟨A, ρ, μ, m, re, (PstS.ou .refl re q).mono fun v H1 ⟨A1, d, μ1, F, g, p1⟩ => ?_⟩
  refine ⟨A1, ρ, μ1, g.mem, re.step g.stp, (PstS.ou g.stp (re.step g.stp) p1).mono fun w H2 ⟨A2, x, μ2, F2, g2, p2⟩ => ?_⟩
  have re2 := (re.step g.stp).step g2.stp
  refine ⟨A2, ρ, μ2, g2.mem, re2, (PstS.ou (g.stp.trans g2.stp) re2 p2).mono fun u H3 ⟨A3, y, μ3, F3, g3, p3⟩ => ?_⟩
  cases hs : putD (alloc d μ3).2 x y (alloc d μ3).1 with
  | none => rw [hs] at p3; exact p3.elim
  | some μ4 =>
    rw [hs] at p3
    obtain ⟨n, t, kvs, rfl, hn, hk, hl, rfl⟩ := putD_some hs
    have s23 := g2.stp.trans g3.stp
    have gd : Good X.K fa A H μ3 d v H3 A3 F := ⟨g.stp.trans s23, g3.mem, g.rep.step s23 fun a ha => (g.new a ha).2, g.nd, fun a ha => ⟨(g.new a ha).1, by
      obtain ⟨vs, t⟩ := g.tracked a ha
      exact s23.out t (g.new a ha).2⟩⟩
    have ga := gd.alloc
    have rx := g2.rep
    cases rx with
    | @ref _ a ha =>
      have ha3 : (A3 ++ F)[n]? = some a := by
        have h3 := g3.stp.sub ha
        rw [List.getElem?_append_left (List.getElem?_eq_some_iff.mp h3).1]
        exact h3
      have ry := g3.rep
      obtain ⟨r, _, dd⟩ := DPS_of hw (dict_at ga.mem ha3 hn) hk hl (ry.mono (N := F))
      obtain ⟨u', d1, _, d3⟩ := dd v
      obtain ⟨m4, s4⟩ := d3 (N := []) (by rw [List.append_nil]; exact ga.mem) (by rw [List.append_nil]; exact ha3) (by rw [List.append_nil]; exact ga.rep)
      rw [List.append_nil] at m4 s4
      exact ⟨a, _, rfl, d1, p3 σ _ (A3 ++ F) (ga.stp.trans s4) m4 ((re.step ga.stp).step s4)⟩

/-! ### while -/
def Rch {α β : Type} (st : α → Option (Sum α β)) : Nat → α → β → Prop
  | 0, s, r => st s = some (.inr r)
  | n + 1, s, r => ∃ s', st s = some (.inl s') ∧ Rch st n s' r
theorem whileM_rch {α β : Type} {st : α → Option (Sum α β)} {s : α} {r : β} (h : whileM st s = some r) : ∃ n, Rch st n s r := by
  refine whileM.partial_correctness st (motive := fun s r => ∃ n, Rch st n s r) ?_ s r h
  intro f ih s r h
  cases hs : st s with
  | none => rw [hs] at h; cases h
  | some x =>
    rw [hs] at h
    cases x with
    | inr r' =>
      have e : r' = r := by simpa using h
      subst e
      exact ⟨0, hs⟩
    | inl s' =>
      obtain ⟨n, hn⟩ := ih s' r (by simpa using h)
      exact ⟨n + 1, s', hs, hn⟩
def whF (G : String → Option D) (call : String → List D → Store → Rs D) (c : C) (b : Ss) (p : Env × Store) : Option (Sum (Env × Store) Ou) := whS ((ev G call c p.1 p.2).ou p.1 (kWhT G call b p.1))
theorem ps_whileD {t : Expr} {body : List Stmt} {c : C} {b : Ss} {pos : Pos} (hp : PassesOwn (model X.prog X.w) X.A X.env X.xe) (ht : PT X t (Mp.tB X.K fa W G call c)) (hb : PSs X body (tSs X.K fa W G call b)) : PS X (.While t body [] pos) (tS X.K fa W G call (.wh c b)) := PS.imp (ps_while hp ht hb) fun Q σ H q => by
  obtain ⟨A0, ρ, μ, m0, re0, p⟩ := q
  rw [exec_wh] at p
  cases hw : whGo G call c b (ρ, μ) with
  | none => rw [hw] at p; exact p.elim
  | some o =>
    rw [hw] at p
    have p : PstS X.K fa W A0 H o Q := p
    obtain ⟨n, hn⟩ := whileM_rch hw
    refine ⟨fun m σ1 H1 => ∃ A1 ρ1 μ1, Stp A0 H A1 H1 ∧ RelM X.K fa H1 A1 μ1 ∧ RelE X.K fa H1 A1 ρ1 σ1 ∧ Rch (whF G call c b) m (ρ1, μ1) o, ⟨n, A0, ρ, μ, .refl, m0, re0, hn⟩, fun m σ1 H1 w => ?_⟩
    obtain ⟨A1, ρ1, μ1, s1, m1, re1, r1⟩ := w
    refine ⟨A1, ρ1, μ1, m1, re1, ?_⟩
    have nx : ∀ x, whF G call c b (ρ1, μ1) = some x → (∃ p', x = .inl p' ∧ ∃ m', m = m' + 1 ∧ Rch (whF G call c b) m' p' o) ∨ x = .inr o := by
      intro x hx
      cases m with
      | zero => exact .inr (Option.some.inj (hx.symm.trans r1))
      | succ m' =>
        obtain ⟨s', h1, h2⟩ := r1
        exact .inl ⟨s', Option.some.inj (hx.symm.trans h1), m', rfl, h2⟩
    have nn : whF G call c b (ρ1, μ1) ≠ none := by
      cases m with
      | zero => rw [show whF G call c b (ρ1, μ1) = _ from r1]; simp
      | succ m' =>
        obtain ⟨s', h1, h2⟩ := r1
        rw [h1]; simp
    have hW : whF G call c b (ρ1, μ1) = whS ((ev G call c ρ1 μ1).ou ρ1 (kWhT G call b ρ1)) := rfl
    cases hr : ev G call c ρ1 μ1 with
    | no => rw [hW, hr] at nn; exact absurd rfl nn
    | ex e μ2 =>
      rw [hW, hr] at nx
      rcases nx _ rfl with ⟨p', z, _⟩ | z
      · cases z
      · cases z
        exact fun cls dd H' A' s' r x => p cls dd σ1 H' A' (s1.trans s') r (re1.step s') x
    | ok d μ2 =>
      rw [hW, hr] at nx nn
      simp only [Rs.bnd_ok]
      simp only [Rs.ou_ok] at nx nn
      cases ht : truth μ2 d with
      | none => unfold kWhT at nn; rw [ht] at nn; exact absurd rfl nn
      | some bb =>
        refine fun H2 A2 s2 m2 => ?_
        unfold kWhT at nx nn
        rw [ht] at nx nn
        cases bb with
        | false =>
          rw [if_neg (by decide)]
          rcases nx _ rfl with ⟨p', z, _⟩ | z
          · cases z
          · cases z
            exact p σ1 H2 A2 (s1.trans s2) m2 (re1.step s2)
        | true =>
          rw [if_pos rfl]
          simp only at nx nn
          refine ⟨fun σ3 H3 => ∃ m', m' < m ∧ ∃ A1 ρ1 μ1, Stp A0 H A1 H3 ∧ RelM X.K fa H3 A1 μ1 ∧ RelE X.K fa H3 A1 ρ1 σ3 ∧ Rch (whF G call c b) m' (ρ1, μ1) o, fun σ' H' h => h, A2, ρ1, μ2, m2, re1.step s2, ?_⟩
          have s12 := s1.trans s2
          cases hx : execs G call b ρ1 μ2 with
          | no => rw [hx] at nn; exact absurd rfl nn
          | nx ρ3 μ3 =>
            rw [hx] at nx
            rcases nx _ rfl with ⟨p', z, m', em, rr⟩ | z
            · cases z
              exact fun σ' H' A' s' r e => ⟨m', by omega, A', ρ3, μ3, s12.trans s', r, e, rr⟩
            · cases z
          | ct ρ3 μ3 =>
            rw [hx] at nx
            rcases nx _ rfl with ⟨p', z, m', em, rr⟩ | z
            · cases z
              exact fun σ' H' A' s' r e => ⟨m', by omega, A', ρ3, μ3, s12.trans s', r, e, rr⟩
            · cases z
          | br ρ3 μ3 =>
            rw [hx] at nx
            rcases nx _ rfl with ⟨p', z, _⟩ | z
            · cases z
            · cases z
              exact fun σ' H' A' s' r e => p σ' H' A' (s12.trans s') r e
          | rt d3 μ3 =>
            rw [hx] at nx
            rcases nx _ rfl with ⟨p', z, _⟩ | z
            · cases z
            · cases z
              exact fun v H' A' F g => p v H' A' F (g.pre s12)
          | ex e3 ρ3 μ3 =>
            rw [hx] at nx
            rcases nx _ rfl with ⟨p', z, _⟩ | z
            · cases z
            · cases z
              exact fun cls dd σ' H' A' s' => p cls dd σ' H' A' (s12.trans s')

/-! ### for -/
theorem drop_of {α : Type} {l : List α} {i : Nat} {x : α} (h : l[i]? = some x) : l.drop i = x :: l.drop (i + 1) := by
  obtain ⟨hi, e⟩ := List.getElem?_eq_some_iff.mp h
  rw [← e]
  exact List.drop_eq_getElem_cons hi
theorem ps_forD {tg iter : Expr} {body : List Stmt} {it : C} {t : Tg} {b : Ss} {pos : Pos} (hp : PassesOwn (model X.prog X.w) X.A X.env X.xe) (hc : X.calm = true) (hi : PI X tg iter (tI G call X.K fa W it)) (hg : PG X tg (tG X.K fa t)) (hb : PSs X body (tSs X.K fa W G call b)) (hs : ∀ x, foldedSetIterable iter X.env x = pure x) :
    PS X (.For tg iter body [] pos) (tS X.K fa W G call (.for_ t it b)) := PS.imp (ps_for hp hc hi hg hb hs) fun Q σ H q => by
  obtain ⟨A0, ρ, μ, m0, re0, p⟩ := q
  rw [exec_for] at p
  refine ⟨A0, ρ, μ, m0, re0, ?_⟩
  cases hr : ev G call it ρ μ with
  | no => rw [hr] at p; exact p.elim
  | ex e μ2 => rw [hr] at p; exact fun cls dd H' A' s' r x => p cls dd σ H' A' s' r (re0.step s') x
  | ok s μ2 =>
    rw [hr] at p
    simp only [Rs.ou_ok] at p
    unfold kFor at p
    cases hx : items (settle s μ2).2 (settle s μ2).1 with
    | none => rw [hx] at p; exact p.elim
    | some xs =>
      rw [hx] at p
      refine ⟨xs, hx, fun H1 A1 J F s1 m1 src hF => ?_⟩
      generalize hs' : (settle s μ2).1 = s' at *
      refine ⟨fun i m σ1 H2 => m = xs.length - i ∧ i ≤ xs.length ∧ ∃ A2 ρ2 μ3, Stp A0 H A2 H2 ∧ RelM X.K fa H2 A2 μ3 ∧ RelE X.K fa H2 A2 ρ2 σ1 ∧ Src X.K fa J s' xs F A2 H2 ∧ PstS X.K fa W A0 H (forGo s' xs (forT G call t b) (xs.drop i) ρ2 μ3) Q, ⟨xs.length, by simp, Nat.zero_le _, A1, ρ, _, s1, m1, re0.step s1, src, by rw [List.drop_zero]; exact p⟩, fun i m σ1 H2 w => ?_⟩
      obtain ⟨rfl, hi, A2, ρ2, μ3, s2, m2, re2, src2, p2⟩ := w
      obtain ⟨sF, P, hP, hP2, hP3⟩ := src2
      have ok : srcOk μ3 s' xs = true := by
        cases hk : srcOk μ3 s' xs with
        | true => rfl
        | false => cases hd : xs.drop i <;> (rw [hd] at p2; simp [forGo, hk, PstS] at p2)
      obtain ⟨h1, h2⟩ := hP3 A2 H2 μ3 hP m2 ok i
      cases hd : xs[i]? with
      | none =>
        have hl : xs.length ≤ i := List.getElem?_eq_none_iff.mp hd
        refine .inl ⟨h2 hl, ?_⟩
        rw [List.drop_eq_nil_of_le hl] at p2
        simp only [forGo, ok, if_true] at p2
        exact p2 σ1 H2 A2 s2 m2 re2
      | some d =>
        obtain ⟨h1, h3⟩ := h1 d hd
        have hlt : i < xs.length := (List.getElem?_eq_some_iff.mp hd).1
        refine .inr ⟨h1, fun σ3 H3 => i + 1 ≤ xs.length ∧ ∃ A2 ρ2 μ3, Stp A0 H A2 H3 ∧ RelM X.K fa H3 A2 μ3 ∧ RelE X.K fa H3 A2 ρ2 σ3 ∧ Src X.K fa J s' xs F A2 H3 ∧ PstS X.K fa W A0 H (forGo s' xs (forT G call t b) (xs.drop (i + 1)) ρ2 μ3) Q, fun σ' H' hN => ⟨xs.length - (i + 1), by omega, rfl, hN⟩, fun x H3 y => ?_⟩
        obtain ⟨s3, m3, r3⟩ := h3 x H3 y
        rw [drop_of hd] at p2
        simp only [forGo, ok, if_true] at p2
        rw [forT_eq] at p2
        cases hb : bindT t d ρ2 μ3 with
        | none => rw [hb] at p2; exact p2.elim
        | some r =>
          rw [hb] at p2
          simp only at p2
          refine ⟨A2, ρ2, μ3, d, [], r.1, r.2, m3, re2.step s3, r3, List.nodup_nil, by simp, hb, fun σ4 A4 ⟨N, eN, hN⟩ m4 re4 _ => ?_⟩
          have : N = [] := by
            cases N with
            | nil => rfl
            | cons a N => exact absurd (hN a (by simp)) (by simp)
          subst this
          rw [List.append_nil] at eN
          subst eN
          refine ⟨A4, r.1, r.2, m4, re4, ?_⟩
          have s23 := s2.trans s3
          have src3 : Src X.K fa J s' xs F A4 H3 := Src.step ⟨sF, P, hP, hP2, hP3⟩ s3
          cases he : execs G call b r.1 r.2 with
          | no => rw [he] at p2; exact p2
          | nx ρ5 μ5 => rw [he] at p2; exact fun σ' H' A' s' r e => ⟨hlt, A', ρ5, μ5, s23.trans s', r, e, src3.step s', p2⟩
          | ct ρ5 μ5 => rw [he] at p2; exact fun σ' H' A' s' r e => ⟨hlt, A', ρ5, μ5, s23.trans s', r, e, src3.step s', p2⟩
          | br ρ5 μ5 => rw [he] at p2; exact fun σ' H' A' s' r e => p2 σ' H' A' (s23.trans s') r e
          | rt d5 μ5 => rw [he] at p2; exact fun v H' A' F g => p2 v H' A' F (g.pre s23)
          | ex e5 ρ5 μ5 => rw [he] at p2; exact fun cls dd σ' H' A' s' => p2 cls dd σ' H' A' (s23.trans s')
end
end Mp
end SSnd13
section SSndT
/-! SndT: errors raised, errors handled. -/
namespace Mp
open PySem PySem.Spec PyProof.Rows L2
section
variable {K : PySem.W.Frag} {fa fa' : FA} {H H' : Hp} {A A' : List Addr}
mutual
theorem Rep.chg (hf : fa.f = fa'.f) : ∀ {v : V} {d : D} {F : List Addr}, Rep K fa H A v d F → Rep K fa' H A v d F
  | _, .non, _, h => by cases h; exact .non
  | _, .bl _, _, h => by cases h; exact .bl _
  | _, .int _, _, h => by cases h; exact .int _
  | _, .str _, _, h => by cases h with | str _ h => exact .str _ h
  | _, .fn _, _, h => by cases h with | fn h => exact .fn (by rw [← hf]; exact h)
  | _, .ref _, _, h => by cases h with | ref h => exact .ref h
  | _, .fz l, _, h => by cases h with | fz h hp r => exact .fz h hp (Reps.chg hf r)
  | _, .tup l, _, h => by cases h with | tup h r => exact .tup h (Reps.chg hf r)
  | _, .tl l, _, h => by cases h with | tl h r => exact .tl h (Reps.chg hf r)
theorem Reps.chg (hf : fa.f = fa'.f) : ∀ {vs : List V} {ds : List D} {F : List Addr}, Reps K fa H A vs ds F → Reps K fa' H A vs ds F
  | _, [], _, h => by cases h; exact .nil
  | _, d :: ds, _, h => by cases h with | cons r t => exact .cons (Rep.chg hf r) (Reps.chg hf t)
end
theorem RelM.chg {μ : Store} (hf : fa.f = fa'.f) (hw : fa.w = fa'.w) (r : RelM K fa H A μ) : RelM K fa' H A μ := ⟨r.len, fun i o hi => by
  obtain ⟨a, h1, h2⟩ := r.obj i o hi
  exact ⟨a, h1, h2.map hw (fun _ _ e => e) fun _ _ q => q.chg hf⟩, r.nd⟩
theorem Good.chg {μ : Store} {d : D} {v : V} {F : List Addr} (hf : fa.f = fa'.f) (hw : fa.w = fa'.w) (g : Good K fa A H μ d v H' A' F) : Good K fa' A H μ d v H' A' F := ⟨g.stp, g.mem.chg hf hw, g.rep.chg hf, g.nd, g.new⟩
theorem XDict.chg {dd : Addr} {ns : List String} {l : List D} (hf : fa.f = fa'.f) (x : XDict K fa H dd ns l) : XDict K fa' H dd ns l := by
  obtain ⟨vs, h1, h2, h3⟩ := x
  exact ⟨vs, h1, fun B => (h2 B).chg hf, h3⟩
/-- flat data stand by themselves -/
theorem Reps.flat : ∀ {vs : List V} {ds : List D} {F : List Addr}, Reps K fa H A vs ds F → ds.all D.flat = true → F = [] ∧ ∀ H' A', Reps K fa H' A' vs ds []
  | _, [], _, h, _ => by cases h; exact ⟨rfl, fun _ _ => .nil⟩
  | _, d :: ds, _, h, e => by
    cases h with
    | @cons v vs _ _ F1 F2 r t =>
      rw [List.all_cons, Bool.and_eq_true] at e
      obtain ⟨e2, t2⟩ := Reps.flat t e.2
      subst e2
      have one : F1 = [] ∧ ∀ H' A', Rep K fa H' A' v d [] := by
        cases r <;> first
          | exact ⟨rfl, fun _ _ => .non⟩
          | exact ⟨rfl, fun _ _ => .bl _⟩
          | exact ⟨rfl, fun _ _ => .int _⟩
          | (rename_i h; exact ⟨rfl, fun _ _ => .str _ h⟩)
          | (simp [D.flat] at e; done)
      obtain ⟨e1, r2⟩ := one
      subst e1
      exact ⟨rfl, fun H' A' => Reps.cons (F := []) (F' := []) (r2 H' A') (t2 H' A')⟩
end
/-- what holds of a def's own context -/
structure Fc (X : Cx) : Prop where
  kind : X.env.scope.kind = .function
  fn : ∀ x, X.fn x = true
  pass : PassesOwn (model X.prog X.w) X.A X.env X.xe
  stk : X.stack = X.env :: X.outer
  frm : X.env.frame = some X.env.locals
section
variable {fa : FA} {G : String → Option D} {call : String → List D → Store → Rs D} {k : Nat} {fs : FS}
theorem ps_raisD {X : Cx} {W : WX} {c : String} {ns : List String} {l : Cs} {x : Str} {e : Expr} {es : List Expr} {p q pos : Pos} (hC : Cn X G call k fa fs W) (hcal : fs.calm = true) (hx : x = (c : Str)) (hg : glB X.env.scope x = true) (hp : plB x = true) (hes : (c, ns) ∈ fs.e) (hn : ns.length ≤ 1000) (hs : (e :: es).all starB = true) (ha : PA X (e :: es) (tL X.K fa W G call l)) :
    PS X (.Raise (some (.Call (.Name x p) (e :: es) [] q)) none pos) (tS X.K fa W G call (.rais c ns l)) := by
  obtain ⟨C, hc1, ok⟩ := hC.exc c ns hes
  obtain ⟨fI, fd, ps, i1, i2, i3, i4⟩ := ok.init
  subst hx
  have hs' : starB e = true ∧ es.all starB = true := by simpa using hs
  have mk := pmk_oex (dvs := []) (ds := []) (p := p) (pos := q) ok.oex i1 i2 i3 ((hC.room hcal).mono hC.two) i4 .nil (fun _ _ _ _ _ _ _ z => by obtain ⟨_, _, _, _, _, _, _, _, _, _, _, _, z⟩ := z; exact z.elim) (glB_ok hg) ok.at_ ha (plB_ok hp).1 (star_cons hs'.1) (star_any hs'.2)
  refine PS.imp (ps_raise (hC.calm hcal) hC.takes mk) fun Q σ H qq => ?_
  obtain ⟨A, ρ, μ, m, re, pp⟩ := qq
  refine ⟨A, ρ, μ, m, re, ?_⟩
  simp only [exec] at pp
  cases hr : evs G call l ρ μ with
  | no => rw [hr] at pp; exact pp
  | ex e μ1 => rw [hr] at pp; exact fun cls dd H' A' s r x => pp cls dd σ H' A' s r (re.step s) x
  | ok ds μ1 =>
    rw [hr] at pp
    simp only [Rs.ou_ok] at pp
    split at pp
    · rename_i hds
      intro vs H1 A1 F g
      obtain ⟨eF, hfl⟩ := g.rep.flat hds.2
      subst eF
      have hl : vs.length = ns.length := by rw [g.rep.length]; exact hds.1
      refine ⟨by omega, fun a hna => ?_⟩
      rw [List.append_nil]
      refine ⟨a, vs, rfl, by simp [hl], upd_same, fun dx H2 hdx hne eH => ?_⟩
      rw [upd_ne hne] at hdx
      subst eH
      refine ⟨rfl, dx, ((ns.map Str.ofString).zip vs).reverse, upd_same, by rw [upd_ne hne, upd_same], hdx, ?_⟩
      have eh : upd (del (upd (upd (upd H1 a (exo a C none)) dx (exd dx ((ns.map Str.ofString).zip vs).reverse)) a (exo a C (some dx))) a) dx (.xd ((ns.map Str.ofString).zip vs).reverse) = upd H1 dx (.xd ((ns.map Str.ofString).zip vs).reverse) := by
        funext b
        by_cases hb : b = dx
        · subst hb; rw [upd_same, upd_same]
        · rw [upd_ne hb, upd_ne hb]
          by_cases hba : b = a
          · subst hba; rw [del_same, hna]
          · rw [del_ne hba, upd_ne hba, upd_ne hb, upd_ne hba]
      rw [eh]
      have st : Stp A H A1 (upd H1 dx (.xd ((ns.map Str.ofString).zip vs).reverse)) := g.stp.trans (.new hdx)
      exact pp _ _ σ _ A1 st (g.mem.new hdx) (re.step st) ⟨c, ns, ds, C, dx, rfl, hc1, rfl, rfl, vs, upd_same, fun B => hfl _ B, hds.1.symm, hds.2, ok.nd⟩
    · exact pp.elim
theorem Cn.tr {X : Cx} {W W' : WX} {pn : List (Addr × PySem.Obj)} {xe : Value → Shared → Prop} (hC : Cn X G call k fa fs W) (hcal : fs.calm = true) (tk : Takes (X.tr pn xe) W') : Cn (X.tr pn xe) G call k fa fs W' :=
  ⟨hC.nd, hC.calm, hC.units, hC.room, tk, hC.fns, hC.glob, hC.call, hC.blt, hC.dom, hC.two, hC.exc, hC.exq, hC.sub, fun i a dd c e => (by have := (hC.sx i a dd c e).1; rw [hcal] at this; cases this), hC.wd⟩
theorem Cn.suite {X : Cx} {W : WX} {a dd C : Addr} {oe : PySem.Obj} {pn : List (Addr × PySem.Obj)} {c : String} {ns : List String} (hC : Cn X G call k fa fs W) (i : Option Nat) (hz : Zc (.ref C) (some dd) oe) (ho : ∃ vs, oe.data = .fields vs) (hcc : fa.c c = some C) (hes : (c, ns) ∈ fs.e) :
    Cn (X.suite a ((a, oe) :: pn)) G call k { fa with x := i.map fun i => (i, a, dd, c) } { fs with calm := false } (fun _ _ _ _ => False) :=
  ⟨hC.nd, fun z => (Bool.false_ne_true z).elim, hC.units, fun z => (Bool.false_ne_true z).elim, fun u s' x => by obtain ⟨_, _, _, _, _, _, _, _, _, _, _, _, _, _, _, _, z⟩ := x; exact z.elim, hC.fns,
    fun x d h => let ⟨v, u, h1, h2, h3⟩ := hC.glob x d h; ⟨v, u, h1, h2, fun H A => (h3 H A).chg (by rfl)⟩, fun z => (Bool.false_ne_true z).elim, hC.blt, hC.dom, hC.two, hC.exc, hC.exq, hC.sub,
    fun j a' dd' c' e => (by
      cases i with
      | none => cases e
      | some i =>
        cases e
        exact ⟨rfl, X, oe, pn, C, rfl, hz, ho, hcc, ns, hes⟩), hC.wd⟩
theorem Fc.tr {X : Cx} {pn : List (Addr × PySem.Obj)} {xe : Value → Shared → Prop} (h : Fc X) (p : PassesOwn (model X.prog X.w) X.A X.env xe) : Fc (X.tr pn xe) := ⟨h.kind, h.fn, p, h.stk, h.frm⟩
theorem Fc.suite {X : Cx} {a : Addr} {pn : List (Addr × PySem.Obj)} (h : Fc X) : Fc (X.suite a pn) := ⟨h.kind, h.fn, PassesOwn.never, h.stk, h.frm⟩
theorem RelE.noX {K : PySem.W.Frag} {H : Hp} {A : List Addr} {ρ : Env} {σ : L2.St} (hx : fa.x = none) (r : RelE K fa H A ρ σ) {i : Nat} {d : D} (h : ρ[i]? = some (some d)) : ∃ v, σ[i]? = some (some v) ∧ Rep K fa H A v d [] := by
  obtain ⟨v, h1, h2⟩ := r.2 i d h
  refine ⟨v, h1, ?_⟩
  rcases h2 with ⟨c, ns, l, a, dd, _, e, _⟩ | h2
  · rw [hx] at e; cases e
  · exact h2
theorem RelE.into {K : PySem.W.Frag} {H : Hp} {A : List Addr} {ρ : Env} {σ : L2.St} (hx : fa.x = none) (r : RelE K fa H A ρ σ) (y : Option (Nat × Addr × Addr × String)) : RelE K { fa with x := y } H A ρ σ :=
  ⟨r.1, fun i d h => let ⟨v, h1, h2⟩ := r.noX hx h; ⟨v, h1, .inr (h2.chg (by rfl))⟩⟩
theorem RelE.setX {K : PySem.W.Frag} {H : Hp} {A : List Addr} {ρ : Env} {σ : L2.St} {i : Nat} {a dd : Addr} {c : String} {ns : List String} {l : List D} (hx : fa.x = none) (r : RelE K fa H A ρ σ) (x : XDict K fa H dd ns l) :
    RelE K { fa with x := some (i, a, dd, c) } H A (ρ.set i (some (.exn c ns l))) (σ.set i (some (.ref a))) := by
  refine ⟨by simp [r.1], fun j e hj => ?_⟩
  by_cases hij : i = j
  · subst hij
    have hi : i < ρ.length := by
      have := (List.getElem?_eq_some_iff.mp hj).1
      simpa using this
    rw [List.getElem?_set_self hi] at hj
    cases hj
    have hi' : i < σ.length := by rw [← r.1]; exact hi
    exact ⟨_, List.getElem?_set_self hi', .inl ⟨c, ns, l, a, dd, rfl, rfl, rfl, x.chg (by rfl)⟩⟩
  · rw [List.getElem?_set_ne hij] at hj
    rw [List.getElem?_set_ne hij]
    obtain ⟨v, h1, h2⟩ := r.noX hx hj
    exact ⟨v, h1, .inr (h2.chg (by rfl))⟩
theorem RelE.unX {K : PySem.W.Frag} {H : Hp} {A : List Addr} {ρ : Env} {σ : L2.St} {i : Nat} {y : Addr × Addr × String} (r : RelE K { fa with x := some (i, y) } H A ρ σ) : RelE K fa H A (ρ.set i none) (σ.set i none) := by
  refine ⟨by simp [r.1], fun j e hj => ?_⟩
  by_cases hij : i = j
  · subst hij
    have hi : i < ρ.length := by
      have := (List.getElem?_eq_some_iff.mp hj).1
      simpa using this
    rw [List.getElem?_set_self hi] at hj
    cases hj
  · rw [List.getElem?_set_ne hij] at hj
    rw [List.getElem?_set_ne hij]
    obtain ⟨v, h1, h2⟩ := r.2 j e hj
    refine ⟨v, h1, .inr ?_⟩
    rcases h2 with ⟨c, ns, l, a, dd, _, e, _⟩ | h2
    · exact absurd (Prod.mk.inj (Option.some.inj e)).1 hij
    · exact h2.chg (by rfl)
theorem RelE.unX0 {K : PySem.W.Frag} {H : Hp} {A : List Addr} {ρ : Env} {σ : L2.St} (r : RelE K { fa with x := none } H A ρ σ) : RelE K fa H A ρ σ :=
  ⟨r.1, fun j e hj => let ⟨v, h1, h2⟩ := r.noX rfl hj; ⟨v, h1, .inr (h2.chg (by rfl))⟩⟩
/-- the catch, by the interpreter's run of the body -/
theorem try_cases {K : PySem.W.Frag} {W Wc : WX} {A : List Addr} {H : Hp} {Q : Ends} {b h : Ss} {c : String} {i : Option Nat} {ρ : Env} {μ : Store} (p : PstS K fa W A H (exec G call (.tryc b c i h) ρ μ) Q)
    (hw : ∀ c' ns l ρ' μ', execs G call b ρ μ = .ex (.exn c' ns l) ρ' μ' → ∀ C' dd σ' H' A', Stp A H A' H' → RelM K fa H' A' μ' → RelE K fa H' A' ρ' σ' → fa.c c' = some C' → XDict K fa H' dd ns l →
      (if c' = c then PstS K fa W A H (kTryH G call i h (.exn c' ns l) ρ' μ') Q else PstS K fa W A H (.ex (.exn c' ns l) ρ' μ') Q) → Wc (.ref C') (some dd) σ' H') :
    PstS K fa Wc A H (execs G call b ρ μ) Q := by
  rw [exec_tryc] at p
  cases hr : execs G call b ρ μ with
  | nx _ _ => rw [hr] at p; exact p
  | br _ _ => rw [hr] at p; exact p
  | ct _ _ => rw [hr] at p; exact p
  | rt _ _ => rw [hr] at p; exact p
  | no => rw [hr] at p; exact p
  | ex e ρ' μ' =>
    rw [hr] at p
    intro cls dd σ' H' A' s m re x
    obtain ⟨c', ns, l, C', d, rfl, hc, rfl, rfl, xd⟩ := x
    refine hw c' ns l ρ' μ' hr C' d σ' H' A' s m re hc xd ?_
    rw [kTry_ex] at p
    split at p
    · rename_i e; rw [if_pos e]; exact p
    · rename_i e; rw [if_neg e]; exact p
theorem ps_tryD {X : Cx} {W : WX} {b h : Ss} {c : String} {ns : List String} {i : Option Nat} {x : Str} {n : Option Str} {body : List Stmt} {s0 : Stmt} {h' : List Stmt} {np pos' pos : Pos} (hC : Cn X G call k fa fs W) (hF : Fc X) (hcal : fs.calm = true) (hx : x = (c : Str)) (hg : glB X.env.scope x = true) (hp : plB x = true) (hes : (c, ns) ∈ fs.e)
    (hn : (i = none ∧ n = none) ∨ ∃ j y, i = some j ∧ n = some y ∧ X.N[j]? = some y ∧ X.env.scope.names.lookup y = some .local)
    (hb : ∀ (W : WX) (pn : List (Addr × PySem.Obj)) (xe : Value → Shared → Prop), Takes (X.tr pn xe) W → PassesOwn (model X.prog X.w) X.A X.env xe → PSs (X.tr pn xe) body (tSs X.K fa W G call b))
    (hh : ∀ (a dd C : Addr) (oe : PySem.Obj) (pn : List (Addr × PySem.Obj)), Zc (.ref C) (some dd) oe → (∃ vs, oe.data = .fields vs) → fa.c c = some C → PSs (X.suite a ((a, oe) :: pn)) (s0 :: h') (tSs X.K { fa with x := i.map fun i => (i, a, dd, c) } (fun _ _ _ _ => False) G call h)) :
    PS X (.Try body [.ExceptHandler (some (.Name x np)) n (s0 :: h') pos'] [] [] pos) (tS X.K fa W G call (.tryc b c i h)) := by
  obtain ⟨C, hc1, ok⟩ := hC.exc c ns hes
  subst hx
  have hfx : fa.x = none := by
    cases hq : fa.x with
    | none => rfl
    | some y =>
      obtain ⟨i, a, dd, c⟩ := y
      have := (hC.sx i a dd c hq).1
      rw [hcal] at this; cases this
  have nm : Names X (c : Str) (.ref C) := ⟨glB_ok hg, (plB_ok hp).1, .inl ok.at_⟩
  rcases hn with ⟨rfl, rfl⟩ | ⟨j, y, rfl, rfl, hj, hl⟩
  · let ts : Addr → Value → Option Addr → TS := fun a cls d D σ H => ∃ dd, d = some dd ∧ cls = .ref C ∧ tSs X.K { fa with x := none } (fun _ _ _ _ => False) G call h D σ H
    refine PS.imp (ps_try_only (ts := ts) (Wout := W) hF.stk hF.frm nm hC.takes hb fun a oe cls d pn hz ho => ⟨fun pins s σ H D I q => ?_⟩) fun D σ H q => ?_
    · obtain ⟨dd, rfl, rfl, q⟩ := q
      exact (hh a dd C oe pn hz ho hc1).run pins s σ H D I q
    · obtain ⟨A, ρ, μ, m, re, p⟩ := q
      refine ⟨A, ρ, μ, m, re, try_cases p fun c' ns l ρ' μ' hr C' dd σ' H' A' s m' re' hc' xd pp => ?_⟩
      refine ⟨_, hC.exq c _ c' C C' hes hc1 hc', fun hyes a ha => ?_, fun hno => ?_⟩
      · have hcc : c' = c := of_decide_eq_true hyes
        subst hcc
        rw [hc1] at hc'; cases hc'
        rw [if_pos rfl] at pp
        refine ⟨dd, rfl, rfl, A', ρ', μ', m'.chg (by rfl) (by rfl), re'.into hfx none, ?_⟩
        rw [kTryH_none] at pp
        cases he : execs G call h ρ' μ' with
        | nx ρ3 μ3 => rw [he] at pp; exact fun σ3 H3 A3 s3 m3 re3 => pp σ3 H3 A3 (s.trans s3) (m3.chg (by rfl) (by rfl)) re3.unX0
        | br ρ3 μ3 => rw [he] at pp; exact fun σ3 H3 A3 s3 m3 re3 => pp σ3 H3 A3 (s.trans s3) (m3.chg (by rfl) (by rfl)) re3.unX0
        | ct ρ3 μ3 => rw [he] at pp; exact fun σ3 H3 A3 s3 m3 re3 => pp σ3 H3 A3 (s.trans s3) (m3.chg (by rfl) (by rfl)) re3.unX0
        | rt d3 μ3 => rw [he] at pp; exact fun v3 H3 A3 F3 g3 => pp v3 H3 A3 F3 ((g3.chg (by rfl) (by rfl)).pre s)
        | no => rw [he] at pp; exact pp
        | ex e3 ρ3 μ3 => rw [he] at pp; exact pp.elim
      · have hcc : ¬ c' = c := of_decide_eq_false hno
        rw [if_neg hcc] at pp
        exact pp _ _ σ' H' A' s m' re' ⟨c', ns, l, C', dd, rfl, hc', rfl, rfl, xd⟩
  · let ts : Addr → Value → Option Addr → TS := fun a cls d D σ H => ∃ dd, d = some dd ∧ cls = .ref C ∧ tSs X.K { fa with x := some (j, a, dd, c) } (fun _ _ _ _ => False) G call h D σ H
    have hk : X.env.kindOf y = some .local := by
      show X.env.scope.names.lookup y = some .local
      exact hl
    refine PS.imp (ps_try_as (ts := ts) (Wout := W) hF.stk hF.frm hC.nd hj hk nm hC.takes hb fun a oe cls d pn hz ho => ⟨fun pins s σ H D I q => ?_⟩) fun D σ H q => ?_
    · obtain ⟨dd, rfl, rfl, q⟩ := q
      exact (hh a dd C oe pn hz ho hc1).run pins s σ H D I q
    · obtain ⟨A, ρ, μ, m, re, p⟩ := q
      refine ⟨A, ρ, μ, m, re, try_cases p fun c' ns l ρ' μ' hr C' dd σ' H' A' s m' re' hc' xd pp => ?_⟩
      refine ⟨_, hC.exq c _ c' C C' hes hc1 hc', fun hyes a ha => ?_, fun hno => ?_⟩
      · have hcc : c' = c := of_decide_eq_true hyes
        subst hcc
        rw [hc1] at hc'; cases hc'
        rw [if_pos rfl] at pp
        refine ⟨dd, rfl, rfl, A', ρ'.set j (some (.exn c' ns l)), μ', m'.chg (by rfl) (by rfl), re'.setX hfx xd, ?_⟩
        rw [kTryH_some] at pp
        cases he : execs G call h (ρ'.set j (some (.exn c' ns l))) μ' with
        | nx ρ3 μ3 => rw [he] at pp; exact fun σ3 H3 A3 s3 m3 re3 => pp _ H3 A3 (s.trans s3) (m3.chg (by rfl) (by rfl)) re3.unX
        | br ρ3 μ3 => rw [he] at pp; exact fun σ3 H3 A3 s3 m3 re3 => pp _ H3 A3 (s.trans s3) (m3.chg (by rfl) (by rfl)) re3.unX
        | ct ρ3 μ3 => rw [he] at pp; exact fun σ3 H3 A3 s3 m3 re3 => pp _ H3 A3 (s.trans s3) (m3.chg (by rfl) (by rfl)) re3.unX
        | rt d3 μ3 => rw [he] at pp; exact fun v3 H3 A3 F3 g3 => pp v3 H3 A3 F3 ((g3.chg (by rfl) (by rfl)).pre s)
        | no => rw [he] at pp; exact pp
        | ex e3 ρ3 μ3 => rw [he] at pp; exact pp.elim
      · have hcc : ¬ c' = c := of_decide_eq_false hno
        rw [if_neg hcc] at pp
        exact pp _ _ σ' H' A' s m' re' ⟨c', ns, l, C', dd, rfl, hc', rfl, rfl, xd⟩
end
end Mp
end SSndT
section SSnd14
/-! Snd14: every statement that is matched is sound. -/
namespace Mp
open PySem PySem.Spec PyProof.Rows L2

def noCompB : Expr → Bool
  | .ListComp .. => false
  | .SetComp .. => false
  | .DictComp .. => false
  | _ => true
theorem noComp_sw {e : Expr} {t : Option Expr} {l : Nat} {env : PySem.Env} (h : noCompB e = true) : swapsWith e t l env = pure false := by
  cases e <;> first | rfl | cases h
/-- the comprehension's list goes under the name at once -/
def swB (sc : Scope) (y : Str) (py : Pos) (scope : Scope) (pos : Pos) : Bool := decide (sc.names.lookup y = some .local) && (py.line == pos.line) && !(scope.names.any fun (n, k) => n == y && (k == .local || k == .cell))
def namesOn (sc : Scope) (line : Nat) (ts : List Expr) : List Str := ts.filterMap fun
    | .Name id pos => if sc.names.lookup id == some .local && pos.line == line then some id else none
    | _ => none
/-- the names that a tuple's parts are put under from the right; none at the outside: not told -/
def swP (sc : Scope) (ts vs : List Expr) : Option (Option (List Str)) :=
  if (!(ts.length == 2 || ts.length == 3) || vs.length != ts.length) = true then some none else
  if (vs.any fun | .Starred .. => true | _ => false) = true then some none else
  if ((namesOn sc ((ts.head?.map (·.pos.line)).getD 0) ts).length != ts.length || (namesOn sc ((ts.head?.map (·.pos.line)).getD 0) ts).eraseDups.length != (namesOn sc ((ts.head?.map (·.pos.line)).getD 0) ts).length) = true then some none else
  if vs.all (foldedForSure 8) = true then some none else
  if vs.all (constantsAlone 8) = true then none else some (some (namesOn sc ((ts.head?.map (·.pos.line)).getD 0) ts))
theorem swP_ok {sc : Scope} {ts vs : List Expr} {r : Option (List Str)} {k k2 : Nat} {p p2 : Pos} {env : PySem.Env} (hk : env.scope.kind = .function) (he : env.scope = sc) (h : swP sc ts vs = some r) : swappedStores [.Tuple ts k p] (.Tuple vs k2 p2) env = pure r := by
  subst he
  have hb : env.blockKind = .function := by unfold Env.blockKind; rw [hk]; rfl
  unfold swP at h
  unfold swappedStores
  simp only [hb]
  have e1 : (ScopeKind.function != ScopeKind.function) = false := rfl
  rw [e1, Bool.or_false]
  split at h
  · rename_i h1
    cases h
    rw [if_pos h1]
  · rename_i h1
    rw [if_neg h1]
    split at h
    · rename_i h2
      cases h
      exact if_pos h2
    · rename_i h2
      refine (if_neg h2).trans ?_
      split at h
      · rename_i h3
        cases h
        exact if_pos h3
      · rename_i h3
        refine (if_neg h3).trans ?_
        split at h
        · rename_i h4
          cases h
          exact if_pos h4
        · rename_i h4
          refine (if_neg h4).trans ?_
          split at h
          · cases h
          · rename_i h5
            cases h
            exact if_neg h5
def isLoc (sc : Scope) (x : Str) : Bool := decide (sc.names.lookup x = some .local)
def parB (sc : Scope) : Tg → List Expr → List Expr → List Str → Bool
  | .t [.v i, .v j], [.Name x _, .Name y _], [_, _], ns => decide (ns = [x, y]) && decide (i ≠ j) && isLoc sc x && isLoc sc y
  | .t [.v i, .v j, .v k], [.Name x _, .Name y _, .Name z _], [_, _, _], ns => decide (ns = [x, y, z]) && decide (i ≠ j) && decide (i ≠ k) && decide (j ≠ k) && isLoc sc x && isLoc sc y && isLoc sc z
  | _, _, _, _ => false
def notFrz : C → Bool
  | .frz _ => false
  | _ => true
def asgB (sc : Scope) (t : Tg) (e : C) : Expr → Expr → Bool
  | .Name y py, .ListComp _ _ _ _ => true
  | .Name _ _, .SetComp .. => false
  | .Name _ _, .DictComp .. => false
  | .Name _ _, _ => true
  | .Tuple ts _ _, .Tuple vs _ _ => match swP sc ts vs with
    | some none => true
    | some (some ns) => notFrz e && parB sc t ts vs ns
    | none => false
  | .Tuple .., _ => true
  | _, _ => false
/-- the name of an except clause -/
def trN (N : List Str) (sc : Scope) : Option Nat → Option Str → Bool
  | none, none => true
  | some i, some n => decide (N[i]? = some n) && decide (sc.names.lookup n = some .local)
  | _, _ => false
def stB (N : List Str) (fs : FS) (sc : Scope) (a i : C) : List Expr → Bool
  | [.Subscript a' i' _] => mE N fs sc a a' && mE N fs sc i i' && plainIxB i'
  | _ => false
mutual
def mS (N : List Str) (fs : FS) (sc : Scope) : S → Stmt → Bool
  | .expr e, .Expr e' _ => mE N fs sc e e' && noCompB e'
  | .set t e, .Assign [tg] e' _ => fs.calm && (mTg N sc t tg && mE N fs sc e e' && asgB sc t e tg e')
  | .aug i op e, .AugAssign (.Name x _) op' e' _ => fs.calm && (decide (N[i]? = some x) && locB sc x && decide (op' = opB op) && mE N fs sc e e')
  | .seti a i e, .Assign tgs e' _ => stB N fs sc a i tgs && mE N fs sc e e'
  | .dput a i e, .Assign tgs e' _ => stB N fs sc a i tgs && mE N fs sc e e'
  | .ret e, .Return (some e') _ => mE N fs sc e e'
  | .ret (.lit .non), .Return none _ => true
  | .ite c a b, .If c' a' b' _ => mE N fs sc c c' && mSs N fs sc a a' && mSs N fs sc b b'
  | .wh c b, .While c' b' [] _ => fs.calm && (mE N fs sc c c' && mSs N fs sc b b')
  | .for_ t it b, .For t' it' b' [] _ => fs.calm && (mTg N sc t t' && mI N fs sc it it' && setB it' && enOk it t && mSs N fs sc b b')
  | .brk, .Break _ => true
  | .cont, .Continue _ => true
  | .pass, .Pass _ => true
  | .dead, _ => true
  | .rais c ns l, .Raise (some (.Call (.Name x _) (e :: es) [] _)) none _ => fs.calm && (decide (x = (c : Str)) && glB sc x && plB x && decide ((c, ns) ∈ fs.e) && decide (ns.length ≤ 1000) && mEs N fs sc l (e :: es))
  | .tryc b c i h, .Try b' [.ExceptHandler (some (.Name x _)) n (s0 :: h') _] [] [] _ => fs.calm && (decide (x = (c : Str)) && glB sc x && plB x && (fs.e.any fun p => p.1 == c) && trN N sc i n && mSs N fs sc b b' && mSs N { fs with calm := false } sc h (s0 :: h'))
  | _, _ => false
def mSs (N : List Str) (fs : FS) (sc : Scope) : Ss → List Stmt → Bool
  | .nil, [] => true
  | .cons s r, st :: rest => mS N fs sc s st && mSs N fs sc r rest
  | _, _ => false
end
section
variable {fa : FA} {G : String → Option D} {call : String → List D → Store → Rs D} {k : Nat} {fs : FS}
theorem mI_pi {X : Cx} {W : WX} {it : C} {tg' it' : Expr} (hC : Cn X G call k fa fs W) (hcal : fs.calm = true) {tg : Tg} {sc0 : Scope} (hen : enOk it tg = true) (htg : mTg X.N sc0 tg tg' = true) (h6 : mI X.N fs X.env.scope it it' = true) : PI X tg' it' (tI G call X.K fa W it) := by
  unfold mI at h6
  rw [Bool.or_eq_true] at h6
  rcases h6 with h6 | h6
  · cases it with
    | rng1 a =>
      cases it' with
      | Call g es kws pos =>
        cases g with
        | Name x p =>
          match es, kws, h6 with
          | [a'], [], h6 =>
            have h6' : ((x = ("range" : Str) ∧ glB X.env.scope x = true) ∧ mE X.N fs X.env.scope a a' = true) ∧ starB a' = true := by simpa [mR] using h6
            exact pi_rng1D hC h6'.1.1.1 h6'.1.1.2 h6'.2 (sndE a hC h6'.1.2).1
          | [], _, h6 => simp [mR] at h6
          | [_], _ :: _, h6 => simp [mR] at h6
          | _ :: _ :: _, _, h6 => simp [mR] at h6
        | _ => simp [mR] at h6
      | _ => simp [mR] at h6
    | rng2 a b =>
      cases it' with
      | Call g es kws pos =>
        cases g with
        | Name x p =>
          match es, kws, h6 with
          | [a', b'], [], h6 =>
            have h6' : ((((x = ("range" : Str) ∧ glB X.env.scope x = true) ∧ mE X.N fs X.env.scope a a' = true) ∧ mE X.N fs X.env.scope b b' = true) ∧ starB a' = true) ∧ starB b' = true := by simpa [mR] using h6
            exact pi_rng2D hC h6'.1.1.1.1.1 h6'.1.1.1.1.2 h6'.1.2 h6'.2 (sndE a hC h6'.1.1.1.2).1 (sndE b hC h6'.1.1.2).1
          | [], _, h6 => simp [mR] at h6
          | [_], _, h6 => simp [mR] at h6
          | [_, _], _ :: _, h6 => simp [mR] at h6
          | _ :: _ :: _ :: _, _, h6 => simp [mR] at h6
        | _ => simp [mR] at h6
      | _ => simp [mR] at h6
    | enum a =>
      obtain ⟨x, p, a', pos, rfl, hx, hg, ha, s1⟩ := mR_enum h6
      obtain ⟨es, kk, tp, rfl⟩ := enOk_tup hen htg
      exact pi_enumD hC hx hg s1 (sndE a hC ha).1
    | zip a b =>
      obtain ⟨x, p, a', b', pos, rfl, hx, hg, ha, hb, s1, s2⟩ := mR_zip h6
      obtain ⟨es, kk, tp, rfl⟩ := enOk_tupZ hen htg
      exact pi_zipD hC hx hg s1 s2 (sndE a hC ha).1 (sndE b hC hb).1
    | rngs a b c =>
      obtain ⟨x, p, a', b', c', pos, rfl, hx, hg, ha, hb, hc, s1, s2, s3⟩ := mR_rngs h6
      exact pi_rngsD hC hx hg s1 s2 s3 (sndE a hC ha).1 (sndE b hC hb).1 (sndE c hC hc).1
    | rngd a b =>
      obtain ⟨x, p, a', b', kk, q1, q2, pos, rfl, hx, hg, ha, hb, s1, s2⟩ := mR_rngd h6
      exact pi_rngdD hC hx hg s1 s2 (sndE a hC ha).1 (sndE b hC hb).1
    | _ => cases it' <;> simp [mR] at h6
  · exact pi_any (sndE it hC h6).1
/-- name = [..], the list put down at once -/
theorem ps_setLc0 {X : Cx} {W : WX} {i : Nat} {y : Str} {py pos : Pos} {elt : Expr} {gens : List Comprehension} {scope : Scope} {lpos : Pos} (hC : Cn X G call k fa fs W) (hF : Fc X) (hi : X.N[i]? = some y) (hsw : swB X.env.scope y py scope lpos = true) : ∀ (e : C), mE X.N fs X.env.scope e (.ListComp elt gens scope lpos) = true →
    PS X (.Assign [.Name y py] (.ListComp elt gens scope lpos) pos) (fun D σ H => tD X.K fa W G call e σ H fun v H1 => D.nx (σ.set i (some v)) H1)
  | .lc e tg own it ifs, h => by
    have hsw' : (X.env.scope.names.lookup y = some .local ∧ (py.line == lpos.line) = true) ∧ (scope.names.any fun (n, k) => n == y && (k == .local || k == .cell)) = false := by
      unfold swB at hsw
      rw [Bool.and_eq_true, Bool.and_eq_true, Bool.not_eq_true', decide_eq_true_eq] at hsw
      exact hsw
    match gens, h with
    | [⟨tg', it', ifs', ia⟩], h =>
      have hia := mE_lcA h
      subst hia
      have hh : fs.calm = true ∧ (((((((blkC X.N X.env.scope scope (own.map fun p => ((p.1 : Str), p.2)) = true ∧ mE X.N fs (relS scope X.env.scope) e elt = true) ∧ mTg X.N scope tg tg' = true) ∧
          (∀ i ∈ tg.slots, i ∈ own.map (·.2))) ∧ setB it' = true) ∧ mI X.N fs X.env.scope it it' = true) ∧ enOk it tg = true) ∧ mEs X.N fs (relS scope X.env.scope) ifs ifs' = true) ∧ ifs'.length ≤ 1 := by
        have h0 : (fs.calm && (blkC X.N X.env.scope scope (own.map fun p => ((p.1 : Str), p.2)) && mE X.N fs (relS scope X.env.scope) e elt && mTg X.N scope tg tg' &&
          (tg.slots.all fun i => (own.map (·.2)).contains i) && setB it' && mI X.N fs X.env.scope it it' && enOk it tg && mEs X.N fs (relS scope X.env.scope) ifs ifs' && decide (ifs'.length ≤ 1))) = true := by rw [← mE_lc lpos]; exact h
        simp only [Bool.and_eq_true, List.all_eq_true, List.contains_iff_mem, decide_eq_true_eq] at h0
        exact h0
      obtain ⟨hcal, ⟨⟨⟨⟨⟨⟨⟨h1, h2⟩, h3⟩, h4⟩, h5⟩, h6⟩, hen⟩, h7⟩, h8⟩ := hh
      have hv : (own.map fun p => ((p.1 : Str), p.2)).map (·.2) = own.map (·.2) := by rw [List.map_map]; rfl
      have pl := ps_setLc (spos := pos) (i := i) (y := y) (py := py) (pos := lpos) (own := own.map fun p => ((p.1 : Str), p.2)) (g := tG X.K fa tg) (tt := tIfs X.K fa (fun _ _ _ _ => False) G call ifs) (te := tD X.K fa (fun _ _ _ _ => False) G call e) (hC.calm hcal) hC.nd hi hsw'.1.1
        (sw_true hF.kind hsw'.1.1 hsw'.1.2 hsw'.2) (mI_pi (W := W) hC hcal hen h3 h6) (blkOk_by h1)
        (fun s H C cl fp => pg_ok (X := X.blk s H scope (compEnvC scope cl C X.env) fp) (fa := fa) hC.nd (hC.calm hcal) (sc := scope) blk_kind tg tg' h3)
        (fun s H C cl fp => sndIfs ifs (X := X.blk s H scope (compEnvC scope cl C X.env) fp) (hC.blk hcal ..) h7 h8)
        (fun s H C cl fp => (sndE e (X := X.blk s H scope (compEnvC scope cl C X.env) fp) (hC.blk hcal ..) h2).1) (set_fold h5)
      rw [hv] at pl
      refine PS.imp pl fun Q σ H q => ?_
      exact lc_ok (tt := fun _ _ _ => True) (te := fun _ _ _ => True) h4 q
    | [], h => simp [mE] at h
    | _ :: _ :: _, h => simp [mE] at h
  | .frz a, h => by
    have ih := ps_setLc0 (pos := pos) hC hF hi hsw a (by simpa [mE] using h)
    refine PS.imp (ps_frz ih) fun Q σ H q => ?_
    obtain ⟨A, ρ, μ, m, re, p⟩ := q
    refine ⟨A, ρ, μ, m, re, Pst.mono (Pst.bnd .refl p) fun v H1 ⟨A1, d, μ1, F, g, p1⟩ => ?_⟩
    exact ⟨F, g.tracked, fun H2 L => p1 _ _ _ _ (g.frz L)⟩
  | .lit d, h => by cases d <;> simp [mE] at h
  | .var _, h | .glo _, h | .bin _ _ _, h | .neg _, h | .nt _, h | .band _, h | .bor _, h | .ite _ _ _, h | .cmp _ _ _, h | .cmp2 _ _ _ _ _, h | .call _ _, h | .callv _ _, h | .blt _ _, h | .isi _ _, h | .tup _, h | .lst _, h | .ix _ _, h
  | .sl1 _ _, h | .sl2 _ _, h | .sl3 _ _ _, h | .rngd _ _, h | .enum _, h | .zip _ _, h | .rngs _ _ _, h | .rev _, h | .rng1 _, h | .rng2 _ _, h | .lrng _ _, h | .xf _ _, h | .isx _ _ _, h => by simp [mE] at h
  | .u0 o, h => by cases o; simp [mE, m0] at h
  | .u1 o a, h => by cases o <;> simp [mE, m1] at h
  | .u2 o a b, h => by cases o <;> simp [mE, m2] at h
  | .u3 o a b c, h => by cases o <;> simp [mE, m3] at h
  | .meth m _ _, h => by cases m <;> simp [mE] at h
/-- name = [..] -/
theorem ps_setLcD {X : Cx} {W : WX} {e : C} {i : Nat} {y : Str} {py pos : Pos} {elt : Expr} {gens : List Comprehension} {scope : Scope} {lpos : Pos} (hC : Cn X G call k fa fs W) (hcal : fs.calm = true) (hF : Fc X) (hi : X.N[i]? = some y) (hyl : locB X.env.scope y = true) (h : mE X.N fs X.env.scope e (.ListComp elt gens scope lpos) = true) :
    PS X (.Assign [.Name y py] (.ListComp elt gens scope lpos) pos) (tS X.K fa W G call (.set (.v i) e)) := by
  have hb : X.env.blockKind = .function := by unfold Env.blockKind; rw [hF.kind]; rfl
  by_cases hsw : swB X.env.scope y py scope lpos = true
  · refine PS.imp (ps_setLc0 (pos := pos) hC hF hi hsw e h) fun Q σ H q => ?_
    obtain ⟨A, ρ, μ, m, re, q⟩ := q
    refine ⟨A, ρ, μ, m, re, (PstS.ou .refl re q).mono fun v H1 ⟨A1, d, μ1, F, g, p1⟩ => ?_⟩
    have g' := g.alloc
    exact p1 _ H1 (A1 ++ F) g'.stp g'.mem ((re.step g'.stp).set g'.rep)
  · have hs : swapsWith (.ListComp elt gens scope lpos) (some (.Name y py)) pos.line X.env = pure false := by
      have e0 : swB X.env.scope y py scope lpos = false := by simpa using hsw
      have e1 : ((X.env.kindOf y == some .local) = decide (X.env.scope.names.lookup y = some .local)) := by
        show (X.env.scope.names.lookup y == some .local) = _
        cases X.env.scope.names.lookup y with
        | none => rfl
        | some k => cases k <;> rfl
      unfold swapsWith
      simp only [hb]
      show pure ((ScopeKind.function == ScopeKind.function && X.env.kindOf y == some .local && py.line == lpos.line) && !(scope.names.any fun (n, k) => n == y && (k == .local || k == .cell))) = _
      rw [e1]
      unfold swB at e0
      rw [show (ScopeKind.function == ScopeKind.function) = true from rfl, Bool.true_and, e0]
    exact ps_setD (sndE e hC h).1 (pg_ok hC.nd (hC.calm hcal) (sc := X.env.scope) (fun x h => ⟨locB_ok h, .inl (hF.fn x)⟩) (.v i) (.Name y py) (by simp [mTg, hi, hyl])) hs (by rfl) (by rfl)
theorem tup_sole {ts : List Expr} {e : Expr} {k : Nat} {p : Pos} {l : Nat} {env : PySem.Env} : swapsWithSole [.Tuple ts k p] e l env = pure false := by cases e <;> rfl
theorem par_go {X : Cx} {W : WX} {l : Cs} {kt k2 : Nat} {pt p2 pos : Pos} (hC : Cn X G call k fa fs W) (hcal : fs.calm = true) : ∀ {t : Tg} {ts vs : List Expr} {ns : List Str}, mTg X.N X.env.scope t (.Tuple ts kt pt) = true → PA X vs (tL X.K fa W G call l) → swappedStores [.Tuple ts kt pt] (.Tuple vs k2 p2) X.env = pure (some ns) → parB X.env.scope t ts vs ns = true →
    PS X (.Assign [.Tuple ts kt pt] (.Tuple vs k2 p2) pos) (tS X.K fa W G call (.set t (.tup l))) := by
  intro t ts vs ns h1 pa hw h3
  unfold parB at h3
  split at h3
  · rename_i q1 q2 q3
    simp only [isLoc, Bool.and_eq_true, decide_eq_true_eq] at h3
    obtain ⟨⟨⟨rfl, hij⟩, hx⟩, hy⟩ := h3
    simp [mTg, mTgs] at h1
    exact ps_par2D (hC.calm hcal) hC.nd h1.2.1.1 h1.2.2.1 hij hx hy pa hw
  · simp only [isLoc, Bool.and_eq_true, decide_eq_true_eq] at h3
    obtain ⟨⟨⟨⟨⟨⟨rfl, hij⟩, hik⟩, hjk⟩, hx⟩, hy⟩, hz⟩ := h3
    simp [mTg, mTgs] at h1
    exact ps_par3D (hC.calm hcal) hC.nd h1.2.1.1 h1.2.2.1.1 h1.2.2.2.1 hij hik hjk hx hy hz pa hw
  · cases h3
theorem snd_set (t : Tg) (e : C) {X : Cx} {W : WX} {st : Stmt} (hC : Cn X G call k fa fs W) (hF : Fc X) (h : mS X.N fs X.env.scope (.set t e) st = true) : PS X st (tS X.K fa W G call (.set t e)) := by
    cases st with
    | Assign tgs e' pos =>
      match tgs, h with
      | [tg], h =>
        have h' : fs.calm = true ∧ (mTg X.N X.env.scope t tg = true ∧ mE X.N fs X.env.scope e e' = true) ∧ asgB X.env.scope t e tg e' = true := by simpa [mS] using h
        obtain ⟨hcal, ⟨h1, h2⟩, h3⟩ := h'
        have pe := (sndE e hC h2).1
        have pg := pg_ok (fa := fa) hC.nd (hC.calm hcal) (sc := X.env.scope) (fun x h => ⟨locB_ok h, .inl (hF.fn x)⟩) t tg h1
        cases tg with
        | Name y py =>
          by_cases hnc : noCompB e' = true
          · exact ps_setD pe pg (by show swapsWith e' (some (.Name y py)) pos.line X.env = _; exact noComp_sw hnc) (by rfl) (by rfl)
          · cases e' with
            | ListComp elt gens scope lpos =>
              cases t with
              | v i =>
                have h1' : X.N[i]? = some y ∧ locB X.env.scope y = true := by simpa [mTg] using h1
                exact ps_setLcD hC hcal hF h1'.1 h1'.2 h2
              | t l => simp [mTg] at h1
            | SetComp _ _ _ _ => simp [asgB] at h3
            | DictComp _ _ _ _ _ => simp [asgB] at h3
            | _ => simp [noCompB] at hnc
        | Tuple ts kt pt =>
          cases e' with
          | Tuple vs k2 p2 =>
            simp only [asgB] at h3
            cases hsw : swP X.env.scope ts vs with
            | none => rw [hsw] at h3; cases h3
            | some r =>
              rw [hsw] at h3
              have hw := swP_ok (k := kt) (k2 := k2) (p := pt) (p2 := p2) hF.kind rfl hsw
              cases r with
              | none => exact ps_setD pe pg tup_sole hw (by rfl)
              | some ns =>
                simp only at h3
                cases e with
                | tup l =>
                  have h2' : mEs X.N fs X.env.scope l vs = true ∧ l.len ≤ 1000 := by simpa [mE] using h2
                  have pa := sndL l hC h2'.1
                  exact par_go hC hcal h1 pa hw (by simpa [notFrz] using h3)
                | frz _ => simp [notFrz] at h3
                | u0 o => cases o; simp [mE, m0] at h2
                | u1 o a => cases o <;> simp [mE, m1] at h2
                | u2 o a b => cases o <;> simp [mE, m2] at h2
                | u3 o a b c => cases o <;> simp [mE, m3] at h2
                | _ => simp [mE] at h2
          | _ => exact ps_setD pe pg tup_sole (by rfl) (by rfl)
        | _ => cases t <;> simp [mTg] at h1
      | [], h => simp [mS] at h
      | _ :: _ :: _, h => simp [mS] at h
    | _ => simp [mS] at h
theorem snd_seti (a i e : C) {X : Cx} {W : WX} {st : Stmt} (hC : Cn X G call k fa fs W) (hF : Fc X) (h : mS X.N fs X.env.scope (.seti a i e) st = true) : PS X st (tS X.K fa W G call (.seti a i e)) := by
  cases st with
  | Assign tgs e' pos =>
    have h' : stB X.N fs X.env.scope a i tgs = true ∧ mE X.N fs X.env.scope e e' = true := by simpa [mS] using h
    obtain ⟨h1, h2⟩ := h'
    unfold stB at h1
    split at h1
    · simp only [Bool.and_eq_true] at h1
      exact ps_setiD (sndE e hC h2).1 (sndE a hC h1.1.1).1 (sndE i hC h1.1.2).1 h1.2
    · cases h1
  | _ => simp [mS] at h
theorem snd_dput (a i e : C) {X : Cx} {W : WX} {st : Stmt} (hC : Cn X G call k fa fs W) (hF : Fc X) (h : mS X.N fs X.env.scope (.dput a i e) st = true) : PS X st (tS X.K fa W G call (.dput a i e)) := by
  cases st with
  | Assign tgs e' pos =>
    have h' : stB X.N fs X.env.scope a i tgs = true ∧ mE X.N fs X.env.scope e e' = true := by simpa [mS] using h
    obtain ⟨h1, h2⟩ := h'
    unfold stB at h1
    split at h1
    · simp only [Bool.and_eq_true] at h1
      exact ps_dputD hC.wd hC.units' (sndE e hC h2).1 (sndE a hC h1.1.1).1 (sndE i hC h1.1.2).1
    · cases h1
  | _ => simp [mS] at h
theorem snd_aug (i : Nat) (op : BinK) (e : C) {X : Cx} {W : WX} {st : Stmt} (hC : Cn X G call k fa fs W) (hF : Fc X) (h : mS X.N fs X.env.scope (.aug i op e) st = true) : PS X st (tS X.K fa W G call (.aug i op e)) := by
    cases st with
    | AugAssign tg op' e' pos =>
      cases tg with
      | Name x px =>
        have h' : fs.calm = true ∧ ((X.N[i]? = some x ∧ locB X.env.scope x = true) ∧ op' = opB op) ∧ mE X.N fs X.env.scope e e' = true := by simpa [mS] using h
        obtain ⟨hcal, ⟨⟨h1, h2⟩, rfl⟩, h3⟩ := h'
        exact ps_augD hC.nd h1 (locB_ok h2) (sndE e hC h3).1 (.inl (hF.fn x))
      | _ => simp [mS] at h
    | _ => simp [mS] at h
theorem snd_ret (e : C) {X : Cx} {W : WX} {st : Stmt} (hC : Cn X G call k fa fs W) (hF : Fc X) (h : mS X.N fs X.env.scope (.ret e) st = true) : PS X st (tS X.K fa W G call (.ret e)) := by
    cases st with
    | Return v pos =>
      cases v with
      | some e' => exact ps_retD (sndE e hC (by simpa [mS] using h)).1
      | none =>
        cases e with
        | lit d => cases d <;> first | exact ps_retND | simp [mS] at h
        | _ => simp [mS] at h
    | _ => simp [mS] at h
theorem snd_expr (e : C) {X : Cx} {W : WX} {st : Stmt} (hC : Cn X G call k fa fs W) (hF : Fc X) (h : mS X.N fs X.env.scope (.expr e) st = true) : PS X st (tS X.K fa W G call (.expr e)) := by
    cases st with
    | Expr e' pos =>
      have h' : mE X.N fs X.env.scope e e' = true ∧ noCompB e' = true := by simpa [mS] using h
      exact ps_exprD (sndE e hC h'.1).1 (noComp_sw h'.2)
    | _ => simp [mS] at h
theorem mS_rais {N : List Str} {sc : Scope} {c : String} {ns : List String} {l : Cs} {st : Stmt} (h : mS N fs sc (.rais c ns l) st = true) :
    ∃ (x : Str) (p : Pos) (e : Expr) (es : List Expr) (q pos : Pos), st = .Raise (some (.Call (.Name x p) (e :: es) [] q)) none pos ∧ fs.calm = true ∧ x = (c : Str) ∧ glB sc x = true ∧ plB x = true ∧ (c, ns) ∈ fs.e ∧ ns.length ≤ 1000 ∧ mEs N fs sc l (e :: es) = true := by
  unfold mS at h
  split at h
  all_goals first
    | (rename_i z; cases z; done)
    | (cases h; done)
    | skip
  all_goals
    rename_i z
    cases z
    simp only [Bool.and_eq_true, decide_eq_true_eq] at h
    exact ⟨_, _, _, _, _, _, rfl, h.1, h.2.1.1.1.1.1, h.2.1.1.1.1.2, h.2.1.1.1.2, h.2.1.1.2, h.2.1.2, h.2.2⟩
theorem mS_tryc {N : List Str} {sc : Scope} {b : Ss} {c : String} {i : Option Nat} {hd : Ss} {st : Stmt} (h : mS N fs sc (.tryc b c i hd) st = true) :
    ∃ (b' : List Stmt) (x : Str) (p : Pos) (n : Option Str) (s0 : Stmt) (h' : List Stmt) (pos' pos : Pos), st = .Try b' [.ExceptHandler (some (.Name x p)) n (s0 :: h') pos'] [] [] pos ∧ fs.calm = true ∧ x = (c : Str) ∧ glB sc x = true ∧ plB x = true ∧
      ∃ ns, (c, ns) ∈ fs.e ∧ ((i = none ∧ n = none) ∨ ∃ j y, i = some j ∧ n = some y ∧ N[j]? = some y ∧ sc.names.lookup y = some .local) ∧ mSs N fs sc b b' = true ∧ mSs N { fs with calm := false } sc hd (s0 :: h') = true := by
  unfold mS at h
  split at h
  all_goals first
    | (rename_i z; cases z; done)
    | (cases h; done)
    | skip
  all_goals
    rename_i z
    cases z
    simp only [Bool.and_eq_true, decide_eq_true_eq, List.any_eq_true, beq_iff_eq] at h
    obtain ⟨hcal, ⟨⟨⟨⟨⟨h1, h2⟩, h3⟩, ⟨⟨c', ns⟩, h4, h5⟩⟩, h6⟩, h7⟩, h8⟩ := h
    subst h5
    refine ⟨_, _, _, _, _, _, _, _, rfl, hcal, h1, h2, h3, ns, h4, ?_, h7, h8⟩
    unfold trN at h6
    split at h6
    · exact .inl ⟨rfl, rfl⟩
    · rename_i j y
      simp only [Bool.and_eq_true, decide_eq_true_eq] at h6
      exact .inr ⟨j, y, rfl, rfl, h6.1, h6.2⟩
    · cases h6
mutual
theorem sndS : ∀ (c : S) {fa : FA} {fs : FS} {X : Cx} {W : WX} {st : Stmt}, Cn X G call k fa fs W → Fc X → mS X.N fs X.env.scope c st = true → PS X st (tS X.K fa W G call c)
  | .expr e, fa, fs, X, W, st, hC, hF, h => snd_expr e hC hF h
  | .set t e, fa, fs, X, W, st, hC, hF, h => snd_set t e hC hF h
  | .aug i op e, fa, fs, X, W, st, hC, hF, h => snd_aug i op e hC hF h
  | .seti a i e, fa, fs, X, W, st, hC, hF, h => snd_seti a i e hC hF h
  | .dput a i e, fa, fs, X, W, st, hC, hF, h => snd_dput a i e hC hF h
  | .ret e, fa, fs, X, W, st, hC, hF, h => snd_ret e hC hF h
  | .ite c a b, fa, fs, X, W, st, hC, hF, h => by
    cases st with
    | If c' a' b' pos =>
      have h' : (mE X.N fs X.env.scope c c' = true ∧ mSs X.N fs X.env.scope a a' = true) ∧ mSs X.N fs X.env.scope b b' = true := by simpa [mS] using h
      exact ps_ifD (sndE c hC h'.1.1).2 (sndSs a hC hF h'.1.2) (sndSs b hC hF h'.2)
    | _ => simp [mS] at h
  | .wh c b, fa, fs, X, W, st, hC, hF, h => by
    cases st with
    | While c' b' o pos =>
      cases o with
      | nil =>
        have hh : fs.calm = true ∧ mE X.N fs X.env.scope c c' = true ∧ mSs X.N fs X.env.scope b b' = true := by simpa [mS] using h
        have h' := hh.2
        exact ps_whileD hF.pass (sndE c hC h'.1).2 (sndSs b hC hF h'.2)
      | cons _ _ => simp [mS] at h
    | _ => simp [mS] at h
  | .for_ t it b, fa, fs, X, W, st, hC, hF, h => by
    cases st with
    | For t' it' b' o pos =>
      cases o with
      | nil =>
        have hh : fs.calm = true ∧ (((mTg X.N X.env.scope t t' = true ∧ mI X.N fs X.env.scope it it' = true) ∧ setB it' = true) ∧ enOk it t = true) ∧ mSs X.N fs X.env.scope b b' = true := by simpa [mS] using h
        have hcal := hh.1
        have h' := hh.2
        exact ps_forD hF.pass (hC.calm hcal) (mI_pi hC hcal h'.1.2 h'.1.1.1.1 h'.1.1.1.2) (pg_ok hC.nd (hC.calm hcal) (sc := X.env.scope) (fun x h => ⟨locB_ok h, .inl (hF.fn x)⟩) t t' h'.1.1.1.1) (sndSs b hC hF h'.2) (set_fold h'.1.1.2)
      | cons _ _ => simp [mS] at h
    | _ => simp [mS] at h
  | .brk, fa, fs, X, W, st, hC, hF, h => by
    cases st with
    | Break _ => exact ps_brkD
    | _ => simp [mS] at h
  | .cont, fa, fs, X, W, st, hC, hF, h => by
    cases st with
    | Continue _ => exact ps_contD
    | _ => simp [mS] at h
  | .pass, fa, fs, X, W, st, hC, hF, h => by
    cases st with
    | Pass _ => exact ps_passD
    | _ => simp [mS] at h
  | .dead, fa, fs, X, W, st, hC, hF, h => PS.imp ps_never fun Q σ H q => by
    obtain ⟨A, ρ, μ, m, re, p⟩ := q
    exact p.elim
  | .rais c ns l, fa, fs, X, W, st, hC, hF, h => by
    obtain ⟨x, p, e, es, q, pos, rfl, hcal, h1, h2, h3, h4, h5, h6⟩ := mS_rais h
    exact ps_raisD hC hcal h1 h2 h3 h4 h5 (mEs_len h6).2 (sndL l hC h6)
  | .tryc b c i hd, fa, fs, X, W, st, hC, hF, h => by
    obtain ⟨b', x, p, n, s0, h', pos', pos, rfl, hcal, h1, h2, h3, ns, h4, h5, h6, h7⟩ := mS_tryc h
    refine ps_tryD hC hF hcal h1 h2 h3 h4 h5 (fun W' pn xe tk ps => sndSs b (X := X.tr pn xe) (hC.tr hcal tk) (hF.tr ps) h6) fun a dd C oe pn hz ho hcc => ?_
    exact sndSs hd (X := X.suite a ((a, oe) :: pn)) (hC.suite i hz ho hcc h4) hF.suite h7
theorem sndSs : ∀ (c : Ss) {fa : FA} {fs : FS} {X : Cx} {W : WX} {sts : List Stmt}, Cn X G call k fa fs W → Fc X → mSs X.N fs X.env.scope c sts = true → PSs X sts (tSs X.K fa W G call c)
  | .nil, fa, fs, X, W, [], _, _, _ => pss_nilD
  | .nil, fa, fs, X, W, _ :: _, _, _, h => by simp [mSs] at h
  | .cons s r, fa, fs, X, W, [], _, _, h => by simp [mSs] at h
  | .cons s r, fa, fs, X, W, st :: rest, hC, hF, h => by
    have h' : mS X.N fs X.env.scope s st = true ∧ mSs X.N fs X.env.scope r rest = true := by simpa [mSs] using h
    exact pss_consD (sndS s hC hF h'.1) (sndSs r hC hF h'.2)
end
end
end Mp
end SSnd14
section SSnd15
/-! Snd15: every def that is matched keeps the interpreter's promise. -/
namespace Mp
open PySem PySem.Spec PyProof.Rows L2

def nm (l : List String) : List Str := l.map Str.ofString
def FnF.ps (F : Fn) : List Str := nm (F.names.take F.np)
structure FnF (K : PySem.W.Frag) (fa : FA) (fs : FS) (F : Fn) (a : Addr) (fd : FuncData) (qual : Str) (st : Stmt) : Prop where
  ad : fa.f F.name = some a
  fu : Fun K (F.name : Str) qual st a fd
  sc : FnScope (nm F.names) (FnF.ps F) (defScope st)
  bd : Binds K fd (FnF.ps F) []
  mt : mSs (nm F.names) fs (defScope st) F.body (defBody st) = true
  np : F.np ≤ F.names.length
structure PrF (Pg : Prog) (K : PySem.W.Frag) (mg : Str → Option Value) (fa : FA) (fs : FS) : Prop where
  fn : ∀ f F, Pg.fn f = some F → ∃ a fd qual st, FnF K fa fs F a fd qual st
  at_ : ∀ x a, fa.f x = some a → mg (x : Str) = some (.ref a)
  glob : ∀ x d, Pg.G x = some d → ∃ v u, mg (x : Str) = some u ∧ RelV v u ∧ ∀ H A, Rep K fa H A v d []
  blt : ∀ b ∈ bnames, mg (b : Str) = none
  fsn : ∀ f ∈ fs.f, ∃ F, Pg.fn f = some F
  dom : ∀ f a, fa.f f = some a → f ∈ fs.f
  x0 : fa.x = none
  calm : fs.calm = true
  exc : ∀ (P : Program) (w : World) (base : Heap) c ns, (c, ns) ∈ fs.e → ∃ C, fa.c c = some C ∧ ExcOk P w K mg base C c ns
  exq : ∀ c ns c' C C', (c, ns) ∈ fs.e → fa.c c = some C → fa.c c' = some C' → PySem.W.exmOne K (.ref C') (.ref C) = some (decide (c' = c))
  sub : ∀ c y, (c, y) ∈ fs.s → ∃ C, fa.c c = some C ∧ SubOk K mg C y
theorem Prog.fn_name {P : Prog} {f : String} {F : Fn} (h : P.fn f = some F) : F.name = f := by
  have := List.find?_some h
  simpa using this
section
variable {Pg : Prog} {P : Program} {w : World} {K : PySem.W.Frag} {mg : Str → Option Value} {base : Heap} {fa : FA} {fs : FS}
theorem RelE.start {H : Hp} {A : List Addr} {vs : List V} {ds : List D} (n : Nat) (r : Reps K fa H A vs ds []) : RelE K fa H A (ds.map some ++ List.replicate n none) (vs.map some ++ List.replicate n none) := by
  refine ⟨by simp [r.length], fun i d h => ?_⟩
  by_cases hi : i < ds.length
  · rw [List.getElem?_append_left (by simpa using hi)] at h
    rw [List.getElem?_map] at h
    cases hd : ds[i]? with
    | none => rw [hd] at h; cases h
    | some d' =>
      rw [hd] at h
      cases h
      obtain ⟨v, F1, h1, h2, h3⟩ := r.get hd
      have e := List.sublist_nil.mp h3
      subst e
      refine ⟨v, ?_, .inr h2⟩
      rw [List.getElem?_append_left (by simpa [r.length] using hi), List.getElem?_map, h1]
      rfl
  · rw [List.getElem?_append_right (by simpa using hi)] at h
    rw [List.getElem?_replicate] at h
    split at h <;> cases h
theorem PrF.chg {w : Option World} (h : PrF Pg K mg fa fs) : PrF Pg K mg { fa with w := w } fs :=
  ⟨fun f F hf => let ⟨a, fd, qual, st, x⟩ := h.fn f F hf; ⟨a, fd, qual, st, ⟨x.ad, x.fu, x.sc, x.bd, x.mt, x.np⟩⟩, h.at_, fun x d e => let ⟨v, u, h1, h2, h3⟩ := h.glob x d e; ⟨v, u, h1, h2, fun H A => (h3 H A).chg (by rfl)⟩, h.blt, h.fsn, h.dom, h.x0, h.calm, h.exc, h.exq, h.sub⟩
theorem FnF.chg {w : Option World} {F : Fn} {a : Addr} {fd : FuncData} {qual : Str} {st : Stmt} (x : FnF K fa fs F a fd qual st) : FnF K { fa with w := w } fs F a fd qual st := ⟨x.ad, x.fu, x.sc, x.bd, x.mt, x.np⟩
theorem fns_ok (hp : PrF Pg K mg fa fs) (hwd : fa.w = some w) : ∀ (k : Nat) (f : String) (F : Fn) (a : Addr) (fd : FuncData) (qual : Str) (st : Stmt), Pg.fn f = some F → FnF K fa fs F a fd qual st →
    FnOk P w K mg base (L2.CX P w) (k + 2) a fd (FnF.ps F) (spI K fa (FnF.ps F).length (callN Pg k f))
  | 0, f, F, a, fd, qual, st, hf, hF => by
    have no : ∀ vs H Q E, ¬ spI K fa (FnF.ps F).length (callN Pg 0 f) vs H Q E := by
      intro vs H Q E h
      obtain ⟨A, μ, ds, _, _, _, h⟩ := h
      simp [callN] at h
    exact ⟨fun vs H Q E h => (no _ _ _ _ h).elim, fun _ _ _ _ _ _ _ _ _ _ _ _ _ h => (no _ _ _ _ h).elim⟩
  | k + 1, f, F, a, fd, qual, st, hf, hF => by
    refine hF.fu.okX hF.sc (fun vs H Q E h => ?_) fun cdv A0 outer s H vs Q E hr h => ?_
    · obtain ⟨A, μ, ds, _, r, hl, _⟩ := h
      rw [r.length]; exact hl
    · obtain ⟨A, μ, ds, m, r, hl, h⟩ := h
      refine ⟨tSs K fa (fun cls d _ H => E cls d H) Pg.G (callN Pg k) F.body, ?_, A, ds.map some ++ List.replicate (F.names.length - F.np) none, μ, m, ?_, ?_⟩
      · refine sndSs (k := k + 2) (fs := fs) F.body (X := cxOf (L2.CX P w) P w K mg base (nm F.names) qual (defScope st) a cdv A0 outer s H E) ⟨hF.sc.nd, fun _ => rfl, (show _ from (by have := hr.un; omega : (A0.deeper (envOfC qual (defScope st) s.heap.objs.size a cdv)).units + 200 < cLine)), fun _ => hr, takes_of rfl rfl rfl rfl, hp.at_, hp.glob, fun _ g hg => ?_, hp.blt, hp.dom, by omega, hp.exc P w base, hp.exq, hp.sub, (fun i a dd c e => by rw [hp.x0] at e; cases e), hwd⟩ ⟨hF.sc.kind, fun _ => rfl, passes_of rfl, rfl, rfl⟩ hF.mt
        obtain ⟨F', hF'⟩ := hp.fsn g hg
        obtain ⟨a', fd', qual', st', h'⟩ := hp.fn g F' hF'
        refine ⟨a', fd', FnF.ps F', ?_, h'.fu.kp, h'.bd, fns_ok hp hwd k g F' a' fd' qual' st' hF' h', fun ds μ hn => ?_⟩
        · rw [← Prog.fn_name hF']; exact h'.ad
        · cases k with
          | zero => exact absurd rfl hn
          | succ k =>
            simp only [callN, hF'] at hn
            split at hn
            · rename_i hc
              rw [hc.1]
              simp [FnF.ps, nm, List.length_take, Nat.min_eq_left h'.np]
            · exact absurd rfl hn
      · have hn : (FnF.ps F).length = F.np := by simp [FnF.ps, nm, List.length_take, Nat.min_eq_left hF.np]
        have e : L2.start (nm F.names) vs = vs.map some ++ List.replicate (F.names.length - F.np) none := by
          unfold L2.start
          rw [r.length, hl, hn]
          simp [nm]
        rw [e]
        exact RelE.start _ r
      · have hc : ds.length = F.np ∧ D.stills ds = true := ⟨by rw [hl]; simp [FnF.ps, nm, List.length_take, Nat.min_eq_left hF.np], r.isStill rfl⟩
        simp only [callN, hf] at h
        rw [if_pos hc] at h
        cases hx : execs Pg.G (callN Pg k) F.body (ds.map some ++ List.replicate (F.names.length - F.np) none) μ with
        | no => rw [hx] at h; exact h
        | br ρ' μ' => rw [hx] at h; exact h.elim
        | ct ρ' μ' => rw [hx] at h; exact h.elim
        | nx ρ' μ' =>
          rw [hx] at h
          simp only at h
          intro σ' H' A' s' m' re'
          obtain ⟨d', μ'', A'', F', e, g⟩ := fin_ok (R := fin μ .non μ') rfl m (⟨s', m', .non, List.nodup_nil, by simp⟩ : Good K fa A H μ' .non .non H' A' []) (let ⟨N, e, _⟩ := s'.pre; ⟨N, e⟩) ⟨[], by simp⟩
          rw [e] at h
          have nn : V.non = V.non := rfl
          exact h .non H' A'' F' g
        | rt d μ' =>
          rw [hx] at h
          simp only at h
          intro v H' A' F0 g0
          obtain ⟨d', μ'', A'', F', e, g⟩ := fin_ok (R := fin μ d μ') rfl m g0 (let ⟨N, e, _⟩ := g0.stp.pre; ⟨N, e⟩) ⟨[], by simp⟩
          rw [e] at h
          exact h v H' A'' F' g
        | ex e ρ' μ' =>
          rw [hx] at h
          simp only at h
          intro cls dd σ' H' A' s' m' re' x
          obtain ⟨μ'', A'', e1, s2, m2⟩ := finX_ok (R := finX μ e μ') rfl m s' m' (let ⟨N, e, _⟩ := s'.pre; ⟨N, e⟩) ⟨[], by simp⟩
          rw [e1] at h
          exact h cls dd H' A'' s2 m2 x
end
end Mp
end SSnd15
section SSnd16
/-! Snd16: from the interpreter's answer to a law's promise. -/
namespace Mp
open PySem PySem.Spec PyProof.Rows L2

def tabf (tab : List (String × Addr)) (x : String) : Option Addr := tab.lookup x
theorem lookup_mem {α β : Type} [BEq α] [LawfulBEq α] {l : List (α × β)} {x : α} {b : β} (h : l.lookup x = some b) : (x, b) ∈ l := by
  induction l with
  | nil => cases h
  | cons p l ih =>
    rw [List.lookup_cons] at h
    split at h
    · rename_i e
      have e := eq_of_beq e
      cases h
      subst e
      exact List.mem_cons_self
    · exact List.mem_cons_of_mem _ (ih h)
section
variable {Pg : Prog} {P : Program} {w : World} {K : PySem.W.Frag} {mg : Str → Option Value} {base : Heap} {tab : List (String × Addr)} {fs : FS}
def fa0 (tab ctab : List (String × Addr)) : FA := ⟨tabf tab, tabf ctab, none, none⟩
theorem PrF.by {ctab : List (String × Addr)} (hfn : ∀ F ∈ Pg.fns, ∃ a fd qual st, FnF K (fa0 tab ctab) fs F a fd qual st) (hat : ∀ p ∈ tab, mg (p.1 : Str) = some (.ref p.2)) (hb : ∀ b ∈ bnames, mg (b : Str) = none)
    (hc : ∀ p ∈ Pg.consts, ∃ v u, mg (p.1 : Str) = some u ∧ RelV v u ∧ ∀ H A, Rep K (fa0 tab ctab) H A v p.2 []) (hs : ∀ f ∈ fs.f, ∃ F, Pg.fn f = some F) (hd : ∀ p ∈ tab, p.1 ∈ fs.f) (hcal : fs.calm = true)
    (hex : ∀ (P : Program) (w : World) (base : Heap), ∀ q ∈ fs.e, ∃ C, tabf ctab q.1 = some C ∧ ExcOk P w K mg base C q.1 q.2)
    (hxq : ∀ q ∈ fs.e, ∀ p ∈ ctab, ∀ C, tabf ctab q.1 = some C → PySem.W.exmOne K (.ref p.2) (.ref C) = some (decide (p.1 = q.1)))
    (hsub : ∀ q ∈ fs.s, ∃ C, tabf ctab q.1 = some C ∧ SubOk K mg C q.2) : PrF Pg K mg (fa0 tab ctab) fs := by
  have at_ : ∀ x a, tabf tab x = some a → mg (x : Str) = some (.ref a) := fun x a h => hat _ (lookup_mem h)
  refine ⟨fun f F h => hfn F (List.mem_of_find?_eq_some h), at_, fun x d h => ?_, hb, hs, fun f a h => hd _ (lookup_mem h), rfl, hcal, fun P w base c ns h => hex P w base _ h, fun c ns c' C C' h1 h2 h3 => hxq _ h1 _ (lookup_mem h3) C h2, fun c y h => hsub _ h⟩
  unfold Prog.G at h
  split at h
  · rename_i d' hl
    cases h
    exact hc _ (lookup_mem hl)
  · rw [Option.map_eq_some_iff] at h
    obtain ⟨F, h1, h2⟩ := h
    subst h2
    obtain ⟨a, fd, qual, st, hF⟩ := hfn F (List.mem_of_find?_eq_some h1)
    have e := Prog.fn_name h1
    refine ⟨.ref a, .ref a, at_ x a (by rw [← e]; exact hF.ad), rfl, fun H A => .fn hF.ad⟩
def spL (K : PySem.W.Frag) (Pg : Prog) (k : Nat) : Sp := fun vs H Q E => ∀ fa, spI K fa 1 (callN Pg k "law") vs H Q E
theorem law_ok {F : Fn} {a : Addr} {fd : FuncData} {qual x : Str} {st : Stmt} {k : Nat} {fa : FA} (hp : PrF Pg K mg fa fs) (hf : Pg.fn "law" = some F) (hF : FnF K fa fs F a fd qual st) (hx : FnF.ps F = [x]) :
    FnOk P w K mg base (L2.CX P w) (k + 2) a fd [x] (spL K Pg k) := by
  have h := fns_ok (P := P) (w := w) (base := base) (hp.chg (w := some w)) rfl k "law" F a fd qual st hf hF.chg
  rw [hx] at h
  exact h.imp fun vs H Q E q => q _
theorem reps_ints {fa : FA} {H : Hp} {A : List Addr} : ∀ ns : List Int, Reps K fa H A (ns.map V.int) (ns.map D.int) []
  | [] => .nil
  | n :: ns => Reps.cons (F := []) (F' := []) (.int n) (reps_ints ns)
theorem spL_start {k : Nat} {H : Hp} {a : Addr} {ns : List Int} {μ' : Store} (h : callN Pg k "law" [.fz (ns.map .int)] [] = .ok (.bl true) μ') (hO : Only H) (hS : SqL K H a (ns.map V.int)) : spL K Pg k [.ref a] H (fun v _ => v = .bl true) fun _ _ _ => False := by
  intro fa
  refine ⟨[], [], [.fz (ns.map .int)], ⟨rfl, fun i o h => by simp at h, List.nodup_nil⟩, Reps.one (.fz hS ?_ (reps_ints ns)), rfl, ?_⟩
  · rcases hS with hS | hS
    · rcases hS with hS | ⟨o, hS⟩
      · rcases hO a with e | ⟨o, xs, e⟩
        · rw [e] at hS; cases hS
        · rw [e] at hS; cases hS
      · exact .inl ⟨o, hS⟩
    · exact .inr fun H' => .inr hS
  · rw [h]
    intro v H' A' F g
    have r := g.rep
    cases r
    rfl
theorem noX {P : Program} (w : World) (H : Hp) (s : Shared) (e : Value) (s' : Shared) (h : L2.CX P w [] H s (fun _ _ _ => False) e s') : False := by
  obtain ⟨_, _, _, _, _, _, _, _, _, _, _, _, z⟩ := h
  exact z
/-- THE END: a law whose run, told by the interpreter, is true at every script -/
theorem walk_ofM {l : PySem.W.OpenLaw} {n k : Nat} {q : Program} {loose : List Str} {XP : (Str → Option Value) → Heap → Prop} {YP : World → Heap → Prop} {d : DefRec} {K : Params → PySem.W.Frag} {x : Str} {Pg : Prog}
    (hn : l.most = some n) (hn2 : n ≤ sizeLine) (hdf : d.params.defaults = []) (hr : Room (k + 2) callerA) (hY : ∀ (w : World) (h : Heap), YP w h → (K w.params).In h)
    (hl : ∀ ns : List Int, ns.length ≤ n → ∃ μ, callN Pg k "law" [.fz (ns.map .int)] [] = .ok (.bl true) μ)
    (F : ∀ (w : World) (mg : Str → Option Value) (fa : Addr) (h : Heap), (K w.params).In h → h.Ns mainGlobals mg → mg d.name = some (.ref fa) →
      ∃ fd : FuncData, (∀ (s : Shared) (u : Value), BindsTo s fd ⟨[u], []⟩ [(x, u)]) ∧ ∀ base : Heap, (K w.params).In base → base.Ns mainGlobals mg → FnOk l.prog w (K w.params) mg base (L2.CX l.prog w) (k + 2) fa fd [x] (spL (K w.params) Pg k)) :
    PySem.W.WalkO q loose XP YP l.row.toRowW d [] (fun f vs => PySem.call f vs) :=
  L2.walk_of (K := K) (CX := fun w => L2.CX l.prog w) (sp := fun w => spL (K w.params) Pg k) hn hn2 hdf hr hY F (fun w H a ns h hO hS => let ⟨_, hm⟩ := hl ns h; spL_start hm hO hS) noX
end
end Mp
end SSnd16
section SSndX
/-! SndX: the program's own exceptions. -/
namespace Mp
open PySem PySem.Spec PyProof.Rows L2
/-- a class of the program over ValueError, without an __init__ of its own -/
structure BaseC (K : PySem.W.Frag) (S : Addr) : Prop where
  sp : PySem.W.specialIn K (.ref S) "__getattribute__" = some (some (.builtin "type.__getattribute__"))
  rd : PySem.W.readsIn K S (.type "type") = true
  fi : PySem.W.findCls K (.ref S) (.type "type") "__init__" = some (.val (.builtin "ValueError.__init__"))
section
variable {X : Cx} {S : Addr}
theorem cinit_eq {x : Str} {e : Expr} {es : List Expr} {p1 p2 pos : Pos} {env : PySem.Env} (hl : (p2.endLine == pos.line) = true) (hf : methodCallForm ((e :: es).length + ([] : List Keyword).length) (backTo pos (starEach (e :: es) env)) (backToKw pos (keywordEach [] env)) = true) :
    eval (.Call (.Attribute (.Name x p1) "__init__" p2) (e :: es) [] pos) env = (do
      let cv ← eval (.Name x p1) env
      standAt p2.atName
      let (g, gs) ← holding [cv] (getMethod cv "__init__" (do return (← importBound (.Name x p1) env).getD true))
      callWith pos g gs (backTo pos (starEach (e :: es) env)) (backToKw pos (keywordEach [] env))) := by
  have h1 : methodCallPos true (.Name x p1) env p2 pos = pure pos := by unfold methodCallPos; simp [hl]
  have h2 : attributeBase (.Name x p1) "__init__" env (eval (.Name x p1) env) = eval (.Name x p1) env := rfl
  rw [arm_eval_Call, h2]
  unfold methodCall
  rw [hf]
  simp only [h1]
  rfl
theorem pe_cinit {e : Expr} {es : List Expr} {ta : TA} {x : Str} {p1 p2 pos : Pos} {pl : Sem Bool} (B : BaseC X.K S) (hg : Gl X x) (hm : X.mg x = some (.ref S)) (hd : (x == ("__debug__" : Str)) = false) (ha : PA X (e :: es) ta) (hc : eval (.Call (.Attribute (.Name x p1) "__init__" p2) (e :: es) [] pos) X.env = (do
      let cv ← eval (.Name x p1) X.env
      standAt p2.atName
      let (g, gs) ← holding [cv] (getMethod cv "__init__" pl)
      callWith pos g gs (backTo pos (starEach (e :: es) X.env)) (backToKw pos (keywordEach [] X.env))) := by rfl) (he : starEach (e :: es) X.env = (false, eval e X.env) :: starEach es X.env := by rfl)
    (hpl : (backTo pos (starEach es X.env)).any (·.1) = false := by rfl) : PE X (.Call (.Attribute (.Name x p1) "__init__" p2) (e :: es) [] pos) (tVeI X.K ta) := by
  refine ⟨fun pins s σ H Q I hw => PySem.W.methodCall_KW (ld_glob I hg hm ?_ hd) hc⟩
  refine PySem.W.method_cls I.kIn B.sp (PySem.W.cls_value I.kIn B.rd B.fi (by decide +kernel) ?_)
  refine PyProof.Rows.callWith_method1 (thn (ha.run pos pins _ σ H _ (I.tok _) hw) fun us s1 got => ?_) he hpl
  obtain ⟨vs, H1, I1, r1, a, C, ws, ev, hl, T, ea, q⟩ := got
  subst ev
  cases r1 with
  | @cons _ u0 _ ur ra rr =>
    obtain rfl : u0 = Value.ref a := ra
    have len : ur.length ≤ sizeLine := by rw [← Paired.length rr, sizeLine_eq]; omega
    exact oinit_ok T I1 ea len fun s' J => ⟨.non, H1, J, rfl, q⟩
end
section
variable {P : Program} {w : World} {K : PySem.W.Frag} {mg : Str → Option Value} {base : Heap}
/-- def __init__(self, f): Base.__init__(self, f); self.f = f -/
theorem init1_ok {C S fI : Addr} {f : Str} {bs qual : Str} {st : Stmt} {fd : FuncData} {k : Nat} {p1 p2 p3 p4 p5 p6 p7 p8 p9 p10 : Pos} (F : Fun K "__init__" qual st fI fd) (Sc : FnScope ["self", f] ["self", f] (defScope st)) (T : OexC K C) (B : BaseC K S) (hS : mg bs = some (.ref S)) (hd : (bs == ("__debug__" : Str)) = false) (hln : (p2.endLine == p5.line) = true)
    (hb : defBody st = [.Expr (.Call (.Attribute (.Name bs p1) "__init__" p2) [.Name "self" p3, .Name f p4] [] p5) p6, .Assign [.Attribute (.Name "self" p7) f p8] (.Name f p9) p10]) (hno : PySem.W.findIn K (.ref C) f = some none) (hf : visB (defScope st) f = true ∧ plB f = true) (hs : visB (defScope st) "self" = true) (hg : glB (defScope st) bs = true) :
    FnOk P w K mg base (L2.CX P w) (k + 1) fI fd ["self", f] (spInit C [f]) := by
  refine F.okX Sc (fun vs H Q E h => ?_) fun cdv A outer s H vs Q E hr h => ?_
  · obtain ⟨a, ys, rfl, hl, _⟩ := h
    simp at hl ⊢; exact hl
  · obtain ⟨a, ys, rfl, hl, ha, q⟩ := h
    match ys, hl, q with
    | [y], _, q =>
      rw [hb]
      have v0 : PE (cxOf (L2.CX P w) P w K mg base ["self", f] qual (defScope st) fI cdv A outer s H E) (.Name "self" p3) (tVar 0) := pe_var rfl (visB_ok hs) (by decide) (by decide)
      have v0' : PE (cxOf (L2.CX P w) P w K mg base ["self", f] qual (defScope st) fI cdv A outer s H E) (.Name "self" p7) (tVar 0) := pe_var rfl (visB_ok hs) (by decide) (by decide)
      have v1 : PE (cxOf (L2.CX P w) P w K mg base ["self", f] qual (defScope st) fI cdv A outer s H E) (.Name f p4) (tVar 1) := pe_var rfl (visB_ok hf.1) (plB_ok hf.2).1 (plB_ok hf.2).2
      have v1' : PE (cxOf (L2.CX P w) P w K mg base ["self", f] qual (defScope st) fI cdv A outer s H E) (.Name f p9) (tVar 1) := pe_var rfl (visB_ok hf.1) (plB_ok hf.2).1 (plB_ok hf.2).2
      refine ⟨_, pss_cons (ps_expr (pe_cinit B (glB_ok hg) hS hd (pa_cons v0 (pa_cons v1 pa_nil)) (cinit_eq hln (by rfl)))) (pss_one (ps_ost v0' v1')), ?_⟩
      refine ⟨.ref a, rfl, y, rfl, a, C, [y], rfl, by simp, T, ha, ?_⟩
      exact ⟨y, rfl, .ref a, rfl, a, C, rfl, T, hno, .inl ⟨ha, fun dx h1 h2 => q dx _ h1 h2 rfl⟩⟩
/-- def __init__(self, f, g): Base.__init__(self, f, g); self.f = f; self.g = g -/
theorem init2_ok {C S fI : Addr} {f g : Str} {bs qual : Str} {st : Stmt} {fd : FuncData} {k : Nat} {p1 p2 p3 p4 p4' p5 p6 p7 p8 p9 p10 q7 q8 q9 q10 : Pos} (F : Fun K "__init__" qual st fI fd) (Sc : FnScope ["self", f, g] ["self", f, g] (defScope st)) (T : OexC K C) (B : BaseC K S) (hS : mg bs = some (.ref S)) (hd : (bs == ("__debug__" : Str)) = false) (hln : (p2.endLine == p5.line) = true)
    (hb : defBody st = [.Expr (.Call (.Attribute (.Name bs p1) "__init__" p2) [.Name "self" p3, .Name f p4, .Name g p4'] [] p5) p6, .Assign [.Attribute (.Name "self" p7) f p8] (.Name f p9) p10, .Assign [.Attribute (.Name "self" q7) g q8] (.Name g q9) q10])
    (hno : PySem.W.findIn K (.ref C) f = some none) (hno2 : PySem.W.findIn K (.ref C) g = some none) (hf : visB (defScope st) f = true ∧ plB f = true) (hg' : visB (defScope st) g = true ∧ plB g = true) (hs : visB (defScope st) "self" = true) (hg : glB (defScope st) bs = true) :
    FnOk P w K mg base (L2.CX P w) (k + 1) fI fd ["self", f, g] (spInit C [f, g]) := by
  refine F.okX Sc (fun vs H Q E h => ?_) fun cdv A outer s H vs Q E hr h => ?_
  · obtain ⟨a, ys, rfl, hl, _⟩ := h
    simp at hl ⊢; exact hl
  · obtain ⟨a, ys, rfl, hl, ha, q⟩ := h
    match ys, hl, q with
    | [y, z], _, q =>
      rw [hb]
      have v0 : ∀ p, PE (cxOf (L2.CX P w) P w K mg base ["self", f, g] qual (defScope st) fI cdv A outer s H E) (.Name "self" p) (tVar 0) := fun p => pe_var rfl (visB_ok hs) (by decide) (by decide)
      have v1 : ∀ p, PE (cxOf (L2.CX P w) P w K mg base ["self", f, g] qual (defScope st) fI cdv A outer s H E) (.Name f p) (tVar 1) := fun p => pe_var rfl (visB_ok hf.1) (plB_ok hf.2).1 (plB_ok hf.2).2
      have v2 : ∀ p, PE (cxOf (L2.CX P w) P w K mg base ["self", f, g] qual (defScope st) fI cdv A outer s H E) (.Name g p) (tVar 2) := fun p => pe_var rfl (visB_ok hg'.1) (plB_ok hg'.2).1 (plB_ok hg'.2).2
      refine ⟨_, pss_cons (ps_expr (pe_cinit B (glB_ok hg) hS hd (pa_cons (v0 p3) (pa_cons (v1 p4) (pa_cons (v2 p4') pa_nil))) (cinit_eq hln (by rfl)))) (pss_cons (ps_ost (v0 p7) (v1 p9)) (pss_one (ps_ost (v0 q7) (v2 q9)))), ?_⟩
      refine ⟨.ref a, rfl, y, rfl, z, rfl, a, C, [y, z], rfl, by simp, T, ha, ?_⟩
      refine ⟨y, rfl, .ref a, rfl, a, C, rfl, T, hno, .inl ⟨ha, fun dx h1 h2 => ?_⟩⟩
      refine ⟨z, rfl, .ref a, rfl, a, C, rfl, T, hno2, .inr ⟨dx, [(f, y)], upd_same, ?_, by simp, ?_⟩⟩
      · rw [upd_ne h2, upd_same]
      · refine q dx _ h1 h2 ?_
        funext b
        by_cases h3 : b = dx
        · subst h3
          rw [upd_same, upd_ne h2, upd_same]
          rfl
        · by_cases h4 : b = a
          · subst h4
            rw [upd_ne h3, upd_same, upd_same]
          · rw [upd_ne h3, upd_ne h4, upd_ne h3, upd_ne h4, upd_ne h3]
end
end Mp
end SSndX
section SSnd17
/-! Snd17: the program's classes of errors, by what the written part says. -/
namespace Mp
open PySem PySem.Spec PyProof.Rows L2
/-- the first def of a class -/
def clsInit (s : Stmt) : Stmt := match s with
  | .ClassDef _ _ _ b _ _ _ _ _ _ _ => b.getD 0 s
  | _ => s
/-- what is asked of a class -/
structure ClsF (K : PySem.W.Frag) (C : Addr) : Prop where
  oex : OexC K C
  ga : PySem.W.findIn K (.ref C) "__getattribute__" = some (some (.builtin "BaseException.__getattribute__"))
  gg : PySem.W.findIn K (.ref C) "__getattr__" = some none
  hd : PySem.W.hasDictIn K C = true
  n1 : PySem.W.findIn K (.ref C) "at" = some none
  n2 : PySem.W.findIn K (.ref C) "why" = some none
section
variable {K : PySem.W.Frag} {mg : Str → Option Value}
theorem ClsF.xf {C : Addr} (h : ClsF K C) : XfC K C := ⟨h.ga, h.gg, h.oex.exC, h.hd⟩
theorem ClsF.no {C : Addr} (h : ClsF K C) : ∀ n ∈ ["at", "why"], PySem.W.findIn K (.ref C) (n : Str) = some none := fun n hn => by
  simp only [List.mem_cons, List.not_mem_nil, or_false] at hn
  rcases hn with rfl | rfl
  · exact h.n1
  · exact h.n2
theorem cls_mk {C N : Addr} {nm : Str} {q : Str} {bs bm : List Value} {sn sub ab col dd k0 k1 k2 k3 k5} (lk : K.lookup C = some (excClassObj nm q C N bs bm true sn sub ab col dd k0 k1 k2 k3 k5 "ValueError.__new__")) (rv : PySem.HandSPX.refsVE bm = true)
    (sa : PySem.W.findIn K (.ref C) "__setattr__" = some (some (.builtin "object.__setattr__"))) (ex : PySem.W.subIn K (.ref C) (.type "BaseException") = some true) (ty : PySem.W.typeIn K (.ref C) = some (.type "type")) (kp : PySem.W.keepIn K (.ref C) = true)
    (ga : PySem.W.findIn K (.ref C) "__getattribute__" = some (some (.builtin "BaseException.__getattribute__"))) (gg : PySem.W.findIn K (.ref C) "__getattr__" = some none) (hd : PySem.W.hasDictIn K C = true)
    (n1 : PySem.W.findIn K (.ref C) "at" = some none) (n2 : PySem.W.findIn K (.ref C) "why" = some none) : ClsF K C :=
  ⟨⟨⟨_, _, _, _, _, _, _, _, _, _, _, _, _, _, _, lk, rv⟩, sa, ex, ty, kp⟩, ga, gg, hd, n1, n2⟩
theorem exm_mk {C C' : Addr} {b : Bool} (h : ClsF K C) (hs : PySem.W.subIn K (.ref C') (.ref C) = some b) : PySem.W.exmOne K (.ref C') (.ref C) = some b := PySem.W.exm_ref h.oex.exC h.hd h.oex.tyC hs
theorem sub_mk {C S : Addr} {y : String} (hS : mg (y : Str) = some (.ref S)) (hne : C ≠ S) (hd : PySem.W.hasDictIn K S = true) (ty : PySem.W.typeIn K (.ref S) = some (.type "type")) (hs : PySem.W.subIn K (.ref C) (.ref S) = some true) : SubOk K mg C y := by
  refine ⟨⟨S, hS, hne, ?_⟩⟩
  obtain ⟨cd, hc, _⟩ := PySem.W.any_some hd
  unfold PySem.W.kitCls
  simp only [hc, ty, Option.isSome_some, Bool.true_and]
  exact hs
theorem exc_mk1 {c : String} {C S fI : Addr} {qual : Str} {st : Stmt} {fd : FuncData} {p1 p2 p3 p4 p5 p6 p7 p8 p9 p10 : Pos} (h : ClsF K C) (hm : mg (c : Str) = some (.ref C)) (F : Fun K "__init__" qual st fI fd) (Bi : Binds K fd ["self", "why"] []) (Sc : FnScope ["self", "why"] ["self", "why"] (defScope st)) (B : BaseC K S) (hS : mg "SeekError" = some (.ref S))
    (hln : (p2.endLine == p5.line) = true) (hb : defBody st = [.Expr (.Call (.Attribute (.Name "SeekError" p1) "__init__" p2) [.Name "self" p3, .Name "why" p4] [] p5) p6, .Assign [.Attribute (.Name "self" p7) "why" p8] (.Name "why" p9) p10])
    (hf : visB (defScope st) "why" = true) (hs : visB (defScope st) "self" = true) (hg : glB (defScope st) "SeekError" = true)
    (ii : PySem.W.findIn K (.ref C) "__init__" = some (some (.ref fI))) (ti : PySem.W.typeIn K (.ref fI) = some (.type "function")) (P : Program) (w : World) (base : Heap) : ExcOk P w K mg base C c ["why"] := by
  refine ⟨hm, h.oex, h.xf, h.no, by decide, fI, fd, _, ii, ti, ?_, Bi⟩
  exact init1_ok (k := 0) F Sc h.oex B hS (by decide) hln hb h.n2 ⟨hf, by decide⟩ hs hg
theorem exc_mk2 {c : String} {C S fI : Addr} {qual : Str} {st : Stmt} {fd : FuncData} {p1 p2 p3 p4 p4' p5 p6 p7 p8 p9 p10 q7 q8 q9 q10 : Pos} (h : ClsF K C) (hm : mg (c : Str) = some (.ref C)) (F : Fun K "__init__" qual st fI fd) (Bi : Binds K fd ["self", "at", "why"] []) (Sc : FnScope ["self", "at", "why"] ["self", "at", "why"] (defScope st)) (B : BaseC K S) (hS : mg "SeekError" = some (.ref S))
    (hln : (p2.endLine == p5.line) = true) (hb : defBody st = [.Expr (.Call (.Attribute (.Name "SeekError" p1) "__init__" p2) [.Name "self" p3, .Name "at" p4, .Name "why" p4'] [] p5) p6, .Assign [.Attribute (.Name "self" p7) "at" p8] (.Name "at" p9) p10, .Assign [.Attribute (.Name "self" q7) "why" q8] (.Name "why" q9) q10])
    (hf : visB (defScope st) "at" = true) (hf' : visB (defScope st) "why" = true) (hs : visB (defScope st) "self" = true) (hg : glB (defScope st) "SeekError" = true)
    (ii : PySem.W.findIn K (.ref C) "__init__" = some (some (.ref fI))) (ti : PySem.W.typeIn K (.ref fI) = some (.type "function")) (P : Program) (w : World) (base : Heap) : ExcOk P w K mg base C c ["at", "why"] := by
  refine ⟨hm, h.oex, h.xf, h.no, by decide, fI, fd, _, ii, ti, ?_, Bi⟩
  exact init2_ok (k := 0) F Sc h.oex B hS (by decide) hln hb h.n1 h.n2 ⟨hf, by decide⟩ ⟨hf', by decide⟩ hs hg
end
end Mp
end SSnd17
section SK61a
namespace Mp.K61
def f_is_whole : Fn := {
  name := "is_whole", np := 1, names := ["value"],
  body := 
    (.cons (.ret (.band (.cons (.isi (.var 0) .int) (.cons (.nt (.isi (.var 0) .bool)) .nil)))) .nil) }
def e_is_word_0 : C := (.cmp .inn (.var 1) (.glo "RUNS"))
def f_is_word : Fn := {
  name := "is_word", np := 1, names := ["value", "sign"],
  body := 
    (.cons (.ret (.band (.cons (.isi (.var 0) .str) (.cons (.cmp2 .lt .le (.lit (.int 0)) (.blt .len (.cons (.var 0) .nil)) (.glo "MOST_WORD")) (.cons (.blt .all (.cons (.lc e_is_word_0 (.v 1) [("sign", 1)] (.var 0) .nil) .nil)) .nil))))) .nil) }
def f_look_at_word : Fn := {
  name := "look_at_word", np := 1, names := ["value"],
  body := 
    (.cons (.ite (.nt (.call "is_word" (.cons (.var 0) .nil))) 
      (.cons (.rais "BadPlan" ["why"] (.cons (.lit (.str [119, 111, 114, 100])) .nil)) .nil) .nil) .nil) }
def f_look_at_far : Fn := {
  name := "look_at_far", np := 1, names := ["value"],
  body := 
    (.cons (.ite (.bor (.cons (.nt (.call "is_whole" (.cons (.var 0) .nil))) (.cons (.nt (.cmp2 .le .le (.lit (.int 0)) (.var 0) (.glo "MOST_FAR"))) .nil))) 
      (.cons (.rais "BadPlan" ["why"] (.cons (.lit (.str [102, 97, 114])) .nil)) .nil) .nil) .nil) }
def e_look_at_words_0 : C := (.call "is_word" (.cons (.var 1) .nil))
def e_look_at_words_1 : C := (.cmp .lt (.var 1) (.var 2))
def f_look_at_words : Fn := {
  name := "look_at_words", np := 1, names := ["value", "one", "two"],
  body := 
    (.cons (.ite (.bor (.cons (.nt (.isi (.var 0) .tuple)) (.cons (.nt (.blt .all (.cons (.lc e_look_at_words_0 (.v 1) [("one", 1)] (.var 0) .nil) .nil))) .nil))) 
      (.cons (.rais "BadPlan" ["why"] (.cons (.lit (.str [119, 111, 114, 100, 115])) .nil)) .nil) .nil) 
    (.cons (.ite (.nt (.blt .all (.cons (.lc e_look_at_words_1 (.t [(.v 1), (.v 2)]) [("one", 1), ("two", 2)] (.zip (.var 0) (.frz (.sl1 (.var 0) (.lit (.int 1))))) .nil) .nil))) 
      (.cons (.rais "BadPlan" ["why"] (.cons (.lit (.str [119, 111, 114, 100, 115])) .nil)) .nil) .nil) .nil)) }
def e_first_state_0 : C := (.blt .min (.cons (.var 2) (.cons (.bin .add (.var 1) (.lit (.int 1))) .nil)))
def f_first_state : Fn := {
  name := "first_state", np := 2, names := ["word", "far", "place"],
  body := 
    (.cons (.expr (.call "look_at_word" (.cons (.var 0) .nil))) 
    (.cons (.expr (.call "look_at_far" (.cons (.var 1) .nil))) 
    (.cons (.ret (.blt .tuple (.cons (.lc e_first_state_0 (.v 2) [("place", 2)] (.rng1 (.bin .add (.blt .len (.cons (.var 0) .nil)) (.lit (.int 1)))) .nil) .nil))) .nil))) }
def b_next_state_0 : Ss := 
    (.cons (.expr (.meth .append (.var 4) (.cons (.blt .min (.cons (.bin .add (.ix (.var 2) (.bin .add (.var 5) (.lit (.int 1)))) (.lit (.int 1))) (.cons (.bin .add (.ix (.var 4) (.var 5)) (.lit (.int 1))) (.cons (.bin .add (.ix (.var 2) (.var 5)) (.blt .int (.cons (.cmp .ne (.var 6) (.var 3)) .nil))) (.cons (.bin .add (.var 1) (.lit (.int 1))) .nil))))) .nil))) .nil)
def f_next_state : Fn := {
  name := "next_state", np := 4, names := ["word", "far", "state", "sign", "found", "place", "own"],
  body := 
    (.cons (.set (.v 4) (.lst (.cons (.blt .min (.cons (.bin .add (.ix (.var 2) (.lit (.int 0))) (.lit (.int 1))) (.cons (.bin .add (.var 1) (.lit (.int 1))) .nil))) .nil))) 
    (.cons (.for_ (.t [(.v 5), (.v 6)]) (.enum (.var 0)) b_next_state_0) 
    (.cons (.ret (.blt .tuple (.cons (.var 4) .nil))) .nil))) }
def f_is_lost : Fn := {
  name := "is_lost", np := 2, names := ["far", "state"],
  body := 
    (.cons (.ret (.cmp .gt (.blt .min (.cons (.var 1) .nil)) (.var 0))) .nil) }
def f_told_by : Fn := {
  name := "told_by", np := 2, names := ["far", "state"],
  body := 
    (.cons (.ret (.ite (.cmp .le (.ix (.var 1) (.neg (.lit (.int 1)))) (.var 0)) (.ix (.var 1) (.neg (.lit (.int 1)))) (.lit .non))) .nil) }
def f_word_tree : Fn := {
  name := "word_tree", np := 1, names := ["words"],
  body := 
    (.cons (.expr (.call "look_at_words" (.cons (.var 0) .nil))) 
    (.cons (.ret (.call "tree_from" (.cons (.var 0) (.cons (.lit (.int 0)) .nil)))) .nil)) }
def b_tree_from_0 : Ss := 
    (.cons (.ite (.cmp .gt (.blt .len (.cons (.var 3) .nil)) (.var 1)) 
      (.cons (.expr (.meth .append (.u3 .setd (.var 2) (.ix (.var 3) (.var 1)) (.lst .nil)) (.cons (.var 3) .nil))) .nil) .nil) .nil)
def e_tree_from_0 : C := (.tup (.cons (.var 5) (.cons (.call "tree_from" (.cons (.u2 .dix (.var 2) (.var 5)) (.cons (.bin .add (.var 1) (.lit (.int 1))) .nil))) .nil)))
def e_tree_from_1 : C := (.cmp .eq (.blt .len (.cons (.var 3) .nil)) (.var 1))
def f_tree_from : Fn := {
  name := "tree_from", np := 2, names := ["words", "deep", "lots", "one", "rows", "sign"],
  body := 
    (.cons (.set (.v 2) (.u0 (.dict false))) 
    (.cons (.for_ (.v 3) (.var 0) b_tree_from_0) 
    (.cons (.set (.v 4) (.blt .tuple (.cons (.lc e_tree_from_0 (.v 5) [("sign", 5)] (.frz (.u1 .sdict (.var 2))) .nil) .nil))) 
    (.cons (.ret (.tup (.cons (.blt .any (.cons (.lc e_tree_from_1 (.v 3) [("one", 3)] (.var 0) .nil) .nil)) (.cons (.var 4) .nil)))) .nil)))) }
def e_tree_words_0 : C := (.bin .add (.var 2) (.var 4))
def b_tree_words_0 : Ss := 
    (.cons (.expr (.u2 .ext (.var 1) (.lc e_tree_words_0 (.v 4) [("rest", 4)] (.call "tree_words" (.cons (.var 3) .nil)) .nil))) .nil)
def f_tree_words : Fn := {
  name := "tree_words", np := 1, names := ["tree", "found", "sign", "below", "rest"],
  body := 
    (.cons (.set (.v 1) (.ite (.ix (.var 0) (.lit (.int 0))) (.lst (.cons (.lit (.str [])) .nil)) (.lst .nil))) 
    (.cons (.for_ (.t [(.v 2), (.v 3)]) (.ix (.var 0) (.lit (.int 1))) b_tree_words_0) 
    (.cons (.ret (.blt .tuple (.cons (.var 1) .nil))) .nil))) }
def f_walked : Fn := {
  name := "walked", np := 3, names := ["tree", "word", "far", "rows", "many"],
  body := 
    (.cons (.expr (.call "look_at_word" (.cons (.var 1) .nil))) 
    (.cons (.expr (.call "look_at_far" (.cons (.var 2) .nil))) 
    (.cons (.set (.v 3) (.lst .nil)) 
    (.cons (.set (.v 4) (.call "walk_into" (.cons (.var 0) (.cons (.var 1) (.cons (.var 2) (.cons (.call "first_state" (.cons (.var 1) (.cons (.var 2) .nil))) (.cons (.lit (.str [])) (.cons (.var 3) .nil)))))))) 
    (.cons (.ret (.tup (.cons (.blt .tuple (.cons (.var 3) .nil)) (.cons (.var 4) .nil)))) .nil))))) }
def b_walk_into_0 : Ss := 
    (.cons (.set (.v 9) (.call "next_state" (.cons (.var 1) (.cons (.var 2) (.cons (.var 3) (.cons (.var 7) .nil)))))) 
    (.cons (.ite (.nt (.call "is_lost" (.cons (.var 2) (.cons (.var 9) .nil)))) 
      (.cons (.aug 6 .add (.call "walk_into" (.cons (.var 8) (.cons (.var 1) (.cons (.var 2) (.cons (.var 9) (.cons (.frz (.bin .add (.var 4) (.var 7))) (.cons (.var 5) .nil)))))))) .nil) .nil) .nil))
def f_walk_into : Fn := {
  name := "walk_into", np := 6, names := ["tree", "word", "far", "state", "ahead", "rows", "many", "sign", "below", "behind"],
  body := 
    (.cons (.set (.v 6) (.lit (.int 1))) 
    (.cons (.ite (.band (.cons (.ix (.var 0) (.lit (.int 0))) (.cons (.cmp .isnot (.call "told_by" (.cons (.var 2) (.cons (.var 3) .nil))) (.lit .non)) .nil))) 
      (.cons (.expr (.meth .append (.var 5) (.cons (.tup (.cons (.var 4) (.cons (.call "told_by" (.cons (.var 2) (.cons (.var 3) .nil))) .nil))) .nil))) .nil) .nil) 
    (.cons (.for_ (.t [(.v 7), (.v 8)]) (.ix (.var 0) (.lit (.int 1))) b_walk_into_0) 
    (.cons (.ret (.var 6)) .nil)))) }
def f_near_in : Fn := {
  name := "near_in", np := 3, names := ["words", "word", "far"],
  body := 
    (.cons (.ret (.ix (.call "walked" (.cons (.call "word_tree" (.cons (.var 0) .nil)) (.cons (.var 1) (.cons (.var 2) .nil)))) (.lit (.int 0)))) .nil) }
abbrev f_law_draws : Fn := Mp.Help.f_law_draws
abbrev f_law_draw : Fn := Mp.Help.f_law_draw
abbrev f_law_pick : Fn := Mp.Help.f_law_pick
abbrev f_law_same : Fn := Mp.Help.f_law_same
def f_law_pool : Fn := {
  name := "_law_pool", np := 0, names := [],
  body := 
    (.cons (.ret (.lst (.cons (.lit (.str [99, 97, 116])) (.cons (.lit (.str [99, 97, 116, 115])) (.cons (.lit (.str [67, 97, 116])) (.cons (.lit (.str [100, 111, 103])) (.cons (.lit (.str [100, 111, 103, 115])) (.cons (.lit (.str [68, 111, 103, 115])) (.cons (.lit (.str [98, 105, 114, 100])) (.cons (.lit (.str [116, 104, 101])) (.cons (.lit (.str [97])) (.cons (.lit (.str [114, 117, 110])) (.cons (.lit (.str [114, 117, 110, 110, 105, 110, 103])) (.cons (.lit (.str [114, 117, 110, 115])) (.cons (.lit (.str [120, 49])) (.cons (.lit (.str [57])) (.cons (.lit (.str [99, 97, 114])) (.cons (.lit (.str [99, 97, 114, 116])) (.cons (.lit (.str [97, 114, 116])) .nil))))))))))))))))))) .nil) }
def e_law_far_0 : C := (.var 5)
def b_law_far_0 : Ss := 
    (.cons (.expr (.meth .append (.var 4) (.cons (.blt .min (.cons (.blt .int (.cons (.bin .add (.ix (.var 4) (.var 5)) (.lit (.int 1))) .nil)) (.cons (.blt .int (.cons (.bin .add (.ix (.var 2) (.bin .add (.var 5) (.lit (.int 1)))) (.lit (.int 1))) .nil)) (.cons (.blt .int (.cons (.bin .add (.ix (.var 2) (.var 5)) (.ite (.cmp .eq (.ix (.var 0) (.var 5)) (.var 3)) (.lit (.int 0)) (.lit (.int 1)))) .nil)) .nil)))) .nil))) .nil)
def b_law_far_1 : Ss := 
    (.cons (.set (.v 4) (.lst (.cons (.bin .add (.ix (.var 2) (.lit (.int 0))) (.lit (.int 1))) .nil))) 
    (.cons (.for_ (.v 5) (.rng1 (.blt .len (.cons (.var 0) .nil))) b_law_far_0) 
    (.cons (.set (.v 2) (.var 4)) .nil)))
def f_law_far : Fn := {
  name := "_law_far", np := 2, names := ["one", "two", "column", "sign", "above", "k"],
  body := 
    (.cons (.set (.v 2) (.frz (.lc e_law_far_0 (.v 5) [("k", 5)] (.rng1 (.bin .add (.blt .len (.cons (.var 0) .nil)) (.lit (.int 1)))) .nil))) 
    (.cons (.for_ (.v 3) (.var 1) b_law_far_1) 
    (.cons (.ret (.ix (.var 2) (.neg (.lit (.int 1))))) .nil))) }
def e_law_tree_0 : C := (.ix (.var 3) (.blt .len (.cons (.var 1) .nil)))
def i_law_tree_0 : Cs := (.cons (.band (.cons (.cmp .eq (.sl2 (.var 3) (.blt .len (.cons (.var 1) .nil))) (.var 1)) (.cons (.cmp .gt (.blt .len (.cons (.var 3) .nil)) (.blt .len (.cons (.var 1) .nil))) .nil))) .nil)
def e_law_tree_1 : C := (.tup (.cons (.var 4) (.cons (.call "_law_tree" (.cons (.var 0) (.cons (.frz (.bin .add (.var 1) (.var 4))) .nil))) .nil)))
def f_law_tree : Fn := {
  name := "_law_tree", np := 2, names := ["words", "ahead", "signs", "one", "sign"],
  body := 
    (.cons (.set (.v 2) (.frz (.u1 .sset (.lc e_law_tree_0 (.v 3) [("one", 3)] (.var 0) i_law_tree_0)))) 
    (.cons (.ret (.tup (.cons (.cmp .inn (.var 1) (.var 0)) (.cons (.blt .tuple (.cons (.lc e_law_tree_1 (.v 4) [("sign", 4)] (.var 2) .nil) .nil)) .nil)))) .nil)) }
def e_law_0 : C := (.call "_law_pick" (.cons (.var 1) (.cons (.var 5) .nil)))
def e_law_1 : C := (.tup (.cons (.var 12) (.cons (.call "_law_far" (.cons (.var 12) (.cons (.var 15) .nil))) .nil)))
def i_law_1 : Cs := (.cons (.cmp .le (.call "_law_far" (.cons (.var 12) (.cons (.var 15) .nil))) (.var 16)) .nil)
def e_law_2 : C := (.sl2 (.var 12) (.var 18))
def b_law_0 : Ss := 
    (.cons (.set (.v 11) (.frz (.bin .add (.var 11) (.lc e_law_2 (.v 18) [("k", 18)] (.rng1 (.bin .add (.blt .len (.cons (.var 12) .nil)) (.lit (.int 1)))) .nil)))) .nil)
def e_law_3 : C := (.lit (.int 1))
def i_law_3 : Cs := (.cons (.cmp .le (.call "_law_far" (.cons (.var 14) (.cons (.frz (.sl2 (.var 15) (.var 18))) .nil))) (.var 16)) .nil)
def b_law_1 : Ss := 
    (.cons (.set (.v 17) (.frz (.lc e_law_3 (.v 18) [("k", 18)] (.rng1 (.bin .add (.blt .len (.cons (.var 15) .nil)) (.lit (.int 1)))) i_law_3))) 
    (.cons (.set (.v 13) (.frz (.bin .add (.var 13) (.ite (.cmp .ne (.var 17) (.lst .nil)) (.lst (.cons (.var 14) .nil)) (.lst .nil))))) .nil))
def b_law_2 : Ss := 
    (.cons (.set (.t [(.v 15), (.v 16)]) (.tup (.cons (.call "_law_pick" (.cons (.var 1) (.cons (.frz (.bin .add (.var 5) (.lst (.cons (.lit (.str [99, 97, 116, 115, 49])) (.cons (.lit (.str [120, 121, 122])) (.cons (.lit (.str [114, 117, 110, 105, 110, 103])) .nil)))))) .nil))) (.cons (.call "_law_draw" (.cons (.var 1) (.cons (.lit (.int 4)) .nil))) .nil)))) 
    (.cons (.set (.v 10) (.blt .tuple (.cons (.lc e_law_1 (.v 12) [("one", 12)] (.var 6) i_law_1) .nil))) 
    (.cons (.set (.v 11) (.frz (.lst (.cons (.lit (.str [])) .nil)))) 
    (.cons (.for_ (.v 12) (.var 6) b_law_0) 
    (.cons (.set (.v 13) (.frz (.lst .nil))) 
    (.cons (.for_ (.v 14) (.frz (.u1 .sset (.var 11))) b_law_1) 
    (.cons (.ite (.bor (.cons (.nt (.call "_law_same" (.cons (.call "walked" (.cons (.var 7) (.cons (.var 15) (.cons (.var 16) .nil)))) (.cons (.tup (.cons (.var 10) (.cons (.blt .len (.cons (.var 13) .nil)) .nil))) .nil)))) (.cons (.nt (.call "_law_same" (.cons (.call "near_in" (.cons (.var 6) (.cons (.var 15) (.cons (.var 16) .nil)))) (.cons (.var 10) .nil)))) .nil))) 
      (.cons (.ret (.lit (.bl false))) .nil) .nil) .nil)))))))
def b_law_3 : Ss := 
    (.cons (.set (.v 5) (.frz (.bin .add (.call "_law_pool" .nil) (.lst (.cons (.lit (.str [99, 97])) (.cons (.lit (.str [99, 97, 116, 57])) (.cons (.lit (.str [100, 111, 116])) (.cons (.lit (.str [99, 111, 116])) (.cons (.lit (.str [99])) (.cons (.lit (.str [114, 117, 105, 110])) (.cons (.lit (.str [98, 105, 114, 100, 115])) (.cons (.lit (.str [68, 111, 103])) .nil)))))))))))) 
    (.cons (.set (.v 6) (.frz (.blt .tuple (.cons (.u1 .sset (.lc e_law_0 (.v 18) [("k", 18)] (.rng1 (.call "_law_draw" (.cons (.var 1) (.cons (.lit (.int 14)) .nil)))) .nil)) .nil)))) 
    (.cons (.set (.v 7) (.call "word_tree" (.cons (.var 6) .nil))) 
    (.cons (.ite (.bor (.cons (.nt (.call "_law_same" (.cons (.var 7) (.cons (.call "_law_tree" (.cons (.var 6) (.cons (.lit (.str [])) .nil))) .nil)))) (.cons (.nt (.call "_law_same" (.cons (.call "tree_words" (.cons (.var 7) .nil)) (.cons (.var 6) .nil)))) .nil))) 
      (.cons (.ret (.lit (.bl false))) .nil) .nil) 
    (.cons (.for_ (.v 8) (.rng1 (.lit (.int 4))) b_law_2) .nil)))))
def b_law_4 : Ss := 
    (.cons (.tryc 
      (.cons (.expr (.call "word_tree" (.cons (.var 4) .nil))) .nil) "BadPlan" (some 9) 
      (.cons (.expr (.meth .append (.var 3) (.cons (.ite (.isx 9 "BadPlan" "SeekError") (.xf 9 "why") (.lit (.str []))) .nil))) .nil)) .nil)
def f_law : Fn := {
  name := "law", np := 1, names := ["script", "draws", "turn", "told", "bad", "pool", "words", "tree", "again", "error", "rows", "heads", "one", "alive", "head", "word", "far", "near", "k"],
  body := 
    (.cons (.set (.v 1) (.call "_law_draws" (.cons (.var 0) .nil))) 
    (.cons (.for_ (.v 2) (.rng1 (.lit (.int 6))) b_law_3) 
    (.cons (.set (.v 3) (.lst .nil)) 
    (.cons (.for_ (.v 4) (.frz (.tup (.cons (.lit .non) (.cons (.lst (.cons (.lit (.str [97])) .nil)) (.cons (.tup (.cons (.lit (.str [98])) (.cons (.lit (.str [97])) .nil))) (.cons (.tup (.cons (.lit (.str [97])) (.cons (.lit (.str [97])) .nil))) (.cons (.tup (.cons (.lit (.str [97])) (.cons (.lit (.str [])) .nil))) (.cons (.tup (.cons (.lit (.str [97])) (.cons (.lit .non) .nil))) .nil)))))))) b_law_4) 
    (.cons (.ret (.cmp .eq (.var 3) (.bin .mul (.lst (.cons (.lit (.str [119, 111, 114, 100, 115])) .nil)) (.lit (.int 6))))) .nil))))) }
def prog : Prog := { fns := [f_is_whole, f_is_word, f_look_at_word, f_look_at_far, f_look_at_words, f_first_state, f_next_state, f_is_lost, f_told_by, f_word_tree, f_tree_from, f_tree_words, f_walked, f_walk_into, f_near_in, f_law_draws, f_law_draw, f_law_pick, f_law_same, f_law_pool, f_law_far, f_law_tree, f_law], consts := [("RUNS", (.str [97, 98, 99, 100, 101, 102, 103, 104, 105, 106, 107, 108, 109, 110, 111, 112, 113, 114, 115, 116, 117, 118, 119, 120, 121, 122, 65, 66, 67, 68, 69, 70, 71, 72, 73, 74, 75, 76, 77, 78, 79, 80, 81, 82, 83, 84, 85, 86, 87, 88, 89, 90, 48, 49, 50, 51, 52, 53, 54, 55, 56, 57])), ("MOST_WORD", (.int 24)), ("MOST_FAR", (.int 3))] }
end Mp.K61
end SK61a
section SK61m
/-! K61m: how far, by columns that are capped: plain. -/
namespace Mp.K61
/-! ### how far -/
/-- the row behind `prev`, for a sign: at j, the least of three roads -/
def rowE (b : Nat → Nat) (prev : Nat → Int) (a : Nat) : Nat → Int
  | 0 => prev 0 + 1
  | j + 1 => min (min (prev (j + 1) + 1) (rowE b prev a j + 1)) (prev j + if a = b j then 0 else 1)
def E (a b : Nat → Nat) : Nat → Nat → Int
  | 0 => fun j => j
  | i + 1 => rowE b (E a b i) (a i)
theorem E_00 {a b : Nat → Nat} : E a b 0 0 = 0 := rfl
theorem E_0j {a b : Nat → Nat} (j : Nat) : E a b 0 j = j := rfl
theorem E_i0 {a b : Nat → Nat} (i : Nat) : E a b (i + 1) 0 = E a b i 0 + 1 := rfl
theorem E_ij {a b : Nat → Nat} (i j : Nat) : E a b (i + 1) (j + 1) = min (min (E a b i (j + 1) + 1) (E a b (i + 1) j + 1)) (E a b i j + if a i = b j then 0 else 1) := rfl
theorem E_col0 {a b : Nat → Nat} : ∀ i : Nat, E a b i 0 = i
  | 0 => rfl
  | i + 1 => by rw [E_i0, E_col0 i]; omega
/-- it leans on the words' first signs alone -/
theorem E_congr {a b a' b' : Nat → Nat} : ∀ (i j : Nat), (∀ k, k < i → a k = a' k) → (∀ k, k < j → b k = b' k) → E a b i j = E a' b' i j
  | 0, j, _, _ => rfl
  | i + 1, 0, ha, hb => by rw [E_i0, E_i0, E_congr i 0 (fun k hk => ha k (by omega)) hb]
  | i + 1, j + 1, ha, hb => by
    rw [E_ij, E_ij, E_congr i (j + 1) (fun k hk => ha k (by omega)) hb, E_congr (i + 1) j ha (fun k hk => hb k (by omega)), E_congr i j (fun k hk => ha k (by omega)) (fun k hk => hb k (by omega)), ha i (by omega), hb j (by omega)]
termination_by i j => i + j
theorem E_nn {a b : Nat → Nat} : ∀ (i j : Nat), 0 ≤ E a b i j
  | 0, j => by rw [E_0j]; omega
  | i + 1, 0 => by rw [E_col0]; omega
  | i + 1, j + 1 => by
    have h1 := E_nn (a := a) (b := b) i (j + 1)
    have h2 := E_nn (a := a) (b := b) (i + 1) j
    have h3 := E_nn (a := a) (b := b) i j
    rw [E_ij]
    split <;> omega
termination_by i j => i + j
/-- a word's sign at a place -/
def at_ (s : List Nat) (i : Nat) : Nat := s.getD i 0
theorem at_get {s : List Nat} {i : Nat} (h : i < s.length) : s[i]? = some (at_ s i) := by
  unfold at_
  rw [List.getD_eq_getElem?_getD, List.getElem?_eq_getElem h]; rfl
theorem E_sym {a b : Nat → Nat} : ∀ (i j : Nat), E a b i j = E b a j i
  | 0, j => by rw [E_0j, E_col0]
  | i + 1, 0 => by rw [E_col0, E_0j]
  | i + 1, j + 1 => by
    rw [E_ij, E_ij, E_sym i (j + 1), E_sym (i + 1) j, E_sym i j]
    by_cases c : a i = b j
    · rw [if_pos c, if_pos c.symm]; omega
    · rw [if_neg c, if_neg (fun z => c z.symm)]; omega
termination_by i j => i + j
theorem at_app {s t : List Nat} {i : Nat} (h : i < s.length) : at_ (s ++ t) i = at_ s i := by
  unfold at_
  rw [List.getD_eq_getElem?_getD, List.getD_eq_getElem?_getD, List.getElem?_append_left h]
theorem at_last {s : List Nat} {c : Nat} : at_ (s ++ [c]) s.length = c := by
  unfold at_
  rw [List.getD_eq_getElem?_getD, List.getElem?_append_right (Nat.le_refl _), Nat.sub_self]; rfl
theorem at_take {s : List Nat} {i k : Nat} (h : k < i) : at_ (s.take i) k = at_ s k := by
  unfold at_
  rw [List.getD_eq_getElem?_getD, List.getD_eq_getElem?_getD, List.getElem?_take, if_pos h]
/-- how far the beginning of w of k signs is from h -/
def far (w h : List Nat) (k : Nat) : Int := E (at_ w) (at_ h) k h.length
theorem far_nil (w : List Nat) (k : Nat) : far w [] k = k := by unfold far; rw [List.length_nil, E_col0]
theorem far_old (w h : List Nat) (c : Nat) (k : Nat) : E (at_ w) (at_ (h ++ [c])) k h.length = far w h k := E_congr _ _ (fun _ _ => rfl) fun _ hk => at_app hk
theorem far_0 (w h : List Nat) : far w h 0 = h.length := by unfold far; rw [E_0j]
theorem far_step (w h : List Nat) (c k : Nat) : far w (h ++ [c]) (k + 1) = min (min (far w (h ++ [c]) k + 1) (far w h (k + 1) + 1)) (far w h k + if at_ w k = c then 0 else 1) := by
  have e : (h ++ [c]).length = h.length + 1 := by simp
  unfold far
  rw [e, E_ij, at_last]
  rw [far_old w h c (k + 1), far_old w h c k]
  rfl
theorem far_nn (w h : List Nat) (k : Nat) : 0 ≤ far w h k := E_nn _ _
/-- the column of h, capped -/
def st (w : List Nat) (f : Int) (h : List Nat) : List Int := (List.range (w.length + 1)).map fun k => min (far w h k) (f + 1)
theorem st_len (w : List Nat) (f : Int) (h : List Nat) : (st w f h).length = w.length + 1 := by simp [st]
theorem st_get {w : List Nat} {f : Int} {h : List Nat} {k : Nat} (hk : k ≤ w.length) : (st w f h)[k]? = some (min (far w h k) (f + 1)) := by
  unfold st
  rw [List.getElem?_map, List.getElem?_range (by omega)]; rfl
def lostB (w : List Nat) (f : Int) (h : List Nat) : Bool := (List.range (w.length + 1)).all fun k => decide (f < far w h k)
theorem lost_iff {w : List Nat} {f : Int} {h : List Nat} : lostB w f h = true ↔ ∀ k, k ≤ w.length → f < far w h k := by
  unfold lostB
  rw [List.all_eq_true]
  simp only [List.mem_range, decide_eq_true_eq]
  exact ⟨fun q k hk => q k (by omega), fun q k hk => q k (by omega)⟩
/-- no column falls below the one ahead of it -/
theorem far_mono (w h : List Nat) (c : Nat) : ∀ k : Nat, ∃ k', k' ≤ k ∧ far w h k' ≤ far w (h ++ [c]) k
  | 0 => ⟨0, Nat.le_refl _, by rw [far_0, far_0]; simp; omega⟩
  | k + 1 => by
    obtain ⟨k', h1, h2⟩ := far_mono w h c k
    rw [far_step]
    by_cases c1 : far w (h ++ [c]) k + 1 ≤ min (far w h (k + 1) + 1) (far w h k + if at_ w k = c then 0 else 1)
    · exact ⟨k', by omega, by omega⟩
    · by_cases c2 : far w h (k + 1) + 1 ≤ far w h k + if at_ w k = c then 0 else 1
      · exact ⟨k + 1, Nat.le_refl _, by omega⟩
      · refine ⟨k, by omega, ?_⟩
        split at * <;> omega
theorem lost_snoc {w : List Nat} {f : Int} {h : List Nat} (c : Nat) (l : lostB w f h = true) : lostB w f (h ++ [c]) = true := by
  rw [lost_iff] at l ⊢
  intro k hk
  obtain ⟨k', h1, h2⟩ := far_mono w h c k
  have := l k' (by omega)
  omega
theorem lost_app {w : List Nat} {f : Int} {h : List Nat} (l : lostB w f h = true) : ∀ t : List Nat, lostB w f (h ++ t) = true := by
  intro t
  induction t generalizing h with
  | nil => simpa using l
  | cons c t ih =>
    have := ih (lost_snoc c l)
    simpa using this
/-- the law's way to ask it -/
theorem law_far_eq (w h : List Nat) {k : Nat} (hk : k ≤ w.length) : E (at_ h) (at_ (w.take k)) h.length (w.take k).length = far w h k := by
  rw [E_sym, List.length_take, Nat.min_eq_left hk]
  exact E_congr _ _ (fun i hi => at_take hi) fun _ _ => rfl
end Mp.K61
end SK61m
section SK61n
/-! K61n: words by their beginnings: plain. -/
namespace Mp.K61
/-! ### the order of texts -/
theorem ltN_app : ∀ (a x y : List Nat), ltN (a ++ x) (a ++ y) = ltN x y
  | [], _, _ => rfl
  | c :: a, x, y => by
    rw [List.cons_append, List.cons_append, ltN, if_neg (Nat.lt_irrefl c), if_pos rfl, ltN_app a x y]
theorem ltN_pre (a : List Nat) (c : Nat) (t : List Nat) : ltN a (a ++ c :: t) = true := by
  have := ltN_app a [] (c :: t)
  rw [List.append_nil] at this
  rw [this]; rfl
theorem ltN_one {c d : Nat} (h : c < d) (x y : List Nat) : ltN (c :: x) (d :: y) = true := by rw [ltN, if_pos h]
theorem ltN_sing {c d : Nat} : ltN [c] [d] = true ↔ c < d := by
  rw [ltN]
  by_cases h : c < d
  · rw [if_pos h]; simp [h]
  · rw [if_neg h]
    by_cases e : c = d
    · rw [if_pos e]; simp [ltN, h]
    · rw [if_neg e]; simp [h]
def Srt (ws : List (List Nat)) : Prop := ws.Pairwise fun a b => ltN a b = true
theorem srt_ext {l m : List (List Nat)} (h : Srt l) (h' : Srt m) (e : ∀ z, z ∈ l ↔ z ∈ m) : l = m := (eq_srtU' sto_str (l := m) e h).trans (eq_srtU' sto_str (l := m) (fun _ => .rfl) h').symm
/-! ### words that begin with a -/
def sub (ws : List (List Nat)) (a : List Nat) : List (List Nat) := ws.filter fun w => a.isPrefixOf w
theorem sub_mem {ws : List (List Nat)} {a w : List Nat} : w ∈ sub ws a ↔ w ∈ ws ∧ ∃ t, w = a ++ t := by
  unfold sub
  rw [List.mem_filter, List.isPrefixOf_iff_prefix]
  exact and_congr_right fun _ => ⟨fun ⟨t, e⟩ => ⟨t, e.symm⟩, fun ⟨t, e⟩ => ⟨t, e.symm⟩⟩
theorem sub_srt {ws : List (List Nat)} (h : Srt ws) (a : List Nat) : Srt (sub ws a) := List.Pairwise.filter _ h
theorem sub_sub (ws : List (List Nat)) (a t : List Nat) : sub (sub ws a) (a ++ t) = sub ws (a ++ t) := by
  unfold sub
  rw [List.filter_filter]
  refine List.filter_congr fun w _ => ?_
  rw [Bool.and_eq_left_iff_imp]
  intro h
  rw [List.isPrefixOf_iff_prefix] at h ⊢
  exact (List.prefix_append a t).trans h
theorem sub_nil (ws : List (List Nat)) : sub ws [] = ws := by unfold sub; simp
/-- the next signs, in order -/
def raws (ws : List (List Nat)) (a : List Nat) : List (List Nat) := ((sub ws a).filter fun w => decide (a.length < w.length)).map fun w => [at_ w a.length]
def sgs (ws : List (List Nat)) (a : List Nat) : List (List Nat) := srtU ltN (raws ws a)
theorem raws_mem {ws : List (List Nat)} {a s : List Nat} : s ∈ raws ws a ↔ ∃ c t, s = [c] ∧ a ++ c :: t ∈ ws := by
  unfold raws
  rw [List.mem_map]
  constructor
  · rintro ⟨w, hw, rfl⟩
    obtain ⟨hw, hl⟩ := List.mem_filter.mp hw
    obtain ⟨hm, t, rfl⟩ := sub_mem.mp hw
    cases t with
    | nil => simp at hl
    | cons c t =>
      refine ⟨c, t, ?_, hm⟩
      unfold at_
      rw [List.getD_eq_getElem?_getD, List.getElem?_append_right (Nat.le_refl _), Nat.sub_self]; rfl
  · rintro ⟨c, t, rfl, hm⟩
    refine ⟨a ++ c :: t, List.mem_filter.mpr ⟨sub_mem.mpr ⟨hm, _, rfl⟩, by simp⟩, ?_⟩
    unfold at_
    rw [List.getD_eq_getElem?_getD, List.getElem?_append_right (Nat.le_refl _), Nat.sub_self]; rfl
theorem sgs_mem {ws : List (List Nat)} {a s : List Nat} : s ∈ sgs ws a ↔ ∃ c t, s = [c] ∧ a ++ c :: t ∈ ws := by
  unfold sgs
  rw [srtU_mem sto_str, raws_mem]
theorem sgs_srt (ws : List (List Nat)) (a : List Nat) : Srt (sgs ws a) := srtU_pw sto_str _
/-- words by their next sign -/
theorem sub_split {ws : List (List Nat)} (h : Srt ws) (a : List Nat) : sub ws a = (if a ∈ ws then [a] else []) ++ ((sgs ws a).map fun s => sub ws (a ++ s)).flatten := by
  refine srt_ext (sub_srt h a) ?_ fun z => ?_
  · unfold Srt
    rw [List.pairwise_append]
    refine ⟨?_, ?_, ?_⟩
    · split
      · exact List.pairwise_singleton ..
      · exact List.Pairwise.nil
    · rw [List.pairwise_flatten]
      refine ⟨fun l hl => ?_, ?_⟩
      · obtain ⟨s, _, rfl⟩ := List.mem_map.mp hl
        exact sub_srt h _
      · rw [List.pairwise_map]
        refine (sgs_srt ws a).imp_of_mem fun {s s'} hs hs' q x hx y hy => ?_
        obtain ⟨c, _, rfl, _⟩ := sgs_mem.mp hs
        obtain ⟨d, _, rfl, _⟩ := sgs_mem.mp hs'
        obtain ⟨_, t, rfl⟩ := sub_mem.mp hx
        obtain ⟨_, u, rfl⟩ := sub_mem.mp hy
        rw [List.append_assoc, List.append_assoc, ltN_app]
        exact ltN_one (ltN_sing.mp q) _ _
    · intro x hx y hy
      have hx : x = a := by
        split at hx
        · exact List.mem_singleton.mp hx
        · cases hx
      subst hx
      obtain ⟨l, hl, hy⟩ := List.mem_flatten.mp hy
      obtain ⟨s, hs, rfl⟩ := List.mem_map.mp hl
      obtain ⟨c, _, rfl, _⟩ := sgs_mem.mp hs
      obtain ⟨_, t, rfl⟩ := sub_mem.mp hy
      rw [List.append_assoc]
      exact ltN_pre _ _ _
  · rw [List.mem_append, sub_mem]
    constructor
    · rintro ⟨hm, t, rfl⟩
      cases t with
      | nil => left; rw [List.append_nil] at hm ⊢; rw [if_pos hm]; simp
      | cons c t =>
        right
        refine List.mem_flatten.mpr ⟨sub ws (a ++ [c]), List.mem_map.mpr ⟨[c], sgs_mem.mpr ⟨c, t, rfl, hm⟩, rfl⟩, sub_mem.mpr ⟨hm, t, by simp⟩⟩
    · rintro (hz | hz)
      · split at hz
        · rename_i c
          rw [List.mem_singleton.mp hz]
          exact ⟨c, [], by simp⟩
        · cases hz
      · obtain ⟨l, hl, hz⟩ := List.mem_flatten.mp hz
        obtain ⟨s, _, rfl⟩ := List.mem_map.mp hl
        obtain ⟨hm, t, e⟩ := sub_mem.mp hz
        exact ⟨hm, s ++ t, by rw [e, List.append_assoc]⟩
/-! ### what is met -/
def Deep (ws : List (List Nat)) (f : Nat) (a : List Nat) : Prop := ∀ w ∈ sub ws a, w.length < a.length + f
theorem Deep.step {ws : List (List Nat)} {f : Nat} {a : List Nat} (h : Deep ws (f + 1) a) {s : List Nat} (hs : s ∈ sgs ws a) : Deep ws f (a ++ s) := by
  obtain ⟨c, _, rfl, _⟩ := sgs_mem.mp hs
  intro w hw
  obtain ⟨hm, t, rfl⟩ := sub_mem.mp hw
  have := h _ (sub_mem.mpr ⟨hm, [c] ++ t, by simp⟩)
  have e : (a ++ [c]).length = a.length + 1 := by simp
  rw [List.length_append, e] at this ⊢
  omega
theorem deep0 {ws : List (List Nat)} {a : List Nat} (h : Deep ws 0 a) : sub ws a = [] := by
  cases e : sub ws a with
  | nil => rfl
  | cons w l =>
    have hw : w ∈ sub ws a := by rw [e]; simp
    have h1 := h w hw
    obtain ⟨_, t, rfl⟩ := sub_mem.mp hw
    rw [List.length_append] at h1; omega
/-- words told back -/
def tw (ws : List (List Nat)) : Nat → List Nat → List (List Nat)
  | 0, _ => []
  | f + 1, a => (if a ∈ ws then [[]] else []) ++ ((sgs ws a).map fun s => (tw ws f (a ++ s)).map (s ++ ·)).flatten
theorem tw_ok {ws : List (List Nat)} (h : Srt ws) : ∀ (f : Nat) (a : List Nat), Deep ws f a → (tw ws f a).map (a ++ ·) = sub ws a
  | 0, a, hd => by rw [deep0 hd]; rfl
  | f + 1, a, hd => by
    rw [tw, sub_split h a, List.map_append, List.map_flatten, List.map_map]
    congr 1
    · split <;> simp
    · congr 1
      refine List.map_congr_left fun s hs => ?_
      have := tw_ok h f (a ++ s) (hd.step hs)
      simp only [Function.comp, List.map_map]
      rw [← this]
      refine List.map_congr_left fun t _ => ?_
      simp
/-- rows that are near, and how many heads are met -/
def near (ws : List (List Nat)) (w : List Nat) (f : Int) : Nat → List Nat → List (List Nat × Int)
  | 0, _ => []
  | g + 1, a => (if a ∈ ws ∧ far w a w.length ≤ f then [(a, far w a w.length)] else []) ++ ((sgs ws a).map fun s => if lostB w f (a ++ s) = true then [] else near ws w f g (a ++ s)).flatten
def met (ws : List (List Nat)) (w : List Nat) (f : Int) : Nat → List Nat → Nat
  | 0, _ => 1
  | g + 1, a => 1 + ((sgs ws a).map fun s => if lostB w f (a ++ s) = true then 0 else met ws w f g (a ++ s)).sum
def nearL (w : List Nat) (f : Int) (l : List (List Nat)) : List (List Nat × Int) := (l.filter fun x => decide (far w x w.length ≤ f)).map fun x => (x, far w x w.length)
theorem nearL_app (w : List Nat) (f : Int) (l m : List (List Nat)) : nearL w f (l ++ m) = nearL w f l ++ nearL w f m := by
  unfold nearL; rw [List.filter_append, List.map_append]
theorem nearL_flat (w : List Nat) (f : Int) : ∀ L : List (List (List Nat)), nearL w f L.flatten = (L.map (nearL w f)).flatten
  | [] => rfl
  | l :: L => by rw [List.flatten_cons, nearL_app, nearL_flat w f L, List.map_cons, List.flatten_cons]
theorem nearL_lost {w : List Nat} {f : Int} {ws : List (List Nat)} {a : List Nat} (h : lostB w f a = true) : nearL w f (sub ws a) = [] := by
  unfold nearL
  rw [List.map_eq_nil_iff, List.filter_eq_nil_iff]
  intro x hx
  obtain ⟨_, t, rfl⟩ := sub_mem.mp hx
  have := lost_iff.mp (lost_app h t) w.length (Nat.le_refl _)
  simp; omega
theorem near_ok {ws : List (List Nat)} (h : Srt ws) (w : List Nat) (f : Int) : ∀ (g : Nat) (a : List Nat), Deep ws g a → near ws w f g a = nearL w f (sub ws a)
  | 0, a, hd => by rw [deep0 hd]; rfl
  | g + 1, a, hd => by
    rw [near, sub_split h a, nearL_app, nearL_flat, List.map_map]
    congr 1
    · by_cases c : a ∈ ws
      · rw [if_pos c]
        unfold nearL
        by_cases d : far w a w.length ≤ f
        · rw [if_pos ⟨c, d⟩]; simp [d]
        · rw [if_neg (fun z => d z.2)]; simp [d]
      · rw [if_neg c, if_neg (fun z => c z.1)]; rfl
    · congr 1
      refine List.map_congr_left fun s hs => ?_
      simp only [Function.comp]
      by_cases c : lostB w f (a ++ s) = true
      · rw [if_pos c, nearL_lost c]
      · rw [if_neg c, near_ok h w f g (a ++ s) (hd.step hs)]
/-! ### heads -/
structure Heads (ws H : List (List Nat)) : Prop where
  srt : Srt H
  mem : ∀ h, h ∈ H ↔ h = [] ∨ ∃ t, h ++ t ∈ ws
theorem Heads.sgs {ws H : List (List Nat)} (q : Heads ws H) (a : List Nat) : K61.sgs H a = K61.sgs ws a := by
  refine srt_ext (sgs_srt _ _) (sgs_srt _ _) fun s => ?_
  rw [sgs_mem, sgs_mem]
  constructor
  · rintro ⟨c, t, rfl, hm⟩
    rcases (q.mem _).mp hm with e | ⟨u, hu⟩
    · simp at e
    · exact ⟨c, t ++ u, rfl, by simpa using hu⟩
  · rintro ⟨c, t, rfl, hm⟩
    exact ⟨c, t, rfl, (q.mem _).mpr (.inr ⟨[], by simpa using hm⟩)⟩
def aliveL (w : List Nat) (f : Int) (l : List (List Nat)) : List (List Nat) := l.filter fun h => !lostB w f h
theorem alive_flat (w : List Nat) (f : Int) : ∀ L : List (List (List Nat)), (aliveL w f L.flatten).length = (L.map fun l => (aliveL w f l).length).sum
  | [] => rfl
  | l :: L => by
    have := alive_flat w f L
    unfold aliveL at this ⊢
    rw [List.flatten_cons, List.filter_append, List.length_append, this, List.map_cons, List.sum_cons]
theorem alive_lost {w : List Nat} {f : Int} {H : List (List Nat)} {a : List Nat} (h : lostB w f a = true) : aliveL w f (sub H a) = [] := by
  unfold aliveL
  rw [List.filter_eq_nil_iff]
  intro x hx
  obtain ⟨_, t, rfl⟩ := sub_mem.mp hx
  rw [lost_app h t]; simp
theorem met_ok {ws H : List (List Nat)} (q : Heads ws H) (w : List Nat) (f : Int) : ∀ (g : Nat) (a : List Nat), Deep H (g + 1) a → a ∈ H → lostB w f a = false → met ws w f g a = (aliveL w f (sub H a)).length
  | 0, a, hd, ha, hl => by
    have e : sub H a = [a] := by
      have e1 := sub_split q.srt a
      rw [if_pos ha] at e1
      have e2 : ((K61.sgs H a).map fun s => sub H (a ++ s)).flatten = [] := by
        rw [List.flatten_eq_nil_iff]
        intro l hl
        obtain ⟨s, hs, rfl⟩ := List.mem_map.mp hl
        exact deep0 (hd.step hs)
      rw [e2] at e1
      exact e1
    rw [e, met]
    unfold aliveL
    simp [hl]
  | g + 1, a, hd, ha, hl => by
    have e1 := sub_split q.srt a
    rw [if_pos ha, q.sgs a] at e1
    rw [met, e1]
    have e2 : (aliveL w f ([a] ++ ((K61.sgs ws a).map fun s => sub H (a ++ s)).flatten)).length = 1 + (aliveL w f ((K61.sgs ws a).map fun s => sub H (a ++ s)).flatten).length := by
      unfold aliveL
      rw [List.filter_append, List.length_append]
      simp [hl]
    rw [e2, alive_flat, List.map_map]
    congr 2
    refine List.map_congr_left fun s hs => ?_
    simp only [Function.comp]
    have hs' : s ∈ K61.sgs H a := by rw [q.sgs]; exact hs
    by_cases c : lostB w f (a ++ s) = true
    · rw [if_pos c, alive_lost c]; rfl
    · rw [if_neg c]
      refine met_ok q w f g (a ++ s) (hd.step hs') ?_ (by simpa using c)
      obtain ⟨d, t, rfl, hm⟩ := sgs_mem.mp hs
      exact (q.mem _).mpr (.inr ⟨t, by simpa using hm⟩)
end Mp.K61
end SK61n
section SLoop
/-! Loop: loops, by an invariant. -/
namespace Mp
theorem forGo_inv {s : D} {f : D → Env → Store → Ou} {xs : List D} (I : Nat → Env → Store → Prop) (hs : ∀ i ρ μ, I i ρ μ → srcOk μ s xs = true)
    (h : ∀ i x ρ μ, xs[i]? = some x → I i ρ μ → ∃ ρ' μ', (f x ρ μ = .nx ρ' μ' ∨ f x ρ μ = .ct ρ' μ') ∧ I (i + 1) ρ' μ') {ρ : Env} {μ : Store} (h0 : I 0 ρ μ) :
    ∃ ρ' μ', forGo s xs f xs ρ μ = .nx ρ' μ' ∧ I xs.length ρ' μ' := by
  have go : ∀ (n i : Nat) (ρ : Env) (μ : Store), i + n = xs.length → I i ρ μ → ∃ ρ' μ', forGo s xs f (xs.drop i) ρ μ = .nx ρ' μ' ∧ I xs.length ρ' μ' := by
    intro n
    induction n with
    | zero =>
      intro i ρ μ hi hI
      rw [List.drop_of_length_le (by omega)]
      have e : i = xs.length := by omega
      exact ⟨ρ, μ, by simp only [forGo, hs i ρ μ hI, if_true], e ▸ hI⟩
    | succ n ih =>
      intro i ρ μ hi hI
      have hlt : i < xs.length := by omega
      rw [List.drop_eq_getElem_cons hlt]
      obtain ⟨ρ', μ', e, hI'⟩ := h i _ ρ μ (List.getElem?_eq_getElem hlt) hI
      obtain ⟨ρ2, μ2, e2, hI2⟩ := ih (i + 1) ρ' μ' (by omega) hI'
      refine ⟨ρ2, μ2, ?_, hI2⟩
      rcases e with e | e <;> simp only [forGo, hs i ρ μ hI, if_true, e, e2]
  simpa using go xs.length 0 ρ μ (by omega) h0
theorem whGo_inv {G : String → Option D} {call : String → List D → Store → Rs D} {c : C} {b : Ss} (I : Nat → Env → Store → Prop) (Q : Ou → Prop)
    (h : ∀ n ρ μ, I n ρ μ → (∃ ρ' μ' m, whS ((ev G call c ρ μ).ou ρ (kWhT G call b ρ)) = some (.inl (ρ', μ')) ∧ m < n ∧ I m ρ' μ') ∨ ∃ o, whS ((ev G call c ρ μ).ou ρ (kWhT G call b ρ)) = some (.inr o) ∧ Q o) :
    ∀ (n : Nat) (ρ : Env) (μ : Store), I n ρ μ → ∃ o, exec G call (.wh c b) ρ μ = o ∧ Q o := by
  have go : ∀ (n : Nat) (ρ : Env) (μ : Store), I n ρ μ → ∃ o, whGo G call c b (ρ, μ) = some o ∧ Q o := by
    intro n
    induction n using Nat.strongRecOn with
    | _ n ih =>
      intro ρ μ hI
      rw [whGo_eq]
      rcases h n ρ μ hI with ⟨ρ', μ', m, e, hm, hI'⟩ | ⟨o, e, q⟩
      · simp only [e]
        exact ih m hm ρ' μ' hI'
      · simp only [e]
        exact ⟨o, rfl, q⟩
  intro n ρ μ hI
  obtain ⟨o, e, q⟩ := go n ρ μ hI
  exact ⟨o, by rw [exec_wh, e]; rfl, q⟩
end Mp
end SLoop
section SDraws2
/-! Draws2: draws, by functions. -/
namespace Mp
local macro_rules
  | `(tactic| simp! [$ls,*]) => `(tactic| simp (disch := omega) only [ev_lit, ev_varS, kVar_some, isX_non, isX_bl, isX_int, isX_str, isX_tup, isX_tl, isX_fz, isX_ref, isX_fn, ev_glo, ev_bin, ev_neg, ev_nt, ev_band, ev_bor, ev_ite, ev_cmp, ev_cmp2, ev_call, ev_blt, ev_isi, ev_meth, ev_tup, ev_lst, ev_ix, ev_lc, ev_rng1, ev_rng2, ev_rngd, ev_zip, kZipL_eq, kZipR_eq, zipD_tup, ev_rngs, kRngsL_eq, kRngsR_eq, kRngsQ_int, allocs_rngS, lcT_eqS, kLcB_some, kRngdL_eq, kRngdR_int, allocs_rngD, ev_lrng, ev_enum, kEnum_eq, enumD_str, ev_rev, kRev_str, ev_frz, kFrz_eq, ev_sl1, kSl1L_eq, kSl1R_eq, ev_sl2, kSl2L_eq, kSl2R_eq, ev_sl3, kSl3L_eq, kSl3R_int, kSl3Q_eq, sl1D, sl2D, sl3D, cutD, cut_to, cut_from, cut_fromto, ev_xf, kXf_some, xField, ev_isx, kIsx_some,
  evs_nil, evs_cons, evAnd_one, evAnd_cons, evOr_one, evOr_cons, evIfs_nil, evIfs_cons, kBinL_eq, kBinR_eq, kNeg_int, kNt_eq, kIte_bl, kCmpL_eq, kCmpR_eq, kCmp2L_eq, kCmp2R_eqS, kBlt_eq, kIsi_eq, kMethL_eq, kMethR_eqS, kMthS_some, kTup_eq, kLst_eq, kIxL_eq, kIxR_eq, kLcD_eq, kLcI_eq,
  kRng2L_eq, kConsL_eq, kConsR_eq, kAnd_bl, kOr_bl, kIfs_bl, execs_nil, execs_cons, kRest_eq, exec_expr, exec_set, exec_augS, kAugV_some, kAug_eqS, kAugS_some, exec_seti, exec_ret, exec_ite, exec_for, exec_brk, exec_cont, exec_pass, exec_rais, kRais_eq, exec_tryc, kTry_ex, kTry_nx, kTry_br, kTry_ct, kTry_rt, kTryH_none, kTryH_some, wipeO_nx, wipeO_br, wipeO_ct, wipeO_rt, unE_nx, unE_br, unE_ct, unE_rt, kExpr_eq, kSet_v, kSet_tS, kBnd_some, bindT_v, bindT_t, bindTs_nil, bindTs_cons,
  kWhT_bl, kWhB_nx, kWhB_ct, kWhB_br, kWhB_rt, kWhB_ex, whS_ex, ev_callvS, kCv_some, whS_nx, whS_br, whS_rt, kSeti1_eq, kSeti2_eq, kSeti3_eqS, kSetS_some, kRet_eq, kIf_bl, kFor_eqS, kForI_some, kLc_eqS, kLcX_some, forT_eqS, kForT_some, kRng1_int, kRng2R_int, kLrng_int, Rs.bnd_ok, Rs.bnd_ex, Rs.of_some, Rs.ou_ok, Rs.ou_ex, Ou.seq_nx, Ou.seq_br, Ou.seq_ct, Ou.seq_rt, Ou.seq_ex,
  forGo_cons, forGo_nilS, forK_nx, forK_ct, forK_br, forK_rt, forK_ex, srcOk_tup, srcOk_fz, srcOk_tl, srcOk_str, srcOk_ref, lcGo_cons, lcGo_nilS, lcK_some, lcK_none, Ss.tl, Ss.hd, S.bod, S.cnd,
  ev_u0, ev_u1, kU1_eq, ev_u2, kU2_eq, kU2R_eq, ev_u3, kU3_eq, kU3M_eq, kU3R_eq, exec_dput, kDput1_eq, kDput2_eq, kDput3_eq, ofP_some, op0_dict, op1_sset, op1_dlen, op1_sdict, op2_dix, op2_din, op2_dnin, op2_get, op2_ext, op3_get, op3_setd, setdO_some, setdO_none, getD_eqO, getDO_some, putD_eqS, putDO_some, keyOk_int, keyOk_str, divOk_lit, seqT, rOk2_dix, rOk2_din, rOk2_dnin, rOk2_get, rOk2_ext, rOk3_get, rOk3_setd, seqL,
  Option.bind_some, Option.map_some, List.getElem?_cons_zero, List.getElem?_cons_succ, List.getElem?_nil, List.set_cons_zero, List.set_cons_succ, alloc, allocs, settle, items, truth, binop, augop, cmpop, bltin, isOf, getIx, D.stills, D.still, freeze, freezes, D.under, D.unders, D.flat, List.all_cons, List.all_nil, Bool.and_true, Bool.true_and, Bool.and_self, Bool.and_false, Bool.false_and, Bool.or_true, Bool.true_or, Bool.or_false, Bool.false_or, wipeE, decide_true, decide_false, Bool.not_true, Bool.not_false, Bool.false_eq_true, if_true, if_false, ite_true, ite_false, ↓reduceIte,
  List.map_cons, List.map_nil, List.cons_append, List.nil_append, List.append_assoc, List.replicate_succ, List.replicate_zero, List.length_cons, List.length_nil, List.length_map, List.length_set, List.length_append, List.set_set, List.getElem?_set_self, List.getElem?_map, Nat.zero_add, Nat.reduceAdd, Nat.reduceSub, eqD_int, setIx_eqS, kSetI_some, decide_eq_true_eq, Option.map_none, Option.bind_none, endC_rt, endC_nx, endC_ex, callA_ite, stills_map, unders_map, freezes_map, freezes_app, all_T, allocs_ints, alloc_tupI, allocs_rngL, stills_rng, methop_eqS, kApp_some, recvOk_eqS, Option.isSome_some, getL_eqO, getO_some, app_get0, app_getk, app_getl, app_set0, app_setk, len_set, fin_app0, fin_self, finX_app, finX_self, finF_list0, eqD_bl, eqD_str1, eq_self, bool_beq_self, reduceCtorEq, ne_eq, not_false_eq_true, not_true_eq_false, and_true, true_and, and_self, and_false, false_and,
  LIM, ixNat, ilt_T, ilt_F, ile_T, ile_F, ieq_T, ieq_F, nlt_T, nlt_F, nle_T, nle_F, neq_T, neq_F, Int.toNat_natCast, tn_add, tn_sub, tn_neg1, tn_zero, tn_one, tn_two, tn_three, Int.natCast_add, Int.cast_ofNat_Int, Int.reduceNeg, Int.reduceAdd, Int.reduceSub, Int.reduceMul, Int.reduceLT, Int.reduceLE, Int.reduceEq, Int.reduceToNat, $ls,*])
open Help
/-! ### draws, by a function of what is left -/
structure DS where
  cells : List Int
  pos : Nat
  big : Int
  seed : Int
def DS.s1 (S : DS) : DS := if S.big = 0 ∧ S.pos < S.cells.length then
    { S with pos := S.pos + 1, big := if 1000000000000000000 ≤ S.cells.getD S.pos default then S.cells.getD S.pos default else S.big, seed := (S.seed * 48271 + S.cells.getD S.pos default + 13).fmod 2147483647 } else S
/-- what is drawn -/
def dv (S : DS) (lim : Int) : Int := if 0 < S.s1.big then S.s1.big.fmod lim else (((S.s1.seed * 69621 + 7).fmod 2147483629).fdiv 11).fmod lim
/-- what is left -/
def dn (S : DS) (lim : Int) : DS := if 0 < S.s1.big then { S.s1 with big := S.s1.big.fdiv lim } else { S.s1 with seed := (S.s1.seed * 69621 + 7).fmod 2147483629 }
structure DS.Ok (S : DS) : Prop where
  b : 0 ≤ S.big
  s : 0 ≤ S.seed
theorem DS.s1_ok {S : DS} (h : S.Ok) : S.s1.Ok := by
  unfold DS.s1
  split
  · refine ⟨?_, (Int.fmod_nonneg_of_pos _ (by decide))⟩
    dsimp only
    split
    · omega
    · exact h.b
  · exact h
theorem dv_nn (S : DS) {lim : Int} (h : 0 < lim) : 0 ≤ dv S lim := by
  unfold dv; split <;> exact Int.fmod_nonneg_of_pos _ h
theorem dv_lt (S : DS) {lim : Int} (h : 0 < lim) : dv S lim < lim := by
  unfold dv; split <;> exact Int.fmod_lt_of_pos _ h
theorem dn_ok {S : DS} (h : S.Ok) {lim : Int} (hl : 0 < lim) : (dn S lim).Ok := by
  unfold dn
  split
  · exact ⟨Int.fdiv_nonneg (DS.s1_ok h).b (Int.le_of_lt hl), (DS.s1_ok h).s⟩
  · exact ⟨(DS.s1_ok h).b, Int.fmod_nonneg_of_pos _ (by decide)⟩
/-- the two lists of draws, at the beginning of a store -/
def dsO (S : DS) : Obj := .lst [.ref 0, .int S.pos, .int S.big, .int S.seed]
def Sd (S : DS) (N : Store) : Store := .lst (S.cells.map .int) :: dsO S :: N
theorem mulOk_lit {i j : Int} (h : -18446744073709551616 < j) (h' : j < 18446744073709551616) : mulOk i j = true := by
  unfold mulOk
  have e : (2 : Int) ^ 64 = 18446744073709551616 := by decide
  rw [e, decide_eq_true h, decide_eq_true h']; simp
theorem fin_1 {a o : Obj} {N : Store} {l : List D} {d : D} (hd : d.under (N.length + 2) = true) (hl : D.unders (N.length + 2) l = true) : fin (a :: o :: N) d (a :: .lst l :: N) = .ok d (a :: .lst l :: N) :=
  fin_set0 (μ := a :: o :: N) (r := 1) hd hl
theorem fin_1i {a o : Obj} {N : Store} {p b s v : Int} : fin (a :: o :: N) (.int v) (a :: .lst [.ref 0, .int p, .int b, .int s] :: N) = .ok (.int v) (a :: .lst [.ref 0, .int p, .int b, .int s] :: N) := fin_1 rfl (by simp [D.unders, D.under])
theorem draw_S {P : Prog} (hP : P.fn "_law_draw" = some f_law_draw) (k : Nat) {S : DS} {N : Store} {lim : Int} (h : S.Ok) (h0 : 0 < lim) (h1 : lim < 18446744073709551616) :
    callN P (k + 1) "_law_draw" [.ref 1, .int lim] (Sd S N) = .ok (.int (dv S lim)) (Sd (dn S lim) N) := by
  obtain ⟨cells, pos, big, seed⟩ := S
  obtain ⟨hb, hs⟩ := h
  dsimp only at hb hs
  rw [callN_go hP rfl]
  have m1 : ∀ i, mulOk i 48271 = true := fun i => mulOk_lit (by decide) (by decide)
  have m2 : ∀ i, mulOk i 69621 = true := fun i => mulOk_lit (by decide) (by decide)
  by_cases c1 : big = 0
  · subst c1
    by_cases c2 : pos < cells.length
    · have g := get_D c2
      by_cases c3 : 1000000000000000000 ≤ cells.getD pos default
      · simp! [f_law_draw, Sd, dsO, m1, m2, g, dv, dn, DS.s1, fin_1i]
      · simp! [f_law_draw, Sd, dsO, m1, m2, g, dv, dn, DS.s1, fin_1i]
    · simp! [f_law_draw, Sd, dsO, m1, m2, dv, dn, DS.s1, fin_1i]
  · simp! [f_law_draw, Sd, dsO, m1, m2, dv, dn, DS.s1, fin_1i]
theorem draws_S {P : Prog} (hP : P.fn "_law_draws" = some f_law_draws) (k : Nat) (μ : Store) (l : List Int) : callN P (k + 1) "_law_draws" [.fz (l.map .int)] μ = .ok (.tl [.tl (l.map .int), .int 0, .int 0, .int 1]) μ := by
  rw [callN_go hP rfl]
  simp! [f_law_draws]
theorem s1_cells {S : DS} : S.s1.cells = S.cells := by unfold DS.s1; split <;> rfl
theorem dn_cells {S : DS} {lim : Int} : (dn S lim).cells = S.cells := by unfold dn; split <;> exact s1_cells
/-- what is picked -/
def pk (S : DS) (l : List D) : D := l.getD (dv S l.length).toNat default
theorem pk_mem {S : DS} {l : List D} (h : 0 < l.length) : pk S l ∈ l := by
  have h1 := dv_nn S (lim := l.length) (by omega)
  have h2 := dv_lt S (lim := l.length) (by omega)
  have h3 : (dv S l.length).toNat < l.length := by omega
  unfold pk
  rw [List.getD_eq_getElem?_getD, List.getElem?_eq_getElem h3]
  exact List.getElem_mem h3
theorem pures_mem : ∀ {l : List D} {d : D}, D.pures l = true → d ∈ l → d.pure = true
  | x :: l, d, h, hm => by
    have h' : x.pure = true ∧ D.pures l = true := by simpa [D.pures] using h
    rcases List.mem_cons.mp hm with e | hm
    · rw [e]; exact h'.1
    · exact pures_mem h'.2 hm
theorem pick_S {P : Prog} (hD : P.fn "_law_draw" = some f_law_draw) (hP : P.fn "_law_pick" = some f_law_pick) (k : Nat) {S : DS} {N : Store} {l : List D} (h : S.Ok) (h0 : 0 < l.length) (h1 : l.length < 1000000) (hp : D.pures l = true) :
    callN P (k + 2) "_law_pick" [.ref 1, .fz l] (Sd S N) = .ok (pk S l) (Sd (dn S l.length) N) := by
  have hd := draw_S hD k (N := N) (lim := (l.length : Int)) h (by omega) (by omega)
  rw [callN_go hP rfl]
  have hx := pures_mem hp (pk_mem (S := S) h0)
  have h2 := dv_nn S (lim := l.length) (by omega)
  have h3 := dv_lt S (lim := l.length) (by omega)
  have hg : l[(dv S l.length).toNat]? = some (pk S l) := get_D (by omega)
  have hf : fin (Sd S N) (pk S l) (Sd (dn S l.length) N) = .ok (pk S l) (Sd (dn S l.length) N) := by
    unfold Sd
    rw [dn_cells]
    exact fin_1 (under_pure _ hx) (by simp [D.unders, D.under])
  simp! [f_law_pick, hd, hg, hf]
/-! ### the same -/
mutual
def D.same : D → Bool
  | .non | .bl _ | .int _ | .str _ => true
  | .tup l => D.sames l
  | .fz l => D.sames l
  | _ => false
def D.sames : List D → Bool
  | [] => true
  | d :: ds => D.same d && D.sames ds
end
mutual
def D.hgt : D → Nat
  | .tup l => D.hgts l + 1
  | .fz l => D.hgts l + 1
  | _ => 0
def D.hgts : List D → Nat
  | [] => 0
  | d :: ds => max (D.hgt d) (D.hgts ds)
end
mutual
theorem pure_same : ∀ d : D, d.same = true → d.pure = true
  | .non, _ | .bl _, _ | .int _, _ | .str _, _ => by simp [D.pure]
  | .tup l, h => by simpa [D.pure] using pures_same l (by simpa [D.same] using h)
  | .fz l, h => by simpa [D.pure] using pures_same l (by simpa [D.same] using h)
  | .ref _, h | .tl _, h | .fn _, h | .exn .., h => by simp [D.same] at h
theorem pures_same : ∀ l : List D, D.sames l = true → D.pures l = true
  | [], _ => by simp [D.pures]
  | d :: ds, h => by
    have h' : d.same = true ∧ D.sames ds = true := by simpa [D.sames] using h
    simp [D.pures, pure_same d h'.1, pures_same ds h'.2]
end
theorem sames_get : ∀ {l : List D} {i : Nat} {d : D}, D.sames l = true → l[i]? = some d → d.same = true ∧ d.hgt ≤ D.hgts l
  | x :: l, 0, d, h, e => by
    have h' : x.same = true ∧ D.sames l = true := by simpa [D.sames] using h
    cases e
    exact ⟨h'.1, Nat.le_max_left _ _⟩
  | x :: l, i + 1, d, h, e => by
    have h' : x.same = true ∧ D.sames l = true := by simpa [D.sames] using h
    have := sames_get h'.2 (by simpa using e)
    exact ⟨this.1, Nat.le_trans this.2 (Nat.le_max_right _ _)⟩
theorem eqD_str {μ : Store} {a b : List Nat} : eqD μ (.str a) (.str b) = some (decide (a = b)) := by
  have h : eqD μ (.str a) (.str b) = if (D.str a).dep ≤ 60 ∧ (D.str b).dep ≤ 60 then some (peq (.str a) (.str b)) else none := rfl
  rw [h, if_pos ⟨Nat.zero_le _, Nat.zero_le _⟩]
  by_cases e : a = b
  · subst e; simp [peq]
  · simp [peq, e]
theorem same_list {P : Prog} (hP : P.fn "_law_same" = some f_law_same) (k : Nat) (μ : Store) (b : Bool) (l : List D) (hl : l.length ≤ 1000000) (hs : D.sames l = true) (ih : ∀ (i : Nat) (d : D), l[i]? = some d → callN P k "_law_same" [d, d] μ = .ok (.bl true) μ) :
    callN P (k + 1) "_law_same" [if b then .tup l else .fz l, if b then .tup l else .fz l] μ = .ok (.bl true) μ := by
  have hlc : ∀ ρ : Env, (ρ = [some (if b then .tup l else .fz l), some (if b then .tup l else .fz l), none]) → lcGo (.tl (rngL 0 (l.length : Int))) (rngL 0 (l.length : Int)) (lcT P.G (callN P k) (.var 2) (.v 2) [("k", 2)] (.cons (.nt (.call "_law_same" (.cons (.ix (.var 0) (.var 2)) (.cons (.ix (.var 1) (.var 2)) .nil)))) .nil) ρ) (rngL 0 (l.length : Int)) μ [] = .ok (.tl []) μ := by
    intro ρ hρ
    subst hρ
    have e : rngL 0 (l.length : Int) = (List.range l.length).map fun (i : Nat) => D.int (0 + (i : Int)) := by simp [rngL]
    rw [e]
    have := lcGo_eq (μ := μ) (s := .tl ((List.range l.length).map fun (i : Nat) => D.int (0 + (i : Int)))) (xs := (List.range l.length).map fun (i : Nat) => D.int (0 + (i : Int))) (f := lcT P.G (callN P k) (.var 2) (.v 2) [("k", 2)] (.cons (.nt (.call "_law_same" (.cons (.ix (.var 0) (.var 2)) (.cons (.ix (.var 1) (.var 2)) .nil)))) .nil) [some (if b then .tup l else .fz l), some (if b then .tup l else .fz l), none]) (e := fun (i : Nat) => D.int (0 + (i : Int))) (g := fun _ => none) rfl (List.range l.length) [] (fun i hi => by
      have hi : i < l.length := List.mem_range.mp hi
      have g := get_D hi
      have hc := ih i _ g
      have hp := pure_same _ (sames_get hs g).1
      have hst := still_pure _ hp
      have z : (0 : Int) + (i : Int) = i := by omega
      cases b
      · simp! [z, g, hc, hst, Bool.false_eq_true]
      · simp! [z, g, hc, hst]) (by simp only [List.length_nil, List.length_range, Nat.zero_add]; show _ ≤ 16777216; omega)
    rw [this]
    simp
  have h1 := hlc _ rfl
  have hn : (D.int (l.length : Int)) = D.int (l.length : Int) := rfl
  have hst := stills_pure l (pures_same l hs)
  rw [callN_go hP rfl]
  cases b
  · simp only [Bool.false_eq_true, if_false] at h1 ⊢
    simp! [f_law_same, h1, hst]
  · simp only [if_true] at h1 ⊢
    simp! [f_law_same, h1, hst]
mutual
def D.wid : D → Nat
  | .tup l => max l.length (D.wids l)
  | .fz l => max l.length (D.wids l)
  | _ => 0
def D.wids : List D → Nat
  | [] => 0
  | d :: ds => max (D.wid d) (D.wids ds)
end
theorem wids_get : ∀ {l : List D} {i : Nat} {d : D}, l[i]? = some d → d.wid ≤ D.wids l
  | x :: l, 0, d, e => by cases e; exact Nat.le_max_left _ _
  | x :: l, i + 1, d, e => Nat.le_trans (wids_get (by simpa using e)) (Nat.le_max_right _ _)
/-- what is the same is told to be so -/
theorem same_refl {P : Prog} (hP : P.fn "_law_same" = some f_law_same) (μ : Store) : ∀ (k : Nat) (d : D), d.same = true → d.hgt < k → d.wid ≤ 1000000 → callN P k "_law_same" [d, d] μ = .ok (.bl true) μ
  | 0, _, _, h, _ => absurd h (Nat.not_lt_zero _)
  | k + 1, .non, _, _, _ => by rw [callN_go hP rfl]; simp! [f_law_same]
  | k + 1, .bl b, _, _, _ => by rw [callN_go hP rfl]; simp! [f_law_same]
  | k + 1, .int i, _, _, _ => by rw [callN_go hP rfl]; simp! [f_law_same]
  | k + 1, .str s, _, _, _ => by rw [callN_go hP rfl]; simp! [f_law_same, eqD_str]
  | k + 1, .tup l, h, hh, hw => by
    have hs : D.sames l = true := by simpa [D.same] using h
    simp only [D.hgt, D.wid] at hh hw
    exact same_list hP k μ true l (by omega) hs fun i d e => same_refl hP μ k d (sames_get hs e).1 (by have := (sames_get hs e).2; omega) (by have := wids_get e; omega)
  | k + 1, .fz l, h, hh, hw => by
    have hs : D.sames l = true := by simpa [D.same] using h
    simp only [D.hgt, D.wid] at hh hw
    exact same_list hP k μ false l (by omega) hs fun i d e => same_refl hP μ k d (sames_get hs e).1 (by have := (sames_get hs e).2; omega) (by have := wids_get e; omega)
  | _ + 1, .ref _, h, _, _ | _ + 1, .tl _, h, _, _ | _ + 1, .fn _, h, _, _ | _ + 1, .exn .., h, _, _ => by simp [D.same] at h
end Mp
end SDraws2
section SK61p
/-! K61p: words, columns, by the program. -/
namespace Mp
local macro_rules
  | `(tactic| simp! [$ls,*]) => `(tactic| simp (disch := omega) only [ev_lit, ev_varS, kVar_some, isX_non, isX_bl, isX_int, isX_str, isX_tup, isX_tl, isX_fz, isX_ref, isX_fn, ev_glo, ev_bin, ev_neg, ev_nt, ev_band, ev_bor, ev_ite, ev_cmp, ev_cmp2, ev_call, ev_blt, ev_isi, ev_meth, ev_tup, ev_lst, ev_ix, ev_lc, ev_rng1, ev_rng2, ev_rngd, ev_zip, kZipL_eq, kZipR_eq, zipD_tup, ev_rngs, kRngsL_eq, kRngsR_eq, kRngsQ_int, allocs_rngS, lcT_eqS, kLcB_some, kRngdL_eq, kRngdR_int, allocs_rngD, ev_lrng, ev_enum, kEnum_eq, enumD_str, ev_rev, kRev_str, ev_frz, kFrz_eq, ev_sl1, kSl1L_eq, kSl1R_eq, ev_sl2, kSl2L_eq, kSl2R_eq, ev_sl3, kSl3L_eq, kSl3R_int, kSl3Q_eq, sl1D, sl2D, sl3D, cutD, cut_to, cut_from, cut_fromto, ev_xf, kXf_some, xField, ev_isx, kIsx_some,
  evs_nil, evs_cons, evAnd_one, evAnd_cons, evOr_one, evOr_cons, evIfs_nil, evIfs_cons, kBinL_eq, kBinR_eq, kNeg_int, kNt_eq, kIte_bl, kCmpL_eq, kCmpR_eq, kCmp2L_eq, kCmp2R_eqS, kBlt_eq, kIsi_eq, kMethL_eq, kMethR_eqS, kMthS_some, kTup_eq, kLst_eq, kIxL_eq, kIxR_eq, kLcD_eq, kLcI_eq,
  kRng2L_eq, kConsL_eq, kConsR_eq, kAnd_bl, kOr_bl, kIfs_bl, execs_nil, execs_cons, kRest_eq, exec_expr, exec_set, exec_augS, kAugV_some, kAug_eqS, kAugS_some, exec_seti, exec_ret, exec_ite, exec_for, exec_brk, exec_cont, exec_pass, exec_rais, kRais_eq, exec_tryc, kTry_ex, kTry_nx, kTry_br, kTry_ct, kTry_rt, kTryH_none, kTryH_some, wipeO_nx, wipeO_br, wipeO_ct, wipeO_rt, unE_nx, unE_br, unE_ct, unE_rt, kExpr_eq, kSet_v, kSet_tS, kBnd_some, bindT_v, bindT_t, bindTs_nil, bindTs_cons,
  kWhT_bl, kWhB_nx, kWhB_ct, kWhB_br, kWhB_rt, kWhB_ex, whS_ex, ev_callvS, kCv_some, whS_nx, whS_br, whS_rt, kSeti1_eq, kSeti2_eq, kSeti3_eqS, kSetS_some, kRet_eq, kIf_bl, kFor_eqS, kForI_some, kLc_eqS, kLcX_some, forT_eqS, kForT_some, kRng1_int, kRng2R_int, kLrng_int, Rs.bnd_ok, Rs.bnd_ex, Rs.of_some, Rs.ou_ok, Rs.ou_ex, Ou.seq_nx, Ou.seq_br, Ou.seq_ct, Ou.seq_rt, Ou.seq_ex,
  forGo_cons, forGo_nilS, forK_nx, forK_ct, forK_br, forK_rt, forK_ex, srcOk_tup, srcOk_fz, srcOk_tl, srcOk_str, srcOk_ref, lcGo_cons, lcGo_nilS, lcK_some, lcK_none, Ss.tl, Ss.hd, S.bod, S.cnd,
  ev_u0, ev_u1, kU1_eq, ev_u2, kU2_eq, kU2R_eq, ev_u3, kU3_eq, kU3M_eq, kU3R_eq, exec_dput, kDput1_eq, kDput2_eq, kDput3_eq, ofP_some, op0_dict, op1_sset, op1_dlen, op1_sdict, op2_dix, op2_din, op2_dnin, op2_get, op2_ext, op3_get, op3_setd, setdO_some, setdO_none, getD_eqO, getDO_some, putD_eqS, putDO_some, keyOk_int, keyOk_str, divOk_lit, seqT, rOk2_dix, rOk2_din, rOk2_dnin, rOk2_get, rOk2_ext, rOk3_get, rOk3_setd, seqL,
  Option.bind_some, Option.map_some, List.getElem?_cons_zero, List.getElem?_cons_succ, List.getElem?_nil, List.set_cons_zero, List.set_cons_succ, alloc, allocs, settle, items, truth, binop, augop, cmpop, bltin, isOf, getIx, D.stills, D.still, freeze, freezes, D.under, D.unders, D.flat, List.all_cons, List.all_nil, Bool.and_true, Bool.true_and, Bool.and_self, Bool.and_false, Bool.false_and, Bool.or_true, Bool.true_or, Bool.or_false, Bool.false_or, wipeE, decide_true, decide_false, Bool.not_true, Bool.not_false, Bool.false_eq_true, if_true, if_false, ite_true, ite_false, ↓reduceIte,
  List.map_cons, List.map_nil, List.cons_append, List.nil_append, List.append_assoc, List.replicate_succ, List.replicate_zero, List.length_cons, List.length_nil, List.length_map, List.length_set, List.length_append, List.set_set, List.getElem?_set_self, List.getElem?_map, Nat.zero_add, Nat.reduceAdd, Nat.reduceSub, eqD_int, setIx_eqS, kSetI_some, decide_eq_true_eq, Option.map_none, Option.bind_none, endC_rt, endC_nx, endC_ex, callA_ite, stills_map, unders_map, freezes_map, freezes_app, all_T, allocs_ints, alloc_tupI, allocs_rngL, stills_rng, methop_eqS, kApp_some, recvOk_eqS, Option.isSome_some, getL_eqO, getO_some, app_get0, app_getk, app_getl, app_set0, app_setk, len_set, fin_app0, fin_self, finX_app, finX_self, finF_list0, eqD_bl, eqD_str1, eq_self, bool_beq_self, reduceCtorEq, ne_eq, not_false_eq_true, not_true_eq_false, and_true, true_and, and_self, and_false, false_and,
  LIM, ixNat, ilt_T, ilt_F, ile_T, ile_F, ieq_T, ieq_F, nlt_T, nlt_F, nle_T, nle_F, neq_T, neq_F, Int.toNat_natCast, tn_add, tn_sub, tn_neg1, tn_zero, tn_one, tn_two, tn_three, Int.natCast_add, Int.cast_ofNat_Int, Int.reduceNeg, Int.reduceAdd, Int.reduceSub, Int.reduceMul, Int.reduceLT, Int.reduceLE, Int.reduceEq, Int.reduceToNat, $ls,*])
namespace K61
theorem pn_draw : prog.fn "_law_draw" = some f_law_draw := rfl
theorem pn_pick : prog.fn "_law_pick" = some f_law_pick := rfl
theorem pn_same : prog.fn "_law_same" = some f_law_same := rfl
def runs : List Nat := match prog.consts.lookup "RUNS" with
  | some (.str l) => l
  | _ => []
theorem G_runs : prog.G "RUNS" = some (.str runs) := rfl
theorem G_word : prog.G "MOST_WORD" = some (.int 24) := rfl
theorem G_far : prog.G "MOST_FAR" = some (.int 3) := rfl
theorem pures_ints (l : List Int) : D.pures (l.map D.int) = true := by rw [pures_map]; simp [D.pure]
theorem pures_strs (l : List (List Nat)) : D.pures (l.map D.str) = true := by rw [pures_map]; simp [D.pure]
theorem un_ints (n : Nat) (l : List Int) : D.unders n (l.map D.int) = true := by rw [unders_map]; simp [D.under]
theorem rng_int {lo hi : Int} {i : Nat} {x : D} (h : (rngL lo hi)[i]? = some x) : ∃ j : Int, x = .int j := by
  rw [rngL_ints, List.getElem?_map, Option.map_eq_some_iff] at h
  obtain ⟨j, _, e⟩ := h
  exact ⟨j, e.symm⟩
theorem rng_len0 {n : Nat} : (rngL 0 (n : Int)).length = n := by simp [rngL]
theorem rng_nat (m : Nat) : rngL 0 (m : Int) = (List.range m).map fun (i : Nat) => D.int (i : Int) := by simp [rngL]
/-! ### words -/
structure WordOk (s : List Nat) : Prop where
  ne : 0 < s.length
  le : s.length ≤ 24
  ok : ∀ c ∈ s, runs.contains c = true
def wordB (s : List Nat) : Bool := decide (0 < s.length) && decide (s.length ≤ 24) && s.all fun c => runs.contains c
theorem boolsOf_map {α : Type} (l : List α) (b : α → Bool) : boolsOf (l.map fun x => D.bl (b x)) = some (l.map b) := by
  induction l with
  | nil => rfl
  | cons x l ih => simp [boolsOf, ih]
theorem all_map_id {α : Type} (l : List α) (b : α → Bool) : (l.map b).all id = l.all b := by rw [List.all_map]; rfl
theorem is_word_s (k : Nat) (μ : Store) {s : List Nat} (hl : s.length ≤ 1000) : callN prog (k + 1) "is_word" [.str s] μ = .ok (.bl (wordB s)) μ := by
  have hc := lcGo_map' (μ := μ) (s := .str s) (xs := s.map fun c => .str [c]) (e := fun c => D.str [c]) (g := fun c => D.bl (runs.contains c)) (f := lcT prog.G (callN prog k) e_is_word_0 (.v 1) [("sign", 1)] .nil [some (.str s), none]) rfl s (fun c hc => by
    simp! [e_is_word_0, G_runs]) (by show _ ≤ 16777216; omega)
  have hb := boolsOf_map s fun c => runs.contains c
  rw [callN_go (F := f_is_word) rfl rfl]
  unfold wordB
  by_cases c1 : 0 < s.length
  · by_cases c2 : s.length ≤ 24
    · simp! [f_is_word, hc, seqL, hb, all_map_id, G_word, c1, c2]
    · simp! [f_is_word, G_word, c1, c2]
  · simp! [f_is_word, c1]
theorem WordOk.b {s : List Nat} (h : WordOk s) : wordB s = true := by
  unfold wordB
  rw [decide_eq_true h.ne, decide_eq_true h.le, List.all_eq_true.mpr h.ok]; rfl
theorem look_word (k : Nat) (μ : Store) {s : List Nat} (h : WordOk s) : callN prog (k + 2) "look_at_word" [.str s] μ = .ok .non μ := by
  have h1 := is_word_s k μ (s := s) (by have := h.le; omega)
  rw [h.b] at h1
  rw [callN_go (F := f_look_at_word) rfl rfl]
  simp! [f_look_at_word, h1]
theorem look_far (k : Nat) (μ : Store) {f : Int} (h0 : 0 ≤ f) (h1 : f ≤ 3) : callN prog (k + 2) "look_at_far" [.int f] μ = .ok .non μ := by
  have hw : callN prog (k + 1) "is_whole" [.int f] μ = .ok (.bl true) μ := by
    rw [callN_go (F := f_is_whole) rfl rfl]
    simp! [f_is_whole]
  rw [callN_go (F := f_look_at_far) rfl rfl]
  simp! [f_look_at_far, hw, G_far]
def badE (why : List Nat) : D := .exn "BadPlan" ["why"] [.str why]
def wWords : List Nat := [119, 111, 114, 100, 115]
/-! ### columns -/
theorem first_ok (k : Nat) (μ : Store) {w : List Nat} {f : Int} (hw : WordOk w) (h0 : 0 ≤ f) (h1 : f ≤ 3) : callN prog (k + 3) "first_state" [.str w, .int f] μ = .ok (.tup ((st w f []).map .int)) μ := by
  have l1 := look_word k μ hw
  have l2 := look_far k μ h0 h1
  have hle := hw.le
  have hc : lcGo (.tl (rngL 0 ((w.length : Int) + 1))) (rngL 0 ((w.length : Int) + 1)) (lcT prog.G (callN prog (k + 2)) e_first_state_0 (.v 2) [("place", 2)] .nil [some (.str w), some (.int f), none]) (rngL 0 ((w.length : Int) + 1)) μ [] = .ok (.tl ((st w f []).map .int)) μ := by
    have e : rngL 0 ((w.length : Int) + 1) = (List.range (w.length + 1)).map fun (i : Nat) => D.int (i : Int) := by
      have := rng_nat (w.length + 1)
      rwa [Int.natCast_add] at this
    conv => lhs; rw [e]
    unfold st
    rw [List.map_map]
    refine lcGo_map' (e := fun (i : Nat) => D.int (i : Int)) (g := D.int ∘ fun k => min (far w [] k) (f + 1)) rfl (List.range (w.length + 1)) (fun i hi => ?_) (by show _ ≤ 16777216; rw [List.length_range]; omega)
    simp only [Function.comp, far_nil]
    have em : (if f + 1 < (i : Int) then f + 1 else (i : Int)) = min (i : Int) (f + 1) := by split <;> omega
    simp! [e_first_state_0, em]
  rw [callN_go (F := f_first_state) rfl rfl]
  simp! [f_first_state, l1, l2, hc, un_ints]
/-- the first n of the next column -/
def nx (w : List Nat) (f : Int) (h : List Nat) (n : Nat) : List Int := (List.range n).map fun k => min (far w h k) (f + 1)
theorem nx_get {w : List Nat} {f : Int} {h : List Nat} {n k : Nat} (hk : k < n) : (nx w f h n)[k]? = some (min (far w h k) (f + 1)) := by
  unfold nx
  rw [List.getElem?_map, List.getElem?_range hk]; rfl
theorem nx_len (w : List Nat) (f : Int) (h : List Nat) (n : Nat) : (nx w f h n).length = n := by simp [nx]
theorem nx_snoc (w : List Nat) (f : Int) (h : List Nat) (n : Nat) : nx w f h (n + 1) = nx w f h n ++ [min (far w h n) (f + 1)] := by
  unfold nx; rw [List.range_succ, List.map_append]; rfl
theorem enumS_get {w : List Nat} {i : Nat} {x : D} (h : (enumL 0 (w.map fun c => D.str [c]))[i]? = some x) : i < w.length ∧ x = .tup [.int i, .str [at_ w i]] := by
  have go : ∀ (l : List Nat) (n i : Nat) (x : D), (enumL n (l.map fun c => D.str [c]))[i]? = some x → i < l.length ∧ x = .tup [.int ((n + i : Nat) : Int), .str [at_ l i]] := by
    intro l
    induction l with
    | nil => intro n i x h; simp [enumL] at h
    | cons c l ih =>
      intro n i x h
      cases i with
      | zero =>
        simp [enumL] at h
        refine ⟨by simp, ?_⟩
        rw [← h]; rfl
      | succ i =>
        have h' : (enumL (n + 1) (l.map fun c => D.str [c]))[i]? = some x := by simpa [enumL] using h
        obtain ⟨a, b⟩ := ih (n + 1) i x h'
        refine ⟨by simp; omega, ?_⟩
        rw [b, show n + 1 + i = n + (i + 1) by omega]
        rfl
  have := go w 0 i x h
  rwa [Nat.zero_add] at this
theorem enumS_len (w : List Nat) : (enumL 0 (w.map fun c => D.str [c])).length = w.length := by
  have go : ∀ (l : List D) (n : Nat), (enumL n l).length = l.length := fun l => by
    induction l with
    | nil => intro n; rfl
    | cons d l ih => intro n; simp [enumL, ih]
  rw [go, List.length_map]
theorem enum_still (w : List Nat) (μ : Store) : allocs (enumL 0 (w.map fun c => D.str [c])) μ = (enumL 0 (w.map fun c => D.str [c]), μ) := allocs_still (by
  have go : ∀ (l : List Nat) (n : Nat), D.stills (enumL n (l.map fun c => D.str [c])) = true := fun l => by
    induction l with
    | nil => intro n; simp [enumL, D.stills]
    | cons d l ih => intro n; simp [enumL, D.stills, D.still, ih]
  exact go w 0)
theorem next_ok (k : Nat) (μ : Store) {w h : List Nat} {c : Nat} {f : Int} (hw : w.length ≤ 1000) (h0 : 0 ≤ f) (h1 : f ≤ 3) : callN prog (k + 1) "next_state" [.str w, .int f, .tup ((st w f h).map .int), .str [c]] μ = .ok (.tup ((st w f (h ++ [c])).map .int)) μ := by
  have g0 : (st w f h)[0]? = some (min (far w h 0) (f + 1)) := st_get (Nat.zero_le _)
  have sl := st_len w f h
  obtain ⟨ρ3, μ3, hf, x5, x6, rfl, rfl⟩ := forGo_inv (s := .tl (enumL 0 (w.map fun c => D.str [c]))) (xs := enumL 0 (w.map fun c => D.str [c])) (f := forT prog.G (callN prog k) (.t [(.v 5), (.v 6)]) b_next_state_0) (fun i ρ μ' => ∃ x5 x6 : Option D, ρ = [some (.str w), some (.int f), some (.tup ((st w f h).map .int)), some (.str [c]), some (.ref μ.length), x5, x6] ∧ μ' = μ ++ [.lst ((nx w f (h ++ [c]) (i + 1)).map .int)]) (fun _ _ _ _ => rfl)
    (fun i x ρ μ' hx hI => by
      obtain ⟨x5, x6, rfl, rfl⟩ := hI
      obtain ⟨hi, rfl⟩ := enumS_get hx
      have ga : (st w f h)[i + 1]? = some (min (far w h (i + 1)) (f + 1)) := st_get (by omega)
      have gb : (st w f h)[i]? = some (min (far w h i) (f + 1)) := st_get (by omega)
      have gc : (nx w f (h ++ [c]) (i + 1))[i]? = some (min (far w (h ++ [c]) i) (f + 1)) := nx_get (by omega)
      have nl := nx_len w f (h ++ [c]) (i + 1)
      have hk : ∀ l : List D, recvOk (μ ++ [.lst l]) .append (.ref μ.length) = true := fun l => by simp [recvOk, getL_eqO, app_get0, getO]
      have t1 : ((i : Int) + 1).toNat = i + 1 := by omega
      have es := far_step w h c i
      have f0 := far_nn w (h ++ [c]) i
      have f1 := far_nn w h (i + 1)
      have f2 := far_nn w h i
      have hm : minL (min (far w h (i + 1)) (f + 1) + 1) [min (far w (h ++ [c]) i) (f + 1) + 1, min (far w h i) (f + 1) + (if at_ w i = c then 0 else 1), f + 1] = min (far w (h ++ [c]) (i + 1)) (f + 1) := by
        rw [es]
        simp only [minL, List.foldl_cons, List.foldl_nil]
        by_cases q : at_ w i = c
        · simp only [if_pos q]
          repeat' split
          all_goals omega
        · simp only [if_neg q]
          repeat' split
          all_goals omega
      refine ⟨[some (.str w), some (.int f), some (.tup ((st w f h).map .int)), some (.str [c]), some (.ref μ.length), some (.int i), some (.str [at_ w i])], μ ++ [.lst ((nx w f (h ++ [c]) (i + 1)).map .int ++ [.int (min (far w (h ++ [c]) (i + 1)) (f + 1))])], .inl ?_, some (.int i), some (.str [at_ w i]), rfl, ?_⟩
      · by_cases q : at_ w i = c
        · rw [if_pos q] at hm
          simp! [b_next_state_0, t1, ga, gb, gc, nl, sl, methop, hk, hm, q]
        · rw [if_neg q] at hm
          simp! [b_next_state_0, t1, ga, gb, gc, nl, sl, methop, hk, hm, q]
      · rw [nx_snoc w f (h ++ [c]) (i + 1), List.map_append]; rfl)
    (ρ := [some (.str w), some (.int f), some (.tup ((st w f h).map .int)), some (.str [c]), some (.ref μ.length), none, none]) (μ := μ ++ [.lst [.int (min (far w (h ++ [c]) 0) (f + 1))]]) ⟨none, none, rfl, rfl⟩
  rw [enumS_len] at hf
  have em : (if f + 1 < min (far w h 0) (f + 1) + 1 then f + 1 else min (far w h 0) (f + 1) + 1) = min (far w (h ++ [c]) 0) (f + 1) := by
    rw [far_0, far_0, List.length_append, List.length_singleton]
    split <;> omega
  have es : st w f (h ++ [c]) = nx w f (h ++ [c]) (w.length + 1) := rfl
  rw [es]
  rw [callN_go (F := f_next_state) rfl rfl]
  simp! [f_next_state, g0, sl, em, enum_still, hf, un_ints]
theorem intsOf_st (l : List Int) : intsOf (l.map D.int) = some l := intsOf_map l
theorem minL_le : ∀ (l : List Int) (x : Int), minL x l ≤ x ∧ (∀ y ∈ l, minL x l ≤ y) ∧ (minL x l = x ∨ minL x l ∈ l)
  | [], x => ⟨Int.le_refl _, by simp, .inl rfl⟩
  | b :: l, x => by
    have e : minL x (b :: l) = minL (if b < x then b else x) l := rfl
    rw [e]
    by_cases c : b < x
    · rw [if_pos c]
      obtain ⟨h1, h2, h3⟩ := minL_le l b
      refine ⟨by omega, fun y hy => ?_, ?_⟩
      · rcases List.mem_cons.mp hy with z | hy
        · rw [z]; exact h1
        · exact h2 y hy
      · rcases h3 with h3 | h3
        · rw [h3]; exact .inr (by simp)
        · exact .inr (by simp [h3])
    · rw [if_neg c]
      obtain ⟨h1, h2, h3⟩ := minL_le l x
      refine ⟨h1, fun y hy => ?_, ?_⟩
      · rcases List.mem_cons.mp hy with z | hy
        · rw [z]; omega
        · exact h2 y hy
      · rcases h3 with h3 | h3
        · exact .inl h3
        · exact .inr (by simp [h3])
theorem lost_ok (k : Nat) (μ : Store) {w h : List Nat} {f : Int} : callN prog (k + 1) "is_lost" [.int f, .tup ((st w f h).map .int)] μ = .ok (.bl (lostB w f h)) μ := by
  have hi := intsOf_map (st w f h)
  have sl := st_len w f h
  have key : ∀ (x : Int) (l : List Int), st w f h = x :: l → decide (f < minL x l) = lostB w f h := fun x l e => by
    obtain ⟨h1, h2, h3⟩ := minL_le l x
    have hmem : ∀ y ∈ x :: l, minL x l ≤ y := fun y hy => by
      rcases List.mem_cons.mp hy with rfl | hy
      · exact h1
      · exact h2 y hy
    have hin : minL x l ∈ x :: l := by
      rcases h3 with h3 | h3
      · rw [h3]; simp
      · simp [h3]
    rw [← e] at hmem hin
    by_cases q : lostB w f h = true
    · rw [q, decide_eq_true_eq]
      rw [lost_iff] at q
      unfold st at hin
      obtain ⟨i, hi, e2⟩ := List.mem_map.mp hin
      have := q i (by have := List.mem_range.mp hi; omega)
      omega
    · have q' : lostB w f h = false := by simpa using q
      rw [q', decide_eq_false_iff_not]
      intro z
      refine q (lost_iff.mpr fun i hi => ?_)
      have := hmem (min (far w h i) (f + 1)) (List.mem_map.mpr ⟨i, List.mem_range.mpr (by omega), rfl⟩)
      omega
  cases e : st w f h with
  | nil => rw [e] at sl; simp at sl
  | cons x l =>
    rw [e, List.map_cons] at hi
    have hk := key x l e
    have hmo : minOf (x :: l) = some (.int (minL x l)) := rfl
    rw [callN_go (F := f_is_lost) rfl rfl]
    simp! [f_is_lost, hi, hmo, hk]
theorem told_by_ok (k : Nat) (μ : Store) {w h : List Nat} {f : Int} : callN prog (k + 1) "told_by" [.int f, .tup ((st w f h).map .int)] μ = .ok (if far w h w.length ≤ f then .int (far w h w.length) else .non) μ := by
  have g : (st w f h)[w.length]? = some (min (far w h w.length) (f + 1)) := st_get (Nat.le_refl _)
  have tn : (-1 + ((w.length : Int) + 1)).toNat = w.length := by omega
  have sl := st_len w f h
  by_cases c : far w h w.length ≤ f
  · have e : min (far w h w.length) (f + 1) = far w h w.length := by omega
    rw [e] at g
    rw [if_pos c]
    rw [callN_go (F := f_told_by) rfl rfl]
    simp! [f_told_by, sl, tn, g]
  · have e : min (far w h w.length) (f + 1) = f + 1 := by omega
    rw [e] at g
    rw [if_neg c]
    rw [callN_go (F := f_told_by) rfl rfl]
    simp! [f_told_by, sl, tn, g]
end K61
end Mp
end SK61p
section SK61q
/-! K61q: the tree of words, by the program. -/
namespace Mp
local macro_rules
  | `(tactic| simp! [$ls,*]) => `(tactic| simp (disch := omega) only [ev_lit, ev_varS, kVar_some, isX_non, isX_bl, isX_int, isX_str, isX_tup, isX_tl, isX_fz, isX_ref, isX_fn, ev_glo, ev_bin, ev_neg, ev_nt, ev_band, ev_bor, ev_ite, ev_cmp, ev_cmp2, ev_call, ev_blt, ev_isi, ev_meth, ev_tup, ev_lst, ev_ix, ev_lc, ev_rng1, ev_rng2, ev_rngd, ev_zip, kZipL_eq, kZipR_eq, zipD_tup, ev_rngs, kRngsL_eq, kRngsR_eq, kRngsQ_int, allocs_rngS, lcT_eqS, kLcB_some, kRngdL_eq, kRngdR_int, allocs_rngD, ev_lrng, ev_enum, kEnum_eq, enumD_str, ev_rev, kRev_str, ev_frz, kFrz_eq, ev_sl1, kSl1L_eq, kSl1R_eq, ev_sl2, kSl2L_eq, kSl2R_eq, ev_sl3, kSl3L_eq, kSl3R_int, kSl3Q_eq, sl1D, sl2D, sl3D, cutD, cut_to, cut_from, cut_fromto, ev_xf, kXf_some, xField, ev_isx, kIsx_some,
  evs_nil, evs_cons, evAnd_one, evAnd_cons, evOr_one, evOr_cons, evIfs_nil, evIfs_cons, kBinL_eq, kBinR_eq, kNeg_int, kNt_eq, kIte_bl, kCmpL_eq, kCmpR_eq, kCmp2L_eq, kCmp2R_eqS, kBlt_eq, kIsi_eq, kMethL_eq, kMethR_eqS, kMthS_some, kTup_eq, kLst_eq, kIxL_eq, kIxR_eq, kLcD_eq, kLcI_eq,
  kRng2L_eq, kConsL_eq, kConsR_eq, kAnd_bl, kOr_bl, kIfs_bl, execs_nil, execs_cons, kRest_eq, exec_expr, exec_set, exec_augS, kAugV_some, kAug_eqS, kAugS_some, exec_seti, exec_ret, exec_ite, exec_for, exec_brk, exec_cont, exec_pass, exec_rais, kRais_eq, exec_tryc, kTry_ex, kTry_nx, kTry_br, kTry_ct, kTry_rt, kTryH_none, kTryH_some, wipeO_nx, wipeO_br, wipeO_ct, wipeO_rt, unE_nx, unE_br, unE_ct, unE_rt, kExpr_eq, kSet_v, kSet_tS, kBnd_some, bindT_v, bindT_t, bindTs_nil, bindTs_cons,
  kWhT_bl, kWhB_nx, kWhB_ct, kWhB_br, kWhB_rt, kWhB_ex, whS_ex, ev_callvS, kCv_some, whS_nx, whS_br, whS_rt, kSeti1_eq, kSeti2_eq, kSeti3_eqS, kSetS_some, kRet_eq, kIf_bl, kFor_eqS, kForI_some, kLc_eqS, kLcX_some, forT_eqS, kForT_some, kRng1_int, kRng2R_int, kLrng_int, Rs.bnd_ok, Rs.bnd_ex, Rs.of_some, Rs.ou_ok, Rs.ou_ex, Ou.seq_nx, Ou.seq_br, Ou.seq_ct, Ou.seq_rt, Ou.seq_ex,
  forGo_cons, forGo_nilS, forK_nx, forK_ct, forK_br, forK_rt, forK_ex, srcOk_tup, srcOk_fz, srcOk_tl, srcOk_str, srcOk_ref, lcGo_cons, lcGo_nilS, lcK_some, lcK_none, Ss.tl, Ss.hd, S.bod, S.cnd,
  ev_u0, ev_u1, kU1_eq, ev_u2, kU2_eq, kU2R_eq, ev_u3, kU3_eq, kU3M_eq, kU3R_eq, exec_dput, kDput1_eq, kDput2_eq, kDput3_eq, ofP_some, op0_dict, op1_sset, op1_dlen, op1_sdict, op2_dix, op2_din, op2_dnin, op2_get, op2_ext, op3_get, op3_setd, setdO_some, setdO_none, getD_eqO, getDO_some, putD_eqS, putDO_some, keyOk_int, keyOk_str, divOk_lit, seqT, rOk2_dix, rOk2_din, rOk2_dnin, rOk2_get, rOk2_ext, rOk3_get, rOk3_setd, seqL,
  Option.bind_some, Option.map_some, List.getElem?_cons_zero, List.getElem?_cons_succ, List.getElem?_nil, List.set_cons_zero, List.set_cons_succ, alloc, allocs, settle, items, truth, binop, augop, cmpop, bltin, isOf, getIx, D.stills, D.still, freeze, freezes, D.under, D.unders, D.flat, List.all_cons, List.all_nil, Bool.and_true, Bool.true_and, Bool.and_self, Bool.and_false, Bool.false_and, Bool.or_true, Bool.true_or, Bool.or_false, Bool.false_or, wipeE, decide_true, decide_false, Bool.not_true, Bool.not_false, Bool.false_eq_true, if_true, if_false, ite_true, ite_false, ↓reduceIte,
  List.map_cons, List.map_nil, List.cons_append, List.nil_append, List.append_assoc, List.replicate_succ, List.replicate_zero, List.length_cons, List.length_nil, List.length_map, List.length_set, List.length_append, List.set_set, List.getElem?_set_self, List.getElem?_map, Nat.zero_add, Nat.reduceAdd, Nat.reduceSub, eqD_int, setIx_eqS, kSetI_some, decide_eq_true_eq, Option.map_none, Option.bind_none, endC_rt, endC_nx, endC_ex, callA_ite, stills_map, unders_map, freezes_map, freezes_app, all_T, allocs_ints, alloc_tupI, allocs_rngL, stills_rng, methop_eqS, kApp_some, recvOk_eqS, Option.isSome_some, getL_eqO, getO_some, app_get0, app_getk, app_getl, app_set0, app_setk, len_set, fin_app0, fin_self, finX_app, finX_self, finF_list0, eqD_bl, eqD_str1, eq_self, bool_beq_self, reduceCtorEq, ne_eq, not_false_eq_true, not_true_eq_false, and_true, true_and, and_self, and_false, false_and,
  LIM, ixNat, ilt_T, ilt_F, ile_T, ile_F, ieq_T, ieq_F, nlt_T, nlt_F, nle_T, nle_F, neq_T, neq_F, Int.toNat_natCast, tn_add, tn_sub, tn_neg1, tn_zero, tn_one, tn_two, tn_three, Int.natCast_add, Int.cast_ofNat_Int, Int.reduceNeg, Int.reduceAdd, Int.reduceSub, Int.reduceMul, Int.reduceLT, Int.reduceLE, Int.reduceEq, Int.reduceToNat, $ls,*])
namespace K61
abbrev Wd := List Nat
/-! ### lots -/
def kvG : Nat → List (Nat × List Wd) → List (D × D)
  | _, [] => []
  | b, (c, _) :: r => (.str [c], .ref b) :: kvG (b + 1) r
def stG (G : List (Nat × List Wd)) : Store := G.map fun g => .lst (g.2.map .str)
def add (c : Nat) (w : Wd) : List (Nat × List Wd) → List (Nat × List Wd)
  | [] => [(c, [w])]
  | (k, l) :: r => if k = c then (k, l ++ [w]) :: r else (k, l) :: add c w r
def addW (d : Nat) (G : List (Nat × List Wd)) (w : Wd) : List (Nat × List Wd) := if d < w.length then add (at_ w d) w G else G
def lots (d : Nat) (P : List Wd) : List (Nat × List Wd) := P.foldl (addW d) []
def keys (G : List (Nat × List Wd)) : List Nat := G.map (·.1)
theorem split_key (c : Nat) : ∀ G : List (Nat × List Wd), (∃ G1 l G2, G = G1 ++ (c, l) :: G2 ∧ c ∉ keys G1) ∨ c ∉ keys G
  | [] => .inr (by simp [keys])
  | (k, l) :: r => by
    by_cases e : k = c
    · subst e
      exact .inl ⟨[], l, r, rfl, by simp [keys]⟩
    · rcases split_key c r with ⟨G1, l', G2, rfl, h⟩ | h
      · refine .inl ⟨(k, l) :: G1, l', G2, rfl, ?_⟩
        unfold keys at h ⊢
        simp only [List.map_cons, List.mem_cons, not_or]
        exact ⟨fun z => e z.symm, h⟩
      · refine .inr ?_
        unfold keys at h ⊢
        simp only [List.map_cons, List.mem_cons, not_or]
        exact ⟨fun z => e z.symm, h⟩
theorem add_old {c : Nat} {w : Wd} {l : List Wd} {G2 : List (Nat × List Wd)} : ∀ {G1 : List (Nat × List Wd)}, c ∉ keys G1 → add c w (G1 ++ (c, l) :: G2) = G1 ++ (c, l ++ [w]) :: G2
  | [], _ => by rw [List.nil_append, add, if_pos rfl]; rfl
  | (k, m) :: G1, h => by
    unfold keys at h
    simp only [List.map_cons, List.mem_cons, not_or] at h
    rw [List.cons_append, add, if_neg (fun z => h.1 z.symm), add_old (G1 := G1) h.2]
    rfl
theorem add_new {c : Nat} {w : Wd} : ∀ {G : List (Nat × List Wd)}, c ∉ keys G → add c w G = G ++ [(c, [w])]
  | [], _ => rfl
  | (k, m) :: G, h => by
    unfold keys at h
    simp only [List.map_cons, List.mem_cons, not_or] at h
    rw [add, if_neg (fun z => h.1 z.symm), add_new (G := G) h.2]
    rfl
theorem dget_none {c : Nat} : ∀ {G : List (Nat × List Wd)} (b : Nat), c ∉ keys G → dgetL (kvG b G) (.str [c]) = none
  | [], b, _ => rfl
  | (k, m) :: G, b, h => by
    unfold keys at h
    simp only [List.map_cons, List.mem_cons, not_or] at h
    have ih := dget_none (G := G) (b + 1) h.2
    unfold dgetL at ih ⊢
    rw [kvG, List.find?_cons_of_neg (by simpa using fun z => h.1 z.symm)]
    exact ih
theorem dget_some {c : Nat} {l : List Wd} {G2 : List (Nat × List Wd)} : ∀ {G1 : List (Nat × List Wd)} (b : Nat), c ∉ keys G1 → dgetL (kvG b (G1 ++ (c, l) :: G2)) (.str [c]) = some (.ref (b + G1.length))
  | [], b, _ => by
    unfold dgetL
    rw [List.nil_append, kvG, List.find?_cons_of_pos (by simp)]
    rfl
  | (k, m) :: G1, b, h => by
    unfold keys at h
    simp only [List.map_cons, List.mem_cons, not_or] at h
    have ih := dget_some (l := l) (G2 := G2) (G1 := G1) (b + 1) h.2
    unfold dgetL at ih ⊢
    rw [List.cons_append, kvG, List.find?_cons_of_neg (by simpa using fun z => h.1 z.symm), ih, List.length_cons]
    congr 2; omega
theorem kvG_snoc {c : Nat} {l : List Wd} : ∀ (G : List (Nat × List Wd)) (b : Nat), kvG b (G ++ [(c, l)]) = kvG b G ++ [(.str [c], .ref (b + G.length))]
  | [], b => rfl
  | (k, m) :: G, b => by
    rw [List.cons_append, kvG, kvG, kvG_snoc G (b + 1), List.cons_append, List.length_cons, show b + 1 + G.length = b + (G.length + 1) by omega]
theorem kvG_same {c : Nat} {l l' : List Wd} {G2 : List (Nat × List Wd)} : ∀ (G1 : List (Nat × List Wd)) (b : Nat), kvG b (G1 ++ (c, l) :: G2) = kvG b (G1 ++ (c, l') :: G2)
  | [], b => rfl
  | (k, m) :: G, b => by
    rw [List.cons_append, List.cons_append, kvG, kvG, kvG_same G (b + 1)]
theorem kvG_len : ∀ (G : List (Nat × List Wd)) (b : Nat), (kvG b G).length = G.length
  | [], b => rfl
  | (k, m) :: G, b => by rw [kvG, List.length_cons, kvG_len G, List.length_cons]
theorem kvG_keys : ∀ (G : List (Nat × List Wd)) (b : Nat), (kvG b G).map (·.1) = ((keys G).map fun c => [c]).map .str
  | [], b => rfl
  | (k, m) :: G, b => by
    have := kvG_keys G (b + 1)
    unfold keys at this ⊢
    rw [kvG, List.map_cons, this]; rfl
/-- the store of lots -/
def SG (μ : Store) (G : List (Nat × List Wd)) : Store := μ ++ .dct false (kvG (μ.length + 1) G) :: stG G
theorem SG_d (μ : Store) (G : List (Nat × List Wd)) : (SG μ G)[μ.length]? = some (.dct false (kvG (μ.length + 1) G)) := by unfold SG; rw [app_get0]; rfl
theorem SG_len (μ : Store) (G : List (Nat × List Wd)) : (SG μ G).length = μ.length + 1 + G.length := by
  unfold SG stG
  simp; omega
theorem SG_l {μ : Store} {c : Nat} {l : List Wd} {G1 G2 : List (Nat × List Wd)} : (SG μ (G1 ++ (c, l) :: G2))[μ.length + 1 + G1.length]? = some (.lst (l.map .str)) := by
  unfold SG stG
  rw [Nat.add_assoc, app_getk, Nat.add_comm 1, List.getElem?_cons_succ, List.map_append, List.getElem?_append_right (by simp)]
  simp
theorem SG_set {μ : Store} {c : Nat} {l l' : List Wd} {G1 G2 : List (Nat × List Wd)} : (SG μ (G1 ++ (c, l) :: G2)).set (μ.length + 1 + G1.length) (.lst (l'.map .str)) = SG μ (G1 ++ (c, l') :: G2) := by
  unfold SG stG
  rw [List.set_append_right _ _ (by omega), show μ.length + 1 + G1.length - μ.length = G1.length + 1 by omega, List.set_cons_succ, List.map_append, List.set_append_right _ _ (by simp), kvG_same (l := l) (l' := l') G1]
  simp
theorem SG_new {μ : Store} {c : Nat} {G : List (Nat × List Wd)} : (SG μ G ++ [Obj.lst []]).set μ.length (Obj.dct false (kvG (μ.length + 1) G ++ [(D.str [c], D.ref (μ.length + 1 + G.length))])) = SG μ (G ++ [(c, [])]) := by
  unfold SG stG
  rw [← kvG_snoc (l := [])]
  rw [List.append_assoc, List.set_append_right _ _ (Nat.le_refl _), Nat.sub_self]
  simp
theorem lot_turn (k : Nat) (μ : Store) {G : List (Nat × List Wd)} {w : Wd} {d : Nat} (hG : G.length ≤ 1000) (hl : ∀ g ∈ G, g.2.length ≤ 1000) (hw : w.length ≤ 1000) {x0 x3 x4 x5 : Option D} : forT prog.G (callN prog k) (.v 3) b_tree_from_0 (.str w) [x0, some (.int d), some (.ref μ.length), x3, x4, x5] (SG μ G) = .nx [x0, some (.int d), some (.ref μ.length), some (.str w), x4, x5] (SG μ (addW d G w)) := by
  unfold addW
  by_cases c : d < w.length
  · rw [if_pos c]
    have ga := at_get c
    have sd := SG_d μ G
    have kl := kvG_len G (μ.length + 1)
    generalize at_ w d = s at *
    rcases split_key s G with ⟨G1, l, G2, rfl, h⟩ | h
    · have hd := dget_some (l := l) (G2 := G2) (μ.length + 1) h
      have e1 := SG_l (μ := μ) (c := s) (l := l) (G1 := G1) (G2 := G2)
      have e2 := SG_set (μ := μ) (c := s) (l := l) (l' := l ++ [w]) (G1 := G1) (G2 := G2)
      rw [List.map_append, List.map_cons, List.map_nil] at e2
      rw [add_old h]
      have hG' := hG
      rw [List.length_append, List.length_cons] at hG'
      have hll := hl (s, l) (by simp)
      have hlt : l.length < 16777216 := by show l.length < _; have : l.length ≤ 1000 := hll; omega
      have hk : recvOk (SG μ (G1 ++ (s, l) :: G2)) .append (.ref (μ.length + 1 + G1.length)) = true := by simp [recvOk, getL_eqO, e1, getO]
      simp! [b_tree_from_0, ga, sd, kl, hd, methop, hk, e1, e2]
    · have hd := dget_none (μ.length + 1) h
      have sl := SG_len μ G
      have e0 := SG_new (μ := μ) (c := s) (G := G)
      have e1 := SG_l (μ := μ) (c := s) (l := []) (G1 := G) (G2 := [])
      have e2 := SG_set (μ := μ) (c := s) (l := []) (l' := [w]) (G1 := G) (G2 := [])
      rw [List.map_cons, List.map_nil] at e2
      rw [List.map_nil] at e1
      rw [add_new h]
      have hk : recvOk (SG μ (G ++ [(s, [])])) .append (.ref (μ.length + 1 + G.length)) = true := by simp [recvOk, getL_eqO, e1, getO]
      simp! [b_tree_from_0, ga, sd, kl, hd, sl, e0, methop, hk, e1, e2]
  · rw [if_neg c]
    simp! [b_tree_from_0]
end K61
end Mp
end SK61q
section SK61r
/-! K61r: the tree of words, by the program. -/
namespace Mp
local macro_rules
  | `(tactic| simp! [$ls,*]) => `(tactic| simp (disch := omega) only [ev_lit, ev_varS, kVar_some, isX_non, isX_bl, isX_int, isX_str, isX_tup, isX_tl, isX_fz, isX_ref, isX_fn, ev_glo, ev_bin, ev_neg, ev_nt, ev_band, ev_bor, ev_ite, ev_cmp, ev_cmp2, ev_call, ev_blt, ev_isi, ev_meth, ev_tup, ev_lst, ev_ix, ev_lc, ev_rng1, ev_rng2, ev_rngd, ev_zip, kZipL_eq, kZipR_eq, zipD_tup, ev_rngs, kRngsL_eq, kRngsR_eq, kRngsQ_int, allocs_rngS, lcT_eqS, kLcB_some, kRngdL_eq, kRngdR_int, allocs_rngD, ev_lrng, ev_enum, kEnum_eq, enumD_str, ev_rev, kRev_str, ev_frz, kFrz_eq, ev_sl1, kSl1L_eq, kSl1R_eq, ev_sl2, kSl2L_eq, kSl2R_eq, ev_sl3, kSl3L_eq, kSl3R_int, kSl3Q_eq, sl1D, sl2D, sl3D, cutD, cut_to, cut_from, cut_fromto, ev_xf, kXf_some, xField, ev_isx, kIsx_some,
  evs_nil, evs_cons, evAnd_one, evAnd_cons, evOr_one, evOr_cons, evIfs_nil, evIfs_cons, kBinL_eq, kBinR_eq, kNeg_int, kNt_eq, kIte_bl, kCmpL_eq, kCmpR_eq, kCmp2L_eq, kCmp2R_eqS, kBlt_eq, kIsi_eq, kMethL_eq, kMethR_eqS, kMthS_some, kTup_eq, kLst_eq, kIxL_eq, kIxR_eq, kLcD_eq, kLcI_eq,
  kRng2L_eq, kConsL_eq, kConsR_eq, kAnd_bl, kOr_bl, kIfs_bl, execs_nil, execs_cons, kRest_eq, exec_expr, exec_set, exec_augS, kAugV_some, kAug_eqS, kAugS_some, exec_seti, exec_ret, exec_ite, exec_for, exec_brk, exec_cont, exec_pass, exec_rais, kRais_eq, exec_tryc, kTry_ex, kTry_nx, kTry_br, kTry_ct, kTry_rt, kTryH_none, kTryH_some, wipeO_nx, wipeO_br, wipeO_ct, wipeO_rt, unE_nx, unE_br, unE_ct, unE_rt, kExpr_eq, kSet_v, kSet_tS, kBnd_some, bindT_v, bindT_t, bindTs_nil, bindTs_cons,
  kWhT_bl, kWhB_nx, kWhB_ct, kWhB_br, kWhB_rt, kWhB_ex, whS_ex, ev_callvS, kCv_some, whS_nx, whS_br, whS_rt, kSeti1_eq, kSeti2_eq, kSeti3_eqS, kSetS_some, kRet_eq, kIf_bl, kFor_eqS, kForI_some, kLc_eqS, kLcX_some, forT_eqS, kForT_some, kRng1_int, kRng2R_int, kLrng_int, Rs.bnd_ok, Rs.bnd_ex, Rs.of_some, Rs.ou_ok, Rs.ou_ex, Ou.seq_nx, Ou.seq_br, Ou.seq_ct, Ou.seq_rt, Ou.seq_ex,
  forGo_cons, forGo_nilS, forK_nx, forK_ct, forK_br, forK_rt, forK_ex, srcOk_tup, srcOk_fz, srcOk_tl, srcOk_str, srcOk_ref, lcGo_cons, lcGo_nilS, lcK_some, lcK_none, Ss.tl, Ss.hd, S.bod, S.cnd,
  ev_u0, ev_u1, kU1_eq, ev_u2, kU2_eq, kU2R_eq, ev_u3, kU3_eq, kU3M_eq, kU3R_eq, exec_dput, kDput1_eq, kDput2_eq, kDput3_eq, ofP_some, op0_dict, op1_sset, op1_dlen, op1_sdict, op2_dix, op2_din, op2_dnin, op2_get, op2_ext, op3_get, op3_setd, setdO_some, setdO_none, getD_eqO, getDO_some, putD_eqS, putDO_some, keyOk_int, keyOk_str, divOk_lit, seqT, rOk2_dix, rOk2_din, rOk2_dnin, rOk2_get, rOk2_ext, rOk3_get, rOk3_setd, seqL,
  Option.bind_some, Option.map_some, List.getElem?_cons_zero, List.getElem?_cons_succ, List.getElem?_nil, List.set_cons_zero, List.set_cons_succ, alloc, allocs, settle, items, truth, binop, augop, cmpop, bltin, isOf, getIx, D.stills, D.still, freeze, freezes, D.under, D.unders, D.flat, List.all_cons, List.all_nil, Bool.and_true, Bool.true_and, Bool.and_self, Bool.and_false, Bool.false_and, Bool.or_true, Bool.true_or, Bool.or_false, Bool.false_or, wipeE, decide_true, decide_false, Bool.not_true, Bool.not_false, Bool.false_eq_true, if_true, if_false, ite_true, ite_false, ↓reduceIte,
  List.map_cons, List.map_nil, List.cons_append, List.nil_append, List.append_assoc, List.replicate_succ, List.replicate_zero, List.length_cons, List.length_nil, List.length_map, List.length_set, List.length_append, List.set_set, List.getElem?_set_self, List.getElem?_map, Nat.zero_add, Nat.reduceAdd, Nat.reduceSub, eqD_int, setIx_eqS, kSetI_some, decide_eq_true_eq, Option.map_none, Option.bind_none, endC_rt, endC_nx, endC_ex, callA_ite, stills_map, unders_map, freezes_map, freezes_app, all_T, allocs_ints, alloc_tupI, allocs_rngL, stills_rng, methop_eqS, kApp_some, recvOk_eqS, Option.isSome_some, getL_eqO, getO_some, app_get0, app_getk, app_getl, app_set0, app_setk, len_set, fin_app0, fin_self, finX_app, finX_self, finF_list0, eqD_bl, eqD_str1, eq_self, bool_beq_self, reduceCtorEq, ne_eq, not_false_eq_true, not_true_eq_false, and_true, true_and, and_self, and_false, false_and,
  LIM, ixNat, ilt_T, ilt_F, ile_T, ile_F, ieq_T, ieq_F, nlt_T, nlt_F, nle_T, nle_F, neq_T, neq_F, Int.toNat_natCast, tn_add, tn_sub, tn_neg1, tn_zero, tn_one, tn_two, tn_three, Int.natCast_add, Int.cast_ofNat_Int, Int.reduceNeg, Int.reduceAdd, Int.reduceSub, Int.reduceMul, Int.reduceLT, Int.reduceLE, Int.reduceEq, Int.reduceToNat, $ls,*])
namespace K61
/-! ### what the lots are -/
theorem add_keys (c : Nat) (w : Wd) (G : List (Nat × List Wd)) : keys (add c w G) = if c ∈ keys G then keys G else keys G ++ [c] := by
  rcases split_key c G with ⟨G1, l, G2, rfl, h⟩ | h
  · rw [add_old h, if_pos (by unfold keys; simp)]
    unfold keys; simp
  · rw [add_new h, if_neg h]
    unfold keys; simp
structure LotsOk (d : Nat) (P : List Wd) (G : List (Nat × List Wd)) : Prop where
  nd : (keys G).Nodup
  key : ∀ c, c ∈ keys G ↔ ∃ w ∈ P, d < w.length ∧ at_ w d = c
  lot : ∀ g ∈ G, g.2 = P.filter fun w => decide (d < w.length) && decide (at_ w d = g.1)
theorem lots_snoc (d : Nat) (P : List Wd) (w : Wd) : lots d (P ++ [w]) = addW d (lots d P) w := by unfold lots; rw [List.foldl_append]; rfl
theorem lots_step {d : Nat} {P : List Wd} {G : List (Nat × List Wd)} (h : LotsOk d P G) (w : Wd) : LotsOk d (P ++ [w]) (addW d G w) := by
  unfold addW
  by_cases c : d < w.length
  · rw [if_pos c]
    refine ⟨?_, fun x => ?_, fun g hg => ?_⟩
    · rw [add_keys]
      split
      · exact h.nd
      · rename_i q
        rw [List.nodup_append]
        exact ⟨h.nd, by simp, fun a ha b hb => by rw [List.mem_singleton.mp hb]; exact fun z => q (z ▸ ha)⟩
    · have e : x ∈ keys (add (at_ w d) w G) ↔ x ∈ keys G ∨ x = at_ w d := by
        rw [add_keys]
        split
        · rename_i q
          exact ⟨.inl, fun z => z.elim id fun z => z ▸ q⟩
        · simp
      rw [e, h.key]
      constructor
      · rintro (⟨v, hv, hd, ha⟩ | rfl)
        · exact ⟨v, by simp [hv], hd, ha⟩
        · exact ⟨w, by simp, c, rfl⟩
      · rintro ⟨v, hv, hd, ha⟩
        rcases List.mem_append.mp hv with hv | hv
        · exact .inl ⟨v, hv, hd, ha⟩
        · rw [List.mem_singleton.mp hv] at ha; exact .inr ha.symm
    · rcases split_key (at_ w d) G with ⟨G1, l, G2, rfl, q⟩ | q
      · rw [add_old q] at hg
        have nd := h.nd
        unfold keys at nd
        rw [List.map_append, List.map_cons, List.nodup_append] at nd
        have q2 : at_ w d ∉ keys G2 := (List.nodup_cons.mp nd.2.1).1
        have other : ∀ g : Nat × List Wd, g ∈ G1 ++ (at_ w d, l) :: G2 → g.1 ≠ at_ w d → g.2 = (P ++ [w]).filter fun v => decide (d < v.length) && decide (at_ v d = g.1) := fun g hg hne => by
          rw [List.filter_append, h.lot g hg]
          have : [w].filter (fun v => decide (d < v.length) && decide (at_ v d = g.1)) = [] := by
            rw [List.filter_eq_nil_iff]
            intro v hv
            rw [List.mem_singleton.mp hv]
            simp; intro _ z; exact hne z.symm
          rw [this, List.append_nil]
        rcases List.mem_append.mp hg with hg | hg
        · exact other g (by simp [hg]) fun z => q (z ▸ List.mem_map.mpr ⟨g, hg, rfl⟩)
        · rcases List.mem_cons.mp hg with rfl | hg
          · have := h.lot (at_ w d, l) (by simp)
            dsimp only at this ⊢
            rw [List.filter_append, ← this]
            congr 1
            rw [List.filter_cons_of_pos (by simp [c])]
            rfl
          · exact other g (by simp [hg]) fun z => q2 (z ▸ List.mem_map.mpr ⟨g, hg, rfl⟩)
      · rw [add_new q] at hg
        rcases List.mem_append.mp hg with hg | hg
        · have hne : g.1 ≠ at_ w d := fun z => q (z ▸ List.mem_map.mpr ⟨g, hg, rfl⟩)
          rw [List.filter_append, h.lot g hg]
          have : [w].filter (fun v => decide (d < v.length) && decide (at_ v d = g.1)) = [] := by
            rw [List.filter_eq_nil_iff]
            intro v hv
            rw [List.mem_singleton.mp hv]
            simp; intro _ z; exact hne z.symm
          rw [this, List.append_nil]
        · rw [List.mem_singleton.mp hg]
          dsimp only
          rw [List.filter_append, List.filter_cons_of_pos (by simp [c])]
          have : P.filter (fun v => decide (d < v.length) && decide (at_ v d = at_ w d)) = [] := by
            rw [List.filter_eq_nil_iff]
            intro v hv z
            simp at z
            exact q ((h.key _).mpr ⟨v, hv, z.1, z.2⟩)
          rw [this]; rfl
  · rw [if_neg c]
    refine ⟨h.nd, fun x => ?_, fun g hg => ?_⟩
    · rw [h.key]
      constructor
      · rintro ⟨v, hv, r⟩; exact ⟨v, by simp [hv], r⟩
      · rintro ⟨v, hv, hd, ha⟩
        rcases List.mem_append.mp hv with hv | hv
        · exact ⟨v, hv, hd, ha⟩
        · rw [List.mem_singleton.mp hv] at hd; exact absurd hd c
    · rw [List.filter_append, h.lot g hg]
      have : [w].filter (fun v => decide (d < v.length) && decide (at_ v d = g.1)) = [] := by
        rw [List.filter_eq_nil_iff]
        intro v hv
        rw [List.mem_singleton.mp hv]
        simp; intro z; exact absurd z c
      rw [this, List.append_nil]
theorem lots_ok (d : Nat) (P : List Wd) : LotsOk d P (lots d P) := by
  have : ∀ n, n ≤ P.length → LotsOk d (P.take n) (lots d (P.take n)) := fun n => by
    induction n with
    | zero => intro _; exact ⟨by simp [lots, keys], by simp [lots, keys], by simp [lots]⟩
    | succ n ih =>
      intro hn
      have e : P.take (n + 1) = P.take n ++ [P[n]] := by rw [List.take_succ, List.getElem?_eq_getElem (by omega)]; rfl
      rw [e, lots_snoc]
      exact lots_step (ih (by omega)) _
  have := this P.length (Nat.le_refl _)
  rwa [List.take_length] at this
theorem lots_len {d : Nat} {P : List Wd} : (lots d P).length ≤ P.length := by
  have step : ∀ (G : List (Nat × List Wd)) (w : Wd), (addW d G w).length ≤ G.length + 1 := fun G w => by
    unfold addW
    split
    · rcases split_key (at_ w d) G with ⟨G1, l, G2, rfl, h⟩ | h
      · rw [add_old h]; simp
      · rw [add_new h]; simp
    · omega
  have : ∀ n, n ≤ P.length → (lots d (P.take n)).length ≤ n := fun n => by
    induction n with
    | zero => intro _; simp [lots]
    | succ n ih =>
      intro hn
      have e : P.take (n + 1) = P.take n ++ [P[n]] := by rw [List.take_succ, List.getElem?_eq_getElem (by omega)]; rfl
      rw [e, lots_snoc]
      have := ih (by omega)
      have := step (lots d (P.take n)) P[n]
      omega
  have := this P.length (Nat.le_refl _)
  rwa [List.take_length] at this
/-- the lots' loop -/
theorem for_lots (k : Nat) (μ : Store) {P : List Wd} {d : Nat} (hP : P.length ≤ 1000) (hw : ∀ w ∈ P, w.length ≤ 1000) {src : D} (hs : ∀ G, srcOk (SG μ G) src (P.map .str) = true) {x0 : Option D} : ∃ x3, forGo src (P.map .str) (forT prog.G (callN prog k) (.v 3) b_tree_from_0) (P.map .str) [x0, some (.int d), some (.ref μ.length), none, none, none] (SG μ []) = .nx [x0, some (.int d), some (.ref μ.length), x3, none, none] (SG μ (lots d P)) := by
  obtain ⟨ρ3, μ3, hf, x3, rfl, rfl⟩ := forGo_inv (s := src) (xs := P.map .str) (f := forT prog.G (callN prog k) (.v 3) b_tree_from_0) (fun i ρ μ' => ∃ x3 : Option D, ρ = [x0, some (.int d), some (.ref μ.length), x3, none, none] ∧ μ' = SG μ (lots d (P.take i))) (fun i ρ μ' ⟨_, _, e⟩ => by rw [e]; exact hs _)
    (fun i x ρ μ' hx hI => by
      obtain ⟨x3, rfl, rfl⟩ := hI
      rw [List.getElem?_map, Option.map_eq_some_iff] at hx
      obtain ⟨w, hx, rfl⟩ := hx
      have hm := List.mem_of_getElem? hx
      have hi := (List.getElem?_eq_some_iff.mp hx).1
      have hll : (P.take i).length ≤ 1000 := by rw [List.length_take]; omega
      have ht := lot_turn k μ (G := lots d (P.take i)) (w := w) (d := d) (by have := lots_len (d := d) (P := P.take i); omega) (fun g hg => by
        rw [(lots_ok d (P.take i)).lot g hg]
        have := List.length_filter_le (fun w => decide (d < w.length) && decide (at_ w d = g.1)) (P.take i)
        omega) (hw w hm) (x0 := x0) (x3 := x3) (x4 := none) (x5 := none)
      refine ⟨_, _, .inl ht, some (.str w), rfl, ?_⟩
      rw [List.take_succ, hx, Option.toList_some, lots_snoc])
    (ρ := [x0, some (.int d), some (.ref μ.length), none, none, none]) (μ := SG μ []) ⟨none, rfl, rfl⟩
  rw [List.length_map, List.take_length] at hf
  exact ⟨x3, hf⟩
/-! ### the tree -/
def nodeD (ws : List Wd) : Nat → Wd → D
  | 0, _ => .non
  | f + 1, a => .tup [.bl (decide (a ∈ ws)), .tup ((sgs ws a).map fun s => .tup [.str s, nodeD ws f (a ++ s)])]
theorem sorted_keys {ws : List Wd} (a : Wd) : srtB ltN ((keys (lots a.length (sub ws a))).map fun c => [c]) = sgs ws a := by
  have ok := lots_ok a.length (sub ws a)
  refine (eq_srtB sto_str ?_ ((sgs_srt ws a).imp fun q => sto_str.asym q)).symm
  refine (List.perm_ext_iff_of_nodup (pw_nodup sto_str (sgs_srt ws a)) ?_).mpr fun s => ?_
  · exact List.pairwise_map.mpr (ok.nd.imp fun {x y} h e => h (by simpa using e))
  · rw [sgs_mem, List.mem_map]
    constructor
    · rintro ⟨c, t, rfl, hm⟩
      refine ⟨c, (ok.key c).mpr ⟨a ++ c :: t, sub_mem.mpr ⟨hm, _, rfl⟩, by simp, ?_⟩, rfl⟩
      unfold at_
      rw [List.getD_eq_getElem?_getD, List.getElem?_append_right (Nat.le_refl _), Nat.sub_self]; rfl
    · rintro ⟨c, hc, rfl⟩
      obtain ⟨w, hw, hl, ha⟩ := (ok.key c).mp hc
      obtain ⟨hm, t, rfl⟩ := sub_mem.mp hw
      cases t with
      | nil => simp at hl
      | cons d t =>
        have : at_ (a ++ d :: t) a.length = d := by
          unfold at_
          rw [List.getD_eq_getElem?_getD, List.getElem?_append_right (Nat.le_refl _), Nat.sub_self]; rfl
        rw [this] at ha
        subst ha
        exact ⟨d, t, rfl, hm⟩
theorem lot_sub {ws : List Wd} {a : Wd} {c : Nat} {l : List Wd} (h : (c, l) ∈ lots a.length (sub ws a)) : l = sub ws (a ++ [c]) := by
  have := (lots_ok a.length (sub ws a)).lot _ h
  dsimp only at this
  rw [this, ← sub_sub ws a [c]]
  unfold sub
  refine List.filter_congr fun w hw => ?_
  obtain ⟨hm, t, rfl⟩ := sub_mem.mp hw
  rw [Bool.eq_iff_iff, List.isPrefixOf_iff_prefix]
  cases t with
  | nil =>
    rw [List.append_nil]
    constructor
    · intro z; simp at z
    · intro z
      have := z.length_le
      simp at this
      omega
  | cons d t =>
    have : at_ (a ++ d :: t) a.length = d := by
      unfold at_
      rw [List.getD_eq_getElem?_getD, List.getElem?_append_right (Nat.le_refl _), Nat.sub_self]; rfl
    rw [this, List.prefix_append_right_inj]
    simp [List.cons_prefix_cons, eq_comm]
theorem node_pure (ws : List Wd) : ∀ (f : Nat) (a : Wd), (nodeD ws f a).pure = true
  | 0, _ => rfl
  | f + 1, a => by
    simp only [nodeD, D.pure, D.pures, pures_map, Bool.and_true, Bool.true_and, List.all_eq_true]
    intro s _
    simp [D.pure, D.pures, node_pure ws f (a ++ s)]
/-- words at hand -/
def WdIs (μ : Store) (x : D) (L : List Wd) : Prop := x = .tup (L.map .str) ∨ ∃ n, x = .ref n ∧ μ[n]? = some (.lst (L.map .str))
theorem strs_al (L : List Wd) (μ : Store) : allocs (L.map D.str) μ = (L.map D.str, μ) := allocs_still (by rw [stills_map]; simp [D.still])
theorem strs_st (L : List Wd) : D.stills (L.map D.str) = true := by rw [stills_map]; simp [D.still]
theorem any_here (ws : List Wd) (a : Wd) : ((sub ws a).any fun w => decide ((w.length : Int) = (a.length : Int))) = decide (a ∈ ws) := by
  rw [Bool.eq_iff_iff, List.any_eq_true, decide_eq_true_eq]
  constructor
  · rintro ⟨w, hw, h⟩
    obtain ⟨hm, t, rfl⟩ := sub_mem.mp hw
    simp at h
    have : t = [] := List.length_eq_zero_iff.mp (by omega)
    subst this
    simpa using hm
  · intro h
    exact ⟨a, sub_mem.mpr ⟨h, [], by simp⟩, by simp⟩
theorem tree_body (ws : List Wd) (hn : ws.length ≤ 60) (hw : ∀ w ∈ ws, w.length ≤ 1000) (K : Nat) (a : Wd) (N : Wd → D) (hN : ∀ s, (N s).pure = true)
    (hrec : ∀ s ∈ sgs ws a, ∀ (μ : Store) (x : D), WdIs μ x (sub ws (a ++ s)) → callN prog K "tree_from" [x, .int ((a.length : Int) + 1)] μ = .ok (N s) μ) (μ : Store) (x : D) (hx : WdIs μ x (sub ws a)) :
    callN prog (K + 1) "tree_from" [x, .int a.length] μ = .ok (.tup [.bl (decide (a ∈ ws)), .tup ((sgs ws a).map fun s => .tup [.str s, N s])]) μ := by
  have hL : (sub ws a).length ≤ 60 := Nat.le_trans (List.length_filter_le _ _) hn
  have hwL : ∀ w ∈ sub ws a, w.length ≤ 1000 := fun w h => hw w (sub_mem.mp h).1
  have hsrc : ∀ G, srcOk (SG μ G) x ((sub ws a).map .str) = true := fun G => by
    rcases hx with rfl | ⟨n, rfl, hn⟩
    · rfl
    · have hlt : n < μ.length := (List.getElem?_eq_some_iff.mp hn).1
      have : (SG μ G)[n]? = some (.lst ((sub ws a).map .str)) := by unfold SG; rw [List.getElem?_append_left hlt]; exact hn
      simp [srcOk_ref, getL_eqO, this, getO]
  obtain ⟨x3, hf⟩ := for_lots K μ (P := sub ws a) (d := a.length) (by omega) hwL (src := x) hsrc (x0 := some x)
  have sd := SG_d μ (lots a.length (sub ws a))
  have kl := kvG_len (lots a.length (sub ws a)) (μ.length + 1)
  have kk := kvG_keys (lots a.length (sub ws a)) (μ.length + 1)
  have gl := lots_len (d := a.length) (P := sub ws a)
  have hs := sortD_strs (ns := (keys (lots a.length (sub ws a))).map fun c => [c])
  rw [sorted_keys a] at hs
  have hlt64 : (lots a.length (sub ws a)).length < 64 := by omega
  have hlc := fun (x3 x4 x5 : Option D) => lcGo_map' (μ := SG μ (lots a.length (sub ws a))) (s := .fz ((sgs ws a).map .str)) (xs := (sgs ws a).map .str) (e := D.str) (g := fun s => D.tup [.str s, N s]) (f := lcT prog.G (callN prog K) e_tree_from_0 (.v 5) [("sign", 5)] .nil [some x, some (.int a.length), some (.ref μ.length), x3, x4, x5]) rfl (sgs ws a) (fun s hs => by
    have hr0 := hrec s hs
    have h1 := isX_pure (hN s)
    obtain ⟨c, t, rfl, hm⟩ := sgs_mem.mp hs
    have hk : c ∈ keys (lots a.length (sub ws a)) := ((lots_ok a.length (sub ws a)).key c).mpr ⟨a ++ c :: t, sub_mem.mpr ⟨hm, _, rfl⟩, by simp, by
      unfold at_
      rw [List.getD_eq_getElem?_getD, List.getElem?_append_right (Nat.le_refl _), Nat.sub_self]; rfl⟩
    rcases split_key c (lots a.length (sub ws a)) with ⟨G1, l, G2, e, q⟩ | q
    · have hl := lot_sub (ws := ws) (a := a) (c := c) (l := l) (by rw [e]; simp)
      have hdg := dget_some (l := l) (G2 := G2) (μ.length + 1) q
      have hr := SG_l (μ := μ) (c := c) (l := l) (G1 := G1) (G2 := G2)
      rw [← e] at hdg hr
      have hrec := hr0 (SG μ (lots a.length (sub ws a))) (.ref (μ.length + 1 + G1.length)) (.inr ⟨_, rfl, by rw [hr, hl]⟩)
      generalize N [c] = n at *
      simp! [e_tree_from_0, sd, hdg, hrec]
    · exact absurd hk q) (by
      have : (sgs ws a).length ≤ (raws ws a).length := srtU_len _
      have h2 : (raws ws a).length ≤ (sub ws a).length := by unfold raws; rw [List.length_map]; exact List.length_filter_le _ _
      show _ ≤ 16777216
      omega)
  have hany := fun (x2 x3 x4 x5 : Option D) => lcGo_map' (μ := SG μ (lots a.length (sub ws a))) (s := x) (xs := (sub ws a).map .str) (e := D.str) (g := fun w => D.bl (decide ((w.length : Int) = (a.length : Int)))) (f := lcT prog.G (callN prog K) e_tree_from_1 (.v 3) [("one", 3)] .nil [some x, some (.int a.length), x2, x3, x4, x5]) (hsrc _) (sub ws a) (fun w hw => by
    simp! [e_tree_from_1]) (by show _ ≤ 16777216; omega)
  have hb := boolsOf_map (sub ws a) fun w => decide ((w.length : Int) = (a.length : Int))
  have ha := any_here ws a
  have ha2 : ((sub ws a).map fun w => decide ((w.length : Int) = (a.length : Int))).any id = decide (a ∈ ws) := by rw [← ha, List.any_map]; rfl
  have e0 : μ ++ [Obj.dct false []] = SG μ [] := rfl
  have hfz : freezes ((sgs ws a).map D.str) = (sgs ws a).map .str := freezes_pure _ (pures_strs _)
  have hp : D.pures ((sgs ws a).map fun s => D.tup [.str s, N s]) = true := by
    rw [pures_map, List.all_eq_true]
    intro s _
    simp [D.pure, D.pures, hN s]
  have hal : ∀ μ : Store, allocs ((sgs ws a).map fun s => D.tup [.str s, N s]) μ = ((sgs ws a).map fun s => D.tup [.str s, N s], μ) := fun μ => allocs_pure hp
  have hst := stills_pure _ hp
  generalize (sgs ws a).map (fun s => D.tup [.str s, N s]) = T at *
  have hfin : ∀ G, fin μ (.tup [.bl (decide (a ∈ ws)), .tup T]) (SG μ G) = .ok (.tup [.bl (decide (a ∈ ws)), .tup T]) μ := fun G => by
    unfold SG
    exact fin_app (under_pure _ (by simp [D.pure, D.pures, hp]))
  generalize decide (a ∈ ws) = here at *
  generalize lots a.length (sub ws a) = G at *
  rcases hx with rfl | ⟨n, rfl, hn⟩
  · rw [callN_go (F := f_tree_from) rfl rfl]
    simp! [f_tree_from, strs_st, strs_al, e0, hf, sd, kl, kk, hs, hfz, hlc, hal, hany, hb, ha2, hfin]
  · have hlt : n < μ.length := (List.getElem?_eq_some_iff.mp hn).1
    have hsn : ∀ G, (SG μ G)[n]? = some (.lst ((sub ws a).map .str)) := fun G => by unfold SG; rw [List.getElem?_append_left hlt]; exact hn
    rw [callN_go (F := f_tree_from) rfl rfl]
    simp! [f_tree_from, strs_st, strs_al, e0, hsn, hf, sd, kl, kk, hs, hfz, hlc, hal, hany, hb, ha2, hfin]
theorem tree_from_ok (ws : List Wd) (hn : ws.length ≤ 60) (hw : ∀ w ∈ ws, w.length ≤ 1000) : ∀ (f k : Nat) (μ : Store) (x : D) (a : Wd), Deep ws (f + 1) a → WdIs μ x (sub ws a) → callN prog (k + f + 1) "tree_from" [x, .int a.length] μ = .ok (nodeD ws (f + 1) a) μ := by
  intro f
  induction f with
  | zero =>
    intro k μ x a hd hx
    refine tree_body ws hn hw k a (fun s => nodeD ws 0 (a ++ s)) (fun s => node_pure ws 0 _) (fun s hs => ?_) μ x hx
    have h0 := deep0 (hd.step hs)
    obtain ⟨c, t, rfl, hm⟩ := sgs_mem.mp hs
    have : a ++ c :: t ∈ sub ws (a ++ [c]) := sub_mem.mpr ⟨hm, t, by simp⟩
    rw [h0] at this
    cases this
  | succ f ih =>
    intro k μ x a hd hx
    refine tree_body ws hn hw (k + f + 1) a (fun s => nodeD ws (f + 1) (a ++ s)) (fun s => node_pure ws (f + 1) _) (fun s hs μ x hx => ?_) μ x hx
    have := ih k μ x (a ++ s) (hd.step hs) hx
    obtain ⟨c, t, rfl, hm⟩ := sgs_mem.mp hs
    rw [List.length_append, List.length_singleton, Int.natCast_add] at this
    exact this
end K61
end Mp
end SK61r
section SK61s
/-! K61s: words told back, walks, by the program. -/
namespace Mp
local macro_rules
  | `(tactic| simp! [$ls,*]) => `(tactic| simp (disch := omega) only [ev_lit, ev_varS, kVar_some, isX_non, isX_bl, isX_int, isX_str, isX_tup, isX_tl, isX_fz, isX_ref, isX_fn, ev_glo, ev_bin, ev_neg, ev_nt, ev_band, ev_bor, ev_ite, ev_cmp, ev_cmp2, ev_call, ev_blt, ev_isi, ev_meth, ev_tup, ev_lst, ev_ix, ev_lc, ev_rng1, ev_rng2, ev_rngd, ev_zip, kZipL_eq, kZipR_eq, zipD_tup, ev_rngs, kRngsL_eq, kRngsR_eq, kRngsQ_int, allocs_rngS, lcT_eqS, kLcB_some, kRngdL_eq, kRngdR_int, allocs_rngD, ev_lrng, ev_enum, kEnum_eq, enumD_str, ev_rev, kRev_str, ev_frz, kFrz_eq, ev_sl1, kSl1L_eq, kSl1R_eq, ev_sl2, kSl2L_eq, kSl2R_eq, ev_sl3, kSl3L_eq, kSl3R_int, kSl3Q_eq, sl1D, sl2D, sl3D, cutD, cut_to, cut_from, cut_fromto, ev_xf, kXf_some, xField, ev_isx, kIsx_some,
  evs_nil, evs_cons, evAnd_one, evAnd_cons, evOr_one, evOr_cons, evIfs_nil, evIfs_cons, kBinL_eq, kBinR_eq, kNeg_int, kNt_eq, kIte_bl, kCmpL_eq, kCmpR_eq, kCmp2L_eq, kCmp2R_eqS, kBlt_eq, kIsi_eq, kMethL_eq, kMethR_eqS, kMthS_some, kTup_eq, kLst_eq, kIxL_eq, kIxR_eq, kLcD_eq, kLcI_eq,
  kRng2L_eq, kConsL_eq, kConsR_eq, kAnd_bl, kOr_bl, kIfs_bl, execs_nil, execs_cons, kRest_eq, exec_expr, exec_set, exec_augS, kAugV_some, kAug_eqS, kAugS_some, exec_seti, exec_ret, exec_ite, exec_for, exec_brk, exec_cont, exec_pass, exec_rais, kRais_eq, exec_tryc, kTry_ex, kTry_nx, kTry_br, kTry_ct, kTry_rt, kTryH_none, kTryH_some, wipeO_nx, wipeO_br, wipeO_ct, wipeO_rt, unE_nx, unE_br, unE_ct, unE_rt, kExpr_eq, kSet_v, kSet_tS, kBnd_some, bindT_v, bindT_t, bindTs_nil, bindTs_cons,
  kWhT_bl, kWhB_nx, kWhB_ct, kWhB_br, kWhB_rt, kWhB_ex, whS_ex, ev_callvS, kCv_some, whS_nx, whS_br, whS_rt, kSeti1_eq, kSeti2_eq, kSeti3_eqS, kSetS_some, kRet_eq, kIf_bl, kFor_eqS, kForI_some, kLc_eqS, kLcX_some, forT_eqS, kForT_some, kRng1_int, kRng2R_int, kLrng_int, Rs.bnd_ok, Rs.bnd_ex, Rs.of_some, Rs.ou_ok, Rs.ou_ex, Ou.seq_nx, Ou.seq_br, Ou.seq_ct, Ou.seq_rt, Ou.seq_ex,
  forGo_cons, forGo_nilS, forK_nx, forK_ct, forK_br, forK_rt, forK_ex, srcOk_tup, srcOk_fz, srcOk_tl, srcOk_str, srcOk_ref, lcGo_cons, lcGo_nilS, lcK_some, lcK_none, Ss.tl, Ss.hd, S.bod, S.cnd,
  ev_u0, ev_u1, kU1_eq, ev_u2, kU2_eq, kU2R_eq, ev_u3, kU3_eq, kU3M_eq, kU3R_eq, exec_dput, kDput1_eq, kDput2_eq, kDput3_eq, ofP_some, op0_dict, op1_sset, op1_dlen, op1_sdict, op2_dix, op2_din, op2_dnin, op2_get, op2_ext, op3_get, op3_setd, setdO_some, setdO_none, getD_eqO, getDO_some, putD_eqS, putDO_some, keyOk_int, keyOk_str, divOk_lit, seqT, rOk2_dix, rOk2_din, rOk2_dnin, rOk2_get, rOk2_ext, rOk3_get, rOk3_setd, seqL,
  Option.bind_some, Option.map_some, List.getElem?_cons_zero, List.getElem?_cons_succ, List.getElem?_nil, List.set_cons_zero, List.set_cons_succ, alloc, allocs, settle, items, truth, binop, augop, cmpop, bltin, isOf, getIx, D.stills, D.still, freeze, freezes, D.under, D.unders, D.flat, List.all_cons, List.all_nil, Bool.and_true, Bool.true_and, Bool.and_self, Bool.and_false, Bool.false_and, Bool.or_true, Bool.true_or, Bool.or_false, Bool.false_or, wipeE, decide_true, decide_false, Bool.not_true, Bool.not_false, Bool.false_eq_true, if_true, if_false, ite_true, ite_false, ↓reduceIte,
  List.map_cons, List.map_nil, List.cons_append, List.nil_append, List.append_assoc, List.replicate_succ, List.replicate_zero, List.length_cons, List.length_nil, List.length_map, List.length_set, List.length_append, List.set_set, List.getElem?_set_self, List.getElem?_map, Nat.zero_add, Nat.reduceAdd, Nat.reduceSub, eqD_int, setIx_eqS, kSetI_some, decide_eq_true_eq, Option.map_none, Option.bind_none, endC_rt, endC_nx, endC_ex, callA_ite, stills_map, unders_map, freezes_map, freezes_app, all_T, allocs_ints, alloc_tupI, allocs_rngL, stills_rng, methop_eqS, kApp_some, recvOk_eqS, Option.isSome_some, getL_eqO, getO_some, app_get0, app_getk, app_getl, app_set0, app_setk, len_set, fin_app0, fin_self, finX_app, finX_self, finF_list0, eqD_bl, eqD_str1, eq_self, bool_beq_self, reduceCtorEq, ne_eq, not_false_eq_true, not_true_eq_false, and_true, true_and, and_self, and_false, false_and,
  LIM, ixNat, ilt_T, ilt_F, ile_T, ile_F, ieq_T, ieq_F, nlt_T, nlt_F, nle_T, nle_F, neq_T, neq_F, Int.toNat_natCast, tn_add, tn_sub, tn_neg1, tn_zero, tn_one, tn_two, tn_three, Int.natCast_add, Int.cast_ofNat_Int, Int.reduceNeg, Int.reduceAdd, Int.reduceSub, Int.reduceMul, Int.reduceLT, Int.reduceLE, Int.reduceEq, Int.reduceToNat, $ls,*])
namespace K61
structure Ws (ws : List Wd) : Prop where
  ok : ∀ w ∈ ws, WordOk w
  srt : Srt ws
  le : ws.length ≤ 60
theorem Ws.deep {ws : List Wd} (h : Ws ws) (a : Wd) : Deep ws 25 a := fun w hw => by
  have := (h.ok w (sub_mem.mp hw).1).le
  omega
theorem zipL_strs : ∀ (l m : List Wd), zipL (l.map .str) (m.map .str) = (l.zip m).map fun p => D.tup [.str p.1, .str p.2]
  | [], m => rfl
  | _ :: _, [] => rfl
  | a :: l, b :: m => by rw [List.map_cons, List.map_cons, zipL, zipL_strs l m]; rfl
theorem look_words (k : Nat) (μ : Store) {ws : List Wd} (h : Ws ws) : callN prog (k + 2) "look_at_words" [.tup (ws.map .str)] μ = .ok .non μ := by
  have hle := h.le
  have hc := fun (x1 x2 : Option D) => lcGo_map' (μ := μ) (s := .tup (ws.map .str)) (xs := ws.map .str) (e := D.str) (g := fun w => D.bl (wordB w)) (f := lcT prog.G (callN prog (k + 1)) e_look_at_words_0 (.v 1) [("one", 1)] .nil [some (.tup (ws.map .str)), x1, x2]) rfl ws (fun w hw => by
    have h1 := is_word_s k μ (s := w) (by have := (h.ok w hw).le; omega)
    simp! [e_look_at_words_0, h1]) (by show _ ≤ 16777216; omega)
  have hb := boolsOf_map ws wordB
  have ha : (ws.map wordB).all id = true := by
    rw [List.all_map, List.all_eq_true]
    exact fun w hw => (h.ok w hw).b
  have hz := zipL_strs ws (ws.drop 1)
  have hd : (ws.map D.str).drop 1 = (ws.drop 1).map .str := (List.map_drop ..).symm
  have hc2 := fun (x1 x2 : Option D) => lcGo_map' (μ := μ) (s := .tl ((ws.zip (ws.drop 1)).map fun p => D.tup [.str p.1, .str p.2])) (xs := (ws.zip (ws.drop 1)).map fun p => D.tup [.str p.1, .str p.2]) (e := fun p : Wd × Wd => D.tup [.str p.1, .str p.2]) (g := fun p => D.bl (ltN p.1 p.2)) (f := lcT prog.G (callN prog (k + 1)) e_look_at_words_1 (.t [(.v 1), (.v 2)]) [("one", 1), ("two", 2)] .nil [some (.tup (ws.map .str)), x1, x2]) rfl (ws.zip (ws.drop 1)) (fun p hp => by
    simp! [e_look_at_words_1]) (by show _ ≤ 16777216; rw [List.length_zip]; omega)
  have hb2 := boolsOf_map (ws.zip (ws.drop 1)) fun p => ltN p.1 p.2
  have ha2 : ((ws.zip (ws.drop 1)).map fun p => ltN p.1 p.2).all id = true := by
    rw [List.all_map, List.all_eq_true]
    intro p hp
    have : ∀ l : List Wd, Srt l → ∀ p ∈ l.zip (l.drop 1), ltN p.1 p.2 = true := by
      intro l
      induction l with
      | nil => intro _ p hp; simp at hp
      | cons a l ih =>
        intro hs p hp
        cases l with
        | nil => simp at hp
        | cons b l =>
          obtain ⟨h1, h2⟩ := List.pairwise_cons.mp hs
          rw [List.drop_succ_cons, List.drop_zero, List.zip_cons_cons] at hp
          rcases List.mem_cons.mp hp with rfl | hp
          · exact h1 b (by simp)
          · exact ih h2 p (by simpa using hp)
    exact this ws h.srt p hp
  have hfz : freezes ((ws.drop 1).map D.str) = (ws.drop 1).map .str := freezes_pure _ (pures_strs _)
  have hzs : ∀ μ : Store, allocs ((ws.zip (ws.drop 1)).map fun p => D.tup [.str p.1, .str p.2]) μ = ((ws.zip (ws.drop 1)).map fun p => D.tup [.str p.1, .str p.2], μ) := fun μ => allocs_still (by rw [stills_map, List.all_eq_true]; intro p _; simp [D.still, D.stills])
  rw [callN_go (F := f_look_at_words) rfl rfl]
  simp! [f_look_at_words, strs_st, strs_al, hc, hb, ha, hd, hfz, hz, hzs, hc2, hb2, ha2]
theorem word_tree_ok (k : Nat) (μ : Store) {ws : List Wd} (h : Ws ws) : callN prog (k + 26) "word_tree" [.tup (ws.map .str)] μ = .ok (nodeD ws 25 []) μ := by
  have l1 := look_words (k + 23) μ h
  have l2 := tree_from_ok ws h.le (fun w hw => by have := (h.ok w hw).le; omega) 24 k μ (.tup (ws.map .str)) [] (h.deep []) (.inl (by rw [sub_nil]))
  rw [List.length_nil, show ((0 : Nat) : Int) = 0 from rfl] at l2
  have hu := under_pure (n := μ.length) _ (node_pure ws 25 [])
  generalize nodeD ws 25 [] = t at *
  rw [callN_go (F := f_word_tree) rfl rfl]
  simp! [f_word_tree, l1, l2, strs_st, hu]
/-! ### words told back -/
theorem words_body (ws : List Wd) (a : Wd) (K : Nat) (μ : Store) (N : Wd → D) (W : Wd → List Wd) (hN : ∀ s, (N s).pure = true) (hlen : ((sgs ws a).map fun s => (W s).length).sum ≤ 60) (hsl : ∀ s ∈ sgs ws a, ∀ w ∈ W s, w.length ≤ 1000)
    (hrec : ∀ s ∈ sgs ws a, ∀ μ : Store, callN prog K "tree_words" [N s] μ = .ok (.tup ((W s).map .str)) μ) :
    callN prog (K + 1) "tree_words" [.tup [.bl (decide (a ∈ ws)), .tup ((sgs ws a).map fun s => .tup [.str s, N s])]] μ = .ok (.tup (((if a ∈ ws then [[]] else []) ++ ((sgs ws a).map fun s => (W s).map (s ++ ·)).flatten).map .str)) μ := by
  generalize hT : D.tup [.bl (decide (a ∈ ws)), .tup ((sgs ws a).map fun s => .tup [.str s, N s])] = T at *
  obtain ⟨ρ3, μ3, hf, x2, x3, rfl, rfl⟩ := forGo_inv (s := .tup ((sgs ws a).map fun s => D.tup [.str s, N s])) (xs := (sgs ws a).map fun s => D.tup [.str s, N s]) (f := forT prog.G (callN prog K) (.t [(.v 2), (.v 3)]) b_tree_words_0) (fun i ρ μ' => ∃ x2 x3 : Option D, ρ = [some T, some (.ref μ.length), x2, x3, none] ∧ μ' = μ ++ [.lst (((if a ∈ ws then [[]] else []) ++ (((sgs ws a).take i).map fun s => (W s).map (s ++ ·)).flatten).map .str)]) (fun _ _ _ _ => rfl)
    (fun i x ρ μ' hx hI => by
      obtain ⟨x2, x3, rfl, rfl⟩ := hI
      rw [List.getElem?_map, Option.map_eq_some_iff] at hx
      obtain ⟨s, hx, rfl⟩ := hx
      have hm := List.mem_of_getElem? hx
      have hi := (List.getElem?_eq_some_iff.mp hx).1
      have hr := fun μ => hrec s hm μ
      have h1 := still_pure _ (hN s)
      have h2 := isX_pure (hN s)
      have h3 : ∀ μ : Store, alloc (N s) μ = (N s, μ) := fun μ => alloc_pure (hN s)
      have et : (sgs ws a).take (i + 1) = (sgs ws a).take i ++ [s] := by rw [List.take_succ, hx]; rfl
      have hW : (W s).length ≤ 60 := by
        have : ∀ (l : List Wd) (s : Wd), s ∈ l → (W s).length ≤ (l.map fun s => (W s).length).sum := by
          intro l
          induction l with
          | nil => intro s h; cases h
          | cons b l ih =>
            intro s h
            rw [List.map_cons, List.sum_cons]
            rcases List.mem_cons.mp h with rfl | h
            · omega
            · have := ih s h; omega
        have := this _ s hm
        omega
      have hacc : ((if a ∈ ws then [[]] else []) ++ (((sgs ws a).take i).map fun s => (W s).map (s ++ ·)).flatten : List Wd).length ≤ 100 := by
        have e1 : ∀ l : List Wd, ((l.map fun s => (W s).map (s ++ ·)).flatten).length = (l.map fun s => (W s).length).sum := fun l => by
          induction l with
          | nil => rfl
          | cons b l ih => simp only [List.map_cons, List.flatten_cons, List.length_append, List.length_map, List.sum_cons, ih]
        have e2 : ∀ (l : List Wd) (i : Nat), ((l.take i).map fun s => (W s).length).sum ≤ (l.map fun s => (W s).length).sum := fun l => by
          induction l with
          | nil => intro i; simp
          | cons b l ih =>
            intro i
            cases i with
            | zero => simp
            | succ i => have := ih i; simp only [List.take_succ_cons, List.map_cons, List.sum_cons]; omega
        have := e2 (sgs ws a) i
        have e3 : (if a ∈ ws then [[]] else [] : List Wd).length ≤ 1 := by split <;> simp
        rw [List.length_append, e1]
        omega
      generalize hacc' : (if a ∈ ws then [[]] else []) ++ (((sgs ws a).take i).map fun s => (W s).map (s ++ ·)).flatten = acc at *
      have hsl' := hsl s hm
      have hs1 : s.length ≤ 1 := by obtain ⟨c, _, rfl, _⟩ := sgs_mem.mp hm; simp
      have hc := fun (μ : Store) (x0 x1 x2 x3 : Option D) (hx2 : x2 = some (.str s)) => lcGo_map' (μ := μ) (s := .tup ((W s).map .str)) (xs := (W s).map .str) (e := D.str) (g := fun t => D.str (s ++ t)) (f := lcT prog.G (callN prog K) e_tree_words_0 (.v 4) [("rest", 4)] .nil [x0, x1, x2, x3, none]) rfl (W s) (fun t ht => by
        have := hsl' t ht
        subst hx2
        simp! [e_tree_words_0]) (by show _ ≤ 16777216; omega)
      have hc' := fun (μ : Store) (x0 x1 x3 : Option D) => hc μ x0 x1 (some (.str s)) x3 rfl
      have al : ∀ μ : Store, allocs ((W s).map fun t => D.str (s ++ t)) μ = ((W s).map fun t => D.str (s ++ t), μ) := fun μ => allocs_still (by rw [stills_map]; simp [D.still])
      refine ⟨[some T, some (.ref μ.length), some (.str s), some (N s), none], μ ++ [.lst (acc.map .str ++ (W s).map fun t => D.str (s ++ t))], .inl ?_, some (.str s), some (N s), rfl, ?_⟩
      · have hk : ∀ l : List D, rOk2 (μ ++ [.lst l]) .ext (.ref μ.length) = true := fun l => by simp [rOk2, getL_eqO, app_get0, getO]
        generalize N s = n at *
        simp! [b_tree_words_0, hr, h1, h2, h3, strs_al, hc', hk, al]
      · have ef : (((sgs ws a).take (i + 1)).map fun s => (W s).map (s ++ ·)).flatten = (((sgs ws a).take i).map fun s => (W s).map (s ++ ·)).flatten ++ (W s).map (s ++ ·) := by
          rw [et, List.map_append, List.flatten_append]
          simp
        rw [ef, ← List.append_assoc, hacc', List.map_append, List.map_map]
        rfl)
    (ρ := [some T, some (.ref μ.length), none, none, none]) (μ := μ ++ [.lst ((if a ∈ ws then [[]] else [] : List Wd).map .str)]) ⟨none, none, rfl, by simp⟩
  rw [List.length_map, List.take_length] at hf
  subst hT
  have hp : D.pures ((sgs ws a).map fun s => D.tup [.str s, N s]) = true := by
    rw [pures_map, List.all_eq_true]
    intro s _
    simp [D.pure, D.pures, hN s]
  have hal : ∀ μ : Store, allocs ((sgs ws a).map fun s => D.tup [.str s, N s]) μ = ((sgs ws a).map fun s => D.tup [.str s, N s], μ) := fun μ => allocs_pure hp
  have hst := stills_pure _ hp
  have hus : ∀ n (l : List Wd), D.unders n (l.map D.str) = true := fun n l => unders_pure _ (pures_strs l)
  generalize ((sgs ws a).map fun s => (W s).map (s ++ ·)).flatten = R at *
  generalize (sgs ws a).map (fun s => D.tup [.str s, N s]) = Q at *
  by_cases c : a ∈ ws
  · rw [if_pos c] at hf ⊢
    rw [decide_eq_true c] at hf ⊢
    simp only [List.map_cons, List.map_nil, List.cons_append, List.nil_append] at hf ⊢
    rw [callN_go (F := f_tree_words) rfl rfl]
    simp! [f_tree_words, hst, hal, hf, hus]
  · rw [if_neg c] at hf ⊢
    rw [decide_eq_false c] at hf ⊢
    simp only [List.map_nil, List.nil_append] at hf ⊢
    rw [callN_go (F := f_tree_words) rfl rfl]
    simp! [f_tree_words, hst, hal, hf, hus]
theorem tw_len {ws : List Wd} (h : Srt ws) {f : Nat} {a : Wd} (hd : Deep ws f a) : (tw ws f a).length = (sub ws a).length := by
  rw [← tw_ok h f a hd, List.length_map]
theorem tree_words_ok {ws : List Wd} (h : Ws ws) : ∀ (f k : Nat) (μ : Store) (a : Wd), Deep ws (f + 1) a → callN prog (k + f + 1) "tree_words" [nodeD ws (f + 1) a] μ = .ok (.tup ((tw ws (f + 1) a).map .str)) μ := by
  have hsum : ∀ (f : Nat) (a : Wd), Deep ws (f + 1) a → ((sgs ws a).map fun s => (tw ws f (a ++ s)).length).sum ≤ 60 := fun f a hd => by
    have h1 := tw_len h.srt hd
    have h2 := h.le
    have h3 : (sub ws a).length ≤ ws.length := List.length_filter_le _ _
    rw [tw, List.length_append, List.length_flatten, List.map_map] at h1
    have e : ((sgs ws a).map (List.length ∘ fun s => (tw ws f (a ++ s)).map (s ++ ·))) = (sgs ws a).map fun s => (tw ws f (a ++ s)).length := by
      refine List.map_congr_left fun s _ => ?_
      simp
    rw [e] at h1
    omega
  have hwl : ∀ (f : Nat) (a : Wd), Deep ws (f + 1) a → ∀ s ∈ sgs ws a, ∀ w ∈ tw ws f (a ++ s), w.length ≤ 1000 := fun f a hd s hs w hw => by
    have := tw_ok h.srt f (a ++ s) (hd.step hs)
    have hm : a ++ s ++ w ∈ sub ws (a ++ s) := by rw [← this]; exact List.mem_map.mpr ⟨w, hw, rfl⟩
    have := (h.ok _ (sub_mem.mp hm).1).le
    rw [List.length_append] at this
    omega
  intro f
  induction f with
  | zero =>
    intro k μ a hd
    refine words_body ws a k μ (fun s => nodeD ws 0 (a ++ s)) (fun s => tw ws 0 (a ++ s)) (fun s => node_pure ws 0 _) (hsum 0 a hd) (hwl 0 a hd) fun s hs μ => ?_
    have h0 := deep0 (hd.step hs)
    obtain ⟨c, t, rfl, hm⟩ := sgs_mem.mp hs
    have : a ++ c :: t ∈ sub ws (a ++ [c]) := sub_mem.mpr ⟨hm, t, by simp⟩
    rw [h0] at this
    cases this
  | succ f ih =>
    intro k μ a hd
    exact words_body ws a (k + f + 1) μ (fun s => nodeD ws (f + 1) (a ++ s)) (fun s => tw ws (f + 1) (a ++ s)) (fun s => node_pure ws (f + 1) _) (hsum (f + 1) a hd) (hwl (f + 1) a hd) fun s hs μ => ih k μ (a ++ s) (hd.step hs)
/-! ### walks -/
def rowT (p : Wd × Int) : D := .tup [.str p.1, .int p.2]
theorem rows_pure (l : List (Wd × Int)) : D.pures (l.map rowT) = true := by
  rw [pures_map, List.all_eq_true]
  intro p _
  simp [rowT, D.pure, D.pures]
theorem walk_body (ws : List Wd) (w : Wd) (f : Int) (hw : w.length ≤ 1000) (f0 : 0 ≤ f) (f1 : f ≤ 3) (a : Wd) (K : Nat) (N : Wd → D) (R : Wd → List (Wd × Int)) (C : Wd → Nat) (hN : ∀ s, (N s).pure = true) (hal : a.length ≤ 1000) (B : Nat) (hB : B ≤ 1000000) (hRs : ((sgs ws a).map fun s => (R s).length).sum ≤ 60)
    (hrec : ∀ s ∈ sgs ws a, ∀ (μ : Store) (r : Nat) (old : List (Wd × Int)), μ[r]? = some (.lst (old.map rowT)) → old.length ≤ B + 100 → callN prog (K + 1) "walk_into" [N s, .str w, .int f, .tup ((st w f (a ++ s)).map .int), .str (a ++ s), .ref r] μ = .ok (.int (C s)) (μ.set r (.lst ((old ++ R s).map rowT))))
    (μ : Store) (r : Nat) (old : List (Wd × Int)) (hr : μ[r]? = some (.lst (old.map rowT))) (hol : old.length ≤ B) :
    callN prog (K + 2) "walk_into" [.tup [.bl (decide (a ∈ ws)), .tup ((sgs ws a).map fun s => .tup [.str s, N s])], .str w, .int f, .tup ((st w f a).map .int), .str a, .ref r] μ =
      .ok (.int ((1 + ((sgs ws a).map fun s => if lostB w f (a ++ s) = true then 0 else C s).sum : Nat) : Int)) (μ.set r (.lst ((old ++ ((if a ∈ ws ∧ far w a w.length ≤ f then [(a, far w a w.length)] else []) ++ ((sgs ws a).map fun s => if lostB w f (a ++ s) = true then [] else R s).flatten)).map rowT))) := by
  generalize hT : D.tup [.bl (decide (a ∈ ws)), .tup ((sgs ws a).map fun s => .tup [.str s, N s])] = T at *
  have hrl : r < μ.length := (List.getElem?_eq_some_iff.mp hr).1
  generalize hown : (if a ∈ ws ∧ far w a w.length ≤ f then [(a, far w a w.length)] else []) = own at *
  have hown1 : own.length ≤ 1 := by rw [← hown]; split <;> simp
  obtain ⟨ρ3, μ3, hf, x7, x8, x9, rfl, rfl⟩ := forGo_inv (s := .tup ((sgs ws a).map fun s => D.tup [.str s, N s])) (xs := (sgs ws a).map fun s => D.tup [.str s, N s]) (f := forT prog.G (callN prog (K + 1)) (.t [(.v 7), (.v 8)]) b_walk_into_0) (fun i ρ μ' => ∃ x7 x8 x9 : Option D, ρ = [some T, some (.str w), some (.int f), some (.tup ((st w f a).map .int)), some (.str a), some (.ref r), some (.int ((1 + (((sgs ws a).take i).map fun s => if lostB w f (a ++ s) = true then 0 else C s).sum : Nat) : Int)), x7, x8, x9] ∧ μ' = μ.set r (.lst ((old ++ (own ++ (((sgs ws a).take i).map fun s => if lostB w f (a ++ s) = true then [] else R s).flatten)).map rowT))) (fun _ _ _ _ => rfl)
    (fun i x ρ μ' hx hI => by
      obtain ⟨x7, x8, x9, rfl, rfl⟩ := hI
      rw [List.getElem?_map, Option.map_eq_some_iff] at hx
      obtain ⟨s, hx, rfl⟩ := hx
      have hm := List.mem_of_getElem? hx
      have et : (sgs ws a).take (i + 1) = (sgs ws a).take i ++ [s] := by rw [List.take_succ, hx]; rfl
      have h1 := still_pure _ (hN s)
      have h2 := isX_pure (hN s)
      have h3 : ∀ μ : Store, alloc (N s) μ = (N s, μ) := fun μ => alloc_pure (hN s)
      have hrc := hrec s hm
      obtain ⟨c, _, rfl, _⟩ := sgs_mem.mp hm
      have hnx := fun μ => next_ok K μ (w := w) (h := a) (c := c) hw f0 f1
      have hlo := fun μ => lost_ok K μ (w := w) (h := a ++ [c]) (f := f)
      have ali := fun (l : List Int) (μ : Store) => allocs_ints (μ := μ) l
      have si := fun (l : List Int) => stills_ints l
      have es : (((sgs ws a).take (i + 1)).map fun s => if lostB w f (a ++ s) = true then 0 else C s).sum = (((sgs ws a).take i).map fun s => if lostB w f (a ++ s) = true then 0 else C s).sum + (if lostB w f (a ++ [c]) = true then 0 else C [c]) := by
        rw [et, List.map_append, List.sum_append]
        simp
      have ef : (((sgs ws a).take (i + 1)).map fun s => if lostB w f (a ++ s) = true then [] else R s).flatten = (((sgs ws a).take i).map fun s => if lostB w f (a ++ s) = true then [] else R s).flatten ++ (if lostB w f (a ++ [c]) = true then [] else R [c]) := by
        rw [et, List.map_append, List.flatten_append]
        simp
      have hacc : ((((sgs ws a).take i).map fun s => if lostB w f (a ++ s) = true then [] else R s).flatten).length ≤ 60 := by
        have e1 : ∀ l : List Wd, ((l.map fun s => if lostB w f (a ++ s) = true then [] else R s).flatten).length ≤ (l.map fun s => (R s).length).sum := fun l => by
          induction l with
          | nil => simp
          | cons b l ih =>
            simp only [List.map_cons, List.flatten_cons, List.length_append, List.sum_cons]
            have : (if lostB w f (a ++ b) = true then [] else R b).length ≤ (R b).length := by split <;> simp
            omega
        have e2 : ∀ (l : List Wd) (i : Nat), ((l.take i).map fun s => (R s).length).sum ≤ (l.map fun s => (R s).length).sum := fun l => by
          induction l with
          | nil => intro i; simp
          | cons b l ih =>
            intro i
            cases i with
            | zero => simp
            | succ i => have := ih i; simp only [List.take_succ_cons, List.map_cons, List.sum_cons]; omega
        have := e1 ((sgs ws a).take i)
        have := e2 (sgs ws a) i
        omega
      rw [es, ef]
      generalize (((sgs ws a).take i).map fun s => if lostB w f (a ++ s) = true then [] else R s).flatten = acc at *
      generalize (((sgs ws a).take i).map fun s => if lostB w f (a ++ s) = true then 0 else C s).sum = cnt at *
      by_cases q : lostB w f (a ++ [c]) = true
      · rw [if_pos q, if_pos q]
        refine ⟨[some T, some (.str w), some (.int f), some (.tup ((st w f a).map .int)), some (.str a), some (.ref r), some (.int ((1 + cnt : Nat) : Int)), some (.str [c]), some (N [c]), some (.tup ((st w f (a ++ [c])).map .int))], _, .inl ?_, _, _, _, rfl, by rw [List.append_nil]⟩
        generalize N [c] = n at *
        simp! [b_walk_into_0, h1, h2, h3, hnx, hlo, q, ali, si]
      · have q' : lostB w f (a ++ [c]) = false := by simpa using q
        rw [if_neg q, if_neg q]
        have hg := hrc (μ.set r (.lst ((old ++ (own ++ acc)).map rowT))) r (old ++ (own ++ acc)) (by rw [List.getElem?_set_self hrl]) (by rw [List.length_append, List.length_append]; omega)
        have ea : old ++ (own ++ acc) ++ R [c] = old ++ (own ++ (acc ++ R [c])) := by simp only [List.append_assoc]
        rw [ea, List.set_set] at hg
        refine ⟨[some T, some (.str w), some (.int f), some (.tup ((st w f a).map .int)), some (.str a), some (.ref r), some (.int ((1 + (cnt + C [c]) : Nat) : Int)), some (.str [c]), some (N [c]), some (.tup ((st w f (a ++ [c])).map .int))], _, .inl ?_, _, _, _, rfl, rfl⟩
        generalize N [c] = n at *
        generalize μ.set r (.lst ((old ++ (own ++ acc)).map rowT)) = μ1 at *
        generalize μ.set r (.lst ((old ++ (own ++ (acc ++ R [c]))).map rowT)) = μ2 at *
        have ec : (1 : Int) + (cnt : Int) + (C [c] : Int) = 1 + ((cnt : Int) + (C [c] : Int)) := by omega
        simp! [b_walk_into_0, h1, h2, h3, hnx, hlo, q', ali, si, hg, ec])
    (ρ := [some T, some (.str w), some (.int f), some (.tup ((st w f a).map .int)), some (.str a), some (.ref r), some (.int 1), none, none, none]) (μ := μ.set r (.lst ((old ++ own).map rowT))) ⟨none, none, none, rfl, by simp⟩
  rw [List.length_map, List.take_length] at hf
  subst hT
  have hp : D.pures ((sgs ws a).map fun s => D.tup [.str s, N s]) = true := by
    rw [pures_map, List.all_eq_true]
    intro s _
    simp [D.pure, D.pures, hN s]
  have hal : ∀ μ : Store, allocs ((sgs ws a).map fun s => D.tup [.str s, N s]) μ = ((sgs ws a).map fun s => D.tup [.str s, N s], μ) := fun μ => allocs_pure hp
  have hst := stills_pure _ hp
  have htb := fun μ => told_by_ok K μ (w := w) (h := a) (f := f)
  have si := stills_ints (st w f a)
  have hfin : ∀ (v : Int) (l : List (Wd × Int)), fin μ (.int v) (μ.set r (.lst (l.map rowT))) = .ok (.int v) (μ.set r (.lst (l.map rowT))) := fun v l => fin_set0 rfl (unders_pure _ (rows_pure l))
  have hk : recvOk μ .append (.ref r) = true := by simp [recvOk, getL_eqO, hr, getO]
  have hsame : μ.set r (.lst (old.map rowT)) = μ := by
    refine List.ext_getElem? fun j => ?_
    rw [List.getElem?_set]
    by_cases e : r = j
    · subst e
      rw [if_pos rfl, if_pos hrl, hr]
    · rw [if_neg e]
  generalize ((sgs ws a).map fun s => if lostB w f (a ++ s) = true then [] else R s).flatten = RR at *
  generalize ((sgs ws a).map fun s => if lostB w f (a ++ s) = true then 0 else C s).sum = CC at *
  generalize (sgs ws a).map (fun s => D.tup [.str s, N s]) = Q at *
  have fin2 := fun (v : Int) => hfin v (old ++ (own ++ RR))
  by_cases c : a ∈ ws
  · rw [decide_eq_true c] at hf ⊢
    by_cases d : far w a w.length ≤ f
    · rw [if_pos ⟨c, d⟩] at hown
      rw [if_pos d] at htb
      subst hown
      have er : (old ++ [(a, far w a w.length)]).map rowT = old.map rowT ++ [.tup [.str a, .int (far w a w.length)]] := by rw [List.map_append]; rfl
      rw [er] at hf
      generalize far w a w.length = fv at *
      generalize (old ++ ([(a, fv)] ++ RR)).map rowT = rows at *
      rw [callN_go (F := f_walk_into) rfl rfl]
      simp! [f_walk_into, hst, hal, si, htb, methop, hk, hr, hf, fin2]
    · rw [if_neg (fun z => d z.2)] at hown
      rw [if_neg d] at htb
      subst hown
      rw [List.append_nil, hsame] at hf
      generalize (old ++ ([] ++ RR)).map rowT = rows at *
      rw [callN_go (F := f_walk_into) rfl rfl]
      simp! [f_walk_into, hst, hal, si, htb, hf, fin2]
  · rw [decide_eq_false c] at hf ⊢
    rw [if_neg (fun z => c z.1)] at hown
    subst hown
    rw [List.append_nil, hsame] at hf
    generalize (old ++ ([] ++ RR)).map rowT = rows at *
    rw [callN_go (F := f_walk_into) rfl rfl]
    simp! [f_walk_into, hst, hal, si, hf, fin2]
theorem near_sum {ws : List Wd} (h : Ws ws) (w : Wd) (f : Int) {g : Nat} {a : Wd} (hd : Deep ws (g + 1) a) : ((sgs ws a).map fun s => (near ws w f g (a ++ s)).length).sum ≤ 60 := by
  have h0 := sub_split h.srt a
  have h1 : (sub ws a).length ≤ ws.length := List.length_filter_le _ _
  have h2 := h.le
  have h3 := congrArg List.length h0
  rw [List.length_append, List.length_flatten, List.map_map] at h3
  have e : ∀ l : List Wd, (∀ s ∈ l, s ∈ sgs ws a) → (l.map fun s => (near ws w f g (a ++ s)).length).sum ≤ (l.map (List.length ∘ fun s => sub ws (a ++ s))).sum := fun l => by
    induction l with
    | nil => intro _; simp
    | cons b l ih =>
      intro hl
      have i1 := ih fun s hs => hl s (by simp [hs])
      have i2 : (near ws w f g (a ++ b)).length ≤ (sub ws (a ++ b)).length := by
        rw [near_ok h.srt w f g (a ++ b) (hd.step (hl b (by simp)))]
        unfold nearL
        rw [List.length_map]
        exact List.length_filter_le _ _
      simp only [List.map_cons, List.sum_cons, Function.comp] at i1 ⊢
      omega
  have := e (sgs ws a) fun s hs => hs
  omega
theorem walk_ok {ws : List Wd} (h : Ws ws) (w : Wd) (f : Int) (hw : w.length ≤ 1000) (f0 : 0 ≤ f) (f1 : f ≤ 3) : ∀ (g k : Nat) (a : Wd), Deep ws (g + 1) a → a.length + g ≤ 100 → ∀ (μ : Store) (r : Nat) (old : List (Wd × Int)), μ[r]? = some (.lst (old.map rowT)) → old.length ≤ 10000 - 100 * g →
    callN prog (k + g + 2) "walk_into" [nodeD ws (g + 1) a, .str w, .int f, .tup ((st w f a).map .int), .str a, .ref r] μ = .ok (.int ((met ws w f (g + 1) a : Nat) : Int)) (μ.set r (.lst ((old ++ near ws w f (g + 1) a).map rowT))) := by
  intro g
  induction g with
  | zero =>
    intro k a hd ha μ r old hr ho
    refine walk_body ws w f hw f0 f1 a k (fun s => nodeD ws 0 (a ++ s)) (fun s => near ws w f 0 (a ++ s)) (fun s => met ws w f 0 (a ++ s)) (fun s => node_pure ws 0 _) (by omega) 10000 (by decide) (near_sum h w f hd) (fun s hs => ?_) μ r old hr (by omega)
    have h0 := deep0 (hd.step hs)
    obtain ⟨c, t, rfl, hm⟩ := sgs_mem.mp hs
    have : a ++ c :: t ∈ sub ws (a ++ [c]) := sub_mem.mpr ⟨hm, t, by simp⟩
    rw [h0] at this
    cases this
  | succ g ih =>
    intro k a hd ha μ r old hr ho
    refine walk_body ws w f hw f0 f1 a (k + g + 1) (fun s => nodeD ws (g + 1) (a ++ s)) (fun s => near ws w f (g + 1) (a ++ s)) (fun s => met ws w f (g + 1) (a ++ s)) (fun s => node_pure ws (g + 1) _) (by omega) (10000 - 100 * (g + 1)) (by omega) (near_sum h w f hd) (fun s hs μ r old hr ho => ?_) μ r old hr ho
    have hd' := hd.step hs
    refine ih k (a ++ s) hd' ?_ μ r old hr (by omega)
    obtain ⟨c, t, rfl, hm⟩ := sgs_mem.mp hs
    rw [List.length_append, List.length_singleton]; omega
theorem walked_ok (k : Nat) (μ : Store) {ws : List Wd} (h : Ws ws) {w : Wd} {f : Int} (hw : WordOk w) (f0 : 0 ≤ f) (f1 : f ≤ 3) : callN prog (k + 27) "walked" [nodeD ws 25 [], .str w, .int f] μ = .ok (.tup [.tup ((nearL w f ws).map rowT), .int ((met ws w f 25 [] : Nat) : Int)]) μ := by
  have hle := hw.le
  have l1 := look_word (k + 24) μ hw
  have l2 := look_far (k + 24) μ f0 f1
  have l3 := first_ok (k + 23) (μ ++ [.lst []]) hw f0 f1
  have hwk := walk_ok h w f (by omega) f0 f1 24 k [] (h.deep []) (by simp) (μ ++ [.lst []]) μ.length [] (by rw [app_get0]; rfl) (by simp)
  have hnear := near_ok h.srt w f 25 [] (h.deep [])
  rw [sub_nil] at hnear
  rw [hnear, List.nil_append] at hwk
  have hset : (μ ++ [Obj.lst []]).set μ.length (.lst ((nearL w f ws).map rowT)) = μ ++ [.lst ((nearL w f ws).map rowT)] := by rw [app_set0]; rfl
  rw [hset] at hwk
  have np := node_pure ws 25 []
  have h1 := still_pure _ np
  have h2 := isX_pure np
  generalize nodeD ws 25 [] = t at *
  generalize met ws w f 25 [] = m at *
  have hu := unders_pure (n := μ.length) _ (rows_pure (nearL w f ws))
  have si := stills_ints (st w f [])
  generalize (nearL w f ws).map rowT = L at *
  rw [callN_go (F := f_walked) rfl rfl]
  simp! [f_walked, l1, l2, l3, h1, h2, si, hwk, hu]
theorem near_in_ok (k : Nat) (μ : Store) {ws : List Wd} (h : Ws ws) {w : Wd} {f : Int} (hw : WordOk w) (f0 : 0 ≤ f) (f1 : f ≤ 3) : callN prog (k + 28) "near_in" [.tup (ws.map .str), .str w, .int f] μ = .ok (.tup ((nearL w f ws).map rowT)) μ := by
  have l1 := word_tree_ok (k + 1) μ h
  have l2 := walked_ok k μ h hw f0 f1
  have np := node_pure ws 25 []
  have h1 := still_pure _ np
  have h2 := isX_pure np
  have hu := unders_pure (n := μ.length) _ (rows_pure (nearL w f ws))
  have hs := stills_pure _ (rows_pure (nearL w f ws))
  have hal : ∀ μ : Store, allocs ((nearL w f ws).map rowT) μ = ((nearL w f ws).map rowT, μ) := fun μ => allocs_pure (rows_pure _)
  generalize nodeD ws 25 [] = t at *
  generalize met ws w f 25 [] = m at *
  generalize (nearL w f ws).map rowT = L at *
  rw [callN_go (F := f_near_in) rfl rfl]
  simp! [f_near_in, strs_st, strs_al, l1, h1, h2, l2, hu, hs, hal]
end K61
end Mp
end SK61s
section SK61u
/-! K61u: how far and trees, by the law. -/
namespace Mp
local macro_rules
  | `(tactic| simp! [$ls,*]) => `(tactic| simp (disch := omega) only [ev_lit, ev_varS, kVar_some, isX_non, isX_bl, isX_int, isX_str, isX_tup, isX_tl, isX_fz, isX_ref, isX_fn, ev_glo, ev_bin, ev_neg, ev_nt, ev_band, ev_bor, ev_ite, ev_cmp, ev_cmp2, ev_call, ev_blt, ev_isi, ev_meth, ev_tup, ev_lst, ev_ix, ev_lc, ev_rng1, ev_rng2, ev_rngd, ev_zip, kZipL_eq, kZipR_eq, zipD_tup, ev_rngs, kRngsL_eq, kRngsR_eq, kRngsQ_int, allocs_rngS, lcT_eqS, kLcB_some, kRngdL_eq, kRngdR_int, allocs_rngD, ev_lrng, ev_enum, kEnum_eq, enumD_str, ev_rev, kRev_str, ev_frz, kFrz_eq, ev_sl1, kSl1L_eq, kSl1R_eq, ev_sl2, kSl2L_eq, kSl2R_eq, ev_sl3, kSl3L_eq, kSl3R_int, kSl3Q_eq, sl1D, sl2D, sl3D, cutD, cut_to, cut_from, cut_fromto, ev_xf, kXf_some, xField, ev_isx, kIsx_some,
  evs_nil, evs_cons, evAnd_one, evAnd_cons, evOr_one, evOr_cons, evIfs_nil, evIfs_cons, kBinL_eq, kBinR_eq, kNeg_int, kNt_eq, kIte_bl, kCmpL_eq, kCmpR_eq, kCmp2L_eq, kCmp2R_eqS, kBlt_eq, kIsi_eq, kMethL_eq, kMethR_eqS, kMthS_some, kTup_eq, kLst_eq, kIxL_eq, kIxR_eq, kLcD_eq, kLcI_eq,
  kRng2L_eq, kConsL_eq, kConsR_eq, kAnd_bl, kOr_bl, kIfs_bl, execs_nil, execs_cons, kRest_eq, exec_expr, exec_set, exec_augS, kAugV_some, kAug_eqS, kAugS_some, exec_seti, exec_ret, exec_ite, exec_for, exec_brk, exec_cont, exec_pass, exec_rais, kRais_eq, exec_tryc, kTry_ex, kTry_nx, kTry_br, kTry_ct, kTry_rt, kTryH_none, kTryH_some, wipeO_nx, wipeO_br, wipeO_ct, wipeO_rt, unE_nx, unE_br, unE_ct, unE_rt, kExpr_eq, kSet_v, kSet_tS, kBnd_some, bindT_v, bindT_t, bindTs_nil, bindTs_cons,
  kWhT_bl, kWhB_nx, kWhB_ct, kWhB_br, kWhB_rt, kWhB_ex, whS_ex, ev_callvS, kCv_some, whS_nx, whS_br, whS_rt, kSeti1_eq, kSeti2_eq, kSeti3_eqS, kSetS_some, kRet_eq, kIf_bl, kFor_eqS, kForI_some, kLc_eqS, kLcX_some, forT_eqS, kForT_some, kRng1_int, kRng2R_int, kLrng_int, Rs.bnd_ok, Rs.bnd_ex, Rs.of_some, Rs.ou_ok, Rs.ou_ex, Ou.seq_nx, Ou.seq_br, Ou.seq_ct, Ou.seq_rt, Ou.seq_ex,
  forGo_cons, forGo_nilS, forK_nx, forK_ct, forK_br, forK_rt, forK_ex, srcOk_tup, srcOk_fz, srcOk_tl, srcOk_str, srcOk_ref, lcGo_cons, lcGo_nilS, lcK_some, lcK_none, Ss.tl, Ss.hd, S.bod, S.cnd,
  ev_u0, ev_u1, kU1_eq, ev_u2, kU2_eq, kU2R_eq, ev_u3, kU3_eq, kU3M_eq, kU3R_eq, exec_dput, kDput1_eq, kDput2_eq, kDput3_eq, ofP_some, op0_dict, op1_sset, op1_dlen, op1_sdict, op2_dix, op2_din, op2_dnin, op2_get, op2_ext, op3_get, op3_setd, setdO_some, setdO_none, getD_eqO, getDO_some, putD_eqS, putDO_some, keyOk_int, keyOk_str, divOk_lit, seqT, rOk2_dix, rOk2_din, rOk2_dnin, rOk2_get, rOk2_ext, rOk3_get, rOk3_setd, seqL,
  Option.bind_some, Option.map_some, List.getElem?_cons_zero, List.getElem?_cons_succ, List.getElem?_nil, List.set_cons_zero, List.set_cons_succ, alloc, allocs, settle, items, truth, binop, augop, cmpop, bltin, isOf, getIx, D.stills, D.still, freeze, freezes, D.under, D.unders, D.flat, List.all_cons, List.all_nil, Bool.and_true, Bool.true_and, Bool.and_self, Bool.and_false, Bool.false_and, Bool.or_true, Bool.true_or, Bool.or_false, Bool.false_or, wipeE, decide_true, decide_false, Bool.not_true, Bool.not_false, Bool.false_eq_true, if_true, if_false, ite_true, ite_false, ↓reduceIte,
  List.map_cons, List.map_nil, List.cons_append, List.nil_append, List.append_assoc, List.replicate_succ, List.replicate_zero, List.length_cons, List.length_nil, List.length_map, List.length_set, List.length_append, List.set_set, List.getElem?_set_self, List.getElem?_map, Nat.zero_add, Nat.reduceAdd, Nat.reduceSub, eqD_int, setIx_eqS, kSetI_some, decide_eq_true_eq, Option.map_none, Option.bind_none, endC_rt, endC_nx, endC_ex, callA_ite, stills_map, unders_map, freezes_map, freezes_app, all_T, allocs_ints, alloc_tupI, allocs_rngL, stills_rng, methop_eqS, kApp_some, recvOk_eqS, Option.isSome_some, getL_eqO, getO_some, app_get0, app_getk, app_getl, app_set0, app_setk, len_set, fin_app0, fin_self, finX_app, finX_self, finF_list0, eqD_bl, eqD_str1, eq_self, bool_beq_self, reduceCtorEq, ne_eq, not_false_eq_true, not_true_eq_false, and_true, true_and, and_self, and_false, false_and,
  LIM, ixNat, ilt_T, ilt_F, ile_T, ile_F, ieq_T, ieq_F, nlt_T, nlt_F, nle_T, nle_F, neq_T, neq_F, Int.toNat_natCast, tn_add, tn_sub, tn_neg1, tn_zero, tn_one, tn_two, tn_three, Int.natCast_add, Int.cast_ofNat_Int, Int.reduceNeg, Int.reduceAdd, Int.reduceSub, Int.reduceMul, Int.reduceLT, Int.reduceLE, Int.reduceEq, Int.reduceToNat, $ls,*])
namespace K61
def col (one two : Wd) (j : Nat) (n : Nat) : List Int := (List.range n).map fun k => E (at_ one) (at_ two) k j
theorem col_get {one two : Wd} {j n k : Nat} (h : k < n) : (col one two j n)[k]? = some (E (at_ one) (at_ two) k j) := by
  unfold col
  rw [List.getElem?_map, List.getElem?_range h]; rfl
theorem col_len (one two : Wd) (j n : Nat) : (col one two j n).length = n := by simp [col]
theorem col_snoc (one two : Wd) (j n : Nat) : col one two j (n + 1) = col one two j n ++ [E (at_ one) (at_ two) n j] := by
  unfold col; rw [List.range_succ, List.map_append]; rfl
theorem min3_eq (a b c : Int) : (if c < (if b < a then b else a) then c else (if b < a then b else a)) = min (min a b) c := by
  by_cases h : b < a
  · rw [if_pos h]; split <;> omega
  · rw [if_neg h]; split <;> omega
theorem rng_get {n i : Nat} {x : D} (h : (rngL 0 (n : Int))[i]? = some x) : x = .int i ∧ i < n := by
  rw [rng_nat, List.getElem?_map, Option.map_eq_some_iff] at h
  obtain ⟨j, hj, rfl⟩ := h
  obtain ⟨h1, h2⟩ := List.getElem?_eq_some_iff.mp hj
  rw [List.getElem_range] at h2
  rw [List.length_range] at h1
  subst h2
  exact ⟨rfl, h1⟩
def ColIs (μ : Store) (x : D) (C : List Int) : Prop := x = .fz (C.map .int) ∨ ∃ n, x = .ref n ∧ μ[n]? = some (.lst (C.map .int))
theorem far_inner (k : Nat) (B : Store) {one two : Wd} {j : Nat} {x2 : D} (hone : one.length ≤ 1000) (hC : ColIs B x2 (col one two j (one.length + 1))) {x5 : Option D} :
    ∃ y5, forGo (.tl (rngL 0 (one.length : Int))) (rngL 0 (one.length : Int)) (forT prog.G (callN prog k) (.v 5) b_law_far_0) (rngL 0 (one.length : Int)) [some (.str one), some (.str two), some x2, some (.str [at_ two j]), some (.ref B.length), x5] (B ++ [.lst ((col one two (j + 1) 1).map .int)]) = .nx [some (.str one), some (.str two), some x2, some (.str [at_ two j]), some (.ref B.length), y5] (B ++ [.lst ((col one two (j + 1) (one.length + 1)).map .int)]) := by
  obtain ⟨ρ3, μ3, hf, y5, rfl, rfl⟩ := forGo_inv (s := .tl (rngL 0 (one.length : Int))) (xs := rngL 0 (one.length : Int)) (f := forT prog.G (callN prog k) (.v 5) b_law_far_0) (fun i ρ μ' => ∃ y5 : Option D, ρ = [some (.str one), some (.str two), some x2, some (.str [at_ two j]), some (.ref B.length), y5] ∧ μ' = B ++ [.lst ((col one two (j + 1) (i + 1)).map .int)]) (fun _ _ _ _ => rfl)
    (fun i x ρ μ' hx' hI => by
      obtain ⟨y5, rfl, rfl⟩ := hI
      obtain ⟨rfl, hi⟩ := rng_get hx'
      have ga : (col one two j (one.length + 1))[i]? = some (E (at_ one) (at_ two) i j) := col_get (by omega)
      have gb : (col one two j (one.length + 1))[i + 1]? = some (E (at_ one) (at_ two) (i + 1) j) := col_get (by omega)
      have cl2 := col_len one two j (one.length + 1)
      have t1 : ((i : Int) + 1).toNat = i + 1 := by omega
      have gc : (col one two (j + 1) (i + 1))[i]? = some (E (at_ one) (at_ two) i (j + 1)) := col_get (by omega)
      have cl := col_len one two (j + 1) (i + 1)
      have go := at_get hi
      have hk : ∀ l : List D, recvOk (B ++ [.lst l]) .append (.ref B.length) = true := fun l => by simp [recvOk, getL_eqO, app_get0, getO]
      have em := min3_eq (E (at_ one) (at_ two) i (j + 1) + 1) (E (at_ one) (at_ two) (i + 1) j + 1) (E (at_ one) (at_ two) i j + if at_ one i = at_ two j then 0 else 1)
      rw [show min (min (E (at_ one) (at_ two) i (j + 1) + 1) (E (at_ one) (at_ two) (i + 1) j + 1)) (E (at_ one) (at_ two) i j + if at_ one i = at_ two j then 0 else 1) = E (at_ one) (at_ two) (i + 1) (j + 1) from rfl] at em
      refine ⟨[some (.str one), some (.str two), some x2, some (.str [at_ two j]), some (.ref B.length), some (.int i)], B ++ [.lst ((col one two (j + 1) (i + 1)).map .int ++ [.int (E (at_ one) (at_ two) (i + 1) (j + 1))])], .inl ?_, some (.int i), rfl, ?_⟩
      · rcases hC with rfl | ⟨n, rfl, e⟩
        · by_cases q : at_ one i = at_ two j
          · rw [if_pos q] at em
            simp! [b_law_far_0, t1, ga, gb, gc, cl, cl2, go, q, methop, hk, em]
          · rw [if_neg q] at em
            simp! [b_law_far_0, t1, ga, gb, gc, cl, cl2, go, q, methop, hk, em]
        · have hlt : n < B.length := (List.getElem?_eq_some_iff.mp e).1
          have en : ∀ l : List D, (B ++ [Obj.lst l])[n]? = some (.lst ((col one two j (one.length + 1)).map .int)) := fun l => by rw [List.getElem?_append_left hlt]; exact e
          by_cases q : at_ one i = at_ two j
          · rw [if_pos q] at em
            simp! [b_law_far_0, en, t1, ga, gb, gc, cl, cl2, go, q, methop, hk, em]
          · rw [if_neg q] at em
            simp! [b_law_far_0, en, t1, ga, gb, gc, cl, cl2, go, q, methop, hk, em]
      · rw [col_snoc one two (j + 1) (i + 1), List.map_append]; rfl)
    (ρ := [some (.str one), some (.str two), some x2, some (.str [at_ two j]), some (.ref B.length), x5]) (μ := B ++ [.lst ((col one two (j + 1) 1).map .int)]) ⟨x5, rfl, rfl⟩
  rw [rng_len0] at hf
  exact ⟨y5, hf⟩
theorem law_far_ok (k : Nat) (μ : Store) {one two : Wd} (hone : one.length ≤ 1000) : callN prog (k + 1) "_law_far" [.str one, .str two] μ = .ok (.int (E (at_ one) (at_ two) one.length two.length)) μ := by
  have hlc : lcGo (.tl (rngL 0 ((one.length : Int) + 1))) (rngL 0 ((one.length : Int) + 1)) (lcT prog.G (callN prog k) e_law_far_0 (.v 5) [("k", 5)] .nil [some (.str one), some (.str two), none, none, none, none]) (rngL 0 ((one.length : Int) + 1)) μ [] = .ok (.tl ((col one two 0 (one.length + 1)).map .int)) μ := by
    have e : rngL 0 ((one.length : Int) + 1) = (List.range (one.length + 1)).map fun (i : Nat) => D.int (i : Int) := by
      have := rng_nat (one.length + 1)
      rwa [Int.natCast_add] at this
    conv => lhs; rw [e]
    unfold col
    rw [List.map_map]
    refine lcGo_map' (e := fun (i : Nat) => D.int (i : Int)) (g := D.int ∘ fun k => E (at_ one) (at_ two) k 0) rfl (List.range (one.length + 1)) (fun i hi => ?_) (by show _ ≤ 16777216; rw [List.length_range]; omega)
    simp only [Function.comp, E_col0]
    simp! [e_law_far_0]
  obtain ⟨ρ3, μ3, hf, N, x2, x3, x4, x5, rfl, rfl, hN, hC⟩ := forGo_inv (s := .str two) (xs := two.map fun c => D.str [c]) (f := forT prog.G (callN prog k) (.v 3) b_law_far_1) (fun j ρ μ' => ∃ (N : Store) (x2 : D) (x3 x4 x5 : Option D), ρ = [some (.str one), some (.str two), some x2, x3, x4, x5] ∧ μ' = μ ++ N ∧ N.length = j ∧ ColIs (μ ++ N) x2 (col one two j (one.length + 1))) (fun _ _ _ _ => rfl)
    (fun j x ρ μ' hx hI => by
      obtain ⟨N, x2, x3, x4, x5, rfl, rfl, hN, hC⟩ := hI
      rw [List.getElem?_map, Option.map_eq_some_iff] at hx
      obtain ⟨c, hx, rfl⟩ := hx
      have hj := (List.getElem?_eq_some_iff.mp hx).1
      have hc : c = at_ two j := by
        have := at_get hj
        rw [hx] at this
        exact Option.some.inj this
      subst hc
      obtain ⟨y5, hin⟩ := far_inner k (μ ++ N) (one := one) (two := two) (j := j) hone hC (x5 := x5)
      have g0 : (col one two j (one.length + 1))[0]? = some (E (at_ one) (at_ two) 0 j) := col_get (by omega)
      have cl := col_len one two j (one.length + 1)
      have e0 : (col one two (j + 1) 1).map D.int = [.int (E (at_ one) (at_ two) 0 j + 1)] := by
        unfold col
        simp [E_0j]
      rw [e0] at hin
      refine ⟨[some (.str one), some (.str two), some (.ref (μ ++ N).length), some (.str [at_ two j]), some (.ref (μ ++ N).length), y5], μ ++ (N ++ [.lst ((col one two (j + 1) (one.length + 1)).map .int)]), .inl ?_, N ++ [.lst ((col one two (j + 1) (one.length + 1)).map .int)], .ref (μ ++ N).length, some (.str [at_ two j]), some (.ref (μ ++ N).length), y5, rfl, rfl, by rw [List.length_append, hN]; rfl, .inr ⟨_, rfl, by rw [← List.append_assoc, app_get0]; rfl⟩⟩
      rw [← List.append_assoc]
      generalize μ ++ N = B at *
      rcases hC with rfl | ⟨n, rfl, e⟩
      · simp! [b_law_far_1, g0, cl, hin]
      · simp! [b_law_far_1, e, g0, cl, hin])
    (ρ := [some (.str one), some (.str two), some (.fz ((col one two 0 (one.length + 1)).map .int)), none, none, none]) (μ := μ) ⟨[], _, none, none, none, rfl, by simp, rfl, .inl rfl⟩
  rw [List.length_map] at hC hN
  have gl : (col one two two.length (one.length + 1))[one.length]? = some (E (at_ one) (at_ two) one.length two.length) := col_get (by omega)
  have cl := col_len one two two.length (one.length + 1)
  have tn : (-1 + ((one.length : Int) + 1)).toNat = one.length := by omega
  have hfz : freezes ((col one two 0 (one.length + 1)).map D.int) = (col one two 0 (one.length + 1)).map .int := freezes_pure _ (pures_ints _)
  have hfin : ∀ v : Int, fin μ (.int v) (μ ++ N) = .ok (.int v) μ := fun v => fin_app rfl
  generalize μ ++ N = B at *
  rcases hC with rfl | ⟨n, rfl, e⟩
  · rw [callN_go (F := f_law_far) rfl rfl]
    simp! [f_law_far, hlc, hfz, hf, tn, gl, cl, hfin]
  · rw [callN_go (F := f_law_far) rfl rfl]
    simp! [f_law_far, hlc, hfz, hf, e, tn, gl, cl, hfin, Nat.add_sub_cancel]
/-! ### trees, by the law -/
theorem setD_strs (l : List Wd) : setD (l.map .str) = some ((srtU ltN l).map .str) := by
  unfold setD
  cases l with
  | nil => rfl
  | cons a l =>
    have : intsOf ((a :: l).map D.str) = none := rfl
    rw [this, strsOf_map]; rfl
theorem inRow_strs (a : Wd) (ws : List Wd) : inRow (.str a) (ws.map .str) = some (decide (a ∈ ws)) := by
  unfold inRow
  rw [if_pos ⟨rfl, by rw [List.all_map, List.all_eq_true]; intro w _; rfl⟩, List.any_map]
  congr 1
  rw [Bool.eq_iff_iff, List.any_eq_true, decide_eq_true_eq]
  constructor
  · rintro ⟨w, hw, h⟩
    have : w = a := by simpa [peq] using h
    rwa [← this]
  · intro h
    exact ⟨a, h, by simp [peq]⟩
theorem raws_eq (ws : List Wd) (a : Wd) : (ws.filterMap fun w => if w.take a.length = a ∧ a.length < w.length then some (D.str [at_ w a.length]) else none) = (raws ws a).map .str := by
  unfold raws sub
  induction ws with
  | nil => rfl
  | cons w ws ih =>
    rw [List.filterMap_cons, List.filter_cons]
    by_cases c : a.isPrefixOf w = true
    · have c' : w.take a.length = a := (List.prefix_iff_eq_take.mp (List.isPrefixOf_iff_prefix.mp c)).symm
      rw [if_pos c, List.filter_cons]
      by_cases d : a.length < w.length
      · rw [if_pos ⟨c', d⟩, if_pos (by simpa using d), ih]; rfl
      · rw [if_neg (fun z => d z.2), if_neg (by simpa using d), ih]
    · have c' : ¬ w.take a.length = a := fun z => c (List.isPrefixOf_iff_prefix.mpr (List.prefix_iff_eq_take.mpr z.symm))
      rw [if_neg c, if_neg (fun z => c' z.1), ih]
theorem law_tree_body (ws : List Wd) (hn : ws.length ≤ 60) (hw : ∀ w ∈ ws, w.length ≤ 1000) (K : Nat) (a : Wd) (ha : a.length ≤ 1000) (N : Wd → D) (hN : ∀ s, (N s).pure = true)
    (hrec : ∀ s ∈ sgs ws a, ∀ (μ : Store), callN prog K "_law_tree" [.tup (ws.map .str), .str (a ++ s)] μ = .ok (N s) μ) (μ : Store) :
    callN prog (K + 1) "_law_tree" [.tup (ws.map .str), .str a] μ = .ok (.tup [.bl (decide (a ∈ ws)), .tup ((sgs ws a).map fun s => .tup [.str s, N s])]) μ := by
  have hlc := fun (x2 x3 x4 : Option D) => lcGo_eq (μ := μ) (s := .tup (ws.map .str)) (xs := ws.map .str) (f := lcT prog.G (callN prog K) e_law_tree_0 (.v 3) [("one", 3)] i_law_tree_0 [some (.tup (ws.map .str)), some (.str a), none, none, none]) (e := D.str) (g := fun w => if w.take a.length = a ∧ a.length < w.length then some (D.str [at_ w a.length]) else none) rfl ws [] (fun w hw' => by
    have hl := hw w hw'
    have es := eqD_str (μ := μ) (a := w.take a.length) (b := a)
    by_cases c : w.take a.length = a
    · rw [decide_eq_true c] at es
      by_cases d : a.length < w.length
      · have ga := at_get d
        rw [if_pos ⟨c, d⟩]
        simp! [e_law_tree_0, i_law_tree_0, es, ga]
      · rw [if_neg (fun z => d z.2)]
        simp! [e_law_tree_0, i_law_tree_0, es]
    · rw [decide_eq_false c] at es
      rw [if_neg (fun z => c z.1)]
      simp! [e_law_tree_0, i_law_tree_0, es]) (by show _ ≤ 16777216; simp; omega)
  have hlc' := hlc none none none
  rw [raws_eq, List.nil_append] at hlc'
  have hsd := setD_strs (raws ws a)
  have h3 : (raws ws a).length ≤ 60 := by
    have h2 : (raws ws a).length ≤ (sub ws a).length := by unfold raws; rw [List.length_map]; exact List.length_filter_le _ _
    have h3 : (sub ws a).length ≤ ws.length := List.length_filter_le _ _
    omega
  have hsl : (sgs ws a).length ≤ 60 := Nat.le_trans (srtU_len _) h3
  have hu : srtU ltN (raws ws a) = sgs ws a := rfl
  rw [hu] at hsd
  have hfz : freezes ((sgs ws a).map D.str) = (sgs ws a).map .str := freezes_pure _ (pures_strs _)
  have hlc2 := lcGo_map' (μ := μ) (s := .fz ((sgs ws a).map .str)) (xs := (sgs ws a).map .str) (e := D.str) (g := fun s => D.tup [.str s, N s]) (f := lcT prog.G (callN prog K) e_law_tree_1 (.v 4) [("sign", 4)] .nil [some (.tup (ws.map .str)), some (.str a), some (.fz ((sgs ws a).map .str)), none, none]) rfl (sgs ws a) (fun s hs => by
    have hr := hrec s hs μ
    have hs1 : s.length ≤ 1 := by obtain ⟨c, _, rfl, _⟩ := sgs_mem.mp hs; simp
    generalize N s = n at *
    simp! [e_law_tree_1, strs_st, strs_al, hr]) (by show _ ≤ 16777216; omega)
  have hin := inRow_strs a ws
  have hp : D.pures ((sgs ws a).map fun s => D.tup [.str s, N s]) = true := by
    rw [pures_map, List.all_eq_true]
    intro s _
    simp [D.pure, D.pures, hN s]
  have hup := unders_pure (n := μ.length) _ hp
  have hal : ∀ μ : Store, allocs ((sgs ws a).map fun s => D.tup [.str s, N s]) μ = ((sgs ws a).map fun s => D.tup [.str s, N s], μ) := fun μ => allocs_pure hp
  generalize (sgs ws a).map (fun s => D.tup [.str s, N s]) = Q at *
  generalize decide (a ∈ ws) = here at *
  rw [callN_go (F := f_law_tree) rfl rfl]
  simp! [f_law_tree, strs_st, strs_al, hlc', hsd, hfz, hlc2, hal, hin, hup]
theorem law_tree_ok {ws : List Wd} (h : Ws ws) : ∀ (f k : Nat) (μ : Store) (a : Wd), Deep ws (f + 1) a → a.length + f ≤ 100 → callN prog (k + f + 1) "_law_tree" [.tup (ws.map .str), .str a] μ = .ok (nodeD ws (f + 1) a) μ := by
  have hw : ∀ w ∈ ws, w.length ≤ 1000 := fun w hw => by have := (h.ok w hw).le; omega
  intro f
  induction f with
  | zero =>
    intro k μ a hd ha
    refine law_tree_body ws h.le hw k a (by omega) (fun s => nodeD ws 0 (a ++ s)) (fun s => node_pure ws 0 _) (fun s hs μ => ?_) μ
    have h0 := deep0 (hd.step hs)
    obtain ⟨c, t, rfl, hm⟩ := sgs_mem.mp hs
    have : a ++ c :: t ∈ sub ws (a ++ [c]) := sub_mem.mpr ⟨hm, t, by simp⟩
    rw [h0] at this
    cases this
  | succ f ih =>
    intro k μ a hd ha
    refine law_tree_body ws h.le hw (k + f + 1) a (by omega) (fun s => nodeD ws (f + 1) (a ++ s)) (fun s => node_pure ws (f + 1) _) (fun s hs μ => ?_) μ
    refine ih k μ (a ++ s) (hd.step hs) ?_
    obtain ⟨c, t, rfl, hm⟩ := sgs_mem.mp hs
    rw [List.length_append, List.length_singleton]; omega
end K61
end Mp
end SK61u
section SK61v
/-! K61v: the law's turns. -/
namespace Mp
local macro_rules
  | `(tactic| simp! [$ls,*]) => `(tactic| simp (disch := omega) only [ev_lit, ev_varS, kVar_some, isX_non, isX_bl, isX_int, isX_str, isX_tup, isX_tl, isX_fz, isX_ref, isX_fn, ev_glo, ev_bin, ev_neg, ev_nt, ev_band, ev_bor, ev_ite, ev_cmp, ev_cmp2, ev_call, ev_blt, ev_isi, ev_meth, ev_tup, ev_lst, ev_ix, ev_lc, ev_rng1, ev_rng2, ev_rngd, ev_zip, kZipL_eq, kZipR_eq, zipD_tup, ev_rngs, kRngsL_eq, kRngsR_eq, kRngsQ_int, allocs_rngS, lcT_eqS, kLcB_some, kRngdL_eq, kRngdR_int, allocs_rngD, ev_lrng, ev_enum, kEnum_eq, enumD_str, ev_rev, kRev_str, ev_frz, kFrz_eq, ev_sl1, kSl1L_eq, kSl1R_eq, ev_sl2, kSl2L_eq, kSl2R_eq, ev_sl3, kSl3L_eq, kSl3R_int, kSl3Q_eq, sl1D, sl2D, sl3D, cutD, cut_to, cut_from, cut_fromto, ev_xf, kXf_some, xField, ev_isx, kIsx_some,
  evs_nil, evs_cons, evAnd_one, evAnd_cons, evOr_one, evOr_cons, evIfs_nil, evIfs_cons, kBinL_eq, kBinR_eq, kNeg_int, kNt_eq, kIte_bl, kCmpL_eq, kCmpR_eq, kCmp2L_eq, kCmp2R_eqS, kBlt_eq, kIsi_eq, kMethL_eq, kMethR_eqS, kMthS_some, kTup_eq, kLst_eq, kIxL_eq, kIxR_eq, kLcD_eq, kLcI_eq,
  kRng2L_eq, kConsL_eq, kConsR_eq, kAnd_bl, kOr_bl, kIfs_bl, execs_nil, execs_cons, kRest_eq, exec_expr, exec_set, exec_augS, kAugV_some, kAug_eqS, kAugS_some, exec_seti, exec_ret, exec_ite, exec_for, exec_brk, exec_cont, exec_pass, exec_rais, kRais_eq, exec_tryc, kTry_ex, kTry_nx, kTry_br, kTry_ct, kTry_rt, kTryH_none, kTryH_some, wipeO_nx, wipeO_br, wipeO_ct, wipeO_rt, unE_nx, unE_br, unE_ct, unE_rt, kExpr_eq, kSet_v, kSet_tS, kBnd_some, bindT_v, bindT_t, bindTs_nil, bindTs_cons,
  kWhT_bl, kWhB_nx, kWhB_ct, kWhB_br, kWhB_rt, kWhB_ex, whS_ex, ev_callvS, kCv_some, whS_nx, whS_br, whS_rt, kSeti1_eq, kSeti2_eq, kSeti3_eqS, kSetS_some, kRet_eq, kIf_bl, kFor_eqS, kForI_some, kLc_eqS, kLcX_some, forT_eqS, kForT_some, kRng1_int, kRng2R_int, kLrng_int, Rs.bnd_ok, Rs.bnd_ex, Rs.of_some, Rs.ou_ok, Rs.ou_ex, Ou.seq_nx, Ou.seq_br, Ou.seq_ct, Ou.seq_rt, Ou.seq_ex,
  forGo_cons, forGo_nilS, forK_nx, forK_ct, forK_br, forK_rt, forK_ex, srcOk_tup, srcOk_fz, srcOk_tl, srcOk_str, srcOk_ref, lcGo_cons, lcGo_nilS, lcK_some, lcK_none, Ss.tl, Ss.hd, S.bod, S.cnd,
  ev_u0, ev_u1, kU1_eq, ev_u2, kU2_eq, kU2R_eq, ev_u3, kU3_eq, kU3M_eq, kU3R_eq, exec_dput, kDput1_eq, kDput2_eq, kDput3_eq, ofP_some, op0_dict, op1_sset, op1_dlen, op1_sdict, op2_dix, op2_din, op2_dnin, op2_get, op2_ext, op3_get, op3_setd, setdO_some, setdO_none, getD_eqO, getDO_some, putD_eqS, putDO_some, keyOk_int, keyOk_str, divOk_lit, seqT, rOk2_dix, rOk2_din, rOk2_dnin, rOk2_get, rOk2_ext, rOk3_get, rOk3_setd, seqL,
  Option.bind_some, Option.map_some, List.getElem?_cons_zero, List.getElem?_cons_succ, List.getElem?_nil, List.set_cons_zero, List.set_cons_succ, alloc, allocs, settle, items, truth, binop, augop, cmpop, bltin, isOf, getIx, D.stills, D.still, freeze, freezes, D.under, D.unders, D.flat, List.all_cons, List.all_nil, Bool.and_true, Bool.true_and, Bool.and_self, Bool.and_false, Bool.false_and, Bool.or_true, Bool.true_or, Bool.or_false, Bool.false_or, wipeE, decide_true, decide_false, Bool.not_true, Bool.not_false, Bool.false_eq_true, if_true, if_false, ite_true, ite_false, ↓reduceIte,
  List.map_cons, List.map_nil, List.cons_append, List.nil_append, List.append_assoc, List.replicate_succ, List.replicate_zero, List.length_cons, List.length_nil, List.length_map, List.length_set, List.length_append, List.set_set, List.getElem?_set_self, List.getElem?_map, Nat.zero_add, Nat.reduceAdd, Nat.reduceSub, eqD_int, setIx_eqS, kSetI_some, decide_eq_true_eq, Option.map_none, Option.bind_none, endC_rt, endC_nx, endC_ex, callA_ite, stills_map, unders_map, freezes_map, freezes_app, all_T, allocs_ints, alloc_tupI, allocs_rngL, stills_rng, methop_eqS, kApp_some, recvOk_eqS, Option.isSome_some, getL_eqO, getO_some, app_get0, app_getk, app_getl, app_set0, app_setk, len_set, fin_app0, fin_self, finX_app, finX_self, finF_list0, eqD_bl, eqD_str1, eq_self, bool_beq_self, reduceCtorEq, ne_eq, not_false_eq_true, not_true_eq_false, and_true, true_and, and_self, and_false, false_and,
  LIM, ixNat, ilt_T, ilt_F, ile_T, ile_F, ieq_T, ieq_F, nlt_T, nlt_F, nle_T, nle_F, neq_T, neq_F, Int.toNat_natCast, tn_add, tn_sub, tn_neg1, tn_zero, tn_one, tn_two, tn_three, Int.natCast_add, Int.cast_ofNat_Int, Int.reduceNeg, Int.reduceAdd, Int.reduceSub, Int.reduceMul, Int.reduceLT, Int.reduceLE, Int.reduceEq, Int.reduceToNat, $ls,*])
namespace K61
theorem Sd_len {S : DS} : (Sd S []).length = 2 := rfl
theorem fin_Sd {S S' : DS} {N : Store} {d : D} (hc : S'.cells = S.cells) (hd : d.pure = true) : fin (Sd S []) d (Sd S' N) = .ok d (Sd S' []) := by
  have e : Sd S' N = (Sd S []).set 1 (dsO S') ++ N := by unfold Sd; rw [hc]; rfl
  have e2 : Sd S' [] = (Sd S []).set 1 (dsO S') := by unfold Sd; rw [hc]; rfl
  rw [e, e2]
  exact fin_set (under_pure _ hd) (by simp [D.unders, D.under, Sd])
theorem eqD_pl {μ : Store} {a b : D} (ha : a.plain = true) (hb : b.plain = true) (h1 : a.dep ≤ 60) (h2 : b.dep ≤ 60) : eqD μ a b = some (peq a b) := by
  unfold eqD plainOf
  rw [if_pos ha, if_pos hb]
  simp only [Option.bind_some]
  rw [if_pos ⟨h1, h2⟩]
theorem ints_pl (l : List Int) : D.plains (l.map .int) = true ∧ D.deps (l.map .int) = 0 := by
  induction l with
  | nil => exact ⟨rfl, rfl⟩
  | cons a l ih => simp [D.plains, D.plain, D.deps, D.dep, ih.1, ih.2]
theorem eqD_fzN {μ : Store} (l : List Int) : eqD μ (.fz (l.map .int)) (.tl []) = some l.isEmpty := by
  rw [eqD_pl (by simp [D.plain, ints_pl]) rfl (by simp [D.dep, ints_pl]) (by simp [D.dep, D.deps])]
  cases l <;> rfl
/-! ### the same -/
theorem sames_strs (l : List Wd) : D.sames (l.map .str) = true ∧ D.hgts (l.map .str) = 0 ∧ D.wids (l.map .str) = 0 := by
  induction l with
  | nil => exact ⟨rfl, rfl, rfl⟩
  | cons a l ih => simp [D.sames, D.same, D.hgts, D.hgt, D.wids, D.wid, ih]
theorem same_S (k : Nat) (μ : Store) (l : List Wd) (h : l.length ≤ 1000) : callN prog (k + 2) "_law_same" [.tup (l.map .str), .tup (l.map .str)] μ = .ok (.bl true) μ :=
  same_refl pn_same μ (k + 2) _ (by simp [D.same, sames_strs]) (by simp [D.hgt, sames_strs]) (by simp [D.wid, sames_strs]; omega)
theorem sames_rows (l : List (Wd × Int)) : D.sames (l.map rowT) = true ∧ D.hgts (l.map rowT) ≤ 1 ∧ D.wids (l.map rowT) ≤ 2 := by
  induction l with
  | nil => exact ⟨rfl, by simp [D.hgts], by simp [D.wids]⟩
  | cons a l ih =>
    obtain ⟨i1, i2, i3⟩ := ih
    simp [D.sames, D.same, D.hgts, D.hgt, D.wids, D.wid, rowT, i1]
    omega
theorem same_R (k : Nat) (μ : Store) (l : List (Wd × Int)) (h : l.length ≤ 1000) : callN prog (k + 5) "_law_same" [.tup (l.map rowT), .tup (l.map rowT)] μ = .ok (.bl true) μ := by
  obtain ⟨i1, i2, i3⟩ := sames_rows l
  exact same_refl pn_same μ (k + 5) _ (by simp [D.same, i1]) (by simp only [D.hgt]; omega) (by simp [D.wid]; omega)
theorem same_RI (k : Nat) (μ : Store) (l : List (Wd × Int)) (i : Int) (h : l.length ≤ 1000) : callN prog (k + 5) "_law_same" [.tup [.tup (l.map rowT), .int i], .tup [.tup (l.map rowT), .int i]] μ = .ok (.bl true) μ := by
  obtain ⟨i1, i2, i3⟩ := sames_rows l
  exact same_refl pn_same μ (k + 5) _ (by simp [D.same, D.sames, i1]) (by simp only [D.hgt, D.hgts]; omega) (by simp [D.wid, D.wids]; omega)
theorem node_same {ws : List Wd} (hn : ws.length ≤ 60) : ∀ (f : Nat) (a : Wd), (nodeD ws f a).same = true ∧ (nodeD ws f a).hgt ≤ 3 * f ∧ (nodeD ws f a).wid ≤ 1000
  | 0, a => ⟨rfl, by simp [nodeD, D.hgt], by simp [nodeD, D.wid]⟩
  | f + 1, a => by
    have ih := fun a => node_same hn f a
    have hsl : (sgs ws a).length ≤ 60 := by
      have h1 : (sgs ws a).length ≤ (raws ws a).length := srtU_len _
      have h2 : (raws ws a).length ≤ (sub ws a).length := by unfold raws; rw [List.length_map]; exact List.length_filter_le _ _
      have h3 : (sub ws a).length ≤ ws.length := List.length_filter_le _ _
      omega
    have go : ∀ l : List Wd, D.sames (l.map fun s => D.tup [.str s, nodeD ws f (a ++ s)]) = true ∧ D.hgts (l.map fun s => D.tup [.str s, nodeD ws f (a ++ s)]) ≤ 3 * f + 1 ∧ D.wids (l.map fun s => D.tup [.str s, nodeD ws f (a ++ s)]) ≤ 1000 := fun l => by
      induction l with
      | nil => exact ⟨rfl, by simp [D.hgts], by simp [D.wids]⟩
      | cons s l il =>
        obtain ⟨i1, i2, i3⟩ := il
        obtain ⟨j1, j2, j3⟩ := ih (a ++ s)
        simp only [List.map_cons, D.sames, D.same, D.hgts, D.hgt, D.wids, D.wid, i1, j1, List.length_cons, List.length_nil]
        refine ⟨rfl, by omega, by omega⟩
    obtain ⟨g1, g2, g3⟩ := go (sgs ws a)
    have hle : ((sgs ws a).map fun s => D.tup [.str s, nodeD ws f (a ++ s)]).length ≤ 60 := by rw [List.length_map]; exact hsl
    simp only [nodeD]
    generalize (sgs ws a).map (fun s => D.tup [.str s, nodeD ws f (a ++ s)]) = Q at *
    simp only [D.same, D.sames, D.hgt, D.hgts, D.wid, D.wids, g1, List.length_cons, List.length_nil]
    refine ⟨rfl, by omega, by omega⟩
theorem same_N (k : Nat) (μ : Store) {ws : List Wd} (hn : ws.length ≤ 60) : callN prog (k + 100) "_law_same" [nodeD ws 25 [], nodeD ws 25 []] μ = .ok (.bl true) μ := by
  obtain ⟨h1, h2, h3⟩ := node_same hn 25 []
  exact same_refl pn_same μ (k + 100) _ h1 (by omega) (by omega)
/-! ### the pool -/
def pool0 : List Wd := [[99, 97, 116], [99, 97, 116, 115], [67, 97, 116], [100, 111, 103], [100, 111, 103, 115], [68, 111, 103, 115], [98, 105, 114, 100], [116, 104, 101], [97], [114, 117, 110], [114, 117, 110, 110, 105, 110, 103], [114, 117, 110, 115], [120, 49], [57], [99, 97, 114], [99, 97, 114, 116], [97, 114, 116]]
def poolL : List Wd := pool0 ++ [[99, 97], [99, 97, 116, 57], [100, 111, 116], [99, 111, 116], [99], [114, 117, 105, 110], [98, 105, 114, 100, 115], [68, 111, 103]]
def poolW : List Wd := poolL ++ [[99, 97, 116, 115, 49], [120, 121, 122], [114, 117, 110, 105, 110, 103]]
theorem pool_ok : ∀ w ∈ poolW, WordOk w := by
  have h : poolW.all wordB = true := by decide +kernel
  intro w hw
  have := List.all_eq_true.mp h w hw
  unfold wordB at this
  simp only [Bool.and_eq_true, decide_eq_true_eq, List.all_eq_true] at this
  exact ⟨this.1.1, this.1.2, this.2⟩
theorem law_pool_ok (k : Nat) (μ : Store) : callN prog (k + 1) "_law_pool" [] μ = .ok (.tl (pool0.map .str)) μ := by
  have h1 : D.flatTs (pool0.map D.str) = true := by rw [flatTs_map]; simp [D.flatT]
  have h2 : D.hts (pool0.map D.str) < 90 := by decide
  rw [callN_go (F := f_law_pool) rfl rfl]
  simp! [f_law_pool]
  rfl
theorem pick_word (k : Nat) {S : DS} (h : S.Ok) {l : List Wd} (h0 : 0 < l.length) (h1 : l.length < 1000000) : ∃ v ∈ l, callN prog (k + 2) "_law_pick" [.ref 1, .fz (l.map .str)] (Sd S []) = .ok (.str v) (Sd (dn S l.length) []) := by
  have hp := pick_S pn_draw pn_pick k (S := S) (N := []) (l := l.map .str) h (by simpa using h0) (by simpa using h1) (pures_strs l)
  have hm := pk_mem (S := S) (l := l.map .str) (by simpa using h0)
  obtain ⟨v, hv, e⟩ := List.mem_map.mp hm
  rw [← e, List.length_map] at hp
  exact ⟨v, hv, hp⟩
def WdI (C : List Int) (i : Nat) (μ : Store) (acc : List D) : Prop := ∃ (S' : DS) (ws : List Wd), μ = Sd S' [] ∧ S'.Ok ∧ S'.cells = C ∧ acc = ws.map .str ∧ ws.length = i ∧ ∀ w ∈ ws, w ∈ poolL
theorem t0 (k : Nat) {S : DS} {s0 s2 s3 s4 s5 s6 s7 s8 s9 s10 s11 s12 s13 s14 s15 s16 s17 s18 : Option D} : exec prog.G (callN prog (k + 100)) b_law_3.hd [s0, some (.ref 1), s2, s3, s4, s5, s6, s7, s8, s9, s10, s11, s12, s13, s14, s15, s16, s17, s18] (Sd S []) = .nx [s0, some (.ref 1), s2, s3, s4, some (.fz (poolL.map .str)), s6, s7, s8, s9, s10, s11, s12, s13, s14, s15, s16, s17, s18] (Sd S []) := by
  have h1 := law_pool_ok (k + 99) (Sd S [])
  have fz : freezes (poolL.map D.str) = poolL.map .str := freezes_pure _ (pures_strs _)
  have e : poolL.map D.str = pool0.map D.str ++ [.str [99, 97], .str [99, 97, 116, 57], .str [100, 111, 116], .str [99, 111, 116], .str [99], .str [114, 117, 105, 110], .str [98, 105, 114, 100, 115], .str [68, 111, 103]] := by unfold poolL; rw [List.map_append]; rfl
  have l0 : pool0.length = 17 := rfl
  rw [e] at fz ⊢
  generalize pool0 = P at *
  simp! [b_law_3, h1, fz, l0]
theorem t1 (k : Nat) {S : DS} (hS : S.Ok) {s0 s2 s3 s4 s5 s6 s7 s8 s9 s10 s11 s12 s13 s14 s15 s16 s17 s18 : Option D} : ∃ (ws : List Wd) (S' : DS), exec prog.G (callN prog (k + 100)) b_law_3.tl.hd [s0, some (.ref 1), s2, s3, s4, some (.fz (poolL.map .str)), s6, s7, s8, s9, s10, s11, s12, s13, s14, s15, s16, s17, s18] (Sd S []) = .nx [s0, some (.ref 1), s2, s3, s4, some (.fz (poolL.map .str)), some (.tup (ws.map .str)), s7, s8, s9, s10, s11, s12, s13, s14, s15, s16, s17, s18] (Sd S' []) ∧ S'.Ok ∧ S'.cells = S.cells ∧ Ws ws := by
  have hd := draw_S pn_draw (k + 99) (N := []) (lim := 14) hS (by decide) (by decide)
  have n0 := dv_nn S (lim := 14) (by decide)
  have n1 := dv_lt S (lim := 14) (by decide)
  have ok2 := dn_ok hS (lim := 14) (by decide)
  have c2 := dn_cells (S := S) (lim := 14)
  generalize dv S 14 = t at *
  generalize dn S 14 = S2 at *
  have hlen : (rngL 0 t).length = t.toNat := by simp [rngL]
  obtain ⟨acc, μ', hlc, S3, l, rfl, ok3, c3, rfl, hw, hr⟩ := lcGo_inv (s := .tl (rngL 0 t)) (xs := rngL 0 t) (f := lcT prog.G (callN prog (k + 100)) e_law_0 (.v 18) [("k", 18)] .nil [s0, some (.ref 1), s2, s3, s4, some (.fz (poolL.map .str)), s6, s7, s8, s9, s10, s11, s12, s13, s14, s15, s16, s17, s18]) (WdI S.cells) (fun _ _ _ _ => rfl) (by omega)
    (fun i x μ acc hx hI => by
      obtain ⟨S', l, rfl, ok', hc, rfl, hw, hr⟩ := hI
      obtain ⟨j, rfl⟩ := rng_int hx
      obtain ⟨v, hv, hp⟩ := pick_word (k + 98) ok' (l := poolL) (by decide) (by decide)
      refine ⟨some (.str v), Sd (dn S' poolL.length) [], ?_, dn S' poolL.length, l ++ [v], rfl, dn_ok ok' (by decide), by rw [dn_cells, hc], by rw [List.map_append]; rfl, by rw [List.length_append, hw]; rfl, fun a ha => ?_⟩
      · simp! [e_law_0, hp]
      · rcases List.mem_append.mp ha with ha | ha
        · exact hr a ha
        · rw [List.mem_singleton.mp ha]; exact hv)
    (μ := Sd S2 []) ⟨S2, [], rfl, ok2, c2, rfl, rfl, by intro x hx; cases hx⟩
  rw [hlen] at hw
  have hsd := setD_strs l
  have hsl : (srtU ltN l).length ≤ l.length := srtU_len _
  refine ⟨srtU ltN l, S3, ?_, ok3, c3, ⟨fun w hw' => ?_, srtU_pw sto_str l, by omega⟩⟩
  · have hfz : freezes ((srtU ltN l).map D.str) = (srtU ltN l).map .str := freezes_pure _ (pures_strs _)
    simp! [b_law_3, hd, hlc, hsd, hfz, strs_al]
  · have hm := hr w ((srtU_mem sto_str w l).mp hw')
    exact pool_ok w (by unfold poolW; exact List.mem_append_left _ hm)
theorem t2 (k : Nat) {S : DS} {ws : List Wd} (h : Ws ws) {s0 s2 s3 s4 s5 s6 s7 s8 s9 s10 s11 s12 s13 s14 s15 s16 s17 s18 : Option D} : exec prog.G (callN prog (k + 100)) b_law_3.tl.tl.hd [s0, some (.ref 1), s2, s3, s4, some (.fz (poolL.map .str)), some (.tup (ws.map .str)), s7, s8, s9, s10, s11, s12, s13, s14, s15, s16, s17, s18] (Sd S []) = .nx [s0, some (.ref 1), s2, s3, s4, some (.fz (poolL.map .str)), some (.tup (ws.map .str)), some (nodeD ws 25 []), s8, s9, s10, s11, s12, s13, s14, s15, s16, s17, s18] (Sd S []) := by
  have h1 := word_tree_ok (k + 74) (Sd S []) h
  have np := node_pure ws 25 []
  have ha : ∀ μ : Store, alloc (nodeD ws 25 []) μ = (nodeD ws 25 [], μ) := fun μ => alloc_pure np
  generalize nodeD ws 25 [] = t at *
  simp! [b_law_3, strs_st, strs_al, h1, ha]
theorem t3 (k : Nat) {S : DS} {ws : List Wd} (h : Ws ws) {s0 s2 s3 s4 s5 s6 s7 s8 s9 s10 s11 s12 s13 s14 s15 s16 s17 s18 : Option D} : exec prog.G (callN prog (k + 100)) b_law_3.tl.tl.tl.hd [s0, some (.ref 1), s2, s3, s4, some (.fz (poolL.map .str)), some (.tup (ws.map .str)), some (nodeD ws 25 []), s8, s9, s10, s11, s12, s13, s14, s15, s16, s17, s18] (Sd S []) = .nx [s0, some (.ref 1), s2, s3, s4, some (.fz (poolL.map .str)), some (.tup (ws.map .str)), some (nodeD ws 25 []), s8, s9, s10, s11, s12, s13, s14, s15, s16, s17, s18] (Sd S []) := by
  have h1 := law_tree_ok h 24 (k + 75) (Sd S []) [] (h.deep []) (by simp)
  have h2 := tree_words_ok h 24 (k + 75) (Sd S []) [] (h.deep [])
  have ht := tw_ok h.srt 25 [] (h.deep [])
  rw [sub_nil] at ht
  have ht0 : (tw ws 25 []).map ([] ++ ·) = tw ws 25 [] := by simp
  have ht' : tw ws 25 [] = ws := ht0.symm.trans ht
  rw [ht'] at h2
  have h3 := same_N k (Sd S []) h.le
  have h4 := same_S (k + 98) (Sd S []) ws (by have := h.le; omega)
  have np := node_pure ws 25 []
  have hx := isX_pure np
  have hs := still_pure _ np
  generalize nodeD ws 25 [] = t at *
  simp! [b_law_3, strs_st, strs_al, hx, hs, h1, h2, h3, h4]
end K61
end Mp
end SK61v
section SK61w
/-! K61w: near words and heads. -/
namespace Mp
local macro_rules
  | `(tactic| simp! [$ls,*]) => `(tactic| simp (disch := omega) only [ev_lit, ev_varS, kVar_some, isX_non, isX_bl, isX_int, isX_str, isX_tup, isX_tl, isX_fz, isX_ref, isX_fn, ev_glo, ev_bin, ev_neg, ev_nt, ev_band, ev_bor, ev_ite, ev_cmp, ev_cmp2, ev_call, ev_blt, ev_isi, ev_meth, ev_tup, ev_lst, ev_ix, ev_lc, ev_rng1, ev_rng2, ev_rngd, ev_zip, kZipL_eq, kZipR_eq, zipD_tup, ev_rngs, kRngsL_eq, kRngsR_eq, kRngsQ_int, allocs_rngS, lcT_eqS, kLcB_some, kRngdL_eq, kRngdR_int, allocs_rngD, ev_lrng, ev_enum, kEnum_eq, enumD_str, ev_rev, kRev_str, ev_frz, kFrz_eq, ev_sl1, kSl1L_eq, kSl1R_eq, ev_sl2, kSl2L_eq, kSl2R_eq, ev_sl3, kSl3L_eq, kSl3R_int, kSl3Q_eq, sl1D, sl2D, sl3D, cutD, cut_to, cut_from, cut_fromto, ev_xf, kXf_some, xField, ev_isx, kIsx_some,
  evs_nil, evs_cons, evAnd_one, evAnd_cons, evOr_one, evOr_cons, evIfs_nil, evIfs_cons, kBinL_eq, kBinR_eq, kNeg_int, kNt_eq, kIte_bl, kCmpL_eq, kCmpR_eq, kCmp2L_eq, kCmp2R_eqS, kBlt_eq, kIsi_eq, kMethL_eq, kMethR_eqS, kMthS_some, kTup_eq, kLst_eq, kIxL_eq, kIxR_eq, kLcD_eq, kLcI_eq,
  kRng2L_eq, kConsL_eq, kConsR_eq, kAnd_bl, kOr_bl, kIfs_bl, execs_nil, execs_cons, kRest_eq, exec_expr, exec_set, exec_augS, kAugV_some, kAug_eqS, kAugS_some, exec_seti, exec_ret, exec_ite, exec_for, exec_brk, exec_cont, exec_pass, exec_rais, kRais_eq, exec_tryc, kTry_ex, kTry_nx, kTry_br, kTry_ct, kTry_rt, kTryH_none, kTryH_some, wipeO_nx, wipeO_br, wipeO_ct, wipeO_rt, unE_nx, unE_br, unE_ct, unE_rt, kExpr_eq, kSet_v, kSet_tS, kBnd_some, bindT_v, bindT_t, bindTs_nil, bindTs_cons,
  kWhT_bl, kWhB_nx, kWhB_ct, kWhB_br, kWhB_rt, kWhB_ex, whS_ex, ev_callvS, kCv_some, whS_nx, whS_br, whS_rt, kSeti1_eq, kSeti2_eq, kSeti3_eqS, kSetS_some, kRet_eq, kIf_bl, kFor_eqS, kForI_some, kLc_eqS, kLcX_some, forT_eqS, kForT_some, kRng1_int, kRng2R_int, kLrng_int, Rs.bnd_ok, Rs.bnd_ex, Rs.of_some, Rs.ou_ok, Rs.ou_ex, Ou.seq_nx, Ou.seq_br, Ou.seq_ct, Ou.seq_rt, Ou.seq_ex,
  forGo_cons, forGo_nilS, forK_nx, forK_ct, forK_br, forK_rt, forK_ex, srcOk_tup, srcOk_fz, srcOk_tl, srcOk_str, srcOk_ref, lcGo_cons, lcGo_nilS, lcK_some, lcK_none, Ss.tl, Ss.hd, S.bod, S.cnd,
  ev_u0, ev_u1, kU1_eq, ev_u2, kU2_eq, kU2R_eq, ev_u3, kU3_eq, kU3M_eq, kU3R_eq, exec_dput, kDput1_eq, kDput2_eq, kDput3_eq, ofP_some, op0_dict, op1_sset, op1_dlen, op1_sdict, op2_dix, op2_din, op2_dnin, op2_get, op2_ext, op3_get, op3_setd, setdO_some, setdO_none, getD_eqO, getDO_some, putD_eqS, putDO_some, keyOk_int, keyOk_str, divOk_lit, seqT, rOk2_dix, rOk2_din, rOk2_dnin, rOk2_get, rOk2_ext, rOk3_get, rOk3_setd, seqL,
  Option.bind_some, Option.map_some, List.getElem?_cons_zero, List.getElem?_cons_succ, List.getElem?_nil, List.set_cons_zero, List.set_cons_succ, alloc, allocs, settle, items, truth, binop, augop, cmpop, bltin, isOf, getIx, D.stills, D.still, freeze, freezes, D.under, D.unders, D.flat, List.all_cons, List.all_nil, Bool.and_true, Bool.true_and, Bool.and_self, Bool.and_false, Bool.false_and, Bool.or_true, Bool.true_or, Bool.or_false, Bool.false_or, wipeE, decide_true, decide_false, Bool.not_true, Bool.not_false, Bool.false_eq_true, if_true, if_false, ite_true, ite_false, ↓reduceIte,
  List.map_cons, List.map_nil, List.cons_append, List.nil_append, List.append_assoc, List.replicate_succ, List.replicate_zero, List.length_cons, List.length_nil, List.length_map, List.length_set, List.length_append, List.set_set, List.getElem?_set_self, List.getElem?_map, Nat.zero_add, Nat.reduceAdd, Nat.reduceSub, eqD_int, setIx_eqS, kSetI_some, decide_eq_true_eq, Option.map_none, Option.bind_none, endC_rt, endC_nx, endC_ex, callA_ite, stills_map, unders_map, freezes_map, freezes_app, all_T, allocs_ints, alloc_tupI, allocs_rngL, stills_rng, methop_eqS, kApp_some, recvOk_eqS, Option.isSome_some, getL_eqO, getO_some, app_get0, app_getk, app_getl, app_set0, app_setk, len_set, fin_app0, fin_self, finX_app, finX_self, finF_list0, eqD_bl, eqD_str1, eq_self, bool_beq_self, reduceCtorEq, ne_eq, not_false_eq_true, not_true_eq_false, and_true, true_and, and_self, and_false, false_and,
  LIM, ixNat, ilt_T, ilt_F, ile_T, ile_F, ieq_T, ieq_F, nlt_T, nlt_F, nle_T, nle_F, neq_T, neq_F, Int.toNat_natCast, tn_add, tn_sub, tn_neg1, tn_zero, tn_one, tn_two, tn_three, Int.natCast_add, Int.cast_ofNat_Int, Int.reduceNeg, Int.reduceAdd, Int.reduceSub, Int.reduceMul, Int.reduceLT, Int.reduceLE, Int.reduceEq, Int.reduceToNat, $ls,*])
namespace K61
def prefs (w : Wd) : List Wd := (List.range (w.length + 1)).map fun k => w.take k
def headL (ws : List Wd) : List Wd := [] :: (ws.map prefs).flatten
theorem headL_snoc (ws : List Wd) (w : Wd) : headL (ws ++ [w]) = headL ws ++ prefs w := by unfold headL; simp
theorem headL_mem (ws : List Wd) (h : Wd) : h ∈ headL ws ↔ h = [] ∨ ∃ t, h ++ t ∈ ws := by
  unfold headL
  rw [List.mem_cons, List.mem_flatten]
  refine or_congr_right ?_
  constructor
  · rintro ⟨l, hl, hh⟩
    obtain ⟨w, hw, rfl⟩ := List.mem_map.mp hl
    unfold prefs at hh
    obtain ⟨k, _, rfl⟩ := List.mem_map.mp hh
    exact ⟨w.drop k, by rw [List.take_append_drop]; exact hw⟩
  · rintro ⟨t, ht⟩
    refine ⟨prefs (h ++ t), List.mem_map.mpr ⟨_, ht, rfl⟩, ?_⟩
    unfold prefs
    exact List.mem_map.mpr ⟨h.length, List.mem_range.mpr (by simp; omega), by simp⟩
theorem heads_ok (ws : List Wd) : Heads ws (srtU ltN (headL ws)) := ⟨srtU_pw sto_str _, fun h => by rw [srtU_mem sto_str, headL_mem]⟩
theorem headL_len {ws : List Wd} (h : ∀ w ∈ ws, WordOk w) : (headL ws).length ≤ 1 + 25 * ws.length := by
  unfold headL
  rw [List.length_cons]
  have : ∀ l : List Wd, (∀ w ∈ l, WordOk w) → ((l.map prefs).flatten).length ≤ 25 * l.length := fun l => by
    induction l with
    | nil => intro _; simp
    | cons w l ih =>
      intro h
      have h1 := (h w (by simp)).le
      have h2 := ih fun x hx => h x (by simp [hx])
      have h3 : (prefs w).length = w.length + 1 := by simp [prefs]
      simp only [List.map_cons, List.flatten_cons, List.length_append, List.length_cons, h3]
      omega
  have := this ws h
  omega
theorem head_len {ws : List Wd} (h : ∀ w ∈ ws, WordOk w) : ∀ x ∈ headL ws, x.length ≤ 24 := fun x hx => by
  rcases (headL_mem ws x).mp hx with rfl | ⟨t, ht⟩
  · simp
  · have := (h _ ht).le
    rw [List.length_append] at this
    omega
theorem met_all {ws : List Wd} (h : Ws ws) (w : Wd) {f : Int} (f0 : 0 ≤ f) : met ws w f 25 [] = (aliveL w f (srtU ltN (headL ws))).length := by
  have q := heads_ok ws
  have := met_ok q w f 25 [] (fun x hx => by
    have hm := (sub_mem.mp hx).1
    have := head_len h.ok x ((srtU_mem sto_str x _).mp hm)
    simp; omega) ((q.mem []).mpr (.inl rfl)) (by
      cases e : lostB w f [] with
      | false => rfl
      | true =>
        have := lost_iff.mp e 0 (Nat.zero_le _)
        rw [far_nil] at this
        simp at this
        omega)
  rwa [sub_nil] at this
theorem far_whole (w one : Wd) : E (at_ one) (at_ w) one.length w.length = far w one w.length := by
  have := law_far_eq w one (Nat.le_refl w.length)
  rwa [List.take_length] at this
theorem u0 (k : Nat) {S : DS} (hS : S.Ok) {ws : List Wd} {s0 s2 s3 s4 s5 s6 s7 s8 s9 s10 s11 s12 s13 s14 s15 s16 s17 s18 : Option D} : ∃ (w : Wd) (f : Int) (S' : DS), exec prog.G (callN prog (k + 100)) b_law_2.hd [s0, some (.ref 1), s2, s3, s4, some (.fz (poolL.map .str)), some (.tup (ws.map .str)), some (nodeD ws 25 []), s8, s9, s10, s11, s12, s13, s14, s15, s16, s17, s18] (Sd S []) = .nx [s0, some (.ref 1), s2, s3, s4, some (.fz (poolL.map .str)), some (.tup (ws.map .str)), some (nodeD ws 25 []), s8, s9, s10, s11, s12, s13, s14, some (.str w), some (.int f), s17, s18] (Sd S' []) ∧ S'.Ok ∧ S'.cells = S.cells ∧ WordOk w ∧ 0 ≤ f ∧ f ≤ 3 := by
  obtain ⟨w, hw, hp⟩ := pick_word (k + 98) hS (l := poolW) (by decide) (by decide)
  have ok1 : (dn S poolW.length).Ok := dn_ok hS (by decide)
  have c1 := dn_cells (S := S) (lim := poolW.length)
  generalize dn S poolW.length = S1 at *
  have hd := draw_S pn_draw (k + 99) (N := []) (lim := 4) ok1 (by decide) (by decide)
  have n0 := dv_nn S1 (lim := 4) (by decide)
  have n1 := dv_lt S1 (lim := 4) (by decide)
  refine ⟨w, dv S1 4, dn S1 4, ?_, dn_ok ok1 (by decide), by rw [dn_cells, c1], pool_ok w hw, n0, by omega⟩
  have e : poolW.map D.str = poolL.map D.str ++ [.str [99, 97, 116, 115, 49], .str [120, 121, 122], .str [114, 117, 110, 105, 110, 103]] := by unfold poolW; rw [List.map_append]; rfl
  have fz : freezes (poolW.map D.str) = poolW.map .str := freezes_pure _ (pures_strs _)
  rw [e] at fz hp
  have l0 : poolL.length = 25 := rfl
  generalize poolL = P at *
  simp! [b_law_2, fz, l0, hp, hd]
theorem u1 (k : Nat) {S : DS} {ws : List Wd} {w : Wd} {f : Int} (h : Ws ws) (hw : WordOk w) {s0 s2 s3 s4 s5 s6 s7 s8 s9 s10 s11 s12 s13 s14 s15 s16 s17 s18 : Option D} : exec prog.G (callN prog (k + 100)) b_law_2.tl.hd [s0, some (.ref 1), s2, s3, s4, some (.fz (poolL.map .str)), some (.tup (ws.map .str)), some (nodeD ws 25 []), s8, s9, s10, s11, s12, s13, s14, some (.str w), some (.int f), s17, s18] (Sd S []) = .nx [s0, some (.ref 1), s2, s3, s4, some (.fz (poolL.map .str)), some (.tup (ws.map .str)), some (nodeD ws 25 []), s8, s9, some (.tup ((nearL w f ws).map rowT)), s11, s12, s13, s14, some (.str w), some (.int f), s17, s18] (Sd S []) := by
  have hle := h.le
  have hlc := lcGo_eq (μ := Sd S []) (s := .tup (ws.map .str)) (xs := ws.map .str) (f := lcT prog.G (callN prog (k + 100)) e_law_1 (.v 12) [("one", 12)] i_law_1 [s0, some (.ref 1), s2, s3, s4, some (.fz (poolL.map .str)), some (.tup (ws.map .str)), some (nodeD ws 25 []), s8, s9, s10, s11, s12, s13, s14, some (.str w), some (.int f), s17, s18]) (e := D.str) (g := fun x => if far w x w.length ≤ f then some (rowT (x, far w x w.length)) else none) rfl ws [] (fun x hx => by
    have hl := law_far_ok (k + 99) (Sd S []) (one := x) (two := w) (by have := (h.ok x hx).le; omega)
    rw [far_whole] at hl
    have er : rowT (x, far w x w.length) = .tup [.str x, .int (far w x w.length)] := rfl
    rw [er]
    generalize far w x w.length = fv at *
    by_cases c : fv ≤ f
    · rw [if_pos c]
      simp! [e_law_1, i_law_1, hl]
    · rw [if_neg c]
      simp! [e_law_1, i_law_1, hl]) (by show _ ≤ 16777216; simp; omega)
  have em : ∀ l : List Wd, (l.filterMap fun x => if far w x w.length ≤ f then some (rowT (x, far w x w.length)) else none) = (nearL w f l).map rowT := fun l => by
    unfold nearL
    induction l with
    | nil => rfl
    | cons x l ih =>
      rw [List.filterMap_cons, List.filter_cons]
      by_cases c : far w x w.length ≤ f
      · rw [if_pos c, if_pos (by simpa using c), ih]; rfl
      · rw [if_neg c, if_neg (by simpa using c), ih]
  rw [em, List.nil_append] at hlc
  have hal : ∀ μ : Store, allocs ((nearL w f ws).map rowT) μ = ((nearL w f ws).map rowT, μ) := fun μ => allocs_pure (rows_pure _)
  simp! [b_law_2, strs_al, hlc, hal]
theorem u2 (k : Nat) {S : DS} {ws : List Wd} {w : Wd} {f : Int} {s0 s2 s3 s4 s5 s6 s7 s8 s9 s10 s11 s12 s13 s14 s15 s16 s17 s18 : Option D} : exec prog.G (callN prog (k + 100)) b_law_2.tl.tl.hd [s0, some (.ref 1), s2, s3, s4, some (.fz (poolL.map .str)), some (.tup (ws.map .str)), some (nodeD ws 25 []), s8, s9, some (.tup ((nearL w f ws).map rowT)), s11, s12, s13, s14, some (.str w), some (.int f), s17, s18] (Sd S []) = .nx [s0, some (.ref 1), s2, s3, s4, some (.fz (poolL.map .str)), some (.tup (ws.map .str)), some (nodeD ws 25 []), s8, s9, some (.tup ((nearL w f ws).map rowT)), some (.fz ([([] : Wd)].map .str)), s12, s13, s14, some (.str w), some (.int f), s17, s18] (Sd S []) := by
  simp! [b_law_2]
theorem u3 (k : Nat) {S : DS} {ws : List Wd} {w : Wd} {f : Int} (h : Ws ws) {s0 s2 s3 s4 s5 s6 s7 s8 s9 s10 s11 s12 s13 s14 s15 s16 s17 s18 : Option D} : ∃ t12, exec prog.G (callN prog (k + 100)) b_law_2.tl.tl.tl.hd [s0, some (.ref 1), s2, s3, s4, some (.fz (poolL.map .str)), some (.tup (ws.map .str)), some (nodeD ws 25 []), s8, s9, some (.tup ((nearL w f ws).map rowT)), some (.fz ([([] : Wd)].map .str)), s12, s13, s14, some (.str w), some (.int f), s17, s18] (Sd S []) = .nx [s0, some (.ref 1), s2, s3, s4, some (.fz (poolL.map .str)), some (.tup (ws.map .str)), some (nodeD ws 25 []), s8, s9, some (.tup ((nearL w f ws).map rowT)), some (.fz ((headL ws).map .str)), t12, s13, s14, some (.str w), some (.int f), s17, s18] (Sd S []) := by
  have hle := h.le
  obtain ⟨ρ3, μ3, hf, t12, rfl, rfl⟩ := forGo_inv (s := .tup (ws.map .str)) (xs := ws.map .str) (f := forT prog.G (callN prog (k + 100)) (.v 12) b_law_0) (fun i ρ μ => ∃ t12 : Option D, ρ = [s0, some (.ref 1), s2, s3, s4, some (.fz (poolL.map .str)), some (.tup (ws.map .str)), some (nodeD ws 25 []), s8, s9, some (.tup ((nearL w f ws).map rowT)), some (.fz ((headL (ws.take i)).map .str)), t12, s13, s14, some (.str w), some (.int f), s17, s18] ∧ μ = Sd S []) (fun _ _ _ _ => rfl)
    (fun i x ρ μ hx hI => by
      obtain ⟨t12, rfl, rfl⟩ := hI
      rw [List.getElem?_map, Option.map_eq_some_iff] at hx
      obtain ⟨x, hx, rfl⟩ := hx
      have hm := List.mem_of_getElem? hx
      have hxl := (h.ok x hm).le
      have et : ws.take (i + 1) = ws.take i ++ [x] := by rw [List.take_succ, hx]; rfl
      have hhl := headL_len (ws := ws.take i) fun y hy => h.ok y (List.mem_of_mem_take hy)
      rw [List.length_take] at hhl
      have hlc := lcGo_map' (μ := Sd S []) (s := .tl (rngL 0 ((x.length : Int) + 1))) (xs := rngL 0 ((x.length : Int) + 1)) (e := fun (i : Nat) => D.int (i : Int)) (g := fun k => D.str (x.take k)) (f := lcT prog.G (callN prog (k + 100)) e_law_2 (.v 18) [("k", 18)] .nil [s0, some (.ref 1), s2, s3, s4, some (.fz (poolL.map .str)), some (.tup (ws.map .str)), some (nodeD ws 25 []), s8, s9, some (.tup ((nearL w f ws).map rowT)), some (.fz ((headL (ws.take i)).map .str)), some (.str x), s13, s14, some (.str w), some (.int f), s17, s18]) rfl (List.range (x.length + 1)) (fun j hj => by
        simp! [e_law_2]) (by show _ ≤ 16777216; rw [List.length_range]; omega)
      have e : rngL 0 ((x.length : Int) + 1) = (List.range (x.length + 1)).map fun (i : Nat) => D.int (i : Int) := by
        have := rng_nat (x.length + 1)
        rwa [Int.natCast_add] at this
      rw [← e] at hlc
      have ep : ((List.range (x.length + 1)).map fun k => D.str (x.take k)) = (prefs x).map .str := by unfold prefs; rw [List.map_map]; rfl
      rw [ep] at hlc
      have hpl : (prefs x).length = x.length + 1 := by simp [prefs]
      have fz : freezes ((headL (ws.take i)).map D.str ++ (prefs x).map .str) = (headL (ws.take i)).map D.str ++ (prefs x).map .str := by
        have : freezes ((headL (ws.take i) ++ prefs x).map D.str) = (headL (ws.take i) ++ prefs x).map .str := freezes_pure _ (pures_strs _)
        rwa [List.map_append] at this
      refine ⟨[s0, some (.ref 1), s2, s3, s4, some (.fz (poolL.map .str)), some (.tup (ws.map .str)), some (nodeD ws 25 []), s8, s9, some (.tup ((nearL w f ws).map rowT)), some (.fz ((headL (ws.take (i + 1))).map .str)), some (.str x), s13, s14, some (.str w), some (.int f), s17, s18], _, .inl ?_, some (.str x), rfl, rfl⟩
      rw [et, headL_snoc, List.map_append]
      generalize headL (ws.take i) = H at *
      simp! [b_law_0, hlc, hpl, fz])
    (ρ := [s0, some (.ref 1), s2, s3, s4, some (.fz (poolL.map .str)), some (.tup (ws.map .str)), some (nodeD ws 25 []), s8, s9, some (.tup ((nearL w f ws).map rowT)), some (.fz ([([] : Wd)].map .str)), s12, s13, s14, some (.str w), some (.int f), s17, s18]) (μ := Sd S []) ⟨s12, rfl, rfl⟩
  rw [List.length_map, List.take_length] at hf
  simp only [List.map_cons, List.map_nil] at hf
  refine ⟨t12, ?_⟩
  simp! [b_law_2, strs_al, hf]
theorem u4 (k : Nat) {S : DS} {ws : List Wd} {w : Wd} {f : Int} {s0 s2 s3 s4 s5 s6 s7 s8 s9 s10 s11 s12 s13 s14 s15 s16 s17 s18 : Option D} : exec prog.G (callN prog (k + 100)) b_law_2.tl.tl.tl.tl.hd [s0, some (.ref 1), s2, s3, s4, some (.fz (poolL.map .str)), some (.tup (ws.map .str)), some (nodeD ws 25 []), s8, s9, some (.tup ((nearL w f ws).map rowT)), some (.fz ((headL ws).map .str)), s12, s13, s14, some (.str w), some (.int f), s17, s18] (Sd S []) = .nx [s0, some (.ref 1), s2, s3, s4, some (.fz (poolL.map .str)), some (.tup (ws.map .str)), some (nodeD ws 25 []), s8, s9, some (.tup ((nearL w f ws).map rowT)), some (.fz ((headL ws).map .str)), s12, some (.fz []), s14, some (.str w), some (.int f), s17, s18] (Sd S []) := by
  simp! [b_law_2]
theorem u5 (k : Nat) {S : DS} {ws : List Wd} {w : Wd} {f : Int} (h : Ws ws) (hw : WordOk w) {s0 s2 s3 s4 s5 s6 s7 s8 s9 s10 s11 s12 s13 s14 s15 s16 s17 s18 : Option D} : ∃ t14 t17, exec prog.G (callN prog (k + 100)) b_law_2.tl.tl.tl.tl.tl.hd [s0, some (.ref 1), s2, s3, s4, some (.fz (poolL.map .str)), some (.tup (ws.map .str)), some (nodeD ws 25 []), s8, s9, some (.tup ((nearL w f ws).map rowT)), some (.fz ((headL ws).map .str)), s12, some (.fz []), s14, some (.str w), some (.int f), s17, s18] (Sd S []) = .nx [s0, some (.ref 1), s2, s3, s4, some (.fz (poolL.map .str)), some (.tup (ws.map .str)), some (nodeD ws 25 []), s8, s9, some (.tup ((nearL w f ws).map rowT)), some (.fz ((headL ws).map .str)), s12, some (.fz ((aliveL w f (srtU ltN (headL ws))).map .str)), t14, some (.str w), some (.int f), t17, s18] (Sd S []) := by
  have hle := h.le
  have hwl := hw.le
  have hhl := headL_len h.ok
  have hsl : (srtU ltN (headL ws)).length ≤ (headL ws).length := srtU_len _
  have hml : ∀ x ∈ srtU ltN (headL ws), x.length ≤ 24 := fun x hx => head_len h.ok x ((srtU_mem sto_str x _).mp hx)
  have hsd := setD_strs (headL ws)
  have hfz : freezes ((srtU ltN (headL ws)).map D.str) = (srtU ltN (headL ws)).map .str := freezes_pure _ (pures_strs _)
  have hl4 : (headL ws).length ≤ 4000 := by omega
  generalize srtU ltN (headL ws) = H at *
  obtain ⟨ρ3, μ3, hf, t14, t17, rfl, rfl⟩ := forGo_inv (s := .fz (H.map .str)) (xs := H.map .str) (f := forT prog.G (callN prog (k + 100)) (.v 14) b_law_1) (fun i ρ μ => ∃ t14 t17 : Option D, ρ = [s0, some (.ref 1), s2, s3, s4, some (.fz (poolL.map .str)), some (.tup (ws.map .str)), some (nodeD ws 25 []), s8, s9, some (.tup ((nearL w f ws).map rowT)), some (.fz ((headL ws).map .str)), s12, some (.fz ((aliveL w f (H.take i)).map .str)), t14, some (.str w), some (.int f), t17, s18] ∧ μ = Sd S []) (fun _ _ _ _ => rfl)
    (fun i x ρ μ hx hI => by
      obtain ⟨t14, t17, rfl, rfl⟩ := hI
      rw [List.getElem?_map, Option.map_eq_some_iff] at hx
      obtain ⟨x, hx, rfl⟩ := hx
      have hm := List.mem_of_getElem? hx
      have hi := (List.getElem?_eq_some_iff.mp hx).1
      have hxl := hml x hm
      have et : H.take (i + 1) = H.take i ++ [x] := by rw [List.take_succ, hx]; rfl
      have hlc := lcGo_eq (μ := Sd S []) (s := .tl (rngL 0 ((w.length : Int) + 1))) (xs := rngL 0 ((w.length : Int) + 1)) (e := fun (i : Nat) => D.int (i : Int)) (g := fun k => if far w x k ≤ f then some (D.int 1) else none) (f := lcT prog.G (callN prog (k + 100)) e_law_3 (.v 18) [("k", 18)] i_law_3 [s0, some (.ref 1), s2, s3, s4, some (.fz (poolL.map .str)), some (.tup (ws.map .str)), some (nodeD ws 25 []), s8, s9, some (.tup ((nearL w f ws).map rowT)), some (.fz ((headL ws).map .str)), s12, some (.fz ((aliveL w f (H.take i)).map .str)), some (.str x), some (.str w), some (.int f), t17, s18]) rfl (List.range (w.length + 1)) [] (fun j hj => by
        have hl := law_far_ok (k + 99) (Sd S []) (one := x) (two := w.take j) (by omega)
        rw [law_far_eq w x (by have := List.mem_range.mp hj; omega)] at hl
        generalize far w x j = fv at *
        by_cases c : fv ≤ f
        · rw [if_pos c]
          simp! [e_law_3, i_law_3, hl]
        · rw [if_neg c]
          simp! [e_law_3, i_law_3, hl]) (by show _ ≤ 16777216; simp; omega)
      have e : rngL 0 ((w.length : Int) + 1) = (List.range (w.length + 1)).map fun (i : Nat) => D.int (i : Int) := by
        have := rng_nat (w.length + 1)
        rwa [Int.natCast_add] at this
      rw [← e, List.nil_append] at hlc
      have em : ∀ l : List Nat, (l.filterMap fun k => if far w x k ≤ f then some (D.int 1) else none) = ((l.filter fun k => decide (far w x k ≤ f)).map fun _ => (1 : Int)).map .int := fun l => by
        induction l with
        | nil => rfl
        | cons a l ih =>
          rw [List.filterMap_cons, List.filter_cons]
          by_cases c : far w x a ≤ f
          · rw [if_pos c, if_pos (by simpa using c), ih]; rfl
          · rw [if_neg c, if_neg (by simpa using c), ih]
      rw [em] at hlc
      have hie : (((List.range (w.length + 1)).filter fun k => decide (far w x k ≤ f)).map fun _ => (1 : Int)).isEmpty = lostB w f x := by
        rw [Bool.eq_iff_iff, lost_iff, List.isEmpty_iff, List.map_eq_nil_iff, List.filter_eq_nil_iff]
        constructor
        · intro q j hj
          have := q j (List.mem_range.mpr (by omega))
          simp at this
          exact this
        · intro q j hj
          have := q j (by have := List.mem_range.mp hj; omega)
          simp
          exact this
      have he := eqD_fzN (μ := Sd S []) (((List.range (w.length + 1)).filter fun k => decide (far w x k ≤ f)).map fun _ => (1 : Int))
      rw [hie] at he
      have fi : ∀ l : List Int, freezes (l.map D.int) = l.map .int := fun l => freezes_pure _ (pures_ints l)
      generalize ((List.range (w.length + 1)).filter fun k => decide (far w x k ≤ f)).map (fun _ => (1 : Int)) = ones at *
      have hal : (aliveL w f (H.take i)).length ≤ 100000 := by
        have h1 : (aliveL w f (H.take i)).length ≤ (H.take i).length := List.length_filter_le _ _
        rw [List.length_take] at h1
        omega
      have ea : aliveL w f (H.take (i + 1)) = aliveL w f (H.take i) ++ (if lostB w f x = true then [] else [x]) := by
        unfold aliveL
        rw [et, List.filter_append]
        by_cases c : lostB w f x = true
        · rw [if_pos c, List.filter_cons_of_neg (by simp [c])]; rfl
        · rw [if_neg c, List.filter_cons_of_pos (by simpa using c)]; rfl
      refine ⟨[s0, some (.ref 1), s2, s3, s4, some (.fz (poolL.map .str)), some (.tup (ws.map .str)), some (nodeD ws 25 []), s8, s9, some (.tup ((nearL w f ws).map rowT)), some (.fz ((headL ws).map .str)), s12, some (.fz ((aliveL w f (H.take (i + 1))).map .str)), some (.str x), some (.str w), some (.int f), some (.fz (ones.map .int)), s18], _, .inl ?_, some (.str x), some (.fz (ones.map .int)), rfl, rfl⟩
      rw [ea]
      generalize aliveL w f (H.take i) = AL at *
      have f2 : freezes (AL.map D.str) = AL.map .str := freezes_pure _ (pures_strs _)
      have f3 : freezes (AL.map D.str ++ [.str x]) = AL.map .str ++ [.str x] := by
        have : freezes ((AL ++ [x]).map D.str) = (AL ++ [x]).map .str := freezes_pure _ (pures_strs _)
        rwa [List.map_append] at this
      by_cases c : lostB w f x = true
      · rw [c] at he
        rw [if_pos c, List.append_nil]
        simp! [b_law_1, hlc, fi, he, List.append_nil, f2]
      · have c' : lostB w f x = false := by simpa using c
        rw [c'] at he
        rw [if_neg c, List.map_append]
        simp! [b_law_1, hlc, fi, he, f3])
    (ρ := [s0, some (.ref 1), s2, s3, s4, some (.fz (poolL.map .str)), some (.tup (ws.map .str)), some (nodeD ws 25 []), s8, s9, some (.tup ((nearL w f ws).map rowT)), some (.fz ((headL ws).map .str)), s12, some (.fz []), s14, some (.str w), some (.int f), s17, s18]) (μ := Sd S []) ⟨s14, s17, rfl, rfl⟩
  rw [List.length_map, List.take_length] at hf
  refine ⟨t14, t17, ?_⟩
  generalize headL ws = HL at *
  simp! [b_law_2, hsd, hfz, hf]
theorem u6 (k : Nat) {S : DS} {ws : List Wd} {w : Wd} {f : Int} (h : Ws ws) (hw : WordOk w) (f0 : 0 ≤ f) (f1 : f ≤ 3) {s0 s2 s3 s4 s5 s6 s7 s8 s9 s10 s11 s12 s13 s14 s15 s16 s17 s18 : Option D} : exec prog.G (callN prog (k + 100)) b_law_2.tl.tl.tl.tl.tl.tl.hd [s0, some (.ref 1), s2, s3, s4, some (.fz (poolL.map .str)), some (.tup (ws.map .str)), some (nodeD ws 25 []), s8, s9, some (.tup ((nearL w f ws).map rowT)), some (.fz ((headL ws).map .str)), s12, some (.fz ((aliveL w f (srtU ltN (headL ws))).map .str)), s14, some (.str w), some (.int f), s17, s18] (Sd S []) = .nx [s0, some (.ref 1), s2, s3, s4, some (.fz (poolL.map .str)), some (.tup (ws.map .str)), some (nodeD ws 25 []), s8, s9, some (.tup ((nearL w f ws).map rowT)), some (.fz ((headL ws).map .str)), s12, some (.fz ((aliveL w f (srtU ltN (headL ws))).map .str)), s14, some (.str w), some (.int f), s17, s18] (Sd S []) := by
  have h1 := walked_ok (k + 73) (Sd S []) h hw f0 f1
  have h2 := near_in_ok (k + 72) (Sd S []) h hw f0 f1
  rw [met_all h w f0] at h1
  have hle := h.le
  have hnl : (nearL w f ws).length ≤ 1000 := by
    unfold nearL
    rw [List.length_map]
    have := List.length_filter_le (fun x => decide (far w x w.length ≤ f)) ws
    omega
  have h3 := same_RI (k + 95) (Sd S []) (nearL w f ws) ((aliveL w f (srtU ltN (headL ws))).length : Nat) hnl
  have h4 := same_R (k + 95) (Sd S []) (nearL w f ws) hnl
  have np := node_pure ws 25 []
  have hx := isX_pure np
  have hs := still_pure _ np
  have hrs := stills_pure _ (rows_pure (nearL w f ws))
  have hra : ∀ μ : Store, allocs ((nearL w f ws).map rowT) μ = ((nearL w f ws).map rowT, μ) := fun μ => allocs_pure (rows_pure _)
  generalize nodeD ws 25 [] = t at *
  generalize aliveL w f (srtU ltN (headL ws)) = AL at *
  generalize (nearL w f ws).map rowT = L at *
  simp! [b_law_2, strs_st, strs_al, hx, hs, h1, h2, h3, h4, hrs, hra]
theorem again_turn (k : Nat) {S : DS} (hS : S.Ok) {ws : List Wd} (h : Ws ws) {x8 : Int} {s0 s2 s3 s4 s5 s6 s7 s8 s9 s10 s11 s12 s13 s14 s15 s16 s17 s18 : Option D} : ∃ S' t10 t11 t12 t13 t14 t15 t16 t17, forT prog.G (callN prog (k + 100)) (.v 8) b_law_2 (.int x8) [s0, some (.ref 1), s2, s3, s4, some (.fz (poolL.map .str)), some (.tup (ws.map .str)), some (nodeD ws 25 []), s8, s9, s10, s11, s12, s13, s14, s15, s16, s17, s18] (Sd S []) = .nx [s0, some (.ref 1), s2, s3, s4, some (.fz (poolL.map .str)), some (.tup (ws.map .str)), some (nodeD ws 25 []), some (.int x8), s9, t10, t11, t12, t13, t14, t15, t16, t17, s18] (Sd S' []) ∧ S'.Ok ∧ S'.cells = S.cells := by
  obtain ⟨w, f, S1, e0, ok1, c1, hw, f0, f1⟩ := u0 k hS (ws := ws) (s0 := s0) (s2 := s2) (s3 := s3) (s4 := s4) (s5 := some (.fz (poolL.map .str))) (s6 := some (.tup (ws.map .str))) (s7 := some (nodeD ws 25 [])) (s8 := some (.int x8)) (s9 := s9) (s10 := s10) (s11 := s11) (s12 := s12) (s13 := s13) (s14 := s14) (s15 := s15) (s16 := s16) (s17 := s17) (s18 := s18)
  have e1 := u1 k (S := S1) (f := f) h hw (s0 := s0) (s2 := s2) (s3 := s3) (s4 := s4) (s5 := some (.fz (poolL.map .str))) (s6 := some (.tup (ws.map .str))) (s7 := some (nodeD ws 25 [])) (s8 := some (.int x8)) (s9 := s9) (s10 := s10) (s11 := s11) (s12 := s12) (s13 := s13) (s14 := s14) (s15 := some (.str w)) (s16 := some (.int f)) (s17 := s17) (s18 := s18)
  have e2 := u2 k (S := S1) (ws := ws) (w := w) (f := f) (s0 := s0) (s2 := s2) (s3 := s3) (s4 := s4) (s5 := some (.fz (poolL.map .str))) (s6 := some (.tup (ws.map .str))) (s7 := some (nodeD ws 25 [])) (s8 := some (.int x8)) (s9 := s9) (s10 := some (.tup ((nearL w f ws).map rowT))) (s11 := s11) (s12 := s12) (s13 := s13) (s14 := s14) (s15 := some (.str w)) (s16 := some (.int f)) (s17 := s17) (s18 := s18)
  obtain ⟨t12, e3⟩ := u3 k (S := S1) (w := w) (f := f) h (s0 := s0) (s2 := s2) (s3 := s3) (s4 := s4) (s5 := some (.fz (poolL.map .str))) (s6 := some (.tup (ws.map .str))) (s7 := some (nodeD ws 25 [])) (s8 := some (.int x8)) (s9 := s9) (s10 := some (.tup ((nearL w f ws).map rowT))) (s11 := some (.fz ([([] : Wd)].map .str))) (s12 := s12) (s13 := s13) (s14 := s14) (s15 := some (.str w)) (s16 := some (.int f)) (s17 := s17) (s18 := s18)
  have e4 := u4 k (S := S1) (ws := ws) (w := w) (f := f) (s0 := s0) (s2 := s2) (s3 := s3) (s4 := s4) (s5 := some (.fz (poolL.map .str))) (s6 := some (.tup (ws.map .str))) (s7 := some (nodeD ws 25 [])) (s8 := some (.int x8)) (s9 := s9) (s10 := some (.tup ((nearL w f ws).map rowT))) (s11 := some (.fz ((headL ws).map .str))) (s12 := t12) (s13 := s13) (s14 := s14) (s15 := some (.str w)) (s16 := some (.int f)) (s17 := s17) (s18 := s18)
  obtain ⟨t14, t17, e5⟩ := u5 k (S := S1) (f := f) h hw (s0 := s0) (s2 := s2) (s3 := s3) (s4 := s4) (s5 := some (.fz (poolL.map .str))) (s6 := some (.tup (ws.map .str))) (s7 := some (nodeD ws 25 [])) (s8 := some (.int x8)) (s9 := s9) (s10 := some (.tup ((nearL w f ws).map rowT))) (s11 := some (.fz ((headL ws).map .str))) (s12 := t12) (s13 := some (.fz [])) (s14 := s14) (s15 := some (.str w)) (s16 := some (.int f)) (s17 := s17) (s18 := s18)
  have e6 := u6 k (S := S1) h hw f0 f1 (s0 := s0) (s2 := s2) (s3 := s3) (s4 := s4) (s5 := some (.fz (poolL.map .str))) (s6 := some (.tup (ws.map .str))) (s7 := some (nodeD ws 25 [])) (s8 := some (.int x8)) (s9 := s9) (s10 := some (.tup ((nearL w f ws).map rowT))) (s11 := some (.fz ((headL ws).map .str))) (s12 := t12) (s13 := some (.fz ((aliveL w f (srtU ltN (headL ws))).map .str))) (s14 := t14) (s15 := some (.str w)) (s16 := some (.int f)) (s17 := t17) (s18 := s18)
  refine ⟨S1, some (.tup ((nearL w f ws).map rowT)), some (.fz ((headL ws).map .str)), t12, some (.fz ((aliveL w f (srtU ltN (headL ws))).map .str)), t14, some (.str w), some (.int f), t17, ?_, ok1, c1⟩
  show execs prog.G (callN prog (k + 100)) (.cons b_law_2.hd (.cons b_law_2.tl.hd (.cons b_law_2.tl.tl.hd (.cons b_law_2.tl.tl.tl.hd (.cons b_law_2.tl.tl.tl.tl.hd (.cons b_law_2.tl.tl.tl.tl.tl.hd (.cons b_law_2.tl.tl.tl.tl.tl.tl.hd .nil))))))) [s0, some (.ref 1), s2, s3, s4, some (.fz (poolL.map .str)), some (.tup (ws.map .str)), some (nodeD ws 25 []), some (.int x8), s9, s10, s11, s12, s13, s14, s15, s16, s17, s18] (Sd S []) = _
  rw [execs_cons, e0, Ou.seq_nx, kRest_eq, execs_cons, e1, Ou.seq_nx, kRest_eq, execs_cons, e2, Ou.seq_nx, kRest_eq, execs_cons, e3, Ou.seq_nx, kRest_eq, execs_cons, e4, Ou.seq_nx, kRest_eq, execs_cons, e5, Ou.seq_nx, kRest_eq, execs_cons, e6, Ou.seq_nx, kRest_eq, execs_nil]
theorem t4 (k : Nat) {S : DS} (hS : S.Ok) {ws : List Wd} (h : Ws ws) {s0 s2 s3 s4 s5 s6 s7 s8 s9 s10 s11 s12 s13 s14 s15 s16 s17 s18 : Option D} : ∃ S' t8 t10 t11 t12 t13 t14 t15 t16 t17, exec prog.G (callN prog (k + 100)) b_law_3.tl.tl.tl.tl.hd [s0, some (.ref 1), s2, s3, s4, some (.fz (poolL.map .str)), some (.tup (ws.map .str)), some (nodeD ws 25 []), s8, s9, s10, s11, s12, s13, s14, s15, s16, s17, s18] (Sd S []) = .nx [s0, some (.ref 1), s2, s3, s4, some (.fz (poolL.map .str)), some (.tup (ws.map .str)), some (nodeD ws 25 []), t8, s9, t10, t11, t12, t13, t14, t15, t16, t17, s18] (Sd S' []) ∧ S'.Ok ∧ S'.cells = S.cells := by
  obtain ⟨ρ3, μ3, hfor, S', t8, t10, t11, t12, t13, t14, t15, t16, t17, rfl, rfl, ok', c'⟩ := forGo_inv (s := .tl (rngL 0 4)) (xs := rngL 0 4) (f := forT prog.G (callN prog (k + 100)) (.v 8) b_law_2) (fun _ ρ μ => ∃ (S' : DS) (t8 t10 t11 t12 t13 t14 t15 t16 t17 : Option D), ρ = [s0, some (.ref 1), s2, s3, s4, some (.fz (poolL.map .str)), some (.tup (ws.map .str)), some (nodeD ws 25 []), t8, s9, t10, t11, t12, t13, t14, t15, t16, t17, s18] ∧ μ = Sd S' [] ∧ S'.Ok ∧ S'.cells = S.cells) (fun _ _ _ _ => rfl)
    (fun i x ρ μ hx hI => by
      obtain ⟨S', t8, t10, t11, t12, t13, t14, t15, t16, t17, rfl, rfl, ok', c'⟩ := hI
      obtain ⟨j, rfl⟩ := rng_int hx
      obtain ⟨S2, v10, v11, v12, v13, v14, v15, v16, v17, hb, ok2, c2⟩ := again_turn k ok' h (x8 := j) (s0 := s0) (s2 := s2) (s3 := s3) (s4 := s4) (s8 := t8) (s9 := s9) (s10 := t10) (s11 := t11) (s12 := t12) (s13 := t13) (s14 := t14) (s15 := t15) (s16 := t16) (s17 := t17) (s18 := s18) (s5 := none) (s6 := none) (s7 := none)
      exact ⟨_, _, .inl hb, S2, some (.int j), v10, v11, v12, v13, v14, v15, v16, v17, rfl, rfl, ok2, by rw [c2, c']⟩)
    (ρ := [s0, some (.ref 1), s2, s3, s4, some (.fz (poolL.map .str)), some (.tup (ws.map .str)), some (nodeD ws 25 []), s8, s9, s10, s11, s12, s13, s14, s15, s16, s17, s18]) (μ := Sd S []) ⟨S, s8, s10, s11, s12, s13, s14, s15, s16, s17, rfl, rfl, hS, rfl⟩
  refine ⟨S', t8, t10, t11, t12, t13, t14, t15, t16, t17, ?_, ok', c'⟩
  simp! [b_law_3, hfor]
def OutI (s0 : D) (C : List Int) (_ : Nat) (ρ : Env) (μ : Store) : Prop := ∃ (S : DS) (s2 s3 s4 s5 s6 s7 s8 s9 s10 s11 s12 s13 s14 s15 s16 s17 s18 : Option D), ρ = [some s0, some (.ref 1), s2, s3, s4, s5, s6, s7, s8, s9, s10, s11, s12, s13, s14, s15, s16, s17, s18] ∧ μ = Sd S [] ∧ S.Ok ∧ S.cells = C
theorem out_turn (k : Nat) {i : Nat} {x : D} {s0 : D} {C : List Int} {ρ : Env} {μ : Store} (hx : (rngL 0 6)[i]? = some x) (hI : OutI s0 C i ρ μ) :
    ∃ ρ' μ', (forT prog.G (callN prog (k + 100)) (.v 2) b_law_3 x ρ μ = .nx ρ' μ' ∨ forT prog.G (callN prog (k + 100)) (.v 2) b_law_3 x ρ μ = .ct ρ' μ') ∧ OutI s0 C (i + 1) ρ' μ' := by
  obtain ⟨S, s2, s3, s4, s5, s6, s7, s8, s9, s10, s11, s12, s13, s14, s15, s16, s17, s18, rfl, rfl, hS, hC⟩ := hI
  obtain ⟨x2, rfl⟩ := rng_int hx
  have e0 := t0 k (S := S) (s0 := some s0) (s2 := some (.int x2)) (s3 := s3) (s4 := s4) (s5 := s5) (s6 := s6) (s7 := s7) (s8 := s8) (s9 := s9) (s10 := s10) (s11 := s11) (s12 := s12) (s13 := s13) (s14 := s14) (s15 := s15) (s16 := s16) (s17 := s17) (s18 := s18)
  obtain ⟨ws, S1, e1, ok1, c1, h⟩ := t1 k hS (s0 := some s0) (s2 := some (.int x2)) (s3 := s3) (s4 := s4) (s5 := some (.fz (poolL.map .str))) (s6 := s6) (s7 := s7) (s8 := s8) (s9 := s9) (s10 := s10) (s11 := s11) (s12 := s12) (s13 := s13) (s14 := s14) (s15 := s15) (s16 := s16) (s17 := s17) (s18 := s18)
  have e2 := t2 k (S := S1) h (s0 := some s0) (s2 := some (.int x2)) (s3 := s3) (s4 := s4) (s5 := some (.fz (poolL.map .str))) (s6 := some (.tup (ws.map .str))) (s7 := s7) (s8 := s8) (s9 := s9) (s10 := s10) (s11 := s11) (s12 := s12) (s13 := s13) (s14 := s14) (s15 := s15) (s16 := s16) (s17 := s17) (s18 := s18)
  have e3 := t3 k (S := S1) h (s0 := some s0) (s2 := some (.int x2)) (s3 := s3) (s4 := s4) (s5 := some (.fz (poolL.map .str))) (s6 := some (.tup (ws.map .str))) (s7 := some (nodeD ws 25 [])) (s8 := s8) (s9 := s9) (s10 := s10) (s11 := s11) (s12 := s12) (s13 := s13) (s14 := s14) (s15 := s15) (s16 := s16) (s17 := s17) (s18 := s18)
  obtain ⟨S2, t8, t10, t11, t12, t13, t14, t15, t16, t17, e4, ok2, c2⟩ := t4 k ok1 h (s0 := some s0) (s2 := some (.int x2)) (s3 := s3) (s4 := s4) (s5 := some (.fz (poolL.map .str))) (s6 := some (.tup (ws.map .str))) (s7 := some (nodeD ws 25 [])) (s8 := s8) (s9 := s9) (s10 := s10) (s11 := s11) (s12 := s12) (s13 := s13) (s14 := s14) (s15 := s15) (s16 := s16) (s17 := s17) (s18 := s18)
  refine ⟨_, _, .inl ?_, S2, some (.int x2), s3, s4, some (.fz (poolL.map .str)), some (.tup (ws.map .str)), some (nodeD ws 25 []), t8, s9, t10, t11, t12, t13, t14, t15, t16, t17, s18, rfl, rfl, ok2, by rw [c2, c1, hC]⟩
  show execs prog.G (callN prog (k + 100)) (.cons b_law_3.hd (.cons b_law_3.tl.hd (.cons b_law_3.tl.tl.hd (.cons b_law_3.tl.tl.tl.hd (.cons b_law_3.tl.tl.tl.tl.hd .nil))))) [some s0, some (.ref 1), some (.int x2), s3, s4, s5, s6, s7, s8, s9, s10, s11, s12, s13, s14, s15, s16, s17, s18] (Sd S []) = _
  rw [execs_cons, e0, Ou.seq_nx, kRest_eq, execs_cons, e1, Ou.seq_nx, kRest_eq, execs_cons, e2, Ou.seq_nx, kRest_eq, execs_cons, e3, Ou.seq_nx, kRest_eq, execs_cons, e4, Ou.seq_nx, kRest_eq, execs_nil]
end K61
end Mp
end SK61w
section SK61x
/-! K61x: the law. -/
namespace Mp
local macro_rules
  | `(tactic| simp! [$ls,*]) => `(tactic| simp (disch := omega) only [ev_lit, ev_varS, kVar_some, isX_non, isX_bl, isX_int, isX_str, isX_tup, isX_tl, isX_fz, isX_ref, isX_fn, ev_glo, ev_bin, ev_neg, ev_nt, ev_band, ev_bor, ev_ite, ev_cmp, ev_cmp2, ev_call, ev_blt, ev_isi, ev_meth, ev_tup, ev_lst, ev_ix, ev_lc, ev_rng1, ev_rng2, ev_rngd, ev_zip, kZipL_eq, kZipR_eq, zipD_tup, ev_rngs, kRngsL_eq, kRngsR_eq, kRngsQ_int, allocs_rngS, lcT_eqS, kLcB_some, kRngdL_eq, kRngdR_int, allocs_rngD, ev_lrng, ev_enum, kEnum_eq, enumD_str, ev_rev, kRev_str, ev_frz, kFrz_eq, ev_sl1, kSl1L_eq, kSl1R_eq, ev_sl2, kSl2L_eq, kSl2R_eq, ev_sl3, kSl3L_eq, kSl3R_int, kSl3Q_eq, sl1D, sl2D, sl3D, cutD, cut_to, cut_from, cut_fromto, ev_xf, kXf_some, xField, ev_isx, kIsx_some,
  evs_nil, evs_cons, evAnd_one, evAnd_cons, evOr_one, evOr_cons, evIfs_nil, evIfs_cons, kBinL_eq, kBinR_eq, kNeg_int, kNt_eq, kIte_bl, kCmpL_eq, kCmpR_eq, kCmp2L_eq, kCmp2R_eqS, kBlt_eq, kIsi_eq, kMethL_eq, kMethR_eqS, kMthS_some, kTup_eq, kLst_eq, kIxL_eq, kIxR_eq, kLcD_eq, kLcI_eq,
  kRng2L_eq, kConsL_eq, kConsR_eq, kAnd_bl, kOr_bl, kIfs_bl, execs_nil, execs_cons, kRest_eq, exec_expr, exec_set, exec_augS, kAugV_some, kAug_eqS, kAugS_some, exec_seti, exec_ret, exec_ite, exec_for, exec_brk, exec_cont, exec_pass, exec_rais, kRais_eq, exec_tryc, kTry_ex, kTry_nx, kTry_br, kTry_ct, kTry_rt, kTryH_none, kTryH_some, wipeO_nx, wipeO_br, wipeO_ct, wipeO_rt, unE_nx, unE_br, unE_ct, unE_rt, kExpr_eq, kSet_v, kSet_tS, kBnd_some, bindT_v, bindT_t, bindTs_nil, bindTs_cons,
  kWhT_bl, kWhB_nx, kWhB_ct, kWhB_br, kWhB_rt, kWhB_ex, whS_ex, ev_callvS, kCv_some, whS_nx, whS_br, whS_rt, kSeti1_eq, kSeti2_eq, kSeti3_eqS, kSetS_some, kRet_eq, kIf_bl, kFor_eqS, kForI_some, kLc_eqS, kLcX_some, forT_eqS, kForT_some, kRng1_int, kRng2R_int, kLrng_int, Rs.bnd_ok, Rs.bnd_ex, Rs.of_some, Rs.ou_ok, Rs.ou_ex, Ou.seq_nx, Ou.seq_br, Ou.seq_ct, Ou.seq_rt, Ou.seq_ex,
  forGo_cons, forGo_nilS, forK_nx, forK_ct, forK_br, forK_rt, forK_ex, srcOk_tup, srcOk_fz, srcOk_tl, srcOk_str, srcOk_ref, lcGo_cons, lcGo_nilS, lcK_some, lcK_none, Ss.tl, Ss.hd, S.bod, S.cnd,
  ev_u0, ev_u1, kU1_eq, ev_u2, kU2_eq, kU2R_eq, ev_u3, kU3_eq, kU3M_eq, kU3R_eq, exec_dput, kDput1_eq, kDput2_eq, kDput3_eq, ofP_some, op0_dict, op1_sset, op1_dlen, op1_sdict, op2_dix, op2_din, op2_dnin, op2_get, op2_ext, op3_get, op3_setd, setdO_some, setdO_none, getD_eqO, getDO_some, putD_eqS, putDO_some, keyOk_int, keyOk_str, divOk_lit, seqT, rOk2_dix, rOk2_din, rOk2_dnin, rOk2_get, rOk2_ext, rOk3_get, rOk3_setd, seqL,
  Option.bind_some, Option.map_some, List.getElem?_cons_zero, List.getElem?_cons_succ, List.getElem?_nil, List.set_cons_zero, List.set_cons_succ, alloc, allocs, settle, items, truth, binop, augop, cmpop, bltin, isOf, getIx, D.stills, D.still, freeze, freezes, D.under, D.unders, D.flat, List.all_cons, List.all_nil, Bool.and_true, Bool.true_and, Bool.and_self, Bool.and_false, Bool.false_and, Bool.or_true, Bool.true_or, Bool.or_false, Bool.false_or, wipeE, decide_true, decide_false, Bool.not_true, Bool.not_false, Bool.false_eq_true, if_true, if_false, ite_true, ite_false, ↓reduceIte,
  List.map_cons, List.map_nil, List.cons_append, List.nil_append, List.append_assoc, List.replicate_succ, List.replicate_zero, List.length_cons, List.length_nil, List.length_map, List.length_set, List.length_append, List.set_set, List.getElem?_set_self, List.getElem?_map, Nat.zero_add, Nat.reduceAdd, Nat.reduceSub, eqD_int, setIx_eqS, kSetI_some, decide_eq_true_eq, Option.map_none, Option.bind_none, endC_rt, endC_nx, endC_ex, callA_ite, stills_map, unders_map, freezes_map, freezes_app, all_T, allocs_ints, alloc_tupI, allocs_rngL, stills_rng, methop_eqS, kApp_some, recvOk_eqS, Option.isSome_some, getL_eqO, getO_some, app_get0, app_getk, app_getl, app_set0, app_setk, len_set, fin_app0, fin_self, finX_app, finX_self, finF_list0, eqD_bl, eqD_str1, eq_self, bool_beq_self, reduceCtorEq, ne_eq, not_false_eq_true, not_true_eq_false, and_true, true_and, and_self, and_false, false_and,
  LIM, ixNat, ilt_T, ilt_F, ile_T, ile_F, ieq_T, ieq_F, nlt_T, nlt_F, nle_T, nle_F, neq_T, neq_F, Int.toNat_natCast, tn_add, tn_sub, tn_neg1, tn_zero, tn_one, tn_two, tn_three, Int.natCast_add, Int.cast_ofNat_Int, Int.reduceNeg, Int.reduceAdd, Int.reduceSub, Int.reduceMul, Int.reduceLT, Int.reduceLE, Int.reduceEq, Int.reduceToNat, $ls,*])
namespace K61
theorem look_no (k : Nat) (μ : Store) {d : D} (h : d = .non ∨ ∃ l, d = .fz l) : callN prog (k + 3) "look_at_words" [d] μ = .ex (badE wWords) μ := by
  unfold badE wWords
  rcases h with rfl | ⟨l, rfl⟩
  · rw [callN_go (F := f_look_at_words) rfl rfl]
    simp! [f_look_at_words]
  · rw [callN_go (F := f_look_at_words) rfl rfl]
    simp! [f_look_at_words]
theorem look_two (k : Nat) (μ : Store) {a : Wd} {b : D} {r : Bool} (ha : WordOk a) (hbp : b.pure = true) (hx : b.isX = false) (hw : ∀ μ, callN prog (k + 2) "is_word" [b] μ = .ok (.bl r) μ) (h : r = false ∨ ∃ y, b = .str y ∧ ltN a y = false) : callN prog (k + 3) "look_at_words" [.tup [.str a, b]] μ = .ex (badE wWords) μ := by
  have h1 := fun μ => is_word_s (k + 1) μ (s := a) (by have := ha.le; omega)
  rw [ha.b] at h1
  have hs := still_pure b hbp
  have hal : ∀ μ : Store, alloc b μ = (b, μ) := fun μ => alloc_pure hbp
  have hfz := freeze_pure b hbp
  have b1 : ∀ r : Bool, boolsOf [D.bl true, D.bl r] = some [true, r] := fun r => rfl
  have a1 : ∀ r : Bool, [true, r].all id = r := fun r => by cases r <;> rfl
  have b2 : boolsOf [D.bl false] = some [false] := rfl
  have a2 : [false].all id = false := rfl
  unfold badE wWords
  cases r with
  | false =>
    rw [callN_go (F := f_look_at_words) rfl rfl]
    simp! [f_look_at_words, e_look_at_words_0, h1, hw, hs, hal, hx, b1, a1]
  | true =>
    rcases h with h | ⟨y, rfl, h⟩
    · cases h
    · have hz : zipL [D.str a, .str y] [D.str y] = [D.tup [.str a, .str y]] := rfl
      have hd : List.drop 1 [D.str a, .str y] = [.str y] := rfl
      rw [callN_go (F := f_look_at_words) rfl rfl]
      simp! [f_look_at_words, e_look_at_words_0, e_look_at_words_1, h1, hw, b1, a1, b2, a2, hd, hz, h]
theorem wt_bad (k : Nat) (μ : Store) {d : D} (hp : d.pure = true) (h : callN prog (k + 3) "look_at_words" [d] μ = .ex (badE wWords) μ) : callN prog (k + 4) "word_tree" [d] μ = .ex (badE wWords) μ := by
  have h1 := still_pure d hp
  have h2 := isX_pure hp
  unfold badE at h ⊢
  rw [callN_go (F := f_word_tree) rfl rfl]
  simp! [f_word_tree, h, h1, h2]
theorem bad_turn (k : Nat) {S : DS} {L : List D} (hL : L.length ≤ 100) {d : D} (hp : d.pure = true) (h : ∀ μ, callN prog (k + 100) "word_tree" [d] μ = .ex (badE wWords) μ) {s0 s1 s2 s4 s5 s6 s7 s8 s9 s10 s11 s12 s13 s14 s15 s16 s17 s18 : Option D} : forT prog.G (callN prog (k + 100)) (.v 4) b_law_4 d [s0, s1, s2, some (.ref 2), s4, s5, s6, s7, s8, s9, s10, s11, s12, s13, s14, s15, s16, s17, s18] (Sd S [.lst L]) = .nx [s0, s1, s2, some (.ref 2), some d, s5, s6, s7, s8, none, s10, s11, s12, s13, s14, s15, s16, s17, s18] (Sd S [.lst (L ++ [.str wWords])]) := by
  have h1 := still_pure d hp
  have h2 := isX_pure hp
  have al : ∀ μ : Store, alloc d μ = (d, μ) := fun μ => alloc_pure hp
  have g2 : ∀ l, (Sd S [Obj.lst l])[2]? = some (.lst l) := fun l => rfl
  have s2 : ∀ l l', (Sd S [Obj.lst l]).set 2 (.lst l') = Sd S [.lst l'] := fun l l' => rfl
  have hk : ∀ l : List D, recvOk (Sd S [.lst l]) .append (.ref 2) = true := fun l => rfl
  unfold badE wWords at h
  unfold wWords
  simp! [b_law_4, h, h1, h2, al, xField, methop, hk, g2, s2]
abbrev bads : List D := [.non, .fz [.str [97]], .tup [.str [98], .str [97]], .tup [.str [97], .str [97]], .tup [.str [97], .str []], .tup [.str [97], .non]]
theorem bads_ok (k : Nat) : ∀ d ∈ bads, d.pure = true ∧ ∀ μ, callN prog (k + 100) "word_tree" [d] μ = .ex (badE wWords) μ := by
  have wa : WordOk [97] := pool_ok _ (by decide)
  have wb : WordOk [98] := ⟨by decide, by decide, by decide⟩
  intro d hd
  simp only [bads, List.mem_cons, List.not_mem_nil, or_false] at hd
  rcases hd with rfl | rfl | rfl | rfl | rfl | rfl
  · exact ⟨rfl, fun μ => wt_bad (k + 96) μ rfl (look_no (k + 96) μ (.inl rfl))⟩
  · exact ⟨rfl, fun μ => wt_bad (k + 96) μ rfl (look_no (k + 96) μ (.inr ⟨_, rfl⟩))⟩
  · exact ⟨rfl, fun μ => wt_bad (k + 96) μ rfl (look_two (k + 96) μ wb rfl rfl (fun μ => is_word_s (k + 97) μ (by decide)) (.inr ⟨_, rfl, by decide⟩))⟩
  · exact ⟨rfl, fun μ => wt_bad (k + 96) μ rfl (look_two (k + 96) μ wa rfl rfl (fun μ => is_word_s (k + 97) μ (by decide)) (.inr ⟨_, rfl, by decide⟩))⟩
  · exact ⟨rfl, fun μ => wt_bad (k + 96) μ rfl (look_two (k + 96) μ wa rfl rfl (fun μ => is_word_s (k + 97) μ (by decide)) (.inl rfl))⟩
  · exact ⟨rfl, fun μ => wt_bad (k + 96) μ rfl (look_two (r := false) (k + 96) μ wa rfl rfl (fun μ => by
      rw [callN_go (F := f_is_word) rfl rfl]
      simp! [f_is_word]) (.inl rfl))⟩
theorem for_bad (k : Nat) {S : DS} {src : D} {xs : List D} (hs : ∀ μ, srcOk μ src xs = true) {s0 s1 s2 s5 s6 s7 s8 s10 s11 s12 s13 s14 s15 s16 s17 s18 : Option D} : ∀ (l : List D) (L : List D) (x4 x9 : Option D), (∀ d ∈ l, d.pure = true ∧ ∀ μ, callN prog (k + 100) "word_tree" [d] μ = .ex (badE wWords) μ) → L.length + l.length ≤ 100 →
    ∃ y4 y9, forGo src xs (forT prog.G (callN prog (k + 100)) (.v 4) b_law_4) l [s0, s1, s2, some (.ref 2), x4, s5, s6, s7, s8, x9, s10, s11, s12, s13, s14, s15, s16, s17, s18] (Sd S [.lst L]) = .nx [s0, s1, s2, some (.ref 2), y4, s5, s6, s7, s8, y9, s10, s11, s12, s13, s14, s15, s16, s17, s18] (Sd S [.lst (L ++ List.replicate l.length (.str wWords))])
  | [], L, x4, x9, _, _ => ⟨x4, x9, by rw [forGo_nil (hs _)]; simp⟩
  | d :: l, L, x4, x9, h, hl => by
    obtain ⟨h1, h2⟩ := h d (by simp)
    rw [List.length_cons] at hl
    rw [forGo_cons, if_pos (hs _), bad_turn k (by omega) h1 h2, forK_nx]
    obtain ⟨y4, y9, ih⟩ := for_bad k (S := S) hs l (L ++ [.str wWords]) (some d) none (fun d' hd => h d' (by simp [hd])) (by rw [List.length_append, List.length_singleton]; omega)
    refine ⟨y4, y9, ?_⟩
    rw [ih, List.append_assoc, List.length_cons, List.replicate_succ]
    rfl
theorem law_holds (ns : List Int) (_ : ns.length ≤ 63) : ∃ μ, callN prog 121 "law" [.fz (ns.map .int)] [] = .ok (.bl true) μ := by
  have h0 := draws_S (P := prog) rfl 119 [] ns
  obtain ⟨ρ3, μ3, hfor, S, s2, s3, s4, s5, s6, s7, s8, s9, s10, s11, s12, s13, s14, s15, s16, s17, s18, rfl, rfl, _, _⟩ := forGo_inv (s := .tl (rngL 0 6)) (xs := rngL 0 6) (f := forT prog.G (callN prog 120) (.v 2) b_law_3) (OutI (.fz (ns.map .int)) ns) (fun _ _ _ _ => rfl)
    (fun i x ρ μ hx hI => out_turn 20 hx hI) (ρ := [some (.fz (ns.map .int)), some (.ref 1), none, none, none, none, none, none, none, none, none, none, none, none, none, none, none, none, none]) (μ := Sd ⟨ns, 0, 0, 1⟩ [])
    ⟨⟨ns, 0, 0, 1⟩, none, none, none, none, none, none, none, none, none, none, none, none, none, none, none, none, none, rfl, rfl, ⟨Int.le_refl 0, (by decide : (0 : Int) ≤ 1)⟩, rfl⟩
  obtain ⟨y4, y9, hb⟩ := for_bad 20 (S := S) (src := .tup bads) (xs := bads) (fun _ => rfl) (s0 := some (.fz (ns.map .int))) (s1 := some (.ref 1)) (s2 := s2) (s5 := s5) (s6 := s6) (s7 := s7) (s8 := s8) (s10 := s10) (s11 := s11) (s12 := s12) (s13 := s13) (s14 := s14) (s15 := s15) (s16 := s16) (s17 := s17) (s18 := s18) bads [] s4 s9 (bads_ok 20) (by decide)
  rw [List.nil_append] at hb
  have a1 : ∀ μ : Store, allocs (ns.map D.int) μ = (ns.map D.int, μ) := fun μ => allocs_ints _
  have E0 : exec prog.G (callN prog 120) f_law.body.hd [some (.fz (ns.map .int)), none, none, none, none, none, none, none, none, none, none, none, none, none, none, none, none, none, none] [] = .nx [some (.fz (ns.map .int)), some (.ref 1), none, none, none, none, none, none, none, none, none, none, none, none, none, none, none, none, none] (Sd ⟨ns, 0, 0, 1⟩ []) := by
    simp! [f_law, h0, a1]
    rfl
  have E1 : exec prog.G (callN prog 120) f_law.body.tl.hd [some (.fz (ns.map .int)), some (.ref 1), none, none, none, none, none, none, none, none, none, none, none, none, none, none, none, none, none] (Sd ⟨ns, 0, 0, 1⟩ []) = .nx [some (.fz (ns.map .int)), some (.ref 1), s2, s3, s4, s5, s6, s7, s8, s9, s10, s11, s12, s13, s14, s15, s16, s17, s18] (Sd S []) := by
    simp! [f_law, hfor]
  have eapp : Sd S [] ++ [Obj.lst []] = Sd S [.lst []] := rfl
  have elen : (Sd S []).length = 2 := rfl
  have E2 : exec prog.G (callN prog 120) f_law.body.tl.tl.hd [some (.fz (ns.map .int)), some (.ref 1), s2, s3, s4, s5, s6, s7, s8, s9, s10, s11, s12, s13, s14, s15, s16, s17, s18] (Sd S []) = .nx [some (.fz (ns.map .int)), some (.ref 1), s2, some (.ref 2), s4, s5, s6, s7, s8, s9, s10, s11, s12, s13, s14, s15, s16, s17, s18] (Sd S [.lst []]) := by
    simp! [f_law, eapp, elen]
  have E3 : exec prog.G (callN prog 120) f_law.body.tl.tl.tl.hd [some (.fz (ns.map .int)), some (.ref 1), s2, some (.ref 2), s4, s5, s6, s7, s8, s9, s10, s11, s12, s13, s14, s15, s16, s17, s18] (Sd S [.lst []]) = .nx [some (.fz (ns.map .int)), some (.ref 1), s2, some (.ref 2), y4, s5, s6, s7, s8, y9, s10, s11, s12, s13, s14, s15, s16, s17, s18] (Sd S [.lst (List.replicate 6 (.str wWords))]) := by
    have hit : ∀ it t b, f_law.body.tl.tl.tl.hd = .for_ t it b → ev prog.G (callN prog 120) it [some (.fz (ns.map .int)), some (.ref 1), s2, some (.ref 2), s4, s5, s6, s7, s8, s9, s10, s11, s12, s13, s14, s15, s16, s17, s18] (Sd S [.lst []]) = .ok (.tup bads) (Sd S [.lst []]) := by
      intro it t b h
      cases h
      simp! [bads]
      try rfl
    show exec prog.G (callN prog 120) (.for_ (.v 4) _ b_law_4) _ _ = _
    rw [exec_for, hit _ _ _ rfl, Rs.ou_ok]
    exact hb
  have q : eqD (Sd S [.lst (List.replicate 6 (.str wWords))]) (.ref 2) (.tl (List.replicate 6 (.str wWords))) = some true := by
    rfl
  have E4 : execs prog.G (callN prog 120) f_law.body.tl.tl.tl.tl [some (.fz (ns.map .int)), some (.ref 1), s2, some (.ref 2), y4, s5, s6, s7, s8, y9, s10, s11, s12, s13, s14, s15, s16, s17, s18] (Sd S [.lst (List.replicate 6 (.str wWords))]) = .rt (.bl true) (Sd S [.lst (List.replicate 6 (.str wWords))]) := by
    have rp : repOk 1 6 = true := by decide
    have er : (List.replicate 6 [D.str [119, 111, 114, 100, 115]]).flatten = List.replicate 6 (.str wWords) := rfl
    have t6 : (6 : Int).toNat = 6 := rfl
    have e6 : [D.str [119, 111, 114, 100, 115], .str [119, 111, 114, 100, 115], .str [119, 111, 114, 100, 115], .str [119, 111, 114, 100, 115], .str [119, 111, 114, 100, 115], .str [119, 111, 114, 100, 115]] = List.replicate 6 (.str wWords) := rfl
    generalize List.replicate 6 (D.str wWords) = L at *
    generalize Sd S [.lst L] = μ at *
    simp! [f_law, rp, er, e6, q, List.flatten_cons, List.flatten_nil]
  have hE : execs prog.G (callN prog 120) f_law.body [some (.fz (ns.map .int)), none, none, none, none, none, none, none, none, none, none, none, none, none, none, none, none, none, none] [] = .rt (.bl true) (Sd S [.lst (List.replicate 6 (.str wWords))]) := by
    show execs prog.G (callN prog 120) (.cons f_law.body.hd (.cons f_law.body.tl.hd (.cons f_law.body.tl.tl.hd (.cons f_law.body.tl.tl.tl.hd f_law.body.tl.tl.tl.tl)))) _ _ = _
    rw [execs_cons, E0, Ou.seq_nx, kRest_eq, execs_cons, E1, Ou.seq_nx, kRest_eq, execs_cons, E2, Ou.seq_nx, kRest_eq, execs_cons, E3, Ou.seq_nx, kRest_eq, E4]
  have hf : fin [] (.bl true) (Sd S [.lst (List.replicate 6 (.str wWords))]) = .ok (.bl true) [] := fin_app (μ := []) (N := Sd S [.lst (List.replicate 6 (.str wWords))]) rfl
  refine ⟨[], ?_⟩
  rw [callN_go (F := f_law) rfl rfl]
  show (if _ then endC [] (execs prog.G (callN prog 120) f_law.body [some (.fz (ns.map .int)), none, none, none, none, none, none, none, none, none, none, none, none, none, none, none, none, none, none] []) else _) = _
  rw [hE, if_pos (by rfl : D.stills [D.fz (ns.map D.int)] = true), endC_rt, hf]
end K61
end Mp
end SK61x
section SK61z
set_option maxHeartbeats 4000000
namespace Mp.K61
open PySem PySem.Spec PyProof.Rows L2
def topS (i : Nat) : Stmt := PySem.Challenge.pw_seekwright_k61_whole_walks_of_trees.main.body.getD i (.Pass ⟨0, 0, 0, 0⟩)
def fsl : FS := ⟨["is_whole", "is_word", "look_at_word", "look_at_far", "look_at_words", "first_state", "next_state", "is_lost", "told_by", "word_tree", "tree_from", "tree_words", "walked", "walk_into", "near_in", "_law_draws", "_law_draw", "_law_pick", "_law_same", "_law_pool", "_law_far", "_law_tree", "law"], [("BadPlan", ["why"])], [("BadPlan", "SeekError")], true⟩
abbrev i_BadPlan : Stmt := clsInit (topS 2)
abbrev s_is_whole : Stmt := topS 9
theorem sc_is_whole : FnScope (nm f_is_whole.names) (FnF.ps f_is_whole) (defScope s_is_whole) := ⟨rfl, rfl, rfl, by decide +kernel, by decide +kernel, by decide +kernel, by decide +kernel⟩
theorem mt_is_whole : mSs (nm f_is_whole.names) fsl (defScope s_is_whole) f_is_whole.body (defBody s_is_whole) = true := by decide +kernel
abbrev s_is_word : Stmt := topS 10
theorem sc_is_word : FnScope (nm f_is_word.names) (FnF.ps f_is_word) (defScope s_is_word) := ⟨rfl, rfl, rfl, by decide +kernel, by decide +kernel, by decide +kernel, by decide +kernel⟩
theorem mt_is_word : mSs (nm f_is_word.names) fsl (defScope s_is_word) f_is_word.body (defBody s_is_word) = true := by decide +kernel
abbrev s_look_at_word : Stmt := topS 13
theorem sc_look_at_word : FnScope (nm f_look_at_word.names) (FnF.ps f_look_at_word) (defScope s_look_at_word) := ⟨rfl, rfl, rfl, by decide +kernel, by decide +kernel, by decide +kernel, by decide +kernel⟩
theorem mt_look_at_word : mSs (nm f_look_at_word.names) fsl (defScope s_look_at_word) f_look_at_word.body (defBody s_look_at_word) = true := by decide +kernel
abbrev s_look_at_far : Stmt := topS 14
theorem sc_look_at_far : FnScope (nm f_look_at_far.names) (FnF.ps f_look_at_far) (defScope s_look_at_far) := ⟨rfl, rfl, rfl, by decide +kernel, by decide +kernel, by decide +kernel, by decide +kernel⟩
theorem mt_look_at_far : mSs (nm f_look_at_far.names) fsl (defScope s_look_at_far) f_look_at_far.body (defBody s_look_at_far) = true := by decide +kernel
abbrev s_look_at_words : Stmt := topS 16
theorem sc_look_at_words : FnScope (nm f_look_at_words.names) (FnF.ps f_look_at_words) (defScope s_look_at_words) := ⟨rfl, rfl, rfl, by decide +kernel, by decide +kernel, by decide +kernel, by decide +kernel⟩
theorem mt_look_at_words : mSs (nm f_look_at_words.names) fsl (defScope s_look_at_words) f_look_at_words.body (defBody s_look_at_words) = true := by decide +kernel
abbrev s_first_state : Stmt := topS 17
theorem sc_first_state : FnScope (nm f_first_state.names) (FnF.ps f_first_state) (defScope s_first_state) := ⟨rfl, rfl, rfl, by decide +kernel, by decide +kernel, by decide +kernel, by decide +kernel⟩
theorem mt_first_state : mSs (nm f_first_state.names) fsl (defScope s_first_state) f_first_state.body (defBody s_first_state) = true := by decide +kernel
abbrev s_next_state : Stmt := topS 18
theorem sc_next_state : FnScope (nm f_next_state.names) (FnF.ps f_next_state) (defScope s_next_state) := ⟨rfl, rfl, rfl, by decide +kernel, by decide +kernel, by decide +kernel, by decide +kernel⟩
theorem mt_next_state : mSs (nm f_next_state.names) fsl (defScope s_next_state) f_next_state.body (defBody s_next_state) = true := by decide +kernel
abbrev s_is_lost : Stmt := topS 19
theorem sc_is_lost : FnScope (nm f_is_lost.names) (FnF.ps f_is_lost) (defScope s_is_lost) := ⟨rfl, rfl, rfl, by decide +kernel, by decide +kernel, by decide +kernel, by decide +kernel⟩
theorem mt_is_lost : mSs (nm f_is_lost.names) fsl (defScope s_is_lost) f_is_lost.body (defBody s_is_lost) = true := by decide +kernel
abbrev s_told_by : Stmt := topS 20
theorem sc_told_by : FnScope (nm f_told_by.names) (FnF.ps f_told_by) (defScope s_told_by) := ⟨rfl, rfl, rfl, by decide +kernel, by decide +kernel, by decide +kernel, by decide +kernel⟩
theorem mt_told_by : mSs (nm f_told_by.names) fsl (defScope s_told_by) f_told_by.body (defBody s_told_by) = true := by decide +kernel
abbrev s_word_tree : Stmt := topS 21
theorem sc_word_tree : FnScope (nm f_word_tree.names) (FnF.ps f_word_tree) (defScope s_word_tree) := ⟨rfl, rfl, rfl, by decide +kernel, by decide +kernel, by decide +kernel, by decide +kernel⟩
theorem mt_word_tree : mSs (nm f_word_tree.names) fsl (defScope s_word_tree) f_word_tree.body (defBody s_word_tree) = true := by decide +kernel
abbrev s_tree_from : Stmt := topS 22
theorem sc_tree_from : FnScope (nm f_tree_from.names) (FnF.ps f_tree_from) (defScope s_tree_from) := ⟨rfl, rfl, rfl, by decide +kernel, by decide +kernel, by decide +kernel, by decide +kernel⟩
theorem mt_tree_from : mSs (nm f_tree_from.names) fsl (defScope s_tree_from) f_tree_from.body (defBody s_tree_from) = true := by decide +kernel
abbrev s_tree_words : Stmt := topS 23
theorem sc_tree_words : FnScope (nm f_tree_words.names) (FnF.ps f_tree_words) (defScope s_tree_words) := ⟨rfl, rfl, rfl, by decide +kernel, by decide +kernel, by decide +kernel, by decide +kernel⟩
theorem mt_tree_words : mSs (nm f_tree_words.names) fsl (defScope s_tree_words) f_tree_words.body (defBody s_tree_words) = true := by decide +kernel
abbrev s_walked : Stmt := topS 24
theorem sc_walked : FnScope (nm f_walked.names) (FnF.ps f_walked) (defScope s_walked) := ⟨rfl, rfl, rfl, by decide +kernel, by decide +kernel, by decide +kernel, by decide +kernel⟩
theorem mt_walked : mSs (nm f_walked.names) fsl (defScope s_walked) f_walked.body (defBody s_walked) = true := by decide +kernel
abbrev s_walk_into : Stmt := topS 25
theorem sc_walk_into : FnScope (nm f_walk_into.names) (FnF.ps f_walk_into) (defScope s_walk_into) := ⟨rfl, rfl, rfl, by decide +kernel, by decide +kernel, by decide +kernel, by decide +kernel⟩
theorem mt_walk_into : mSs (nm f_walk_into.names) fsl (defScope s_walk_into) f_walk_into.body (defBody s_walk_into) = true := by decide +kernel
abbrev s_near_in : Stmt := topS 26
theorem sc_near_in : FnScope (nm f_near_in.names) (FnF.ps f_near_in) (defScope s_near_in) := ⟨rfl, rfl, rfl, by decide +kernel, by decide +kernel, by decide +kernel, by decide +kernel⟩
theorem mt_near_in : mSs (nm f_near_in.names) fsl (defScope s_near_in) f_near_in.body (defBody s_near_in) = true := by decide +kernel
abbrev s_law_draws : Stmt := topS 28
theorem sc_law_draws : FnScope (nm f_law_draws.names) (FnF.ps f_law_draws) (defScope s_law_draws) := ⟨rfl, rfl, rfl, by decide +kernel, by decide +kernel, by decide +kernel, by decide +kernel⟩
theorem mt_law_draws : mSs (nm f_law_draws.names) fsl (defScope s_law_draws) f_law_draws.body (defBody s_law_draws) = true := by decide +kernel
abbrev s_law_draw : Stmt := topS 29
theorem sc_law_draw : FnScope (nm f_law_draw.names) (FnF.ps f_law_draw) (defScope s_law_draw) := ⟨rfl, rfl, rfl, by decide +kernel, by decide +kernel, by decide +kernel, by decide +kernel⟩
theorem mt_law_draw : mSs (nm f_law_draw.names) fsl (defScope s_law_draw) f_law_draw.body (defBody s_law_draw) = true := by decide +kernel
abbrev s_law_pick : Stmt := topS 30
theorem sc_law_pick : FnScope (nm f_law_pick.names) (FnF.ps f_law_pick) (defScope s_law_pick) := ⟨rfl, rfl, rfl, by decide +kernel, by decide +kernel, by decide +kernel, by decide +kernel⟩
theorem mt_law_pick : mSs (nm f_law_pick.names) fsl (defScope s_law_pick) f_law_pick.body (defBody s_law_pick) = true := by decide +kernel
abbrev s_law_same : Stmt := topS 31
theorem sc_law_same : FnScope (nm f_law_same.names) (FnF.ps f_law_same) (defScope s_law_same) := ⟨rfl, rfl, rfl, by decide +kernel, by decide +kernel, by decide +kernel, by decide +kernel⟩
theorem mt_law_same : mSs (nm f_law_same.names) fsl (defScope s_law_same) f_law_same.body (defBody s_law_same) = true := by decide +kernel
abbrev s_law_pool : Stmt := topS 32
theorem sc_law_pool : FnScope (nm f_law_pool.names) (FnF.ps f_law_pool) (defScope s_law_pool) := ⟨rfl, rfl, rfl, by decide +kernel, by decide +kernel, by decide +kernel, by decide +kernel⟩
theorem mt_law_pool : mSs (nm f_law_pool.names) fsl (defScope s_law_pool) f_law_pool.body (defBody s_law_pool) = true := by decide +kernel
abbrev s_law_far : Stmt := topS 33
theorem sc_law_far : FnScope (nm f_law_far.names) (FnF.ps f_law_far) (defScope s_law_far) := ⟨rfl, rfl, rfl, by decide +kernel, by decide +kernel, by decide +kernel, by decide +kernel⟩
theorem mt_law_far : mSs (nm f_law_far.names) fsl (defScope s_law_far) f_law_far.body (defBody s_law_far) = true := by decide +kernel
abbrev s_law_tree : Stmt := topS 34
theorem sc_law_tree : FnScope (nm f_law_tree.names) (FnF.ps f_law_tree) (defScope s_law_tree) := ⟨rfl, rfl, rfl, by decide +kernel, by decide +kernel, by decide +kernel, by decide +kernel⟩
theorem mt_law_tree : mSs (nm f_law_tree.names) fsl (defScope s_law_tree) f_law_tree.body (defBody s_law_tree) = true := by decide +kernel
abbrev s_law : Stmt := topS 35
theorem sc_law : FnScope (nm f_law.names) (FnF.ps f_law) (defScope s_law) := ⟨rfl, rfl, rfl, by decide +kernel, by decide +kernel, by decide +kernel, by decide +kernel⟩
theorem mt_law : mSs (nm f_law.names) fsl (defScope s_law) f_law.body (defBody s_law) = true := by decide +kernel
theorem xsc_BadPlan : FnScope ["self", "why"] ["self", "why"] (defScope i_BadPlan) := ⟨rfl, rfl, rfl, by decide +kernel, by decide +kernel, by decide +kernel, by decide +kernel⟩
theorem c_RUNS : ("abcdefghijklmnopqrstuvwxyzABCDEFGHIJKLMNOPQRSTUVWXYZ0123456789" : Str) = toS [97, 98, 99, 100, 101, 102, 103, 104, 105, 106, 107, 108, 109, 110, 111, 112, 113, 114, 115, 116, 117, 118, 119, 120, 121, 122, 65, 66, 67, 68, 69, 70, 71, 72, 73, 74, 75, 76, 77, 78, 79, 80, 81, 82, 83, 84, 85, 86, 87, 88, 89, 90, 48, 49, 50, 51, 52, 53, 54, 55, 56, 57] := by decide +kernel
section
variable {P : Program} {w : World} {K : PySem.W.Frag} {mg : Str → Option Value} {h : Heap}
theorem all_mk {fa f0 f1 f2 f3 f4 f5 f6 f7 f8 f9 f10 f11 f12 f13 f14 f15 f16 f17 f18 f19 f20 f21 f22 : Addr} (X : K.In h) (G : h.Ns mainGlobals mg) (hfa : mg "law" = some (.ref fa))
    {od0 an0 : Option Addr} {sl0 : Array (Option Value)} {oc0 kV0 dc0 pm0 cd0 ct0 : Value}
    {od1 an1 : Option Addr} {sl1 : Array (Option Value)} {oc1 kV1 dc1 pm1 cd1 ct1 : Value}
    {od2 an2 : Option Addr} {sl2 : Array (Option Value)} {oc2 kV2 dc2 pm2 cd2 ct2 : Value}
    {od3 an3 : Option Addr} {sl3 : Array (Option Value)} {oc3 kV3 dc3 pm3 cd3 ct3 : Value}
    {od4 an4 : Option Addr} {sl4 : Array (Option Value)} {oc4 kV4 dc4 pm4 cd4 ct4 : Value}
    {od5 an5 : Option Addr} {sl5 : Array (Option Value)} {oc5 kV5 dc5 pm5 cd5 ct5 : Value}
    {od6 an6 : Option Addr} {sl6 : Array (Option Value)} {oc6 kV6 dc6 pm6 cd6 ct6 : Value}
    {od7 an7 : Option Addr} {sl7 : Array (Option Value)} {oc7 kV7 dc7 pm7 cd7 ct7 : Value}
    {od8 an8 : Option Addr} {sl8 : Array (Option Value)} {oc8 kV8 dc8 pm8 cd8 ct8 : Value}
    {od9 an9 : Option Addr} {sl9 : Array (Option Value)} {oc9 kV9 dc9 pm9 cd9 ct9 : Value}
    {od10 an10 : Option Addr} {sl10 : Array (Option Value)} {oc10 kV10 dc10 pm10 cd10 ct10 : Value}
    {od11 an11 : Option Addr} {sl11 : Array (Option Value)} {oc11 kV11 dc11 pm11 cd11 ct11 : Value}
    {od12 an12 : Option Addr} {sl12 : Array (Option Value)} {oc12 kV12 dc12 pm12 cd12 ct12 : Value}
    {od13 an13 : Option Addr} {sl13 : Array (Option Value)} {oc13 kV13 dc13 pm13 cd13 ct13 : Value}
    {od14 an14 : Option Addr} {sl14 : Array (Option Value)} {oc14 kV14 dc14 pm14 cd14 ct14 : Value}
    {od15 an15 : Option Addr} {sl15 : Array (Option Value)} {oc15 kV15 dc15 pm15 cd15 ct15 : Value}
    {od16 an16 : Option Addr} {sl16 : Array (Option Value)} {oc16 kV16 dc16 pm16 cd16 ct16 : Value}
    {od17 an17 : Option Addr} {sl17 : Array (Option Value)} {oc17 kV17 dc17 pm17 cd17 ct17 : Value}
    {od18 an18 : Option Addr} {sl18 : Array (Option Value)} {oc18 kV18 dc18 pm18 cd18 ct18 : Value}
    {od19 an19 : Option Addr} {sl19 : Array (Option Value)} {oc19 kV19 dc19 pm19 cd19 ct19 : Value}
    {od20 an20 : Option Addr} {sl20 : Array (Option Value)} {oc20 kV20 dc20 pm20 cd20 ct20 : Value}
    {od21 an21 : Option Addr} {sl21 : Array (Option Value)} {oc21 kV21 dc21 pm21 cd21 ct21 : Value}
    {od22 an22 : Option Addr} {sl22 : Array (Option Value)} {oc22 kV22 dc22 pm22 cd22 ct22 : Value}
    (a0 : PySem.W.nsIn K mainGlobals "is_whole" = some (some (.ref f0))) (l0 : K.lookup f0 = some ⟨oc0, od0, .func (PySem.W.fnOf "is_whole" "is_whole" (defArgs s_is_whole) (defBody s_is_whole) (defScope s_is_whole) .none kV0 dc0 pm0 an0 cd0 ct0), sl0⟩) (c0 : PySem.W.codeIn K cd0 "is_whole" = true) (k0 : PySem.W.keepIn K (.ref f0) = true)
    (a1 : PySem.W.nsIn K mainGlobals "is_word" = some (some (.ref f1))) (l1 : K.lookup f1 = some ⟨oc1, od1, .func (PySem.W.fnOf "is_word" "is_word" (defArgs s_is_word) (defBody s_is_word) (defScope s_is_word) .none kV1 dc1 pm1 an1 cd1 ct1), sl1⟩) (c1 : PySem.W.codeIn K cd1 "is_word" = true) (k1 : PySem.W.keepIn K (.ref f1) = true)
    (a2 : PySem.W.nsIn K mainGlobals "look_at_word" = some (some (.ref f2))) (l2 : K.lookup f2 = some ⟨oc2, od2, .func (PySem.W.fnOf "look_at_word" "look_at_word" (defArgs s_look_at_word) (defBody s_look_at_word) (defScope s_look_at_word) .none kV2 dc2 pm2 an2 cd2 ct2), sl2⟩) (c2 : PySem.W.codeIn K cd2 "look_at_word" = true) (k2 : PySem.W.keepIn K (.ref f2) = true)
    (a3 : PySem.W.nsIn K mainGlobals "look_at_far" = some (some (.ref f3))) (l3 : K.lookup f3 = some ⟨oc3, od3, .func (PySem.W.fnOf "look_at_far" "look_at_far" (defArgs s_look_at_far) (defBody s_look_at_far) (defScope s_look_at_far) .none kV3 dc3 pm3 an3 cd3 ct3), sl3⟩) (c3 : PySem.W.codeIn K cd3 "look_at_far" = true) (k3 : PySem.W.keepIn K (.ref f3) = true)
    (a4 : PySem.W.nsIn K mainGlobals "look_at_words" = some (some (.ref f4))) (l4 : K.lookup f4 = some ⟨oc4, od4, .func (PySem.W.fnOf "look_at_words" "look_at_words" (defArgs s_look_at_words) (defBody s_look_at_words) (defScope s_look_at_words) .none kV4 dc4 pm4 an4 cd4 ct4), sl4⟩) (c4 : PySem.W.codeIn K cd4 "look_at_words" = true) (k4 : PySem.W.keepIn K (.ref f4) = true)
    (a5 : PySem.W.nsIn K mainGlobals "first_state" = some (some (.ref f5))) (l5 : K.lookup f5 = some ⟨oc5, od5, .func (PySem.W.fnOf "first_state" "first_state" (defArgs s_first_state) (defBody s_first_state) (defScope s_first_state) .none kV5 dc5 pm5 an5 cd5 ct5), sl5⟩) (c5 : PySem.W.codeIn K cd5 "first_state" = true) (k5 : PySem.W.keepIn K (.ref f5) = true)
    (a6 : PySem.W.nsIn K mainGlobals "next_state" = some (some (.ref f6))) (l6 : K.lookup f6 = some ⟨oc6, od6, .func (PySem.W.fnOf "next_state" "next_state" (defArgs s_next_state) (defBody s_next_state) (defScope s_next_state) .none kV6 dc6 pm6 an6 cd6 ct6), sl6⟩) (c6 : PySem.W.codeIn K cd6 "next_state" = true) (k6 : PySem.W.keepIn K (.ref f6) = true)
    (a7 : PySem.W.nsIn K mainGlobals "is_lost" = some (some (.ref f7))) (l7 : K.lookup f7 = some ⟨oc7, od7, .func (PySem.W.fnOf "is_lost" "is_lost" (defArgs s_is_lost) (defBody s_is_lost) (defScope s_is_lost) .none kV7 dc7 pm7 an7 cd7 ct7), sl7⟩) (c7 : PySem.W.codeIn K cd7 "is_lost" = true) (k7 : PySem.W.keepIn K (.ref f7) = true)
    (a8 : PySem.W.nsIn K mainGlobals "told_by" = some (some (.ref f8))) (l8 : K.lookup f8 = some ⟨oc8, od8, .func (PySem.W.fnOf "told_by" "told_by" (defArgs s_told_by) (defBody s_told_by) (defScope s_told_by) .none kV8 dc8 pm8 an8 cd8 ct8), sl8⟩) (c8 : PySem.W.codeIn K cd8 "told_by" = true) (k8 : PySem.W.keepIn K (.ref f8) = true)
    (a9 : PySem.W.nsIn K mainGlobals "word_tree" = some (some (.ref f9))) (l9 : K.lookup f9 = some ⟨oc9, od9, .func (PySem.W.fnOf "word_tree" "word_tree" (defArgs s_word_tree) (defBody s_word_tree) (defScope s_word_tree) .none kV9 dc9 pm9 an9 cd9 ct9), sl9⟩) (c9 : PySem.W.codeIn K cd9 "word_tree" = true) (k9 : PySem.W.keepIn K (.ref f9) = true)
    (a10 : PySem.W.nsIn K mainGlobals "tree_from" = some (some (.ref f10))) (l10 : K.lookup f10 = some ⟨oc10, od10, .func (PySem.W.fnOf "tree_from" "tree_from" (defArgs s_tree_from) (defBody s_tree_from) (defScope s_tree_from) .none kV10 dc10 pm10 an10 cd10 ct10), sl10⟩) (c10 : PySem.W.codeIn K cd10 "tree_from" = true) (k10 : PySem.W.keepIn K (.ref f10) = true)
    (a11 : PySem.W.nsIn K mainGlobals "tree_words" = some (some (.ref f11))) (l11 : K.lookup f11 = some ⟨oc11, od11, .func (PySem.W.fnOf "tree_words" "tree_words" (defArgs s_tree_words) (defBody s_tree_words) (defScope s_tree_words) .none kV11 dc11 pm11 an11 cd11 ct11), sl11⟩) (c11 : PySem.W.codeIn K cd11 "tree_words" = true) (k11 : PySem.W.keepIn K (.ref f11) = true)
    (a12 : PySem.W.nsIn K mainGlobals "walked" = some (some (.ref f12))) (l12 : K.lookup f12 = some ⟨oc12, od12, .func (PySem.W.fnOf "walked" "walked" (defArgs s_walked) (defBody s_walked) (defScope s_walked) .none kV12 dc12 pm12 an12 cd12 ct12), sl12⟩) (c12 : PySem.W.codeIn K cd12 "walked" = true) (k12 : PySem.W.keepIn K (.ref f12) = true)
    (a13 : PySem.W.nsIn K mainGlobals "walk_into" = some (some (.ref f13))) (l13 : K.lookup f13 = some ⟨oc13, od13, .func (PySem.W.fnOf "walk_into" "walk_into" (defArgs s_walk_into) (defBody s_walk_into) (defScope s_walk_into) .none kV13 dc13 pm13 an13 cd13 ct13), sl13⟩) (c13 : PySem.W.codeIn K cd13 "walk_into" = true) (k13 : PySem.W.keepIn K (.ref f13) = true)
    (a14 : PySem.W.nsIn K mainGlobals "near_in" = some (some (.ref f14))) (l14 : K.lookup f14 = some ⟨oc14, od14, .func (PySem.W.fnOf "near_in" "near_in" (defArgs s_near_in) (defBody s_near_in) (defScope s_near_in) .none kV14 dc14 pm14 an14 cd14 ct14), sl14⟩) (c14 : PySem.W.codeIn K cd14 "near_in" = true) (k14 : PySem.W.keepIn K (.ref f14) = true)
    (a15 : PySem.W.nsIn K mainGlobals "_law_draws" = some (some (.ref f15))) (l15 : K.lookup f15 = some ⟨oc15, od15, .func (PySem.W.fnOf "_law_draws" "_law_draws" (defArgs s_law_draws) (defBody s_law_draws) (defScope s_law_draws) .none kV15 dc15 pm15 an15 cd15 ct15), sl15⟩) (c15 : PySem.W.codeIn K cd15 "_law_draws" = true) (k15 : PySem.W.keepIn K (.ref f15) = true)
    (a16 : PySem.W.nsIn K mainGlobals "_law_draw" = some (some (.ref f16))) (l16 : K.lookup f16 = some ⟨oc16, od16, .func (PySem.W.fnOf "_law_draw" "_law_draw" (defArgs s_law_draw) (defBody s_law_draw) (defScope s_law_draw) .none kV16 dc16 pm16 an16 cd16 ct16), sl16⟩) (c16 : PySem.W.codeIn K cd16 "_law_draw" = true) (k16 : PySem.W.keepIn K (.ref f16) = true)
    (a17 : PySem.W.nsIn K mainGlobals "_law_pick" = some (some (.ref f17))) (l17 : K.lookup f17 = some ⟨oc17, od17, .func (PySem.W.fnOf "_law_pick" "_law_pick" (defArgs s_law_pick) (defBody s_law_pick) (defScope s_law_pick) .none kV17 dc17 pm17 an17 cd17 ct17), sl17⟩) (c17 : PySem.W.codeIn K cd17 "_law_pick" = true) (k17 : PySem.W.keepIn K (.ref f17) = true)
    (a18 : PySem.W.nsIn K mainGlobals "_law_same" = some (some (.ref f18))) (l18 : K.lookup f18 = some ⟨oc18, od18, .func (PySem.W.fnOf "_law_same" "_law_same" (defArgs s_law_same) (defBody s_law_same) (defScope s_law_same) .none kV18 dc18 pm18 an18 cd18 ct18), sl18⟩) (c18 : PySem.W.codeIn K cd18 "_law_same" = true) (k18 : PySem.W.keepIn K (.ref f18) = true)
    (a19 : PySem.W.nsIn K mainGlobals "_law_pool" = some (some (.ref f19))) (l19 : K.lookup f19 = some ⟨oc19, od19, .func (PySem.W.fnOf "_law_pool" "_law_pool" (defArgs s_law_pool) (defBody s_law_pool) (defScope s_law_pool) .none kV19 dc19 pm19 an19 cd19 ct19), sl19⟩) (c19 : PySem.W.codeIn K cd19 "_law_pool" = true) (k19 : PySem.W.keepIn K (.ref f19) = true)
    (a20 : PySem.W.nsIn K mainGlobals "_law_far" = some (some (.ref f20))) (l20 : K.lookup f20 = some ⟨oc20, od20, .func (PySem.W.fnOf "_law_far" "_law_far" (defArgs s_law_far) (defBody s_law_far) (defScope s_law_far) .none kV20 dc20 pm20 an20 cd20 ct20), sl20⟩) (c20 : PySem.W.codeIn K cd20 "_law_far" = true) (k20 : PySem.W.keepIn K (.ref f20) = true)
    (a21 : PySem.W.nsIn K mainGlobals "_law_tree" = some (some (.ref f21))) (l21 : K.lookup f21 = some ⟨oc21, od21, .func (PySem.W.fnOf "_law_tree" "_law_tree" (defArgs s_law_tree) (defBody s_law_tree) (defScope s_law_tree) .none kV21 dc21 pm21 an21 cd21 ct21), sl21⟩) (c21 : PySem.W.codeIn K cd21 "_law_tree" = true) (k21 : PySem.W.keepIn K (.ref f21) = true)
    (a22 : PySem.W.nsIn K mainGlobals "law" = some (some (.ref f22))) (l22 : K.lookup f22 = some ⟨oc22, od22, .func (PySem.W.fnOf "law" "law" (defArgs s_law) (defBody s_law) (defScope s_law) .none kV22 dc22 pm22 an22 cd22 ct22), sl22⟩) (c22 : PySem.W.codeIn K cd22 "law" = true) (k22 : PySem.W.keepIn K (.ref f22) = true)
    {S : Addr} (aS : PySem.W.nsIn K mainGlobals "SeekError" = some (some (.ref S))) (sp : PySem.W.specialIn K (.ref S) "__getattribute__" = some (some (.builtin "type.__getattribute__"))) (rd : PySem.W.readsIn K S (.type "type") = true) (fi : PySem.W.findCls K (.ref S) (.type "type") "__init__" = some (.val (.builtin "ValueError.__init__")))
    {C0 I0 N0 : Addr} {nm0 : Str} {qn0 : Str} {bs0 bm0 : List Value} {xsn0 xsub0 xab0 xcol0 xdd0 xk00 xk10 xk20 xk30 xk50}
    {xod0 xan0 : Option Addr} {xsl0 : Array (Option Value)} {xoc0 xkV0 xdc0 xpm0 xcd0 xct0 : Value}
    (xa0 : PySem.W.nsIn K mainGlobals "BadPlan" = some (some (.ref C0))) (xl0 : K.lookup C0 = some (excClassObj nm0 qn0 C0 N0 bs0 bm0 true xsn0 xsub0 xab0 xcol0 xdd0 xk00 xk10 xk20 xk30 xk50 "ValueError.__new__")) (xr0 : PySem.HandSPX.refsVE bm0 = true)
    (xs0 : PySem.W.findIn K (.ref C0) "__setattr__" = some (some (.builtin "object.__setattr__"))) (xe0 : PySem.W.subIn K (.ref C0) (.type "BaseException") = some true) (xt0 : PySem.W.typeIn K (.ref C0) = some (.type "type")) (xp0 : PySem.W.keepIn K (.ref C0) = true)
    (xg0 : PySem.W.findIn K (.ref C0) "__getattribute__" = some (some (.builtin "BaseException.__getattribute__"))) (xh0 : PySem.W.findIn K (.ref C0) "__getattr__" = some none) (xd0 : PySem.W.hasDictIn K C0 = true)
    (xm0 : PySem.W.findIn K (.ref C0) "at" = some none) (xn0 : PySem.W.findIn K (.ref C0) "why" = some none)
    (xi0 : PySem.W.findIn K (.ref C0) "__init__" = some (some (.ref I0))) (xy0 : PySem.W.typeIn K (.ref I0) = some (.type "function"))
    (xL0 : K.lookup I0 = some ⟨xoc0, xod0, .func (PySem.W.fnOf "__init__" "BadPlan.__init__" (defArgs i_BadPlan) (defBody i_BadPlan) (defScope i_BadPlan) .none xkV0 xdc0 xpm0 xan0 xcd0 xct0), xsl0⟩) (xc0 : PySem.W.codeIn K xcd0 "BadPlan.__init__" = true) (xk0 : PySem.W.keepIn K (.ref I0) = true)
    (xq0_0 : PySem.W.subIn K (.ref C0) (.ref C0) = some true)
    (sbh : PySem.W.hasDictIn K S = true) (sbt : PySem.W.typeIn K (.ref S) = some (.type "type"))
    (sbn0 : C0 ≠ S) (sbs0 : PySem.W.subIn K (.ref C0) (.ref S) = some true)
    {u0 : Tok} (cst0 : PySem.W.nsIn K mainGlobals "RUNS" = some (some (.str "abcdefghijklmnopqrstuvwxyzABCDEFGHIJKLMNOPQRSTUVWXYZ0123456789" u0)))
    {u1 : Tok} (cst1 : PySem.W.nsIn K mainGlobals "MOST_WORD" = some (some (.int 24 u1)))
    {u2 : Tok} (cst2 : PySem.W.nsIn K mainGlobals "MOST_FAR" = some (some (.int 3 u2)))
    (z0 : PySem.W.nsIn K mainGlobals "len" = some none) (z1 : PySem.W.nsIn K mainGlobals "tuple" = some none) (z2 : PySem.W.nsIn K mainGlobals "list" = some none) (z3 : PySem.W.nsIn K mainGlobals "int" = some none) (z4 : PySem.W.nsIn K mainGlobals "min" = some none) (z5 : PySem.W.nsIn K mainGlobals "max" = some none) (z6 : PySem.W.nsIn K mainGlobals "isinstance" = some none) (z7 : PySem.W.nsIn K mainGlobals "sum" = some none) (z8 : PySem.W.nsIn K mainGlobals "abs" = some none) (z9 : PySem.W.nsIn K mainGlobals "all" = some none) (z10 : PySem.W.nsIn K mainGlobals "any" = some none) (z11 : PySem.W.nsIn K mainGlobals "range" = some none) (z12 : PySem.W.nsIn K mainGlobals "bool" = some none) (z13 : PySem.W.nsIn K mainGlobals "str" = some none) (z14 : PySem.W.nsIn K mainGlobals "enumerate" = some none) (z15 : PySem.W.nsIn K mainGlobals "zip" = some none) (z16 : PySem.W.nsIn K mainGlobals "sorted" = some none) (z17 : PySem.W.nsIn K mainGlobals "dict" = some none) (z18 : PySem.W.nsIn K mainGlobals "set" = some none) (z19 : PySem.W.nsIn K mainGlobals "ord" = some none) :
    ∃ fd : FuncData, (∀ (s : Shared) (v : Value), BindsTo s fd ⟨[v], []⟩ [("script", v)]) ∧ ∀ base : Heap, K.In base → base.Ns mainGlobals mg → FnOk P w K mg base (L2.CX P w) (121 + 2) fa fd ["script"] (spL K prog 121) := by
  have e := hfa.symm.trans (PySem.W.mg_of X G a22)
  cases e
  have mS := PySem.W.mg_of X G aS
  have cl0 := cls_mk (K := K) xl0 xr0 xs0 xe0 xt0 xp0 xg0 xh0 xd0 xm0 xn0
  have XF0 := fun_mk (st := i_BadPlan) xL0 xc0 xk0
  have xb0 := XF0.binds (ps := ["self", "why"]) fun _ _ _ _ _ _ us hl => match us, hl with | [_, _], _ => rfl
  have xo0 := fun (P : Program) (w : World) (base : Heap) => exc_mk1 (c := "BadPlan") cl0 (PySem.W.mg_of X G xa0) XF0 xb0 xsc_BadPlan ⟨sp, rd, fi⟩ mS (by decide) rfl (by decide +kernel) (by decide +kernel) (by decide +kernel) xi0 xy0 P w base
  have F0 := fun_mk (st := s_is_whole) l0 c0 k0
  have b0 := F0.binds (ps := FnF.ps f_is_whole) fun _ _ _ _ _ _ us hl => match us, hl with | [_], _ => rfl
  have q0 : FnF K (fa0 [("is_whole", f0), ("is_word", f1), ("look_at_word", f2), ("look_at_far", f3), ("look_at_words", f4), ("first_state", f5), ("next_state", f6), ("is_lost", f7), ("told_by", f8), ("word_tree", f9), ("tree_from", f10), ("tree_words", f11), ("walked", f12), ("walk_into", f13), ("near_in", f14), ("_law_draws", f15), ("_law_draw", f16), ("_law_pick", f17), ("_law_same", f18), ("_law_pool", f19), ("_law_far", f20), ("_law_tree", f21), ("law", fa)] [("BadPlan", C0)]) fsl f_is_whole f0 _ _ _ := ⟨by rfl, F0, sc_is_whole, b0, mt_is_whole, by decide⟩
  have F1 := fun_mk (st := s_is_word) l1 c1 k1
  have b1 := F1.binds (ps := FnF.ps f_is_word) fun _ _ _ _ _ _ us hl => match us, hl with | [_], _ => rfl
  have q1 : FnF K (fa0 [("is_whole", f0), ("is_word", f1), ("look_at_word", f2), ("look_at_far", f3), ("look_at_words", f4), ("first_state", f5), ("next_state", f6), ("is_lost", f7), ("told_by", f8), ("word_tree", f9), ("tree_from", f10), ("tree_words", f11), ("walked", f12), ("walk_into", f13), ("near_in", f14), ("_law_draws", f15), ("_law_draw", f16), ("_law_pick", f17), ("_law_same", f18), ("_law_pool", f19), ("_law_far", f20), ("_law_tree", f21), ("law", fa)] [("BadPlan", C0)]) fsl f_is_word f1 _ _ _ := ⟨by rfl, F1, sc_is_word, b1, mt_is_word, by decide⟩
  have F2 := fun_mk (st := s_look_at_word) l2 c2 k2
  have b2 := F2.binds (ps := FnF.ps f_look_at_word) fun _ _ _ _ _ _ us hl => match us, hl with | [_], _ => rfl
  have q2 : FnF K (fa0 [("is_whole", f0), ("is_word", f1), ("look_at_word", f2), ("look_at_far", f3), ("look_at_words", f4), ("first_state", f5), ("next_state", f6), ("is_lost", f7), ("told_by", f8), ("word_tree", f9), ("tree_from", f10), ("tree_words", f11), ("walked", f12), ("walk_into", f13), ("near_in", f14), ("_law_draws", f15), ("_law_draw", f16), ("_law_pick", f17), ("_law_same", f18), ("_law_pool", f19), ("_law_far", f20), ("_law_tree", f21), ("law", fa)] [("BadPlan", C0)]) fsl f_look_at_word f2 _ _ _ := ⟨by rfl, F2, sc_look_at_word, b2, mt_look_at_word, by decide⟩
  have F3 := fun_mk (st := s_look_at_far) l3 c3 k3
  have b3 := F3.binds (ps := FnF.ps f_look_at_far) fun _ _ _ _ _ _ us hl => match us, hl with | [_], _ => rfl
  have q3 : FnF K (fa0 [("is_whole", f0), ("is_word", f1), ("look_at_word", f2), ("look_at_far", f3), ("look_at_words", f4), ("first_state", f5), ("next_state", f6), ("is_lost", f7), ("told_by", f8), ("word_tree", f9), ("tree_from", f10), ("tree_words", f11), ("walked", f12), ("walk_into", f13), ("near_in", f14), ("_law_draws", f15), ("_law_draw", f16), ("_law_pick", f17), ("_law_same", f18), ("_law_pool", f19), ("_law_far", f20), ("_law_tree", f21), ("law", fa)] [("BadPlan", C0)]) fsl f_look_at_far f3 _ _ _ := ⟨by rfl, F3, sc_look_at_far, b3, mt_look_at_far, by decide⟩
  have F4 := fun_mk (st := s_look_at_words) l4 c4 k4
  have b4 := F4.binds (ps := FnF.ps f_look_at_words) fun _ _ _ _ _ _ us hl => match us, hl with | [_], _ => rfl
  have q4 : FnF K (fa0 [("is_whole", f0), ("is_word", f1), ("look_at_word", f2), ("look_at_far", f3), ("look_at_words", f4), ("first_state", f5), ("next_state", f6), ("is_lost", f7), ("told_by", f8), ("word_tree", f9), ("tree_from", f10), ("tree_words", f11), ("walked", f12), ("walk_into", f13), ("near_in", f14), ("_law_draws", f15), ("_law_draw", f16), ("_law_pick", f17), ("_law_same", f18), ("_law_pool", f19), ("_law_far", f20), ("_law_tree", f21), ("law", fa)] [("BadPlan", C0)]) fsl f_look_at_words f4 _ _ _ := ⟨by rfl, F4, sc_look_at_words, b4, mt_look_at_words, by decide⟩
  have F5 := fun_mk (st := s_first_state) l5 c5 k5
  have b5 := F5.binds (ps := FnF.ps f_first_state) fun _ _ _ _ _ _ us hl => match us, hl with | [_, _], _ => rfl
  have q5 : FnF K (fa0 [("is_whole", f0), ("is_word", f1), ("look_at_word", f2), ("look_at_far", f3), ("look_at_words", f4), ("first_state", f5), ("next_state", f6), ("is_lost", f7), ("told_by", f8), ("word_tree", f9), ("tree_from", f10), ("tree_words", f11), ("walked", f12), ("walk_into", f13), ("near_in", f14), ("_law_draws", f15), ("_law_draw", f16), ("_law_pick", f17), ("_law_same", f18), ("_law_pool", f19), ("_law_far", f20), ("_law_tree", f21), ("law", fa)] [("BadPlan", C0)]) fsl f_first_state f5 _ _ _ := ⟨by rfl, F5, sc_first_state, b5, mt_first_state, by decide⟩
  have F6 := fun_mk (st := s_next_state) l6 c6 k6
  have b6 := F6.binds (ps := FnF.ps f_next_state) fun _ _ _ _ _ _ us hl => match us, hl with | [_, _, _, _], _ => rfl
  have q6 : FnF K (fa0 [("is_whole", f0), ("is_word", f1), ("look_at_word", f2), ("look_at_far", f3), ("look_at_words", f4), ("first_state", f5), ("next_state", f6), ("is_lost", f7), ("told_by", f8), ("word_tree", f9), ("tree_from", f10), ("tree_words", f11), ("walked", f12), ("walk_into", f13), ("near_in", f14), ("_law_draws", f15), ("_law_draw", f16), ("_law_pick", f17), ("_law_same", f18), ("_law_pool", f19), ("_law_far", f20), ("_law_tree", f21), ("law", fa)] [("BadPlan", C0)]) fsl f_next_state f6 _ _ _ := ⟨by rfl, F6, sc_next_state, b6, mt_next_state, by decide⟩
  have F7 := fun_mk (st := s_is_lost) l7 c7 k7
  have b7 := F7.binds (ps := FnF.ps f_is_lost) fun _ _ _ _ _ _ us hl => match us, hl with | [_, _], _ => rfl
  have q7 : FnF K (fa0 [("is_whole", f0), ("is_word", f1), ("look_at_word", f2), ("look_at_far", f3), ("look_at_words", f4), ("first_state", f5), ("next_state", f6), ("is_lost", f7), ("told_by", f8), ("word_tree", f9), ("tree_from", f10), ("tree_words", f11), ("walked", f12), ("walk_into", f13), ("near_in", f14), ("_law_draws", f15), ("_law_draw", f16), ("_law_pick", f17), ("_law_same", f18), ("_law_pool", f19), ("_law_far", f20), ("_law_tree", f21), ("law", fa)] [("BadPlan", C0)]) fsl f_is_lost f7 _ _ _ := ⟨by rfl, F7, sc_is_lost, b7, mt_is_lost, by decide⟩
  have F8 := fun_mk (st := s_told_by) l8 c8 k8
  have b8 := F8.binds (ps := FnF.ps f_told_by) fun _ _ _ _ _ _ us hl => match us, hl with | [_, _], _ => rfl
  have q8 : FnF K (fa0 [("is_whole", f0), ("is_word", f1), ("look_at_word", f2), ("look_at_far", f3), ("look_at_words", f4), ("first_state", f5), ("next_state", f6), ("is_lost", f7), ("told_by", f8), ("word_tree", f9), ("tree_from", f10), ("tree_words", f11), ("walked", f12), ("walk_into", f13), ("near_in", f14), ("_law_draws", f15), ("_law_draw", f16), ("_law_pick", f17), ("_law_same", f18), ("_law_pool", f19), ("_law_far", f20), ("_law_tree", f21), ("law", fa)] [("BadPlan", C0)]) fsl f_told_by f8 _ _ _ := ⟨by rfl, F8, sc_told_by, b8, mt_told_by, by decide⟩
  have F9 := fun_mk (st := s_word_tree) l9 c9 k9
  have b9 := F9.binds (ps := FnF.ps f_word_tree) fun _ _ _ _ _ _ us hl => match us, hl with | [_], _ => rfl
  have q9 : FnF K (fa0 [("is_whole", f0), ("is_word", f1), ("look_at_word", f2), ("look_at_far", f3), ("look_at_words", f4), ("first_state", f5), ("next_state", f6), ("is_lost", f7), ("told_by", f8), ("word_tree", f9), ("tree_from", f10), ("tree_words", f11), ("walked", f12), ("walk_into", f13), ("near_in", f14), ("_law_draws", f15), ("_law_draw", f16), ("_law_pick", f17), ("_law_same", f18), ("_law_pool", f19), ("_law_far", f20), ("_law_tree", f21), ("law", fa)] [("BadPlan", C0)]) fsl f_word_tree f9 _ _ _ := ⟨by rfl, F9, sc_word_tree, b9, mt_word_tree, by decide⟩
  have F10 := fun_mk (st := s_tree_from) l10 c10 k10
  have b10 := F10.binds (ps := FnF.ps f_tree_from) fun _ _ _ _ _ _ us hl => match us, hl with | [_, _], _ => rfl
  have q10 : FnF K (fa0 [("is_whole", f0), ("is_word", f1), ("look_at_word", f2), ("look_at_far", f3), ("look_at_words", f4), ("first_state", f5), ("next_state", f6), ("is_lost", f7), ("told_by", f8), ("word_tree", f9), ("tree_from", f10), ("tree_words", f11), ("walked", f12), ("walk_into", f13), ("near_in", f14), ("_law_draws", f15), ("_law_draw", f16), ("_law_pick", f17), ("_law_same", f18), ("_law_pool", f19), ("_law_far", f20), ("_law_tree", f21), ("law", fa)] [("BadPlan", C0)]) fsl f_tree_from f10 _ _ _ := ⟨by rfl, F10, sc_tree_from, b10, mt_tree_from, by decide⟩
  have F11 := fun_mk (st := s_tree_words) l11 c11 k11
  have b11 := F11.binds (ps := FnF.ps f_tree_words) fun _ _ _ _ _ _ us hl => match us, hl with | [_], _ => rfl
  have q11 : FnF K (fa0 [("is_whole", f0), ("is_word", f1), ("look_at_word", f2), ("look_at_far", f3), ("look_at_words", f4), ("first_state", f5), ("next_state", f6), ("is_lost", f7), ("told_by", f8), ("word_tree", f9), ("tree_from", f10), ("tree_words", f11), ("walked", f12), ("walk_into", f13), ("near_in", f14), ("_law_draws", f15), ("_law_draw", f16), ("_law_pick", f17), ("_law_same", f18), ("_law_pool", f19), ("_law_far", f20), ("_law_tree", f21), ("law", fa)] [("BadPlan", C0)]) fsl f_tree_words f11 _ _ _ := ⟨by rfl, F11, sc_tree_words, b11, mt_tree_words, by decide⟩
  have F12 := fun_mk (st := s_walked) l12 c12 k12
  have b12 := F12.binds (ps := FnF.ps f_walked) fun _ _ _ _ _ _ us hl => match us, hl with | [_, _, _], _ => rfl
  have q12 : FnF K (fa0 [("is_whole", f0), ("is_word", f1), ("look_at_word", f2), ("look_at_far", f3), ("look_at_words", f4), ("first_state", f5), ("next_state", f6), ("is_lost", f7), ("told_by", f8), ("word_tree", f9), ("tree_from", f10), ("tree_words", f11), ("walked", f12), ("walk_into", f13), ("near_in", f14), ("_law_draws", f15), ("_law_draw", f16), ("_law_pick", f17), ("_law_same", f18), ("_law_pool", f19), ("_law_far", f20), ("_law_tree", f21), ("law", fa)] [("BadPlan", C0)]) fsl f_walked f12 _ _ _ := ⟨by rfl, F12, sc_walked, b12, mt_walked, by decide⟩
  have F13 := fun_mk (st := s_walk_into) l13 c13 k13
  have b13 := F13.binds (ps := FnF.ps f_walk_into) fun _ _ _ _ _ _ us hl => match us, hl with | [_, _, _, _, _, _], _ => rfl
  have q13 : FnF K (fa0 [("is_whole", f0), ("is_word", f1), ("look_at_word", f2), ("look_at_far", f3), ("look_at_words", f4), ("first_state", f5), ("next_state", f6), ("is_lost", f7), ("told_by", f8), ("word_tree", f9), ("tree_from", f10), ("tree_words", f11), ("walked", f12), ("walk_into", f13), ("near_in", f14), ("_law_draws", f15), ("_law_draw", f16), ("_law_pick", f17), ("_law_same", f18), ("_law_pool", f19), ("_law_far", f20), ("_law_tree", f21), ("law", fa)] [("BadPlan", C0)]) fsl f_walk_into f13 _ _ _ := ⟨by rfl, F13, sc_walk_into, b13, mt_walk_into, by decide⟩
  have F14 := fun_mk (st := s_near_in) l14 c14 k14
  have b14 := F14.binds (ps := FnF.ps f_near_in) fun _ _ _ _ _ _ us hl => match us, hl with | [_, _, _], _ => rfl
  have q14 : FnF K (fa0 [("is_whole", f0), ("is_word", f1), ("look_at_word", f2), ("look_at_far", f3), ("look_at_words", f4), ("first_state", f5), ("next_state", f6), ("is_lost", f7), ("told_by", f8), ("word_tree", f9), ("tree_from", f10), ("tree_words", f11), ("walked", f12), ("walk_into", f13), ("near_in", f14), ("_law_draws", f15), ("_law_draw", f16), ("_law_pick", f17), ("_law_same", f18), ("_law_pool", f19), ("_law_far", f20), ("_law_tree", f21), ("law", fa)] [("BadPlan", C0)]) fsl f_near_in f14 _ _ _ := ⟨by rfl, F14, sc_near_in, b14, mt_near_in, by decide⟩
  have F15 := fun_mk (st := s_law_draws) l15 c15 k15
  have b15 := F15.binds (ps := FnF.ps f_law_draws) fun _ _ _ _ _ _ us hl => match us, hl with | [_], _ => rfl
  have q15 : FnF K (fa0 [("is_whole", f0), ("is_word", f1), ("look_at_word", f2), ("look_at_far", f3), ("look_at_words", f4), ("first_state", f5), ("next_state", f6), ("is_lost", f7), ("told_by", f8), ("word_tree", f9), ("tree_from", f10), ("tree_words", f11), ("walked", f12), ("walk_into", f13), ("near_in", f14), ("_law_draws", f15), ("_law_draw", f16), ("_law_pick", f17), ("_law_same", f18), ("_law_pool", f19), ("_law_far", f20), ("_law_tree", f21), ("law", fa)] [("BadPlan", C0)]) fsl f_law_draws f15 _ _ _ := ⟨by rfl, F15, sc_law_draws, b15, mt_law_draws, by decide⟩
  have F16 := fun_mk (st := s_law_draw) l16 c16 k16
  have b16 := F16.binds (ps := FnF.ps f_law_draw) fun _ _ _ _ _ _ us hl => match us, hl with | [_, _], _ => rfl
  have q16 : FnF K (fa0 [("is_whole", f0), ("is_word", f1), ("look_at_word", f2), ("look_at_far", f3), ("look_at_words", f4), ("first_state", f5), ("next_state", f6), ("is_lost", f7), ("told_by", f8), ("word_tree", f9), ("tree_from", f10), ("tree_words", f11), ("walked", f12), ("walk_into", f13), ("near_in", f14), ("_law_draws", f15), ("_law_draw", f16), ("_law_pick", f17), ("_law_same", f18), ("_law_pool", f19), ("_law_far", f20), ("_law_tree", f21), ("law", fa)] [("BadPlan", C0)]) fsl f_law_draw f16 _ _ _ := ⟨by rfl, F16, sc_law_draw, b16, mt_law_draw, by decide⟩
  have F17 := fun_mk (st := s_law_pick) l17 c17 k17
  have b17 := F17.binds (ps := FnF.ps f_law_pick) fun _ _ _ _ _ _ us hl => match us, hl with | [_, _], _ => rfl
  have q17 : FnF K (fa0 [("is_whole", f0), ("is_word", f1), ("look_at_word", f2), ("look_at_far", f3), ("look_at_words", f4), ("first_state", f5), ("next_state", f6), ("is_lost", f7), ("told_by", f8), ("word_tree", f9), ("tree_from", f10), ("tree_words", f11), ("walked", f12), ("walk_into", f13), ("near_in", f14), ("_law_draws", f15), ("_law_draw", f16), ("_law_pick", f17), ("_law_same", f18), ("_law_pool", f19), ("_law_far", f20), ("_law_tree", f21), ("law", fa)] [("BadPlan", C0)]) fsl f_law_pick f17 _ _ _ := ⟨by rfl, F17, sc_law_pick, b17, mt_law_pick, by decide⟩
  have F18 := fun_mk (st := s_law_same) l18 c18 k18
  have b18 := F18.binds (ps := FnF.ps f_law_same) fun _ _ _ _ _ _ us hl => match us, hl with | [_, _], _ => rfl
  have q18 : FnF K (fa0 [("is_whole", f0), ("is_word", f1), ("look_at_word", f2), ("look_at_far", f3), ("look_at_words", f4), ("first_state", f5), ("next_state", f6), ("is_lost", f7), ("told_by", f8), ("word_tree", f9), ("tree_from", f10), ("tree_words", f11), ("walked", f12), ("walk_into", f13), ("near_in", f14), ("_law_draws", f15), ("_law_draw", f16), ("_law_pick", f17), ("_law_same", f18), ("_law_pool", f19), ("_law_far", f20), ("_law_tree", f21), ("law", fa)] [("BadPlan", C0)]) fsl f_law_same f18 _ _ _ := ⟨by rfl, F18, sc_law_same, b18, mt_law_same, by decide⟩
  have F19 := fun_mk (st := s_law_pool) l19 c19 k19
  have b19 := F19.binds (ps := FnF.ps f_law_pool) fun _ _ _ _ _ _ us hl => match us, hl with | [], _ => rfl
  have q19 : FnF K (fa0 [("is_whole", f0), ("is_word", f1), ("look_at_word", f2), ("look_at_far", f3), ("look_at_words", f4), ("first_state", f5), ("next_state", f6), ("is_lost", f7), ("told_by", f8), ("word_tree", f9), ("tree_from", f10), ("tree_words", f11), ("walked", f12), ("walk_into", f13), ("near_in", f14), ("_law_draws", f15), ("_law_draw", f16), ("_law_pick", f17), ("_law_same", f18), ("_law_pool", f19), ("_law_far", f20), ("_law_tree", f21), ("law", fa)] [("BadPlan", C0)]) fsl f_law_pool f19 _ _ _ := ⟨by rfl, F19, sc_law_pool, b19, mt_law_pool, by decide⟩
  have F20 := fun_mk (st := s_law_far) l20 c20 k20
  have b20 := F20.binds (ps := FnF.ps f_law_far) fun _ _ _ _ _ _ us hl => match us, hl with | [_, _], _ => rfl
  have q20 : FnF K (fa0 [("is_whole", f0), ("is_word", f1), ("look_at_word", f2), ("look_at_far", f3), ("look_at_words", f4), ("first_state", f5), ("next_state", f6), ("is_lost", f7), ("told_by", f8), ("word_tree", f9), ("tree_from", f10), ("tree_words", f11), ("walked", f12), ("walk_into", f13), ("near_in", f14), ("_law_draws", f15), ("_law_draw", f16), ("_law_pick", f17), ("_law_same", f18), ("_law_pool", f19), ("_law_far", f20), ("_law_tree", f21), ("law", fa)] [("BadPlan", C0)]) fsl f_law_far f20 _ _ _ := ⟨by rfl, F20, sc_law_far, b20, mt_law_far, by decide⟩
  have F21 := fun_mk (st := s_law_tree) l21 c21 k21
  have b21 := F21.binds (ps := FnF.ps f_law_tree) fun _ _ _ _ _ _ us hl => match us, hl with | [_, _], _ => rfl
  have q21 : FnF K (fa0 [("is_whole", f0), ("is_word", f1), ("look_at_word", f2), ("look_at_far", f3), ("look_at_words", f4), ("first_state", f5), ("next_state", f6), ("is_lost", f7), ("told_by", f8), ("word_tree", f9), ("tree_from", f10), ("tree_words", f11), ("walked", f12), ("walk_into", f13), ("near_in", f14), ("_law_draws", f15), ("_law_draw", f16), ("_law_pick", f17), ("_law_same", f18), ("_law_pool", f19), ("_law_far", f20), ("_law_tree", f21), ("law", fa)] [("BadPlan", C0)]) fsl f_law_tree f21 _ _ _ := ⟨by rfl, F21, sc_law_tree, b21, mt_law_tree, by decide⟩
  have F22 := fun_mk (st := s_law) l22 c22 k22
  have b22 := F22.binds (ps := FnF.ps f_law) fun _ _ _ _ _ _ us hl => match us, hl with | [_], _ => rfl
  have q22 : FnF K (fa0 [("is_whole", f0), ("is_word", f1), ("look_at_word", f2), ("look_at_far", f3), ("look_at_words", f4), ("first_state", f5), ("next_state", f6), ("is_lost", f7), ("told_by", f8), ("word_tree", f9), ("tree_from", f10), ("tree_words", f11), ("walked", f12), ("walk_into", f13), ("near_in", f14), ("_law_draws", f15), ("_law_draw", f16), ("_law_pick", f17), ("_law_same", f18), ("_law_pool", f19), ("_law_far", f20), ("_law_tree", f21), ("law", fa)] [("BadPlan", C0)]) fsl f_law fa _ _ _ := ⟨by rfl, F22, sc_law, b22, mt_law, by decide⟩
  have hp : PrF prog K mg (fa0 [("is_whole", f0), ("is_word", f1), ("look_at_word", f2), ("look_at_far", f3), ("look_at_words", f4), ("first_state", f5), ("next_state", f6), ("is_lost", f7), ("told_by", f8), ("word_tree", f9), ("tree_from", f10), ("tree_words", f11), ("walked", f12), ("walk_into", f13), ("near_in", f14), ("_law_draws", f15), ("_law_draw", f16), ("_law_pick", f17), ("_law_same", f18), ("_law_pool", f19), ("_law_far", f20), ("_law_tree", f21), ("law", fa)] [("BadPlan", C0)]) fsl := by
    refine .by (fun F hF => ?_) (fun p hp => ?_) (fun b hb => ?_) (fun p hp => ?_) (fun f hf => ?_) (fun p hp => ?_) rfl (fun P w base q hq => ?_) (fun q hq p hp C hC => ?_) (fun q hq => ?_)
    · simp only [prog, List.mem_cons, List.not_mem_nil, or_false] at hF
      rcases hF with rfl | rfl | rfl | rfl | rfl | rfl | rfl | rfl | rfl | rfl | rfl | rfl | rfl | rfl | rfl | rfl | rfl | rfl | rfl | rfl | rfl | rfl | rfl
      · exact ⟨_, _, _, _, q0⟩
      · exact ⟨_, _, _, _, q1⟩
      · exact ⟨_, _, _, _, q2⟩
      · exact ⟨_, _, _, _, q3⟩
      · exact ⟨_, _, _, _, q4⟩
      · exact ⟨_, _, _, _, q5⟩
      · exact ⟨_, _, _, _, q6⟩
      · exact ⟨_, _, _, _, q7⟩
      · exact ⟨_, _, _, _, q8⟩
      · exact ⟨_, _, _, _, q9⟩
      · exact ⟨_, _, _, _, q10⟩
      · exact ⟨_, _, _, _, q11⟩
      · exact ⟨_, _, _, _, q12⟩
      · exact ⟨_, _, _, _, q13⟩
      · exact ⟨_, _, _, _, q14⟩
      · exact ⟨_, _, _, _, q15⟩
      · exact ⟨_, _, _, _, q16⟩
      · exact ⟨_, _, _, _, q17⟩
      · exact ⟨_, _, _, _, q18⟩
      · exact ⟨_, _, _, _, q19⟩
      · exact ⟨_, _, _, _, q20⟩
      · exact ⟨_, _, _, _, q21⟩
      · exact ⟨_, _, _, _, q22⟩
    · simp only [List.mem_cons, List.not_mem_nil, or_false] at hp
      rcases hp with rfl | rfl | rfl | rfl | rfl | rfl | rfl | rfl | rfl | rfl | rfl | rfl | rfl | rfl | rfl | rfl | rfl | rfl | rfl | rfl | rfl | rfl | rfl
      · exact PySem.W.mg_of X G a0
      · exact PySem.W.mg_of X G a1
      · exact PySem.W.mg_of X G a2
      · exact PySem.W.mg_of X G a3
      · exact PySem.W.mg_of X G a4
      · exact PySem.W.mg_of X G a5
      · exact PySem.W.mg_of X G a6
      · exact PySem.W.mg_of X G a7
      · exact PySem.W.mg_of X G a8
      · exact PySem.W.mg_of X G a9
      · exact PySem.W.mg_of X G a10
      · exact PySem.W.mg_of X G a11
      · exact PySem.W.mg_of X G a12
      · exact PySem.W.mg_of X G a13
      · exact PySem.W.mg_of X G a14
      · exact PySem.W.mg_of X G a15
      · exact PySem.W.mg_of X G a16
      · exact PySem.W.mg_of X G a17
      · exact PySem.W.mg_of X G a18
      · exact PySem.W.mg_of X G a19
      · exact PySem.W.mg_of X G a20
      · exact PySem.W.mg_of X G a21
      · exact PySem.W.mg_of X G a22
    · simp only [bnames, List.mem_cons, List.not_mem_nil, or_false] at hb
      rcases hb with rfl | rfl | rfl | rfl | rfl | rfl | rfl | rfl | rfl | rfl | rfl | rfl | rfl | rfl | rfl | rfl | rfl | rfl | rfl | rfl
      · exact PySem.W.mg_none_of X G z0
      · exact PySem.W.mg_none_of X G z1
      · exact PySem.W.mg_none_of X G z2
      · exact PySem.W.mg_none_of X G z3
      · exact PySem.W.mg_none_of X G z4
      · exact PySem.W.mg_none_of X G z5
      · exact PySem.W.mg_none_of X G z6
      · exact PySem.W.mg_none_of X G z7
      · exact PySem.W.mg_none_of X G z8
      · exact PySem.W.mg_none_of X G z9
      · exact PySem.W.mg_none_of X G z10
      · exact PySem.W.mg_none_of X G z11
      · exact PySem.W.mg_none_of X G z12
      · exact PySem.W.mg_none_of X G z13
      · exact PySem.W.mg_none_of X G z14
      · exact PySem.W.mg_none_of X G z15
      · exact PySem.W.mg_none_of X G z16
      · exact PySem.W.mg_none_of X G z17
      · exact PySem.W.mg_none_of X G z18
      · exact PySem.W.mg_none_of X G z19
    · simp only [prog, List.mem_cons, List.not_mem_nil, or_false] at hp
      rcases hp with rfl | rfl | rfl
      · exact ⟨.str (toS [97, 98, 99, 100, 101, 102, 103, 104, 105, 106, 107, 108, 109, 110, 111, 112, 113, 114, 115, 116, 117, 118, 119, 120, 121, 122, 65, 66, 67, 68, 69, 70, 71, 72, 73, 74, 75, 76, 77, 78, 79, 80, 81, 82, 83, 84, 85, 86, 87, 88, 89, 90, 48, 49, 50, 51, 52, 53, 54, 55, 56, 57]), _, PySem.W.mg_of X G cst0, ⟨u0, congrArg (fun s => Value.str s u0) c_RUNS⟩, fun _ _ => .str _ (by decide)⟩
      · exact ⟨.int 24, _, PySem.W.mg_of X G cst1, ⟨u1, rfl⟩, fun _ _ => .int _⟩
      · exact ⟨.int 3, _, PySem.W.mg_of X G cst2, ⟨u2, rfl⟩, fun _ _ => .int _⟩
    · simp only [fsl, List.mem_cons, List.not_mem_nil, or_false] at hf
      rcases hf with rfl | rfl | rfl | rfl | rfl | rfl | rfl | rfl | rfl | rfl | rfl | rfl | rfl | rfl | rfl | rfl | rfl | rfl | rfl | rfl | rfl | rfl | rfl <;> exact ⟨_, rfl⟩
    · simp only [List.mem_cons, List.not_mem_nil, or_false] at hp
      rcases hp with rfl | rfl | rfl | rfl | rfl | rfl | rfl | rfl | rfl | rfl | rfl | rfl | rfl | rfl | rfl | rfl | rfl | rfl | rfl | rfl | rfl | rfl | rfl <;> simp [fsl]
    · simp only [fsl, List.mem_cons, List.not_mem_nil, or_false] at hq
      rcases hq with rfl
      · exact ⟨C0, rfl, xo0 P w base⟩
    · simp only [fsl, List.mem_cons, List.not_mem_nil, or_false] at hq hp
      rcases hq with rfl <;> rcases hp with rfl
      · cases hC; exact exm_mk cl0 xq0_0
    · simp only [fsl, List.mem_cons, List.not_mem_nil, or_false] at hq
      rcases hq with rfl
      · exact ⟨C0, rfl, sub_mk mS sbn0 sbh sbt sbs0⟩
  exact ⟨_, fun s v => .of_eq rfl, fun base _ _ => law_ok hp rfl q22 rfl⟩
end
end Mp.K61
open PySem PySem.W PyProof.Rows
set_option maxHeartbeats 0 in
theorem PySem.Challenge.cw_seekwright_k61_whole_walks_of_trees_holds : PySem.Challenge.rw_seekwright_k61_whole_walks_of_trees.Holds := by
  w_on; o_law; k_head; (case hw => w_witness2)
  k_fill
  refine Mp.walk_ofM (l := PySem.Challenge.rw_seekwright_k61_whole_walks_of_trees) (n := 63) (k := 121) (x := "script") (Pg := Mp.K61.prog) rfl (by decide) rfl ⟨rfl, by decide, by decide⟩ (fun w h Y => PySem.W.kIn_of Y) Mp.K61.law_holds ?F
  case F =>
    intro w mg fa h KX G hmg
    refine' Mp.K61.all_mk KX G hmg ?a0 ?l0 ?c0 ?k0 ?a1 ?l1 ?c1 ?k1 ?a2 ?l2 ?c2 ?k2 ?a3 ?l3 ?c3 ?k3 ?a4 ?l4 ?c4 ?k4 ?a5 ?l5 ?c5 ?k5 ?a6 ?l6 ?c6 ?k6 ?a7 ?l7 ?c7 ?k7 ?a8 ?l8 ?c8 ?k8 ?a9 ?l9 ?c9 ?k9 ?a10 ?l10 ?c10 ?k10 ?a11 ?l11 ?c11 ?k11 ?a12 ?l12 ?c12 ?k12 ?a13 ?l13 ?c13 ?k13 ?a14 ?l14 ?c14 ?k14 ?a15 ?l15 ?c15 ?k15 ?a16 ?l16 ?c16 ?k16 ?a17 ?l17 ?c17 ?k17 ?a18 ?l18 ?c18 ?k18 ?a19 ?l19 ?c19 ?k19 ?a20 ?l20 ?c20 ?k20 ?a21 ?l21 ?c21 ?k21 ?a22 ?l22 ?c22 ?k22 ?aS ?sp ?rd ?fi ?xa0 ?xl0 ?xr0 ?xs0 ?xe0 ?xt0 ?xp0 ?xg0 ?xh0 ?xd0 ?xm0 ?xn0 ?xi0 ?xy0 ?xL0 ?xc0 ?xk0 ?xq0_0 ?sbh ?sbt ?sbn0 ?sbs0 ?cst0 ?cst1 ?cst2 ?z0 ?z1 ?z2 ?z3 ?z4 ?z5 ?z6 ?z7 ?z8 ?z9 ?z10 ?z11 ?z12 ?z13 ?z14 ?z15 ?z16 ?z17 ?z18 ?z19
    (case a0 => k_is)
    (case l0 => k_is)
    (case c0 => k_is)
    (case k0 => k_is)
    (case a1 => k_is)
    (case l1 => k_is)
    (case c1 => k_is)
    (case k1 => k_is)
    (case a2 => k_is)
    (case l2 => k_is)
    (case c2 => k_is)
    (case k2 => k_is)
    (case a3 => k_is)
    (case l3 => k_is)
    (case c3 => k_is)
    (case k3 => k_is)
    (case a4 => k_is)
    (case l4 => k_is)
    (case c4 => k_is)
    (case k4 => k_is)
    (case a5 => k_is)
    (case l5 => k_is)
    (case c5 => k_is)
    (case k5 => k_is)
    (case a6 => k_is)
    (case l6 => k_is)
    (case c6 => k_is)
    (case k6 => k_is)
    (case a7 => k_is)
    (case l7 => k_is)
    (case c7 => k_is)
    (case k7 => k_is)
    (case a8 => k_is)
    (case l8 => k_is)
    (case c8 => k_is)
    (case k8 => k_is)
    (case a9 => k_is)
    (case l9 => k_is)
    (case c9 => k_is)
    (case k9 => k_is)
    (case a10 => k_is)
    (case l10 => k_is)
    (case c10 => k_is)
    (case k10 => k_is)
    (case a11 => k_is)
    (case l11 => k_is)
    (case c11 => k_is)
    (case k11 => k_is)
    (case a12 => k_is)
    (case l12 => k_is)
    (case c12 => k_is)
    (case k12 => k_is)
    (case a13 => k_is)
    (case l13 => k_is)
    (case c13 => k_is)
    (case k13 => k_is)
    (case a14 => k_is)
    (case l14 => k_is)
    (case c14 => k_is)
    (case k14 => k_is)
    (case a15 => k_is)
    (case l15 => k_is)
    (case c15 => k_is)
    (case k15 => k_is)
    (case a16 => k_is)
    (case l16 => k_is)
    (case c16 => k_is)
    (case k16 => k_is)
    (case a17 => k_is)
    (case l17 => k_is)
    (case c17 => k_is)
    (case k17 => k_is)
    (case a18 => k_is)
    (case l18 => k_is)
    (case c18 => k_is)
    (case k18 => k_is)
    (case a19 => k_is)
    (case l19 => k_is)
    (case c19 => k_is)
    (case k19 => k_is)
    (case a20 => k_is)
    (case l20 => k_is)
    (case c20 => k_is)
    (case k20 => k_is)
    (case a21 => k_is)
    (case l21 => k_is)
    (case c21 => k_is)
    (case k21 => k_is)
    (case a22 => k_is)
    (case l22 => k_is)
    (case c22 => k_is)
    (case k22 => k_is)
    (case aS => k_is)
    (case sp => k_is)
    (case rd => k_is)
    (case fi => k_is)
    (case xa0 => k_is)
    (case xl0 => k_is)
    (case xr0 => rfl)
    (case xs0 => k_is)
    (case xe0 => k_is)
    (case xt0 => k_is)
    (case xp0 => k_is)
    (case xg0 => k_is)
    (case xh0 => k_is)
    (case xd0 => k_is)
    (case xm0 => k_is)
    (case xn0 => k_is)
    (case xi0 => k_is)
    (case xy0 => k_is)
    (case xL0 => k_is)
    (case xc0 => k_is)
    (case xk0 => k_is)
    (case xq0_0 => k_is)
    (case sbh => k_is)
    (case sbt => k_is)
    (case sbn0 => decide)
    (case sbs0 => k_is)
    (case cst0 => k_is)
    (case cst1 => k_is)
    (case cst2 => k_is)
    (case z0 => k_is)
    (case z1 => k_is)
    (case z2 => k_is)
    (case z3 => k_is)
    (case z4 => k_is)
    (case z5 => k_is)
    (case z6 => k_is)
    (case z7 => k_is)
    (case z8 => k_is)
    (case z9 => k_is)
    (case z10 => k_is)
    (case z11 => k_is)
    (case z12 => k_is)
    (case z13 => k_is)
    (case z14 => k_is)
    (case z15 => k_is)
    (case z16 => k_is)
    (case z17 => k_is)
    (case z18 => k_is)
    (case z19 => k_is)
end SK61z
