import PyProof.Rows.All
import Wide.All
import OpenK.AllK
import Wide.FinOn
import HandS.ForMost
import HandS.Lambda
import HandS.SortKw
import HandS.TupAny
import HandS.TupMul
import HandS.IsInst
import HandS.Style
import HandS.Zip
import HandS.Walk
import HandS.Wide
import HandS.Conv
import HandS.More
import HandS.ExcCtx
import HandS.ExcIs
import HandS.ExcOwn
import HandS.Deep
import HandS.SortInts
import KE.DataCmp
import KE.KDictKeyed
import KE.DataMinMax
import HandS.TupSets
import HandS.HeadWalk
import HandS.SetFor
import HandS.Strs
import HandS.Nested
import KE.GoesEnum
import HandS.Small
import KE.KDictDisplayH
import KE.KDictPairs
import KE.GoesDict
import KE.SortData
import KE.KRevIter
import HandS.SortOrd
import PyProof.TupleOfSeq
import HandS.Rev
import KE.GoesRev
import KE.KDictSum
import HandS.TupLen
import HandS.Iter
import HandS.CallLocal
import PyProof.StrOps2
import HandS.SuiteRaise
import HandS.RaiseFrom
import HandS.ExcBuiltin
import HandS.Defaults
import HandS.Head0
import HandS.Head1
import HandS.Head2
import HandS.HeadHook1
import HandS.HeadHook2
import HandS.EndTab
import KE.KStateDown
import KE.KNestM
import HandS.HeadHook3
import PySem.Challenge.RW_hearsaybook_k73_towns_written
set_option Elab.async false
set_option linter.all false
set_option maxRecDepth 100000
set_option maxHeartbeats 4000000
/-! Z0: sorted by a key that gives pairs of whole numbers; calls of a lambda of one name. -/
namespace Z
open PySem PySem.Spec PyProof.Rows SrtO

/-- all objects of a heap stand in another one -/
abbrev Grown (h h' : Heap) : Prop := ∀ b o, h.get? b = some o → h'.get? b = some o
/-- .. but those at a -/
abbrev GrownBut (a : Addr) (h h' : Heap) : Prop := ∀ b o, b ≠ a → h.get? b = some o → h'.get? b = some o

section
variable {prog : Program} {w : World} {A : Around} {E : Value → Shared → Prop} {s : Shared}
/-- f tells of v the pair (x, y), wherever the objects of h0 stand -/
def KeyOf (prog : Program) (w : World) (A : Around) (f : Value) (h0 : Heap) (v : Value) (q : Int × Int) : Prop :=
  ∀ (s : Shared) (E : Value → Shared → Prop), Grown h0 s.heap → wpAny (model prog w) A (call f [v]) (fun r s' => ∃ h' tk, s' = { s with heap := h', toks := tk } ∧ Grown s.heap h' ∧ Srt.IsPair h' r q.1 q.2) E s

/-- which pair stands at a value -/
noncomputable def pairAt (h : Heap) (v : Value) : Int × Int := by
  classical exact if p : ∃ q : Int × Int, Srt.IsPair h v q.1 q.2 then p.choose else (0, 0)
theorem isPair_inj {h : Heap} {v : Value} {x y x' y' : Int} (p : Srt.IsPair h v x y) (q : Srt.IsPair h v x' y') : x = x' ∧ y = y' := by
  obtain ⟨a, o, t, u, n, rfl, ho, _, hd⟩ := p
  obtain ⟨a', o', t', u', n', e, ho', _, hd'⟩ := q
  cases e
  rw [ho] at ho'
  cases ho'
  rw [hd] at hd'
  cases hd'
  exact ⟨rfl, rfl⟩
theorem pairAt_eq {h : Heap} {v : Value} {q : Int × Int} (p : Srt.IsPair h v q.1 q.2) : pairAt h v = q := by
  have e : ∃ q : Int × Int, Srt.IsPair h v q.1 q.2 := ⟨q, p⟩
  unfold pairAt
  rw [dif_pos e]
  obtain ⟨a, b⟩ := isPair_inj e.choose_spec p
  exact Prod.ext a b

theorem upd_but {h : Heap} {a b : Addr} {o : Obj} {g : Obj → Obj} (hb : b ≠ a) (e : h.get? b = some o) : (h.update a g).get? b = some o := (Heap.get?_update_ne _ _ _ _ hb).trans e

/-- how the keys made so far stand -/
structure KeysAt (h : Heap) (vs : List Value) (k : Value → Int × Int) (n : Nat) (ks : List Value) : Prop where
  len : ks.length = n
  at_ : ∀ (i : Nat) (u v : Value), ks[i]? = some u → vs[i]? = some v → Srt.IsPair h u (k v).1 (k v).2
theorem KeysAt.grow {h h' : Heap} {vs ks : List Value} {k : Value → Int × Int} {n : Nat} (x : KeysAt h vs k n ks) (g : ∀ b o, h.get? b = some o → o.cls = .type "tuple" → h'.get? b = some o) : KeysAt h' vs k n ks :=
  ⟨x.len, fun i u v hu hv => (x.at_ i u v hu hv).keeps g⟩
theorem KeysAt.snoc {h : Heap} {vs ks : List Value} {k : Value → Int × Int} {n : Nat} {u v : Value} (x : KeysAt h vs k n ks) (hv : vs[n]? = some v) (p : Srt.IsPair h u (k v).1 (k v).2) : KeysAt h vs k (n + 1) (ks ++ [u]) := by
  refine ⟨by simp [x.len], fun i u' v' hu hv' => ?_⟩
  rw [List.getElem?_append] at hu
  split at hu
  · exact x.at_ i u' v' hu hv'
  · rename_i hi
    have e : i = n := by
      have := x.len
      by_cases q : i - ks.length = 0
      · omega
      · rw [List.getElem?_singleton, if_neg q] at hu
        cases hu
    subst e
    rw [x.len, Nat.sub_self] at hu
    simp at hu
    subst hu
    rw [hv] at hv'
    cases hv'
    exact p

/-- the items in the order of their keys -/
def ByKey (k : Value → Int × Int) (vs out : List Value) : Prop := out.Perm vs ∧ out.Pairwise fun u v => lexB (k v) (k u) = false

theorem byKey_of {h : Heap} {vs : List Value} {k : Value → Int × Int} {keys : Array Value} (x : KeysAt h vs k vs.length keys.toList) {xs : Array Keyed} (hs : Srtd (fun p q : Keyed => lexB (pairAt h p.1) (pairAt h q.1)) xs.toList)
    (hp : xs.toList.Perm (keys.zip vs.toArray).toList) : ByKey k vs (xs.map (·.2)).toList := by
  rw [ksk_zip] at hp
  have all : ∀ p ∈ xs.toList, pairAt h p.1 = k p.2 := fun p hm => by
    obtain ⟨i, hi, e⟩ := List.getElem_of_mem (hp.mem_iff.mp hm)
    have hl : i < (keys.toList.zip vs).length := hi
    rw [List.length_zip] at hl
    have e1 : keys.toList[i]? = some p.1 := by
      rw [List.getElem?_eq_getElem (by omega)]
      rw [List.getElem_zip] at e
      rw [← e]
    have e2 : vs[i]? = some p.2 := by
      rw [List.getElem?_eq_getElem (by omega)]
      rw [List.getElem_zip] at e
      rw [← e]
    exact pairAt_eq (x.at_ i p.1 p.2 e1 e2)
  have hl : keys.toList.length = vs.length := x.len
  constructor
  · rw [Array.toList_map]
    have := hp.map (fun p : Keyed => p.2)
    rw [List.map_snd_zip (by omega)] at this
    exact this
  · rw [Array.toList_map, List.pairwise_map]
    refine hs.imp_of_mem fun {p q} hp' hq' e => ?_
    have e : lexB (pairAt h q.1) (pairAt h p.1) = false := e
    rw [all p hp', all q hq'] at e
    exact e

theorem key_sort {a : Addr} {vs : List Value} {n : Nat} {f : Value} {h0 : Heap} {k : Value → Int × Int} {R : PySem.Fin → Shared → Prop} (ho : s.heap.get? a = some (seqObj "list" vs.toArray n)) (hz : vs.length ≤ sizeLine)
    (k0 : ∀ b o, h0.get? b = some o → b ≠ a ∧ s.heap.get? b = some o) (hf : ∀ v ∈ vs, KeyOf prog w A f h0 v (k v))
    (h : ∀ h' tk out c, GrownBut a s.heap h' → h'.get? a = some (seqObj "list" out c) → ByKey k vs out.toList → R (.done (.ret .none)) { s with heap := h', toks := tk }) :
    wpAny (model prog w) A (ksk_tree a f false) R E s := by
  have hza : vs.toArray.size ≤ sizeLine := by rw [List.size_toArray]; exact hz
  -- the list is emptied; what it held and the keys' store are laid
  let e0 : Heap := s.heap.update a (Obj.mapSeq fun _ => (#[] : Array Value))
  obtain ⟨c1, h1⟩ : ∃ c1, e0.get? a = some (seqObj "list" #[] c1) := ⟨_, get?_update_seq ho fun _ => #[]⟩
  let S : Addr := (e0.push (seqObj "tuple" vs.toArray 0)).objs.size
  let e1 : Heap := (e0.push (seqObj "tuple" vs.toArray 0)).push (seqObj "list" #[] 0)
  have g1 : GrownBut a s.heap e1 := fun b o hb q => Heap.get?_push_of_some _ (Heap.get?_push_of_some _ (upd_but hb q))
  have a1 : e1.get? a = some (seqObj "list" #[] c1) := Heap.get?_push_of_some _ (Heap.get?_push_of_some _ h1)
  have hS : e1.get? S = some (seqObj "list" #[] 0) := Heap.get?_push_size _ rfl
  have lt : ∀ b o, s.heap.get? b = some o → b < S := fun b o q => by
    have l := Heap.lt_size q
    show b < (e0.push _).objs.size
    rw [Heap.size_push]
    show b < (s.heap.update a _).objs.size + 1
    rw [Heap.size_update]
    exact Nat.lt_succ_of_lt l
  have aS : a ≠ S := Nat.ne_of_lt (lt a _ ho)
  unfold ksk_tree
  refine wpAny_bind (listItems_at ho rfl ?_)
  refine wpAny_bind (listUpdate_at ho rfl ?_ hza (Nat.zero_le _))
  refine wpAny_bind (seqEpoch_at (s := { s with heap := e0 }) h1 rfl ?_)
  refine wpAny_bind (wpAny_newTuple ?_ hz)
  refine wpAny_bind (wpAny_newList ?_ (Nat.zero_le _))
  refine wpAny_holding ?_
  show wpAny (model prog w) A (ksk_rest a f false vs.toArray c1 (.ref S)) R E { s with heap := e1 }
  unfold ksk_rest
  refine wpAny_bind (wpAny_rule ?_)
  rw [List.forIn_toArray]
  -- the keys, one by one
  refine wpAny_bind (ksk_fold (fun j s' => ∃ h' tk ks c, s' = { s with heap := h', toks := tk } ∧ (∀ b o, b ≠ S → e1.get? b = some o → h'.get? b = some o) ∧ h'.get? S = some (seqObj "list" ks c) ∧ KeysAt h' vs k j ks.toList) vs 0 { s with heap := e1 }
    ⟨e1, s.toks, #[], 0, rfl, fun _ _ _ q => q, hS, ⟨rfl, fun i u v hu _ => by simp at hu⟩⟩ ?step ?done)
  case step =>
    rintro j v s' hv ⟨h', tk, ks, c, rfl, g, hk, x⟩
    rw [Nat.zero_add] at x ⊢
    have hj : j < vs.length := (List.getElem?_eq_some_iff.mp hv).1
    have hks : ks.size = j := by rw [← Array.length_toList]; exact x.len
    refine wpAny_bind (wpAny_attempt (wpAny_mono (hf v (List.mem_of_getElem? hv) { s with heap := h', toks := tk } (fun _ _ => False) fun b o q => ?_) (fun r s2 ⟨h2, tk2, e2, g2, p⟩ => ?_) fun _ _ q => q.elim))
    · obtain ⟨n1, q1⟩ := k0 b o q
      exact g b o (Nat.ne_of_lt (lt b o q1)) (g1 b o n1 q1)
    · subst e2
      have k2 := g2 S _ hk
      try dsimp only
      refine wpAny_bind (listUpdate_at (s := { s with heap := h2, toks := tk2 }) k2 rfl ?_ (by omega) (by rw [Array.size_push]; omega))
      refine wpAny_pure ⟨rfl, _, _, ks.push r, _, rfl, fun b o hb q => upd_but hb (g2 b o (g b o hb q)), get?_update_seq k2 (·.push r), ?_⟩
      rw [Array.toList_push]
      refine (x.grow (h' := h2) fun b o q _ => g2 b o q).snoc hv p |>.grow fun b o q c => ?_
      refine upd_but (fun z => ?_) q
      subst z
      rw [k2] at q
      cases q
      exact absurd (Value.type.inj c) (by decide)
  case done =>
    rintro s' ⟨h', tk, ks, c, rfl, g, hk, x⟩
    rw [Nat.zero_add] at x
    have hks : ks.toList.length = vs.length := x.len
    have hks2 : ks.size = vs.length := by rw [← Array.length_toList]; exact hks
    try dsimp only
    refine wpAny_bind (listItems_at (s := { s with heap := h', toks := tk }) hk rfl ?_)
    have ha : h'.get? a = some (seqObj "list" #[] c1) := g a _ aS a1
    -- the end, whatever the sorted pairs
    have fin : ∀ st : SortSt, Srtd (fun p q : Keyed => lexB (pairAt h' p.1) (pairAt h' q.1)) (arrOf st).toList → (arrOf st).toList.Perm (ks.zip vs.toArray).toList → failedOf st = none →
        wpAny (model prog w) A (ksk_tail a false c1 (.ref S) st) R E { s with heap := h', toks := tk } := fun st s1 p1 f1 => by
      have B := byKey_of x s1 p1
      have hout : ((arrOf st).map (·.2)).size ≤ sizeLine + 1 := by
        have := B.1.length_eq
        rw [Array.length_toList] at this
        omega
      have na : (h'.update S (Obj.mapSeq fun _ => (#[] : Array Value))).get? a = some (seqObj "list" #[] c1) := upd_but aS ha
      unfold ksk_tail
      try dsimp only
      refine wpAny_bind (listUpdate_at (s := { s with heap := h', toks := tk }) hk rfl ?_ (by omega) (Nat.zero_le _))
      refine wpAny_bind (wpAny_letGo ?_)
      refine wpAny_bind (seqEpoch_at (s := { s with heap := h'.update S (Obj.mapSeq fun _ => (#[] : Array Value)), toks := tk }) na rfl ?_)
      refine wpAny_bind (listUpdate_at (s := { s with heap := h'.update S (Obj.mapSeq fun _ => (#[] : Array Value)), toks := tk }) na rfl ?_ (Nat.zero_le _) hout)
      rw [f1]
      simp only [bne_self_eq_false, Bool.false_eq_true, if_false]
      refine wpAny_pure (h _ _ _ _ (fun b o hb q => ?_) (get?_update_seq na fun _ => (arrOf st).map (·.2)) B)
      exact upd_but hb (upd_but (Nat.ne_of_lt (lt b o q)) (g b o (Nat.ne_of_lt (lt b o q)) (g1 b o hb q)))
    have hzs : (ks.zip vs.toArray).toList.length = vs.length := by rw [ksk_zip, List.length_zip]; omega
    unfold ksk_end
    try dsimp only
    simp only [Bool.false_eq_true, if_false]
    by_cases h2 : vs.toArray.size < 2
    · rw [if_pos h2, if_pos h2]
      refine wpAny_bind (wpAny_pure ?_)
      rw [StateT.run_pure]
      refine wpAny_bind (wpAny_pure ?_)
      refine fin (SortSt.mk' general' (ks.zip vs.toArray) #[] 7 none) ?_ (List.Perm.refl _) rfl
      rw [List.size_toArray] at h2
      show ((ks.zip vs.toArray).toList).Pairwise _
      generalize hq : (ks.zip vs.toArray).toList = l at hzs
      match l, hzs with
      | [], _ => exact .nil
      | [p], _ => exact List.pairwise_singleton _ _
      | _ :: _ :: _, e => simp at e; omega
    · rw [if_neg h2, if_neg h2]
      rw [List.size_toArray] at h2
      -- the keys may be compared: pairs all
      have hp : ∀ u ∈ ks.toList, Srt.IsPair h' u (pairAt h' u).1 (pairAt h' u).2 := fun u hu => by
        obtain ⟨i, hi, e⟩ := List.getElem_of_mem hu
        have hv : i < vs.length := by omega
        have p := x.at_ i u vs[i] (by rw [List.getElem?_eq_getElem hi, e]) (List.getElem?_eq_getElem hv)
        rw [pairAt_eq p]
        exact p
      obtain ⟨κ, kind, cmp⟩ := pairs_sortableO (prog := prog) (w := w) (A := A) (s := { s with heap := h', toks := tk }) (a := a) (vs := ks.toList) (k := pairAt h') (by omega) hp (fun o q => by
        rw [ha] at q
        cases q
        exact fun z => absurd (Value.type.inj z) (by decide)) h' fun _ _ _ q => q
      rw [Array.toArray_toList] at kind
      refine wpAny_bind (kind _ _ ?_)
      refine wpAny_bind (wpAny_mono (wpS_sortO (st0 := SortSt.mk' κ (ks.zip vs.toArray) #[] 7 none) (Q := fun _ st' => Srtd (fun p q : Keyed => lexB (pairAt h' p.1) (pairAt h' q.1)) (arrOf st').toList ∧ (arrOf st').toList.Perm (ks.zip vs.toArray).toList ∧ failedOf st' = none)
        (swo2 (swo_lex (pairAt h'))) cmp rfl (fun p hm => ?_) rfl rfl fun st' b1 b2 b3 => ⟨b1, b2.perm, b3⟩) ?_ fun _ _ e => e)
      · have hm : p ∈ (ks.zip vs.toArray).toList := hm
        rw [ksk_zip] at hm
        exact (List.of_mem_zip (show (p.1, p.2) ∈ _ from hm)).1
      · rintro ⟨⟨⟩, st'⟩ s' ⟨rfl, q1, q2, q3⟩
        exact fin st' q1 q2 q3

/-- sorted(l, key=f) -/
theorem sorted_by {l q : Addr} {vs : List Value} {k : Value → Int × Int} {Q : Value → Shared → Prop} (hl : s.heap.IsList l vs.toArray) (hz : vs.length ≤ sizeLine) (hf : ∀ v ∈ vs, KeyOf prog w A.in1.in1 (.ref q) s.heap v (k v))
    (h : ∀ h' tk d out c, Grown s.heap h' → s.heap.objs.size ≤ d → h'.get? d = some (seqObj "list" out c) → ByKey k vs out.toList → Q (.ref d) { s with heap := h', toks := tk }) :
    wpAny (model prog w) A (call (.builtin "sorted") [.ref l] [(Str.ofString "key", .ref q)]) Q E s := by
  -- the items are told into a list, that one into the one to be sorted
  let g1 : Heap := (s.heap.push (seqObj "list" #[] 0)).update s.heap.objs.size (Obj.mapSeq (· ++ vs.toArray))
  let g2 : Heap := g1.push (seqObj "list" vs.toArray 0)
  have top : g1.objs.size = s.heap.objs.size + 1 := (Heap.size_update ..).trans (Heap.size_push ..)
  have old : ∀ b o, s.heap.get? b = some o → b ≠ g1.objs.size ∧ g2.get? b = some o := fun b o e => by
    have lt := Heap.lt_size e
    refine ⟨by rw [top]; exact Nat.ne_of_lt (Nat.lt_succ_of_lt lt), Heap.get?_push_of_some _ (upd_but (Nat.ne_of_lt lt) (Heap.get?_push_of_some _ e))⟩
  have it : g2.get? g1.objs.size = some (seqObj "list" vs.toArray 0) := Heap.get?_push_size _ rfl
  refine call_function_entry_kw kind_sorted plain_sorted entry_sorted (ksk_s1 _ _) ?_
  unfold Builtin.«sorted»
  refine wpAny_bind (m := checkCount "sorted" 1 1 _) (wpAny_pure (wpAny_bind (collect_list hl (wpAny_bind (wpAny_newList ?_ hz)) hz)))
  show wpAny (model prog w) A.in1 _ _ _ { s with heap := g2 }
  refine wpAny_bind (wpAny_holding (wpAny_call_entry_kw slot_list_sort ⟨_, it, rfl⟩ entry_list_sort ?_ (ksk_l1 _ _)))
  rw [ksk_t1]
  refine key_sort (s := { s with heap := g2 }) it hz (h0 := s.heap) old hf fun h' tk out c g3 h3 B => ⟨_, rfl, wpAny_pure ⟨_, rfl, ?_⟩⟩
  exact h h' tk _ out c (fun b o e => g3 b o (old b o e).1 (old b o e).2) (by rw [top]; exact Nat.le_succ _) h3 B

/-- the lambda x: (t[x], x), t captured -/
structure LamTX (params : Arguments) (body : Expr) (scope : Scope) (t x : Str) : Prop where
  body_ : ∃ p1 p2 p3 p4 p5 kk, body = .Tuple [.Subscript (.Name t p1) (.Name x p2) p3, .Name x p4] kk p5
  kind : scope.kind = .function
  co : scope.isCoroutine = false
  gen : scope.isGenerator = false
  loc : scope.names.lookup x = some .local
  fre : scope.names.lookup t = some .free
  nc : ∀ y ∈ scope.names, y.2 ≠ .cell
  dt : (t == ("__debug__" : Str)) = false ∧ (t == ("__classdict__" : Str)) = false
  dx : (x == ("__debug__" : Str)) = false
  bind : ∀ (qual : Str) (cl : List (Str × Addr)) (pm cv ct v : Value), bindArgs (PySem.W.kla_fn "<lambda>" qual params body scope cl pm cv ct) ⟨[v], []⟩ = pure [(x, v)]

theorem lam_key {q c c' ta : Addr} {t x qual : Str} {params : Arguments} {body : Expr} {scope : Scope} {clos : List (Str × Addr)} {pm ctv : Value} {h0 : Heap} {its : Array Value} {i j : Int} {u uj : Tok} {n : Nat} (L : LamTX params body scope t x)
    (ho : h0.get? q = some (PySem.W.kla_obj "<lambda>" qual params body scope clos pm c' ctv)) (hcd : h0.CodeRec (.ref c') qual) (hroom : A.depth < recursionLimit) (lim : h0.NoLimit)
    (hc : clos.lookup t = some c) (hcell : h0.IsCell c (some (.ref ta))) (ht : IsTup h0 ta its) (hi : 0 ≤ i ∧ i < 2 ^ 63) (hn : seqIndex? i its.size = some n) (hx : its[n]? = some (.int j uj)) :
    KeyOf prog w A (.ref q) h0 (.int i u) (j, i) := by
  intro s E g
  obtain ⟨p1, p2, p3, p4, p5, kk, eb⟩ := L.body_
  have lim' : s.heap.NoLimit := lim.keeps g
  have hcd' : s.heap.CodeRec (.ref c') qual := by
    obtain ⟨c0, oc, vs, tq, e1, e2, e3, e4⟩ := hcd
    exact ⟨c0, oc, vs, tq, e1, g _ _ e2, e3, e4⟩
  refine wpAny_call (PySem.W.kla_callFunE hroom (g _ _ ho) rfl L.co L.gen rfl hcd' ?_)
  rw [L.bind]
  refine wpAny_pure (wpAny_newFunctionEnv L.nc (fun y hy => ?_) (fun h1 hns hsb => ⟨lim'.fresh _ hsb, ?_⟩) L.kind)
  · rw [List.mem_singleton.mp hy]
    exact L.loc
  have k1 : Grown s.heap h1 := fun b o e => hsb.extBut b o (Nat.ne_of_lt (Heap.lt_size e)) (Heap.get?_push_of_some _ e)
  have cell1 : h1.IsCell c (some (.ref ta)) := by
    obtain ⟨o, e1, e2⟩ := hcell
    exact ⟨o, k1 _ _ (g _ _ e1), e2⟩
  have tup1 : IsTup h1 ta its := by
    obtain ⟨o, e1, e2⟩ := ht
    exact ⟨o, k1 _ _ (g _ _ e1), e2⟩
  show codeAny (model prog w) A (.expr body (PySem.W.envX qual scope s.heap.objs.size q (.ref c') clos)) _ _
  refine PySem.W.kla_codeExpr ?_
  subst eb
  have getX : ∀ {pos : Pos} {A' : Around} {E' : Value → Shared → Prop} {P : Value → Shared → Prop} {tk : Nat}, P (.int i u) { s with heap := h1, toks := tk } → wpAny (model prog w) A' (eval (.Name x pos) (PySem.W.envX qual scope s.heap.objs.size q (.ref c') clos)) P E' { s with heap := h1, toks := tk } := fun hp =>
    wpAny_Name (wpAny_loadName_local (m := fun y => [(x, Value.int i u)].reverse.lookup y) L.kind L.loc hns (by simp) hp) L.dx
  refine wpAny_Tuple_spliced (Calls.spliced_cons (Subscript_ (wpAny_Name (wpAny_loadName_free L.kind L.fre hc cell1 (getX ?_) L.dt.2) L.dt.1)))
  refine subscriptTail_builtinR (x := .int j uj) tup1.typeIs slot_tuple_getitem.lookup (getItem_tuple tup1 (by omega) hi.2 hn hx ⟨rfl, ?_⟩) rfl
  refine Calls.spliced_cons (getX (Calls.spliced_nil ⟨by rw [sizeLine_eq]; show 2 ≤ 16777216; decide, ?_⟩))
  refine ⟨_, _, rfl, fun b o e => Heap.get?_push_of_some _ (k1 b o e), ⟨_, _, uj, u, 0, rfl, Heap.get?_push_size _ rfl, rfl, rfl⟩⟩
end
end Z
set_option Elab.async false
set_option linter.all false
set_option maxRecDepth 100000
set_option maxHeartbeats 4000000
/-! Z1: data D, the store of changeable things, what stands for what. -/
namespace Z
open PySem PySem.Spec PyProof.Rows L2

/-- data as the proofs see them; ref: a handle to a changeable thing -/
inductive D where
  | non | bl (b : Bool) | int (i : Int) | str (x : Str)
  | tup (xs : List D) | lst (xs : List D) | lsk (xs : List D)
  | ref (a : Addr) | ty (n : Str)

/-! ### keys of whole numbers and tuples, however deep -/
abbrev NK := PySem.NestedKey
mutual
def keyN : D → Option NK
  | .int i => some (.num i)
  | .tup xs => (keyNs xs).map NestedKey.tup
  | _ => none
def keyNs : List D → Option (List NK)
  | [] => some []
  | d :: ds => (keyN d).bind fun k => (keyNs ds).map fun r => k :: r
end
mutual
def nkD : NK → D
  | .none => .non
  | .num i => .int i
  | .text x => .str x
  | .tup ks => .tup (nkDs ks)
def nkDs : List NK → List D
  | [] => []
  | k :: ks => nkD k :: nkDs ks
end
mutual
/-- no text, no None within -/
def nkPl : NK → Bool
  | .num _ => true
  | .tup ks => nkPls ks
  | .none => false
  | .text _ => false
def nkPls : List NK → Bool
  | [] => true
  | k :: ks => nkPl k && nkPls ks
end
/-- a tuple that may be a key -/
def keyT (d : D) : Option NK := match d with
  | .tup xs => (keyN (.tup xs)).bind fun k => if k.depth ≤ 8 then some k else none
  | _ => none
def nkOk : NK → Bool
  | .tup ks => nkPls ks && decide ((NestedKey.tup ks).depth ≤ 8)
  | _ => false
mutual
theorem keyN_in : ∀ (d : D) (k : NK), keyN d = some k → d = nkD k ∧ nkPl k = true
  | .int i, k, h => by cases (show some (NestedKey.num i) = some k from h); exact ⟨rfl, rfl⟩
  | .tup xs, k, h => by
    obtain ⟨ks, e, rfl⟩ := Option.map_eq_some_iff.mp (show (keyNs xs).map NestedKey.tup = some k from h)
    obtain ⟨e1, e2⟩ := keyNs_in xs ks e
    exact ⟨by rw [e1]; rfl, e2⟩
  | .non, _, h => nomatch (show (none : Option NK) = some _ from h)
  | .bl _, _, h => nomatch (show (none : Option NK) = some _ from h)
  | .str _, _, h => nomatch (show (none : Option NK) = some _ from h)
  | .lst _, _, h => nomatch (show (none : Option NK) = some _ from h)
  | .lsk _, _, h => nomatch (show (none : Option NK) = some _ from h)
  | .ref _, _, h => nomatch (show (none : Option NK) = some _ from h)
  | .ty _, _, h => nomatch (show (none : Option NK) = some _ from h)
theorem keyNs_in : ∀ (ds : List D) (ks : List NK), keyNs ds = some ks → ds = nkDs ks ∧ nkPls ks = true
  | [], _, h => by cases (show some [] = some _ from h); exact ⟨rfl, rfl⟩
  | d :: ds, ks, h => by
    obtain ⟨k, e1, h⟩ := Option.bind_eq_some_iff.mp (show ((keyN d).bind fun k => (keyNs ds).map fun r => k :: r) = some ks from h)
    obtain ⟨r, e2, rfl⟩ := Option.map_eq_some_iff.mp h
    obtain ⟨a1, a2⟩ := keyN_in d k e1
    obtain ⟨b1, b2⟩ := keyNs_in ds r e2
    exact ⟨by rw [a1, b1]; rfl, by show (nkPl k && nkPls r) = true; rw [a2, b2]; rfl⟩
end
theorem keyT_in {d : D} {k : NK} (h : keyT d = some k) : d = nkD k ∧ nkOk k = true := by
  cases d with
  | tup xs =>
    obtain ⟨j, e, h⟩ := Option.bind_eq_some_iff.mp (show ((keyN (.tup xs)).bind fun k => if k.depth ≤ 8 then some k else none) = some k from h)
    by_cases z : j.depth ≤ 8
    · rw [if_pos z] at h
      cases h
      obtain ⟨e1, e2⟩ := keyN_in _ _ e
      obtain ⟨ks, _, rfl⟩ := Option.map_eq_some_iff.mp (show (keyNs xs).map NestedKey.tup = some k from e)
      exact ⟨e1, by show (nkPls ks && decide _) = true; rw [show nkPls ks = true from e2, decide_eq_true z]; rfl⟩
    · rw [if_neg z] at h
      cases h
  | _ => exact nomatch (show (none : Option NK) = some k from h)
mutual
/-- the hash of such a key is the same in every World -/
theorem hash_any (w w2 : World) : ∀ k : NK, nkPl k = true → k.hash w = k.hash w2
  | .num _, _ => rfl
  | .tup ks, h => by
    show reduceHash (Builtin.Tuple.tupleHashOf (NestedKey.hashes w ks)) = reduceHash (Builtin.Tuple.tupleHashOf (NestedKey.hashes w2 ks))
    rw [hashes_any w w2 ks h]
  | .none, h => nomatch (show false = true from h)
  | .text _, h => nomatch (show false = true from h)
theorem hashes_any (w w2 : World) : ∀ ks : List NK, nkPls ks = true → NestedKey.hashes w ks = NestedKey.hashes w2 ks
  | [], _ => rfl
  | k :: ks, h => by
    have h2 : (nkPl k && nkPls ks) = true := h
    rw [Bool.and_eq_true] at h2
    show k.hash w :: NestedKey.hashes w ks = k.hash w2 :: NestedKey.hashes w2 ks
    rw [hash_any w w2 k h2.1, hashes_any w w2 ks h2.2]
end
/-- a dict with such keys -/
def dnO (a : Addr) (ps : List (NK × Addr × V)) : HO := .ext fun h => (ps.length ≤ sizeLine ∧ (a == sysModules) = false) ∧ ∃ (w : World) (xs : List (NK × Addr × Value)),
  Paired (fun (p : NK × Addr × V) (q : NK × Addr × Value) => p.1 = q.1 ∧ p.2.1 = q.2.1 ∧ RelV p.2.2 q.2.2) ps xs ∧ (xs.map (·.1)).Nodup ∧
  ∃ o es ep, h.get? a = some o ∧ o.ExactDict ∧ o.data = .dict es ep ∧ es.toList = xs.map fun x => (⟨x.1.hash w, .ref x.2.1, x.2.2⟩ : DictEntry)

/-- a changeable thing; dlk, dcl: dicts while they are walked -/
inductive SO where
  | lst (xs : List D)
  | ins (n : Str) (fs : List (Str × D))
  | dct (kvs : List (Key × D))
  | dlk (kvs : List (Key × D))
  | dcn (kvs : List (NK × D))
  | dcl (kvs : List (NK × D))
  | exc (n : Str)

/-- where a class of the module stands -/
def clsAt (K : PySem.W.Frag) (n : Str) : Option Addr := match PySem.W.nsIn K mainGlobals n with
  | some (some (.ref C)) => some C
  | _ => none
/-- a caught exception of the class cls -/
def exZ (cls : Value) (a : Addr) : HO := .ext fun h => ∃ (oe : Obj) (vs : Array Value), h.get? a = some oe ∧ Zc cls none oe ∧ oe.data = .fields vs
/-- the one def that makes a lambda: its lambda's name, its code object and that one's table -/
def lamQ : Str := "news_of.<locals>.<lambda>"
def lamTab (K : PySem.W.Frag) : Option (Addr × Addr) := PySem.W.tabIn K "news_of"
def TabZ (K : PySem.W.Frag) (H : Hp) : Prop := ∀ c P, lamTab K = some (c, P) → LamX.TabS H P lamQ
/-- no table of code objects -/
def notTbl : HO → Bool
  | .tbl _ => false
  | _ => true
/-- no table, no code object -/
def plainO : HO → Bool
  | .lst _ => true
  | .ins .. => true
  | .dK _ => true
  | .frz .. => true
  | _ => false
theorem TabZ.new {K : PySem.W.Frag} {H : Hp} {a : Addr} {o : HO} (h : TabZ K H) (hn : H a = none) : TabZ K (upd H a o) := fun c P e =>
  (h c P e).ext fun b u q => by rw [upd_ne (ne_of_none q hn)]; exact q
theorem TabZ.set {K : PySem.W.Frag} {H : Hp} {a : Addr} {o u : HO} (h : TabZ K H) (ha : H a = some u) (hp : plainO u = true) : TabZ K (upd H a o) := fun c P e => by
  obtain ⟨ps, h1, h2, h3⟩ := h c P e
  have n1 : P ≠ a := fun z => by
    rw [z, ha] at h1
    cases h1
    cases hp
  refine ⟨ps, by rw [upd_ne n1]; exact h1, h2, fun pos cv q => ?_⟩
  obtain ⟨d, e1, e2⟩ := h3 pos cv q
  refine ⟨d, e1, ?_⟩
  rw [upd_ne fun z => ?_]
  · exact e2
  · rw [z, ha] at e2
    unfold LamX.CodeO at e2
    cases e2
    cases hp

/-- .. at a place that is no table and no code object -/
theorem TabZ.setN {K : PySem.W.Frag} {H : Hp} {a : Addr} {o : HO} (h : TabZ K H) (h1 : ∀ ps, H a ≠ some (.tbl ps)) (h2 : ∀ q, H a ≠ some (LamX.CodeO a q)) : TabZ K (upd H a o) := fun c P e => by
  obtain ⟨ps, g1, g2, g3⟩ := h c P e
  refine ⟨ps, by rw [upd_ne fun z => by subst z; exact h1 ps g1]; exact g1, g2, fun pos cv q => ?_⟩
  obtain ⟨d, e1, e2⟩ := g3 pos cv q
  exact ⟨d, e1, by rw [upd_ne fun z => by subst z; exact h2 _ e2]; exact e2⟩

abbrev Sto := Addr → Option SO
@[irreducible] def supd (S : Sto) (a : Addr) (o : SO) : Sto := fun b => if b = a then some o else S b
theorem supd_same {S : Sto} {a : Addr} {o : SO} : supd S a o a = some o := by unfold supd; rw [if_pos rfl]
theorem supd_ne {S : Sto} {a b : Addr} {o : SO} (h : b ≠ a) : supd S a o b = S b := by unfold supd; rw [if_neg h]

/-- a tuple of the written part -/
def KTup (K : PySem.W.Frag) (a : Addr) (xs : List V) : Prop := SqT K (fun _ => none) a xs
theorem KTup.sq {K : PySem.W.Frag} {H : Hp} {a : Addr} {xs : List V} (h : KTup K a xs) : SqT K H a xs :=
  h.elim (fun r => r.elim (fun e => nomatch e) fun ⟨_, e⟩ => nomatch e) .inr
/-- a tuple that isn't hidden -/
def SqF (K : PySem.W.Frag) (F : Addr → Prop) (H : Hp) (a : Addr) (xs : List V) : Prop := (Rd H a (.tup xs) ∧ ¬ F a) ∨ KTup K a xs
theorem SqF.sq {K : PySem.W.Frag} {F : Addr → Prop} {H : Hp} {a : Addr} {xs : List V} (h : SqF K F H a xs) : SqT K H a xs := h.elim (fun z => .inl z.1) KTup.sq
/-- a list of the written part -/
def KLst (K : PySem.W.Frag) (a : Addr) (xs : List V) : Prop := SqL K (fun _ => none) a xs
theorem KLst.sq {K : PySem.W.Frag} {H : Hp} {a : Addr} {xs : List V} (h : KLst K a xs) : SqL K H a xs :=
  h.elim (fun r => r.elim (fun e => nomatch e) fun ⟨_, e⟩ => nomatch e) .inr
/-- a list that is read alone (the script) -/
def LsF (K : PySem.W.Frag) (F : Addr → Prop) (S : Sto) (H : Hp) (a : Addr) (xs : List V) : Prop := (Rd H a (.lst xs) ∧ S a = none ∧ ¬ F a) ∨ KLst K a xs
theorem LsF.sq {K : PySem.W.Frag} {F : Addr → Prop} {S : Sto} {H : Hp} {a : Addr} {xs : List V} (h : LsF K F S H a xs) : SqL K H a xs := h.elim (fun z => .inl z.1) KLst.sq
section
variable (K : PySem.W.Frag) (F : Addr → Prop) (S : Sto) (H : Hp)
mutual
inductive Rep : V → D → Prop
  | non : Rep .non .non
  | bl (b : Bool) : Rep (.bl b) (.bl b)
  | int (i : Int) : Rep (.int i) (.int i)
  | str (x : Str) : Rep (.str x) (.str x)
  | fn {n : Str} {f : Addr} : clsAt K n = some f → Rep (.ref f) (.ty n)
  | ref (a : Addr) : Rep (.ref a) (.ref a)
  | tup {a : Addr} {xs : List V} {ds : List D} : SqF K F H a xs → RepL xs ds → Rep (.ref a) (.tup ds)
  | lst {a : Addr} {xs : List V} {ds : List D} : H a = some (.lst xs) → S a = none → ¬ F a → RepL xs ds → Rep (.ref a) (.lst ds)
  | lsk {a : Addr} {xs : List V} {ds : List D} : LsF K F S H a xs → RepL xs ds → Rep (.ref a) (.lsk ds)
inductive RepL : List V → List D → Prop
  | nil : RepL [] []
  | cons {v : V} {vs : List V} {d : D} {ds : List D} : Rep v d → RepL vs ds → RepL (v :: vs) (d :: ds)
end
def RepF (gs : List (Str × V)) (fs : List (Str × D)) : Prop := Paired (fun (p : Str × V) (q : Str × D) => p.1 = q.1 ∧ Rep K F S H p.2 q.2) gs fs
def RepK (gs : List (Key × V)) (fs : List (Key × D)) : Prop := Paired (fun (p : Key × V) (q : Key × D) => p.1 = q.1 ∧ Rep K F S H p.2 q.2) gs fs
def RepN (gs : List (NK × Addr × V)) (fs : List (NK × D)) : Prop := Paired (fun (p : NK × Addr × V) (q : NK × D) => (p.1 = q.1 ∧ nkOk p.1 = true) ∧ Rep K F S H (.ref p.2.1) (nkD p.1) ∧ Rep K F S H p.2.2 q.2) gs fs
def RO (a : Addr) : SO → Prop
  | .lst ds => ∃ xs, H a = some (.lst xs) ∧ RepL K F S H xs ds
  | .ins n fs => ∃ C dx gs, clsAt K n = some C ∧ H a = some (.ins C dx gs) ∧ RepF K F S H gs fs
  | .dct kvs => ∃ gs, H a = some (.dK gs) ∧ RepK K F S H gs kvs
  | .dlk kvs => ∃ ob gs, H a = some (.frz ob (.dK gs)) ∧ RepK K F S H gs kvs
  | .dcn kvs => ∃ gs, H a = some (dnO a gs) ∧ (∀ q, H a ≠ some (LamX.CodeO a q)) ∧ RepN K F S H gs kvs
  | .dcl kvs => ∃ ob gs, H a = some (.frz ob (dnO a gs)) ∧ RepN K F S H gs kvs
  | .exc n => ∃ C, clsAt K n = some C ∧ H a = some (exZ (.ref C) a) ∧ ∀ q, H a ≠ some (LamX.CodeO a q)
structure RelS : Prop where
  at_ : ∀ a o, S a = some o → RO K F S H a o
  hid : ∀ a, F a → (∃ xs, H a = some (.lst xs)) ∧ S a = none
  tab : TabZ K H
/-- the names' values -/
structure Rl (env : List (Option D)) (σ : L2.St) : Prop where
  len : env.length = σ.length
  at_ : ∀ (i : Nat) (d : D), env[i]? = some (some d) → ∃ v, σ[i]? = some (some v) ∧ Rep K F S H v d
end

/-- a list, a tuple -/
def seqO : HO → Bool
  | .lst _ => true
  | .tup _ => true
  | _ => false
/-- how the heaps go on together -/
structure Keep (K : PySem.W.Frag) (S : Sto) (H : Hp) (S1 : Sto) (H1 : Hp) : Prop where
  tup : ∀ b xs, H b = some (.tup xs) → H1 b = some (.tup xs)
  frz : ∀ b o u, H b = some (.frz o u) → H1 b = some (.frz o u)
  lst : ∀ b xs, H b = some (.lst xs) → S b = none → H1 b = some (.lst xs)
  sto : ∀ b o, S b = none → H b = some o → notTbl o = true → S1 b = none
  dom : ∀ b o, H b = some o → notTbl o = true → ∃ u, H1 b = some u ∧ notTbl u = true
/-- lists and tuples that don't change stand on -/
structure KeepW (S : Sto) (H : Hp) (S1 : Sto) (H1 : Hp) : Prop where
  tup : ∀ b xs, H b = some (.tup xs) → H1 b = some (.tup xs)
  frz : ∀ b o u, seqO u = true → H b = some (.frz o u) → H1 b = some (.frz o u)
  lst : ∀ b xs, H b = some (.lst xs) → S b = none → H1 b = some (.lst xs) ∧ S1 b = none
  frl : ∀ b o xs, H b = some (.frz o (.lst xs)) → S b = none → S1 b = none
theorem Keep.w {K : PySem.W.Frag} {S S1 : Sto} {H H1 : Hp} (k : Keep K S H S1 H1) : KeepW S H S1 H1 :=
  ⟨k.tup, fun b o u _ e => k.frz b o u e, fun b xs e n => ⟨k.lst b xs e n, k.sto b _ n e rfl⟩, fun b o xs e n => k.sto b _ n e rfl⟩
mutual
theorem keepGo {K : PySem.W.Frag} {F : Addr → Prop} {S S1 : Sto} {H H1 : Hp} (k : KeepW S H S1 H1) : ∀ (v : V) (d : D), Rep K F S H v d → Rep K F S1 H1 v d
  | _, .non, .non => .non
  | _, .bl _, .bl _ => .bl _
  | _, .int _, .int _ => .int _
  | _, .str _, .str _ => .str _
  | _, .ty _, .fn h => .fn h
  | _, .ref _, .ref _ => .ref _
  | _, .tup ds, .tup hs r => by
    refine .tup ?_ (keepGoL k _ ds r)
    rcases hs with ⟨hs | ⟨o, hs⟩, nf⟩ | hs
    · exact .inl ⟨.inl (k.tup _ _ hs), nf⟩
    · exact .inl ⟨.inr ⟨o, k.frz _ _ _ rfl hs⟩, nf⟩
    · exact .inr hs
  | _, .lst ds, .lst hs hn nf r => .lst (k.lst _ _ hs hn).1 (k.lst _ _ hs hn).2 nf (keepGoL k _ ds r)
  | _, .lsk ds, .lsk hs r => by
    refine .lsk ?_ (keepGoL k _ ds r)
    rcases hs with ⟨hs | ⟨o, hs⟩, hn, nf⟩ | hs
    · exact .inl ⟨.inl (k.lst _ _ hs hn).1, (k.lst _ _ hs hn).2, nf⟩
    · exact .inl ⟨.inr ⟨o, k.frz _ _ _ rfl hs⟩, k.frl _ _ _ hs hn, nf⟩
    · exact .inr hs
theorem keepGoL {K : PySem.W.Frag} {F : Addr → Prop} {S S1 : Sto} {H H1 : Hp} (k : KeepW S H S1 H1) : ∀ (vs : List V) (ds : List D), RepL K F S H vs ds → RepL K F S1 H1 vs ds
  | _, [], .nil => .nil
  | _, d :: ds, .cons r t => .cons (keepGo k _ d r) (keepGoL k _ ds t)
end
instance {K : PySem.W.Frag} {S : Sto} {H : Hp} {S' : Sto} {H' : Hp} : CoeFun (Keep K S H S' H') fun _ => ∀ {F : Addr → Prop} v d, Rep K F S H v d → Rep K F S' H' v d := ⟨fun k {F} v d r => keepGo k.w v d r⟩

section
variable {K : PySem.W.Frag} {F : Addr → Prop} {S S1 S2 : Sto} {H H1 H2 : Hp} {a : Addr} {o : SO} {ho : HO}
theorem Keep.refl : Keep K S H S H := ⟨fun _ _ e => e, fun _ _ _ e => e, fun _ _ e _ => e, fun _ _ e _ _ => e, fun _ o e n => ⟨o, e, n⟩⟩
theorem Keep.trans (h : Keep K S H S1 H1) (g : Keep K S1 H1 S2 H2) : Keep K S H S2 H2 where
  tup := fun b xs e => g.tup b xs (h.tup b xs e)
  frz := fun b o u e => g.frz b o u (h.frz b o u e)
  lst := fun b xs e n => g.lst b xs (h.lst b xs e n) (h.sto b _ n e rfl)
  sto := fun b o n e t => by
    obtain ⟨u, e1, t1⟩ := h.dom b o e t
    exact g.sto b u (h.sto b o n e t) e1 t1
  dom := fun b o e t => by
    obtain ⟨u, e1, t1⟩ := h.dom b o e t
    exact g.dom b u e1 t1
theorem Keep.list (h : Keep K S H S1 H1) : ∀ {vs : List V} {ds : List D}, RepL K F S H vs ds → RepL K F S1 H1 vs ds
  | _, _, .nil => .nil
  | _, _, .cons r t => .cons (h _ _ r) (Keep.list h t)
theorem Keep.env (h : Keep K S H S1 H1) {env : List (Option D)} {σ : L2.St} (r : Rl K F S H env σ) : Rl K F S1 H1 env σ :=
  ⟨r.len, fun i d e => let ⟨v, e1, r1⟩ := r.at_ i d e; ⟨v, e1, h _ _ r1⟩⟩
theorem Keep.flds (h : Keep K S H S1 H1) : ∀ {gs : List (Str × V)} {fs : List (Str × D)}, RepF K F S H gs fs → RepF K F S1 H1 gs fs
  | _, _, .nil => .nil
  | _, _, .cons r t => .cons ⟨r.1, h _ _ r.2⟩ (Keep.flds h t)
theorem Keep.keys (h : Keep K S H S1 H1) : ∀ {gs : List (Key × V)} {fs : List (Key × D)}, RepK K F S H gs fs → RepK K F S1 H1 gs fs
  | _, _, .nil => .nil
  | _, _, .cons r t => .cons ⟨r.1, h _ _ r.2⟩ (Keep.keys h t)
/-- two rows stand for one another where they do so place by place -/
theorem repL_of : ∀ {vs : List V} {ds : List D}, vs.length = ds.length → (∀ (i : Nat) (v : V) (d : D), vs[i]? = some v → ds[i]? = some d → Rep K F S H v d) → RepL K F S H vs ds
  | [], [], _, _ => .nil
  | v :: vs, d :: ds, hl, h => .cons (h 0 v d rfl rfl) (repL_of (Nat.succ.inj hl) fun i => h (i + 1))
theorem RepL.both : ∀ {vs : List V} {ds : List D}, RepL K F S H vs ds → vs.length = ds.length ∧ ∀ (i : Nat) (v : V) (d : D), vs[i]? = some v → ds[i]? = some d → Rep K F S H v d
  | [], [], _ => ⟨rfl, fun i v d e => nomatch (show (none : Option V) = some v from e)⟩
  | v :: vs, d :: ds, .cons r t => ⟨congrArg Nat.succ t.both.1, fun i => match i with
    | 0 => fun _ _ e1 e2 => by cases e1; cases e2; exact r
    | i + 1 => fun _ _ e1 e2 => t.both.2 i _ _ e1 e2⟩
theorem RepL.length {vs : List V} {ds : List D} (r : RepL K F S H vs ds) : vs.length = ds.length := r.both.1
theorem RepL.append {vs ws : List V} {ds es : List D} (r : RepL K F S H vs ds) (q : RepL K F S H ws es) : RepL K F S H (vs ++ ws) (ds ++ es) := by
  have hl := r.length
  refine repL_of (by rw [List.length_append, List.length_append, hl, q.length]) fun i v d hv hd => ?_
  rw [List.getElem?_append] at hv hd
  rw [hl] at hv
  by_cases hi : i < ds.length
  · rw [if_pos hi] at hv hd
    exact r.both.2 i v d hv hd
  · rw [if_neg hi] at hv hd
    exact q.both.2 _ v d hv hd
theorem RepL.get {vs : List V} {ds : List D} {i : Nat} {d : D} (r : RepL K F S H vs ds) (e : ds[i]? = some d) : ∃ v, vs[i]? = some v ∧ Rep K F S H v d := by
  have hi : i < vs.length := by rw [r.length]; exact (List.getElem?_eq_some_iff.mp e).1
  exact ⟨vs[i], List.getElem?_eq_getElem hi, r.both.2 i _ _ (List.getElem?_eq_getElem hi) e⟩
theorem RepL.getV {vs : List V} {ds : List D} {i : Nat} {v : V} (r : RepL K F S H vs ds) (e : vs[i]? = some v) : ∃ d, ds[i]? = some d ∧ Rep K F S H v d := by
  have hi : i < ds.length := by rw [← r.length]; exact (List.getElem?_eq_some_iff.mp e).1
  exact ⟨ds[i], List.getElem?_eq_getElem hi, r.both.2 i _ _ e (List.getElem?_eq_getElem hi)⟩
theorem RepL.set {vs : List V} {ds : List D} {v : V} {d : D} (i : Nat) (r : RepL K F S H vs ds) (q : Rep K F S H v d) : RepL K F S H (vs.set i v) (ds.set i d) := by
  refine repL_of (by rw [List.length_set, List.length_set, r.length]) fun j w e hw he => ?_
  rw [List.getElem?_set] at hw he
  rw [r.length] at hw
  by_cases hj : i = j
  · rw [if_pos hj] at hw he
    by_cases hi : i < ds.length
    · rw [if_pos hi] at hw he
      cases hw; cases he
      exact q
    · rw [if_neg hi] at hw
      cases hw
  · rw [if_neg hj] at hw he
    exact r.both.2 j w e hw he
/-- rows read at other places -/
theorem RepL.pick {vs ws : List V} {ds es : List D} (f : Nat → Nat) (r : RepL K F S H vs ds) (hl : ws.length = es.length) (h1 : ∀ i : Nat, i < ws.length → ws[i]? = vs[f i]?) (h2 : ∀ i : Nat, i < es.length → es[i]? = ds[f i]?) : RepL K F S H ws es :=
  repL_of hl fun i v d hv hd => r.both.2 (f i) v d ((h1 i (List.getElem?_eq_some_iff.mp hv).1).symm.trans hv) ((h2 i (List.getElem?_eq_some_iff.mp hd).1).symm.trans hd)
theorem RepL.take {vs : List V} {ds : List D} (n : Nat) (r : RepL K F S H vs ds) : RepL K F S H (vs.take n) (ds.take n) :=
  r.pick id (by rw [List.length_take, List.length_take, r.length]) (fun i hi => List.getElem?_take_of_lt (by rw [List.length_take] at hi; omega)) fun i hi => List.getElem?_take_of_lt (by rw [List.length_take] at hi; omega)
theorem RepL.drop {vs : List V} {ds : List D} (n : Nat) (r : RepL K F S H vs ds) : RepL K F S H (vs.drop n) (ds.drop n) :=
  r.pick (n + ·) (by rw [List.length_drop, List.length_drop, r.length]) (fun _ _ => List.getElem?_drop) fun _ _ => List.getElem?_drop
theorem RepL.reverse {vs : List V} {ds : List D} (r : RepL K F S H vs ds) : RepL K F S H vs.reverse ds.reverse := by
  have hl := r.length
  refine r.pick (ds.length - 1 - ·) (by rw [List.length_reverse, List.length_reverse, hl]) (fun i hi => ?_) fun i hi => ?_
  · rw [List.length_reverse] at hi
    rw [List.getElem?_reverse hi, hl]
  · rw [List.length_reverse] at hi
    rw [List.getElem?_reverse hi]
theorem RepL.dropLast {vs : List V} {ds : List D} (r : RepL K F S H vs ds) : RepL K F S H vs.dropLast ds.dropLast := by
  rw [List.dropLast_eq_take, List.dropLast_eq_take, r.length]
  exact r.take _

theorem RelS.none (R : RelS K F S H) (h : H a = Option.none) : S a = Option.none := by
  cases e : S a with
  | none => rfl
  | some o =>
    have r := R.at_ a o e
    cases o with
    | lst ds => obtain ⟨xs, e2, _⟩ := r; rw [h] at e2; cases e2
    | ins C fs => obtain ⟨C, dx, gs, _, e2, _⟩ := r; rw [h] at e2; cases e2
    | dct kvs => obtain ⟨gs, e2, _⟩ := r; rw [h] at e2; cases e2
    | dlk kvs => obtain ⟨ob, gs, e2, _⟩ := r; rw [h] at e2; cases e2
    | dcn kvs => obtain ⟨gs, e2, _⟩ := r; rw [h] at e2; cases e2
    | dcl kvs => obtain ⟨ob, gs, e2, _⟩ := r; rw [h] at e2; cases e2
    | exc n => obtain ⟨C, _, e2, _⟩ := r; rw [h] at e2; cases e2

theorem upd_dom {b : Addr} {u : HO} (e : H b = some u) (t : notTbl u = true) (ht : notTbl ho = true) : ∃ v, upd H a ho b = some v ∧ notTbl v = true := by
  unfold upd
  split
  · exact ⟨ho, rfl, ht⟩
  · exact ⟨u, e, t⟩
/-- a new object -/
theorem keepNew (hn : H a = Option.none) : Keep K S H S (upd H a ho) where
  tup := fun b xs e => by rw [upd_ne (ne_of_none e hn)]; exact e
  frz := fun b o u e => by rw [upd_ne (ne_of_none e hn)]; exact e
  lst := fun b xs e _ => by rw [upd_ne (ne_of_none e hn)]; exact e
  sto := fun b _ e _ _ => e
  dom := fun b u e t => ⟨u, by rw [upd_ne (ne_of_none e hn)]; exact e, t⟩
/-- a new changeable object -/
theorem keepNewM (hn : H a = Option.none) : Keep K S H (supd S a o) (upd H a ho) where
  tup := fun b xs e => by rw [upd_ne (ne_of_none e hn)]; exact e
  frz := fun b o u e => by rw [upd_ne (ne_of_none e hn)]; exact e
  lst := fun b xs e _ => by rw [upd_ne (ne_of_none e hn)]; exact e
  sto := fun b _ e hb _ => by rw [supd_ne (ne_of_none hb hn)]; exact e
  dom := fun b u e t => ⟨u, by rw [upd_ne (ne_of_none e hn)]; exact e, t⟩
/-- locked -/
def SO.lk : SO → Bool
  | .dlk _ => true
  | .dcl _ => true
  | _ => false
/-- a changeable object changed -/
theorem keepMut {o0 : SO} (R : RelS K F S H) (hs : S a = some o0) (ht : notTbl ho = true := by rfl) (hl : o0.lk = false := by rfl) : Keep K S H (supd S a o) (upd H a ho) := by
  have r := R.at_ a o0 hs
  have pl : ∀ u, H a = some u → (∀ xs, u ≠ .tup xs) ∧ ∀ ob v, u ≠ .frz ob v := fun u e => by
    cases o0 with
    | lst ds => obtain ⟨xs, e2, _⟩ := r; rw [e] at e2; cases e2; exact ⟨fun _ z => (nomatch z), fun _ _ z => (nomatch z)⟩
    | ins n fs => obtain ⟨C, dx, gs, _, e2, _⟩ := r; rw [e] at e2; cases e2; exact ⟨fun _ z => (nomatch z), fun _ _ z => (nomatch z)⟩
    | dct kvs => obtain ⟨gs, e2, _⟩ := r; rw [e] at e2; cases e2; exact ⟨fun _ z => (nomatch z), fun _ _ z => (nomatch z)⟩
    | dlk kvs => cases hl
    | dcn kvs => obtain ⟨gs, e2, _⟩ := r; rw [e] at e2; cases e2; exact ⟨fun _ z => (nomatch z), fun _ _ z => (nomatch z)⟩
    | dcl kvs => cases hl
    | exc n => obtain ⟨C, _, e2, _⟩ := r; rw [e] at e2; cases e2; exact ⟨fun _ z => (nomatch z), fun _ _ z => (nomatch z)⟩
  refine ⟨fun b xs e => ?_, fun b ob u e => ?_, fun b xs e hb => ?_, fun b _ e _ _ => ?_, fun b u e t => upd_dom e t ht⟩
  · rw [upd_ne (fun z => by subst z; exact (pl _ e).1 xs rfl)]; exact e
  · rw [upd_ne (fun z => by subst z; exact (pl _ e).2 ob u rfl)]; exact e
  · rw [upd_ne (fun z => by subst z; rw [hs] at hb; cases hb)]; exact e
  · rw [supd_ne (fun z => by subst z; rw [hs] at e; cases e)]; exact e
theorem Keep.keysN (h : Keep K S H S1 H1) : ∀ {gs : List (NK × Addr × V)} {fs : List (NK × D)}, RepN K F S H gs fs → RepN K F S1 H1 gs fs
  | _, _, .nil => .nil
  | _, _, .cons r t => .cons ⟨r.1, h _ _ r.2.1, h _ _ r.2.2⟩ (Keep.keysN h t)
theorem RO.keep {b : Addr} {x : SO} (k : Keep K S H S1 H1) (e : H1 b = H b) (r : RO K F S H b x) : RO K F S1 H1 b x := by
  cases x with
  | lst ds => obtain ⟨xs, e2, r⟩ := r; exact ⟨xs, e.trans e2, k.list r⟩
  | ins n fs => obtain ⟨C, dx, gs, e0, e2, r⟩ := r; exact ⟨C, dx, gs, e0, e.trans e2, k.flds r⟩
  | dct kvs => obtain ⟨gs, e2, r⟩ := r; exact ⟨gs, e.trans e2, k.keys r⟩
  | dlk kvs => obtain ⟨ob, gs, e2, r⟩ := r; exact ⟨ob, gs, e.trans e2, k.keys r⟩
  | dcn kvs => obtain ⟨gs, e2, nc, r⟩ := r; exact ⟨gs, e.trans e2, fun q => by rw [e]; exact nc q, k.keysN r⟩
  | dcl kvs => obtain ⟨ob, gs, e2, r⟩ := r; exact ⟨ob, gs, e.trans e2, k.keysN r⟩
  | exc n => obtain ⟨C, e0, e2, nc⟩ := r; exact ⟨C, e0, e.trans e2, fun q => by rw [e]; exact nc q⟩
/-- a hidden place isn't new -/
theorem RelS.nhid (R : RelS K F S H) (hn : H a = Option.none) : ¬ F a := fun f => by
  obtain ⟨⟨xs, e⟩, _⟩ := R.hid a f
  rw [hn] at e
  cases e
/-- a new object that stays as it is -/
theorem RelS.new (R : RelS K F S H) (hn : H a = Option.none) : RelS K F S (upd H a ho) where
  at_ := fun b x e => by
    have hb : b ≠ a := fun z => by subst z; rw [R.none hn] at e; cases e
    exact RO.keep (keepNew hn) (upd_ne hb) (R.at_ b x e)
  hid := fun b f => by
    obtain ⟨⟨xs, e⟩, n⟩ := R.hid b f
    exact ⟨⟨xs, by rw [upd_ne (ne_of_none e hn)]; exact e⟩, n⟩
  tab := R.tab.new hn
theorem RelS.put (R : RelS K F S H) (hf : ¬ F a) (hT : TabZ K (upd H a ho)) (k : Keep K S H (supd S a o) (upd H a ho)) (new : RO K F (supd S a o) (upd H a ho) a o) : RelS K F (supd S a o) (upd H a ho) where
  at_ := fun b x e => by
    by_cases hb : b = a
    · subst hb; rw [supd_same] at e; cases e; exact new
    · rw [supd_ne hb] at e
      exact RO.keep k (upd_ne hb) (R.at_ b x e)
  hid := fun b f => by
    have hb : b ≠ a := fun z => hf (by rw [← z]; exact f)
    obtain ⟨⟨xs, e⟩, n⟩ := R.hid b f
    exact ⟨⟨xs, by rw [upd_ne hb]; exact e⟩, by rw [supd_ne hb]; exact n⟩
  tab := hT
/-- a new changeable object -/
theorem RelS.putN (R : RelS K F S H) (hn : H a = Option.none) (k : Keep K S H (supd S a o) (upd H a ho)) (new : RO K F (supd S a o) (upd H a ho) a o) : RelS K F (supd S a o) (upd H a ho) :=
  R.put (R.nhid hn) (R.tab.new hn) k new
/-- a changeable place holds no table, no code object -/
theorem RelS.pl {o0 : SO} (R : RelS K F S H) (hs : S a = some o0) : (∀ ps, H a ≠ some (.tbl ps)) ∧ ∀ q, H a ≠ some (LamX.CodeO a q) := by
  have r := R.at_ a o0 hs
  cases o0 with
  | lst ds => obtain ⟨xs, e2, _⟩ := r; rw [e2]; exact ⟨fun _ z => (nomatch z), fun _ z => (nomatch z)⟩
  | ins n fs => obtain ⟨C, dx, gs, _, e2, _⟩ := r; rw [e2]; exact ⟨fun _ z => (nomatch z), fun _ z => (nomatch z)⟩
  | dct kvs => obtain ⟨gs, e2, _⟩ := r; rw [e2]; exact ⟨fun _ z => (nomatch z), fun _ z => (nomatch z)⟩
  | dlk kvs => obtain ⟨ob, gs, e2, _⟩ := r; rw [e2]; exact ⟨fun _ z => (nomatch z), fun _ z => (nomatch z)⟩
  | dcn kvs => obtain ⟨gs, e2, nc, _⟩ := r; exact ⟨fun _ z => (by rw [e2] at z; cases z), nc⟩
  | dcl kvs => obtain ⟨ob, gs, e2, _⟩ := r; rw [e2]; exact ⟨fun _ z => (nomatch z), fun _ z => (nomatch z)⟩
  | exc n => obtain ⟨C, _, e2, nc⟩ := r; exact ⟨fun _ z => (by rw [e2] at z; cases z), nc⟩
/-- what changes isn't hidden -/
theorem RelS.nh {o0 : SO} (R : RelS K F S H) (hs : S a = some o0) : ¬ F a := fun f => by
  have := (R.hid a f).2
  rw [hs] at this
  cases this
/-- a changeable object changed -/
theorem RelS.putM {o0 : SO} (R : RelS K F S H) (hs : S a = some o0) (k : Keep K S H (supd S a o) (upd H a ho)) (new : RO K F (supd S a o) (upd H a ho) a o) : RelS K F (supd S a o) (upd H a ho) := by
  obtain ⟨h1, h2⟩ := R.pl hs
  exact R.put (R.nh hs) (R.tab.setN h1 h2) k new
theorem Rl.set {env : List (Option D)} {σ : L2.St} {v : V} {d : D} (r : Rl K F S H env σ) (i : Nat) (h : Rep K F S H v d) : Rl K F S H (env.set i (some d)) (σ.set i (some v)) where
  len := by rw [List.length_set, List.length_set, r.len]
  at_ := fun j e he => by
    by_cases hj : i = j
    · subst hj
      by_cases hi : i < env.length
      · rw [List.getElem?_set_self hi] at he
        cases he
        exact ⟨v, List.getElem?_set_self (by rw [← r.len]; exact hi), h⟩
      · rw [List.getElem?_eq_none (by simpa using hi)] at he; cases he
    · rw [List.getElem?_set_ne hj] at he
      obtain ⟨w, e1, r1⟩ := r.at_ j e he
      exact ⟨w, by rw [List.getElem?_set_ne hj]; exact e1, r1⟩
theorem Rl.forget {env : List (Option D)} {σ : L2.St} (r : Rl K F S H env σ) (i : Nat) : Rl K F S H (env.set i none) (σ.set i none) where
  len := by rw [List.length_set, List.length_set, r.len]
  at_ := fun j e he => by
    by_cases hj : i = j
    · subst hj
      by_cases hi : i < env.length
      · rw [List.getElem?_set_self hi] at he; cases he
      · rw [List.getElem?_eq_none (by simpa using hi)] at he; cases he
    · rw [List.getElem?_set_ne hj] at he
      obtain ⟨w, e1, r1⟩ := r.at_ j e he
      exact ⟨w, by rw [List.getElem?_set_ne hj]; exact e1, r1⟩
end

/-! ### hiding a new place -/
section
variable {K : PySem.W.Frag} {F : Addr → Prop} {S : Sto} {H : Hp} {a : Addr}
mutual
theorem hideGo (hn : H a = Option.none) : ∀ (v : V) (d : D), Rep K F S H v d → Rep K (fun b => F b ∨ b = a) S H v d
  | _, .non, .non => .non
  | _, .bl _, .bl _ => .bl _
  | _, .int _, .int _ => .int _
  | _, .str _, .str _ => .str _
  | _, .ty _, .fn h => .fn h
  | _, .ref _, .ref _ => .ref _
  | _, .tup ds, .tup hs r => by
    refine .tup ?_ (hideGoL hn _ ds r)
    rcases hs with ⟨hs | ⟨o, hs⟩, nf⟩ | hs
    · exact .inl ⟨.inl hs, fun z => z.elim nf fun e => by subst e; rw [hn] at hs; cases hs⟩
    · exact .inl ⟨.inr ⟨o, hs⟩, fun z => z.elim nf fun e => by subst e; rw [hn] at hs; cases hs⟩
    · exact .inr hs
  | _, .lst ds, .lst hs hn' nf r => by
    refine .lst hs hn' (fun z => z.elim nf fun e => ?_) (hideGoL hn _ ds r)
    rw [← e, hs] at hn
    cases hn
  | _, .lsk ds, .lsk hs r => by
    refine .lsk ?_ (hideGoL hn _ ds r)
    rcases hs with ⟨hs | ⟨o, hs⟩, hn', nf⟩ | hs
    · exact .inl ⟨.inl hs, hn', fun z => z.elim nf fun e => by subst e; rw [hn] at hs; cases hs⟩
    · exact .inl ⟨.inr ⟨o, hs⟩, hn', fun z => z.elim nf fun e => by subst e; rw [hn] at hs; cases hs⟩
    · exact .inr hs
theorem hideGoL (hn : H a = Option.none) : ∀ (vs : List V) (ds : List D), RepL K F S H vs ds → RepL K (fun b => F b ∨ b = a) S H vs ds
  | _, [], .nil => .nil
  | _, d :: ds, .cons r t => .cons (hideGo hn _ d r) (hideGoL hn _ ds t)
end
mutual
/-- nothing hidden any more -/
theorem showGo {F' : Addr → Prop} (hf : ∀ b, F' b → F b) : ∀ (v : V) (d : D), Rep K F S H v d → Rep K F' S H v d
  | _, .non, .non => .non
  | _, .bl _, .bl _ => .bl _
  | _, .int _, .int _ => .int _
  | _, .str _, .str _ => .str _
  | _, .ty _, .fn h => .fn h
  | _, .ref _, .ref _ => .ref _
  | _, .tup ds, .tup hs r => .tup (hs.imp (fun z => ⟨z.1, fun f => z.2 (hf _ f)⟩) id) (showGoL hf _ ds r)
  | _, .lst ds, .lst hs hn' nf r => .lst hs hn' (fun f => nf (hf _ f)) (showGoL hf _ ds r)
  | _, .lsk ds, .lsk hs r => .lsk (hs.imp (fun z => ⟨z.1, z.2.1, fun f => z.2.2 (hf _ f)⟩) id) (showGoL hf _ ds r)
theorem showGoL {F' : Addr → Prop} (hf : ∀ b, F' b → F b) : ∀ (vs : List V) (ds : List D), RepL K F S H vs ds → RepL K F' S H vs ds
  | _, [], .nil => .nil
  | _, d :: ds, .cons r t => .cons (showGo hf _ d r) (showGoL hf _ ds t)
end
mutual
/-- a hidden place changed -/
theorem hidSet {ho : HO} (f : F a) : ∀ (v : V) (d : D), Rep K F S H v d → Rep K F S (upd H a ho) v d
  | _, .non, .non => .non
  | _, .bl _, .bl _ => .bl _
  | _, .int _, .int _ => .int _
  | _, .str _, .str _ => .str _
  | _, .ty _, .fn h => .fn h
  | _, .ref _, .ref _ => .ref _
  | _, .tup ds, .tup hs r => by
    refine .tup ?_ (hidSetL f _ ds r)
    rcases hs with ⟨hs, nf⟩ | hs
    · have ne : ∀ b, ¬ F b → b ≠ a := fun b n e => n (by rw [e]; exact f)
      rcases hs with hs | ⟨o, hs⟩
      · exact .inl ⟨.inl (by rw [upd_ne (ne _ nf)]; exact hs), nf⟩
      · exact .inl ⟨.inr ⟨o, by rw [upd_ne (ne _ nf)]; exact hs⟩, nf⟩
    · exact .inr hs
  | _, .lst ds, .lst hs hn' nf r => by
    have ne : ∀ b, ¬ F b → b ≠ a := fun b n e => n (by rw [e]; exact f)
    exact .lst (by rw [upd_ne (ne _ nf)]; exact hs) hn' nf (hidSetL f _ ds r)
  | _, .lsk ds, .lsk hs r => by
    refine .lsk ?_ (hidSetL f _ ds r)
    have ne : ∀ b, ¬ F b → b ≠ a := fun b n e => n (by rw [e]; exact f)
    rcases hs with ⟨hs | ⟨o, hs⟩, hn', nf⟩ | hs
    · exact .inl ⟨.inl (by rw [upd_ne (ne _ nf)]; exact hs), hn', nf⟩
    · exact .inl ⟨.inr ⟨o, by rw [upd_ne (ne _ nf)]; exact hs⟩, hn', nf⟩
    · exact .inr hs
theorem hidSetL {ho : HO} (f : F a) : ∀ (vs : List V) (ds : List D), RepL K F S H vs ds → RepL K F S (upd H a ho) vs ds
  | _, [], .nil => .nil
  | _, d :: ds, .cons r t => .cons (hidSet f _ d r) (hidSetL f _ ds t)
end
theorem RepF.map {F' : Addr → Prop} {S' : Sto} {H' : Hp} (h : ∀ v d, Rep K F S H v d → Rep K F' S' H' v d) : ∀ {gs : List (Str × V)} {fs : List (Str × D)}, RepF K F S H gs fs → RepF K F' S' H' gs fs
  | _, _, .nil => .nil
  | _, _, .cons r t => .cons ⟨r.1, h _ _ r.2⟩ (RepF.map h t)
theorem RepK.map {F' : Addr → Prop} {S' : Sto} {H' : Hp} (h : ∀ v d, Rep K F S H v d → Rep K F' S' H' v d) : ∀ {gs : List (Key × V)} {fs : List (Key × D)}, RepK K F S H gs fs → RepK K F' S' H' gs fs
  | _, _, .nil => .nil
  | _, _, .cons r t => .cons ⟨r.1, h _ _ r.2⟩ (RepK.map h t)
theorem RepN.map {F' : Addr → Prop} {S' : Sto} {H' : Hp} (h : ∀ v d, Rep K F S H v d → Rep K F' S' H' v d) : ∀ {gs : List (NK × Addr × V)} {fs : List (NK × D)}, RepN K F S H gs fs → RepN K F' S' H' gs fs
  | _, _, .nil => .nil
  | _, _, .cons r t => .cons ⟨r.1, h _ _ r.2.1, h _ _ r.2.2⟩ (RepN.map h t)
theorem RepL.map {F' : Addr → Prop} {S' : Sto} {H' : Hp} (h : ∀ v d, Rep K F S H v d → Rep K F' S' H' v d) : ∀ {gs : List V} {fs : List D}, RepL K F S H gs fs → RepL K F' S' H' gs fs
  | _, _, .nil => .nil
  | _, _, .cons r t => .cons (h _ _ r) (RepL.map h t)
theorem Rl.map {F' : Addr → Prop} {S' : Sto} {H' : Hp} (h : ∀ v d, Rep K F S H v d → Rep K F' S' H' v d) {env : List (Option D)} {σ : L2.St} (r : Rl K F S H env σ) : Rl K F' S' H' env σ :=
  ⟨r.len, fun i d e => let ⟨v, e1, r1⟩ := r.at_ i d e; ⟨v, e1, h _ _ r1⟩⟩
theorem RO.map {F' : Addr → Prop} {S' : Sto} {H' : Hp} (h : ∀ v d, Rep K F S H v d → Rep K F' S' H' v d) {b : Addr} {x : SO} (e : H' b = H b) (r : RO K F S H b x) : RO K F' S' H' b x := by
  cases x with
  | lst ds => obtain ⟨xs, e2, r⟩ := r; exact ⟨xs, e.trans e2, r.map h⟩
  | ins n fs => obtain ⟨C, dx, gs, e0, e2, r⟩ := r; exact ⟨C, dx, gs, e0, e.trans e2, r.map h⟩
  | dct kvs => obtain ⟨gs, e2, r⟩ := r; exact ⟨gs, e.trans e2, r.map h⟩
  | dlk kvs => obtain ⟨ob, gs, e2, r⟩ := r; exact ⟨ob, gs, e.trans e2, r.map h⟩
  | dcn kvs => obtain ⟨gs, e2, nc, r⟩ := r; exact ⟨gs, e.trans e2, fun q => by rw [e]; exact nc q, r.map h⟩
  | dcl kvs => obtain ⟨ob, gs, e2, r⟩ := r; exact ⟨ob, gs, e.trans e2, r.map h⟩
  | exc n => obtain ⟨C, e0, e2, nc⟩ := r; exact ⟨C, e0, e.trans e2, fun q => by rw [e]; exact nc q⟩
/-- hiding a new object -/
theorem RelS.hide {xs : List V} (R : RelS K F S H) (hn : H a = Option.none) : RelS K (fun b => F b ∨ b = a) S (upd H a (.lst xs)) where
  at_ := fun b x e => by
    have hb : b ≠ a := fun z => by subst z; rw [R.none hn] at e; cases e
    exact RO.map (fun v d r => keepNew hn v d (hideGo hn v d r)) (upd_ne hb) (R.at_ b x e)
  hid := fun b f => by
    rcases f with f | f
    · obtain ⟨⟨ys, e⟩, n⟩ := R.hid b f
      exact ⟨⟨ys, by rw [upd_ne (ne_of_none e hn)]; exact e⟩, n⟩
    · subst f
      exact ⟨⟨xs, upd_same⟩, R.none hn⟩
  tab := R.tab.new hn
theorem RelS.hset {xs : List V} (R : RelS K F S H) (f : F a) : RelS K F S (upd H a (.lst xs)) where
  at_ := fun b x e => by
    have hb : b ≠ a := fun z => by subst z; rw [(R.hid b f).2] at e; cases e
    exact RO.map (fun v d r => hidSet f v d r) (upd_ne hb) (R.at_ b x e)
  hid := fun b g => by
    obtain ⟨⟨ys, e⟩, n⟩ := R.hid b g
    by_cases hb : b = a
    · subst hb
      exact ⟨⟨xs, upd_same⟩, n⟩
    · exact ⟨⟨ys, by rw [upd_ne hb]; exact e⟩, n⟩
  tab := by
    obtain ⟨⟨ys, e⟩, _⟩ := R.hid a f
    exact R.tab.set e rfl
theorem RelS.show {F' : Addr → Prop} (hf : ∀ b, F' b → F b) (R : RelS K F S H) : RelS K F' S H where
  at_ := fun b x e => RO.map (fun v d r => showGo hf v d r) rfl (R.at_ b x e)
  hid := fun b f => R.hid b (hf b f)
  tab := R.tab
end

section
variable {K : PySem.W.Frag} {F : Addr → Prop} {S : Sto} {H : Hp} {a : Addr} {o : SO}
mutual
/-- a hidden place comes to be a changeable one -/
theorem supGo : ∀ (v : V) (d : D), Rep K (fun b => F b ∨ b = a) S H v d → Rep K F (supd S a o) H v d
  | _, .non, .non => .non
  | _, .bl _, .bl _ => .bl _
  | _, .int _, .int _ => .int _
  | _, .str _, .str _ => .str _
  | _, .ty _, .fn h => .fn h
  | _, .ref _, .ref _ => .ref _
  | _, .tup ds, .tup hs r => .tup (hs.imp (fun z => ⟨z.1, fun f => z.2 (.inl f)⟩) id) (supGoL _ ds r)
  | _, .lst ds, .lst hs hn nf r => .lst hs (by rw [supd_ne (fun z => nf (.inr z))]; exact hn) (fun f => nf (.inl f)) (supGoL _ ds r)
  | _, .lsk ds, .lsk hs r => .lsk (hs.imp (fun z => ⟨z.1, by rw [supd_ne (fun y => z.2.2 (.inr y))]; exact z.2.1, fun f => z.2.2 (.inl f)⟩) id) (supGoL _ ds r)
theorem supGoL : ∀ (vs : List V) (ds : List D), RepL K (fun b => F b ∨ b = a) S H vs ds → RepL K F (supd S a o) H vs ds
  | _, [], .nil => .nil
  | _, d :: ds, .cons r t => .cons (supGo _ d r) (supGoL _ ds t)
end
end
end Z
set_option Elab.async false
set_option linter.all false
set_option maxRecDepth 100000
set_option maxHeartbeats 4000000
/-! Z2: bodies as small trees, and what must hold ahead of them so that something holds behind. -/
namespace Z
open PySem PySem.Spec PyProof.Rows L2

/-! ### data as the library's data -/
mutual
def D.py : D → PyData
  | .non => .none
  | .bl b => .bool b
  | .int i => .int i
  | .str x => .str x
  | .tup xs => .tuple (D.pys xs)
  | .lst xs => .list (D.pys xs)
  | .lsk _ => .none
  | .ref _ => .none
  | .ty _ => .none
def D.pys : List D → List PyData
  | [] => []
  | x :: xs => D.py x :: D.pys xs
end
mutual
/-- no handle within -/
def D.pure : D → Bool
  | .ref _ => false
  | .ty _ => false
  | .lsk _ => false
  | .tup xs => D.pures xs
  | .lst xs => D.pures xs
  | _ => true
def D.pures : List D → Bool
  | [] => true
  | x :: xs => D.pure x && D.pures xs
end
/-- what may be compared -/
def D.Ok (d : D) : Prop := d.pure = true ∧ SeqAt.shaped d.py = true

mutual
def D.beq : D → D → Bool
  | .non, .non => true
  | .bl a, .bl b => a == b
  | .int a, .int b => decide (a = b)
  | .str a, .str b => decide (a = b)
  | .ty a, .ty b => decide (a = b)
  | .tup a, .tup b => D.beqs a b
  | _, _ => false
def D.beqs : List D → List D → Bool
  | [], [] => true
  | x :: xs, y :: ys => D.beq x y && D.beqs xs ys
  | _, _ => false
end
/-- what is shown by repr -/
def D.Shown (d : D) : Prop := d.pure = true ∧ d.py.showable = true ∧ d.py.depth ≤ 60 ∧ d.py.shown.length ≤ 16777216
/-! ### the trees -/
inductive T where
  | nm (i : Nat) | tup (ts : List T)
inductive Blt where
  | len | abs | min | max | int | tuple | list (m : Bool) | all | any | sum | sorted (m : Bool) | sortS (m : Bool) | str | minP | sortP (m : Bool)
/-- how a dict is walked -/
inductive Dw where
  | keys | items
inductive Mth where
  | append | extend | pop | insert
mutual
inductive E where
  | var (i : Nat) | int (i : Int) | bl (b : Bool) | non | str (x : Str) | cpow (b : Int) (k : Nat) (v : Int) | cpm (b : Int) (k : Nat) (c : Int) (l : Nat) (v : Int) | glob (x : Str) (d : D)
  | bin (op : Operator) (a b : E) | neg (a : E) | not (a : E)
  | cmp (op : CmpOp) (a b : E) | cmp2 (o1 o2 : CmpOp) (a b c : E)
  | and (a b : E) | or (a b : E) | ife (c a b : E)
  | tup (es : List E) | lst (m : Bool) (es : List E)
  | ix (a b : E) | ixc (a : E) (k : Nat) | sl (m : Bool) (a : E) (lo hi : Option E)
  | call (f : Nat) (es : List E) | blt (b : Blt) (es : List E) | isi (a : E) (n : String) | meth (m : Mth) (o : E) (es : List E)
  | lc (m : Bool) (elt : E) (tg : T) (it : I) (c : Option E) (own : List Nat)
  | frz (a : E)
  | dict0 | lr1 (m : Bool) (a : E) | lr2 (m : Bool) (a b : E) | rev (m : Bool) (a : E)
  | fld (n f : Str) (o : E) | mth (g : Nat) (n m : Str) (o : E) (es : List E) | new (g : Nat) (n : Str) (es : List E)
  | dct1 (k v : E) | inD (neg : Bool) (k d : E) | dkeys (m : Bool) (d : E) | getD (d k : E) | getOr (d k z : E) | sortK (m : Bool) (a : E) (t : Nat) | lset (a : E) | dctP (a : E) | srtD (m : Bool) (a : E)
  | repr (a : E) | join (s a : E) | upper (a : E) | rvl (m : Bool) (a : E) | rvt (a : E) | srtT (m : Bool) (a : E) | sortD (m : Bool) (a : E) | dpop (d k : E) | dict0N | dct1N (k v : E) | inN (neg : Bool) (k d : E) | getN (d k : E) | getOrN (d k z : E) | dctPN (a : E) | dkeysN (m : Bool) (d : E) | srtN (m : Bool) (d : E) | lenD (n : Bool) (d : E) | lockE (e : E) | inM (a b : E) | eqM (a b : E) | splt (m : Bool) (a b : E) | intT (a : E) | lenT (a : E) | ixT (a : E) (k : Nat) | sgn (n : Bool) (a b : E) | tab (x : Str) (kvs : List (Str × D)) (k : E) | inTab (x : Str) (kvs : List (Str × D)) (k : E) | callV (i : Nat) (fs : List (Str × Nat)) (es : List E) | few (a b : E)
  | cat (m : Bool) (a b : E) | rep (m : Bool) (a b : E) | tr1 (a : E) | cnt (a b : E) | dctS (ks : List Str) (es : List E) | exi (a : E) (ns : List Str)
inductive I where
  | r1 (a : E) | r2 (a b : E) | seq (a : E) | zip (a b : E) | enum (a : E) | zipX (a b : E) | zip3 (a b c : E) | dwk (w : Dw) (d : E) | chars (a : E)
end
/-- what is called, where an exception may come of it: a def, a method, a class that is made, a def by a name that holds it -/
inductive Rc where
  | fn (f : Nat) | mth (g : Nat) (n m : Str) (o : E) | new (g : Nat) (n : Str) | cv (i : Nat) (fs : List (Str × Nat))
inductive Stm where
  | expr (e : E) | ret (e : E) | retN | asg (t : T) (e : E) | aug (i : Nat) (op : Operator) (e : E) | setIx (o i e : E)
  | setFld (n f : Str) (o e : E) | setKey (o k e : E) | setKeyN (o k e : E) | lockS (s : Stm) | setKey2 (o1 k1 o2 k2 e1 e2 : E) | setIx2 (o1 k1 o2 k2 e1 e2 : E) | augIx (o i : E) (op : Operator) (e : E) | augKey (o k : E) (op : Operator) (e : E)
  | ifS (c : E) (a b : List Stm) | forS (t : T) (it : I) (b : List Stm) | whileS (c : E) (b : List Stm) | never | tryS (b : List Stm) | pass | brk | cont | exprX (r : Rc) (es : List E) | asgX (t : T) (r : Rc) (es : List E) | retX (r : Rc) (es : List E) | fldX (n f : Str) (o : E) (r : Rc) (es : List E) | rs (n m : Str)
  | tryX (b : List Stm) (c : Str) (i j : Nat) | tryF (b : List Stm) (c : Str) (i : Option Nat) (j : Nat) (ts fs : List Str) | tryR (b : List Stm) (c n m : Str) | par (i j : Nat) (a b : E) | par3 (i j l : Nat) (a b c : E)

@[irreducible] def serase (S : Sto) (a : Addr) : Sto := fun b => if b = a then none else S b
abbrev En := List (Option D)
abbrev QK := D → Sto → Prop
abbrev EK := Str → D → Sto → Prop
/-- no exception -/
abbrev EX0 : EK := fun _ _ _ => False
/-- the classes that are raised with a text, the own ones -/
def exKn (n : Str) : Bool := decide (n = Str.ofString "NoText") || decide (n = Str.ofString "NoLine")
def exAll : List Str := [Str.ofString "HearsayError", Str.ofString "NoText", Str.ofString "NoLine", Str.ofString "BadDoings"]
/-- what an own exception is -/
def exSub (n c : Str) : Bool := decide (n = c) || (decide (c = Str.ofString "HearsayError") || decide (c = Str.ofString "ValueError"))
abbrev CS := Nat → List D → Sto → QK → EK → Prop

/-! ### values -/
@[irreducible] def wIf (b : Bool) (p q : Prop) : Prop := match b with
  | true => p
  | false => q
@[irreducible] def wOpt {α : Type} (o : Option α) (Q : α → Prop) : Prop := match o with
  | some d => Q d
  | none => False
theorem wIf_t {p q : Prop} (h : p) : wIf true p q := by unfold wIf; exact h
theorem wIf_f {p q : Prop} (h : q) : wIf false p q := by unfold wIf; exact h
theorem wIf_d {c p q : Prop} [Decidable c] (h1 : c → p) (h2 : ¬ c → q) : wIf (decide c) p q := by
  by_cases h : c
  · rw [decide_eq_true h]; exact wIf_t (h1 h)
  · rw [decide_eq_false h]; exact wIf_f (h2 h)
theorem wIf_yes {c p q : Prop} [Decidable c] (h : c) (hp : p) : wIf (decide c) p q := by rw [decide_eq_true h]; exact wIf_t hp
theorem wIf_no {c p q : Prop} [Decidable c] (h : ¬ c) (hq : q) : wIf (decide c) p q := by rw [decide_eq_false h]; exact wIf_f hq
theorem wIf_b {b : Bool} {p q : Prop} (h1 : b = true → p) (h2 : b = false → q) : wIf b p q := by
  cases b with
  | true => exact wIf_t (h1 rfl)
  | false => exact wIf_f (h2 rfl)
theorem wIf_n {b : Bool} {p q : Prop} (h : wIf b q p) : wIf (!b) p q := by cases b <;> (unfold wIf at h ⊢; exact h)
theorem wIf_eq {b : Bool} {p q : Prop} (c : Bool) (e : b = c) (h : wIf c p q) : wIf b p q := by rw [e]; exact h
theorem wOpt_s {α : Type} {o : Option α} {Q : α → Prop} {d : α} (e : o = some d) (h : Q d) : wOpt o Q := by rw [e]; unfold wOpt; exact h
theorem wOpt_in {α : Type} {o : Option α} {Q : α → Prop} (h : wOpt o Q) : ∃ d, o = some d ∧ Q d := by
  unfold wOpt at h
  cases o with
  | none => exact h.elim
  | some d => exact ⟨d, rfl, h⟩
def wVar (o : Option (Option D)) (S : Sto) (Q : QK) : Prop := match o with
  | some (some d) => Q d S
  | _ => False
def newL (m : Bool) (ds : List D) (S : Sto) (Q : QK) : Prop := match m with
  | true => ∀ a, S a = none → Q (.ref a) (supd S a (.lst ds))
  | false => Q (.lst ds) S
def lstAt (S : Sto) (a : Addr) : Option (List D) := match S a with
  | some (.lst xs) => some xs
  | _ => none
theorem lstAt_of {S : Sto} {a : Addr} {xs : List D} (h : S a = some (.lst xs)) : lstAt S a = some xs := by unfold lstAt; rw [h]
theorem of_lstAt {S : Sto} {a : Addr} {xs : List D} (h : lstAt S a = some xs) : S a = some (.lst xs) := by
  unfold lstAt at h
  split at h
  · rename_i ys e; cases h; exact e
  · cases h
/-- an instance's attributes -/
def insAt (S : Sto) (a : Addr) (n : Str) : Option (List (Str × D)) := match S a with
  | some (.ins m fs) => if m = n then some fs else none
  | _ => none
theorem of_insAt {S : Sto} {a : Addr} {n : Str} {fs : List (Str × D)} (h : insAt S a n = some fs) : S a = some (.ins n fs) := by
  unfold insAt at h
  split at h
  · rename_i m gs e
    split at h
    · rename_i q
      cases h
      rw [← q]
      exact e
    · cases h
  · cases h
theorem insAt_of {S : Sto} {a : Addr} {n : Str} {fs : List (Str × D)} (h : S a = some (.ins n fs)) : insAt S a n = some fs := by
  unfold insAt
  rw [h]
  exact if_pos rfl
def putD (f : Str) (v : D) : List (Str × D) → List (Str × D)
  | [] => [(f, v)]
  | (g, x) :: r => if g = f then (g, v) :: r else (g, x) :: putD f v r
/-- a dict's pairs -/
def dctAt (S : Sto) (a : Addr) : Option (List (Key × D)) := match S a with
  | some (.dct kvs) => some kvs
  | some (.dlk kvs) => some kvs
  | _ => none
theorem of_dctAt {S : Sto} {a : Addr} {kvs : List (Key × D)} (h : dctAt S a = some kvs) : S a = some (.dct kvs) ∨ S a = some (.dlk kvs) := by
  unfold dctAt at h
  split at h
  · rename_i m e
    cases h
    exact .inl e
  · rename_i m e
    cases h
    exact .inr e
  · cases h
theorem dctAt_of {S : Sto} {a : Addr} {kvs : List (Key × D)} (h : S a = some (.dct kvs)) : dctAt S a = some kvs := by
  unfold dctAt
  rw [h]
theorem dctAt_lk {S : Sto} {a : Addr} {kvs : List (Key × D)} (h : S a = some (.dlk kvs)) : dctAt S a = some kvs := by
  unfold dctAt
  rw [h]
/-- .. of a dict that may be changed -/
def dctW (S : Sto) (a : Addr) : Option (List (Key × D)) := match S a with
  | some (.dct kvs) => some kvs
  | _ => none
theorem of_dctW {S : Sto} {a : Addr} {kvs : List (Key × D)} (h : dctW S a = some kvs) : S a = some (.dct kvs) := by
  unfold dctW at h
  split at h
  · rename_i m e
    cases h
    exact e
  · cases h
theorem dctW_of {S : Sto} {a : Addr} {kvs : List (Key × D)} (h : S a = some (.dct kvs)) : dctW S a = some kvs := by
  unfold dctW
  rw [h]
/-- .. with keys that are tuples, however deep -/
def dcnAt (S : Sto) (a : Addr) : Option (List (NK × D)) := match S a with
  | some (.dcn kvs) => some kvs
  | some (.dcl kvs) => some kvs
  | _ => none
theorem of_dcnAt {S : Sto} {a : Addr} {kvs : List (NK × D)} (h : dcnAt S a = some kvs) : S a = some (.dcn kvs) ∨ S a = some (.dcl kvs) := by
  unfold dcnAt at h
  split at h
  · rename_i m e
    cases h
    exact .inl e
  · rename_i m e
    cases h
    exact .inr e
  · cases h
theorem dcnAt_of {S : Sto} {a : Addr} {kvs : List (NK × D)} (h : S a = some (.dcn kvs)) : dcnAt S a = some kvs := by
  unfold dcnAt
  rw [h]
theorem dcnAt_lk {S : Sto} {a : Addr} {kvs : List (NK × D)} (h : S a = some (.dcl kvs)) : dcnAt S a = some kvs := by
  unfold dcnAt
  rw [h]
def dcnW (S : Sto) (a : Addr) : Option (List (NK × D)) := match S a with
  | some (.dcn kvs) => some kvs
  | _ => none
theorem of_dcnW {S : Sto} {a : Addr} {kvs : List (NK × D)} (h : dcnW S a = some kvs) : S a = some (.dcn kvs) := by
  unfold dcnW at h
  split at h
  · rename_i m e
    cases h
    exact e
  · cases h
theorem dcnW_of {S : Sto} {a : Addr} {kvs : List (NK × D)} (h : S a = some (.dcn kvs)) : dcnW S a = some kvs := by
  unfold dcnW
  rw [h]
/-- what such a dict tells of a key; with a pair more, or another value -/
def gGet {κ β : Type} [DecidableEq κ] (kvs : List (κ × β)) (k : κ) : Option β := (kvs.find? fun p => decide (p.1 = k)).map Prod.snd
def gPut {κ β : Type} [DecidableEq κ] (kvs : List (κ × β)) (k : κ) (v : β) : List (κ × β) := if kvs.any (fun p => decide (p.1 = k)) then kvs.map (fun p => if p.1 = k then (p.1, v) else p) else kvs ++ [(k, v)]
def gPuts {κ β : Type} [DecidableEq κ] (kvs : List (κ × β)) : List (κ × β) := kvs.foldl (fun acc p => gPut acc p.1 p.2) []
/-- a dict while it is walked -/
def lockO : SO → Option SO
  | .dct kvs => some (.dlk kvs)
  | .dcn kvs => some (.dcl kvs)
  | _ => none
/-- the pairs of a dict that is walked -/
def lkAt (S : Sto) (a : Addr) : Option (List (D × D)) := match S a with
  | some (.dlk kvs) => some (kvs.map fun p => (match p.1 with | .inl i => .int i | .inr x => .str x, p.2))
  | some (.dcl kvs) => some (kvs.map fun p => (nkD p.1, p.2))
  | _ => none
def Dw.its (w : Dw) (kvs : List (D × D)) : List D := match w with
  | .keys => kvs.map fun p => p.1
  | .items => kvs.map fun p => .tup [p.1, p.2]
def keyD : D → Option Key
  | .int i => some (.inl i)
  | .str x => some (.inr x)
  | _ => none
def kD : Key → D
  | .inl i => .int i
  | .inr x => .str x
/-- what a dict tells of a key; a pair more, or another value -/
def kvGet (kvs : List (Key × D)) (k : Key) : Option D := (kvs.find? fun p => decide (p.1 = k)).map Prod.snd
def kvPut (kvs : List (Key × D)) (k : Key) (v : D) : List (Key × D) := if kvs.any (fun p => decide (p.1 = k)) then kvs.map (fun p => if p.1 = k then (p.1, v) else p) else kvs ++ [(k, v)]
/-- the items of a list or tuple -/
def seqD (x : D) (S : Sto) : Option (List D) := match x with
  | .tup xs => some xs
  | .lst xs => some xs
  | .lsk xs => some xs
  | .ref a => lstAt S a
  | _ => none
/-- .. of a list -/
def lstD (x : D) (S : Sto) : Option (List D) := match x with
  | .lst xs => some xs
  | .ref a => lstAt S a
  | _ => none
/-- .. of a list that is read alone, too -/
def lsrD (x : D) (S : Sto) : Option (List D) := match x with
  | .lst xs => some xs
  | .lsk xs => some xs
  | .ref a => lstAt S a
  | _ => none
/-- .. of a changeable list -/
def refL (x : D) (S : Sto) : Option (List D) := match x with
  | .ref a => lstAt S a
  | _ => none
abbrev MulOk (i j : Int) : Prop := (-18446744073709551616 < i ∧ i < 18446744073709551616) ∨ (-18446744073709551616 < j ∧ j < 18446744073709551616)
def rgD (a b : Int) : List D := (List.range (b - a).toNat).map fun (i : Nat) => D.int (a + (i : Int))
def wBin (op : Operator) (x y : D) (S : Sto) (Q : QK) : Prop := match op, x, y with
  | .Add, .int i, .int j => Q (.int (i + j)) S
  | .Sub, .int i, .int j => Q (.int (i - j)) S
  | .Mult, .int i, .int j => MulOk i j ∧ Q (.int (i * j)) S
  | .FloorDiv, .int i, .int j => (0 < j ∧ j < 18446744073709551616) ∧ Q (.int (i / j)) S
  | .Mod, .int i, .int j => 0 < j ∧ Q (.int (i % j)) S
  | .Add, .tup xs, .tup ys => xs.length + ys.length ≤ 16777216 ∧ Q (.tup (xs ++ ys)) S
  | .Add, .lst xs, .lst ys => xs.length + ys.length ≤ 16777216 ∧ Q (.lst (xs ++ ys)) S
  | .Add, .str a, .str b => a.length + b.length ≤ 16777216 ∧ Q (.str (a ++ b)) S
  | .Add, .ref a, .lst ys => wOpt (lstAt S a) fun xs => xs.length + ys.length ≤ 16777216 ∧ Q (.lst (xs ++ ys)) S
  | .Add, .lst xs, .ref b => wOpt (lstAt S b) fun ys => xs.length + ys.length ≤ 16777216 ∧ Q (.lst (xs ++ ys)) S
  | .Add, .ref a, .ref b => wOpt (lstAt S a) fun xs => wOpt (lstAt S b) fun ys => xs.length + ys.length ≤ 16777216 ∧ Q (.lst (xs ++ ys)) S
  | .Mult, .lst xs, .int k => (-9223372036854775808 ≤ k ∧ k < 9223372036854775808 ∧ xs.length * k.toNat ≤ 16777216) ∧ Q (.lst (List.replicate k.toNat xs).flatten) S
  | .Mult, .tup xs, .int k => ((xs ≠ [] ∨ k = 2 ∨ k = 400) ∧ 0 ≤ k ∧ k ≤ 1000 ∧ xs.length ≤ 1000) ∧ Q (.tup (List.replicate k.toNat xs).flatten) S
  | _, _, _ => False
def wAug (op : Operator) (x y : D) (S : Sto) (Q : QK) : Prop := match op, x, y with
  | .Add, .int i, .int j => Q (.int (i + j)) S
  | .Sub, .int i, .int j => Q (.int (i - j)) S
  | .Mult, .int i, .int j => MulOk i j ∧ Q (.int (i * j)) S
  | .Add, .str a, .str b => a.length + b.length ≤ 16777216 ∧ Q (.str (a ++ b)) S
  | _, _, _ => False
def wNg (n b : Bool) (S : Sto) (Q : QK) : Prop := match n with
  | false => Q (.bl b) S
  | true => Q (.bl (!b)) S
def wEq (n : Bool) (x y : D) (S : Sto) (Q : QK) : Prop := match x, y with
  | .int i, .int j => wNg n (decide (i = j)) S Q
  | .bl i, .bl j => wNg n (decide (i = j)) S Q
  | .str i, .str j => wNg n (decide (i = j)) S Q
  | .ref a, .lst ys => wOpt (lstAt S a) fun xs => ((D.lst xs).Ok ∧ (D.lst ys).Ok) ∧ wNg n (PyData.eqv (D.lst xs).py (D.lst ys).py) S Q
  | .lst xs, .ref a => wOpt (lstAt S a) fun ys => ((D.lst xs).Ok ∧ (D.lst ys).Ok) ∧ wNg n (PyData.eqv (D.lst xs).py (D.lst ys).py) S Q
  | x, y => (x.Ok ∧ y.Ok) ∧ wNg n (PyData.eqv x.py y.py) S Q
def wOrd (f : PyData → PyData → Bool) (g : Int → Int → Bool) (x y : D) (S : Sto) (Q : QK) : Prop := match x, y with
  | .int i, .int j => Q (.bl (g i j)) S
  | x, y => (x.Ok ∧ y.Ok ∧ x ≠ .non ∧ PySem.W.alike x.py y.py = true) ∧ Q (.bl (f x.py y.py)) S
def isD (x y : D) : Option Bool := match x, y with
  | .non, .non => some true
  | .bl a, .bl b => some (decide (a = b))
  | .non, _ => none
  | .int _, .non => some false | .bl _, .non => some false | .str _, .non => some false | .tup _, .non => some false | .lst _, .non => some false | .ref _, .non => some false
  | _, _ => none
def wIn (n : Bool) (x y : D) (S : Sto) (Q : QK) : Prop := wOpt (seqD y S) fun ys => (x.Ok ∧ (D.tup ys).Ok) ∧ wNg n (ys.any fun z => PyData.eqv z.py x.py) S Q
def wCmp (op : CmpOp) (x y : D) (S : Sto) (Q : QK) : Prop := match op with
  | .Eq => wEq false x y S Q
  | .NotEq => wEq true x y S Q
  | .Lt => wOrd (fun a b => PySem.W.dataLt a b) (fun i j => decide (i < j)) x y S Q
  | .Gt => wOrd (fun a b => PySem.W.dataLt b a) (fun i j => decide (j < i)) x y S Q
  | .LtE => wOrd (fun a b => !PySem.W.dataLt b a) (fun i j => decide (i ≤ j)) x y S Q
  | .GtE => wOrd (fun a b => !PySem.W.dataLt a b) (fun i j => decide (j ≤ i)) x y S Q
  | .Is => wOpt (isD x y) fun b => Q (.bl b) S
  | .IsNot => wOpt (isD x y) fun b => Q (.bl (!b)) S
  | .In => wIn false x y S Q
  | .NotIn => wIn true x y S Q
/-- truth -/
def tru (x : D) (S : Sto) : Option Bool := match x with
  | .non => some false
  | .bl b => some b
  | .int i => some (i != 0)
  | .tup xs => some (!xs.isEmpty)
  | .lst xs => some (!xs.isEmpty)
  | .lsk xs => some (!xs.isEmpty)
  | .ref a => (lstAt S a).map fun xs => !xs.isEmpty
  | _ => none
def wTru (x : D) (S : Sto) (Q : Bool → Sto → Prop) : Prop := wOpt (tru x S) fun b => Q b S
def wB (x : D) (S : Sto) (Q : Bool → Sto → Prop) : Prop := match x with
  | .bl b => Q b S
  | _ => False
def wIx (x i : D) (S : Sto) (Q : QK) : Prop := match i with
  | .int i => wOpt (seqD x S) fun xs => wOpt (atI xs i) fun d => Q d S
  | _ => False
def wIxc (x : D) (k : Nat) (S : Sto) (Q : QK) : Prop := wOpt (seqD x S) fun xs => wOpt (xs[k]?) fun d => Q d S
def cut {α : Type} (xs : List α) (lo hi : Option Int) : List α := (xs.drop (HT.sIx xs.length 0 lo)).take (HT.sIx xs.length xs.length hi - HT.sIx xs.length 0 lo)
def intO (x : Option D) (Q : Option Int → Prop) : Prop := match x with
  | none => Q none
  | some (.int i) => Q (some i)
  | _ => False
def wSl (m : Bool) (x : D) (lo hi : Option Int) (S : Sto) (Q : QK) : Prop := match x with
  | .tup xs => Q (.tup (cut xs lo hi)) S
  | x => wOpt (lsrD x S) fun xs => newL m (cut xs lo hi) S Q
def asBools : List D → Option (List Bool)
  | [] => some []
  | .bl b :: r => (asBools r).map (b :: ·)
  | _ => none
def asInts : List D → Option (List Int)
  | [] => some []
  | .int b :: r => (asInts r).map (b :: ·)
  | _ => none
def asStrs : List D → Option (List Str)
  | [] => some []
  | .str b :: r => (asStrs r).map (b :: ·)
  | _ => none
/-- a thing of known kind -/
def kn1 (S : Sto) (d : D) : Prop := match d with
  | .non => True | .bl _ => True | .int _ => True | .str _ => True | .tup _ => True | .lst _ => True
  | .ref a => ∃ kvs, S a = some (.dct kvs)
  | _ => False
def isS (b : Str) : D → Bool
  | .str t => t == b
  | _ => false
def eqSt : List D → List Str → Bool
  | [], [] => true
  | d :: ds, b :: bs => isS b d && eqSt ds bs
  | _, _ => false
/-- text in a tuple of things of known kinds -/
def wInM (x y : D) (S : Sto) (Q : QK) : Prop := match x, y with
  | .str b, .tup ys => (∀ z ∈ ys, kn1 S z) ∧ Q (.bl (ys.any (isS b))) S
  | _, _ => False
/-- a list of such == a list of texts -/
def wEqM (x y : D) (S : Sto) (Q : QK) : Prop := match x, y with
  | .lst xs, .lst ys => wOpt (asStrs ys) fun bs => (∀ z ∈ xs, kn1 S z) ∧ Q (.bl (eqSt xs bs)) S
  | _, _ => False
/-- a pair of whole numbers -/
def prD (p : Int × Int) : D := .tup [.int p.1, .int p.2]
def asPrs : List D → Option (List (Int × Int))
  | [] => some []
  | .tup [.int a, .int b] :: r => (asPrs r).map ((a, b) :: ·)
  | _ => none
/-- the text of a whole number -/
def strI (i : Int) : Str := toString i
/-- a text cut, read as a number, its signs -/
def wSplt (m : Bool) (t : Str) (y : D) (S : Sto) (Q : QK) : Prop := match y with
  | .str u => (u.length ≠ 0 ∧ t.length + 2 ≤ 16777216) ∧ newL m ((Txt.split t u).map .str) S Q
  | _ => False
def wIntT (x : D) (S : Sto) (Q : QK) : Prop := match x with
  | .str t => wOpt (intText? t) fun n => t.length ≤ 640 ∧ Q (.int n) S
  | _ => False
def wLenT (x : D) (S : Sto) (Q : QK) : Prop := match x with
  | .str t => t.length ≤ 16777216 ∧ Q (.int (t.length : Nat)) S
  | _ => False
def wIxT (x : D) (k : Nat) (S : Sto) (Q : QK) : Prop := match x with
  | .str t => wOpt (t.cps.toList[k]?) fun c => t.length ≤ 16777216 ∧ Q (.str ⟨#[c]⟩) S
  | _ => False
def wSgn (n : Bool) (c : Str) (y : D) (S : Sto) (Q : QK) : Prop := match y with
  | .str z => ∃ k, c = ⟨#[k]⟩ ∧ Q (.bl (if n then !decide (k ∈ z.cps.toList) else decide (k ∈ z.cps.toList))) S
  | _ => False
/-- a table of the module, by a text -/
def wTab (kvs : List (Str × D)) (k : D) (S : Sto) (Q : QK) : Prop := match k with
  | .str x => wOpt (kvs.lookup x) fun d => Q d S
  | _ => False
def wInTab (kvs : List (Str × D)) (k : D) (S : Sto) (Q : QK) : Prop := match k with
  | .str x => Q (.bl (kvs.lookup x).isSome) S
  | _ => False
/-- a def that a name holds -/
def wFnV (o : Option (Option D)) (fs : List (Str × Nat)) (R : Nat → Prop) : Prop := match o with
  | some (some (.ty n)) => wOpt (fs.lookup n) R
  | _ => False
/-- a text, never or once -/
def wFew (t : Str) (k : D) (S : Sto) (Q : QK) : Prop := match k with
  | .int i => (i = 0 ∧ Q (.str ⟨#[]⟩) S) ∨ (i = 1 ∧ Q (.str t) S)
  | _ => False
def sgnsD (z : Str) : List D := z.cps.toList.map fun c => D.str ⟨#[c]⟩
def wBlt (b : Blt) (ds : List D) (S : Sto) (Q : QK) : Prop := match b, ds with
  | .len, [x] => wOpt (seqD x S) fun xs => Q (.int xs.length) S
  | .abs, [.int i] => Q (.int (if i < 0 then -i else i)) S
  | .min, [.int i, .int j] => Q (.int (if j < i then j else i)) S
  | .max, [.int i, .int j] => Q (.int (if j > i then j else i)) S
  | .min, [x] => wOpt (lsrD x S) fun xs => wOpt (asInts xs) fun ns => 0 < ns.length ∧ ∀ m, m ∈ ns → (∀ y ∈ ns, m ≤ y) → Q (.int m) S
  | .max, [x] => wOpt (seqD x S) fun xs => wOpt (asInts xs) fun ns => 0 < ns.length ∧ ∀ m, m ∈ ns → (∀ y ∈ ns, y ≤ m) → Q (.int m) S
  | .minP, [x] => wOpt (lsrD x S) fun xs => ((D.pures xs = true ∧ ((∀ a ∈ D.pys xs, ∀ b ∈ D.pys xs, PySem.W.alike a b = true) ∧ ∀ a ∈ D.pys xs, a ≠ .none) ∧ PyData.depthAll (D.pys xs) ≤ 60) ∧ 0 < xs.length) ∧ ∀ d ∈ xs, d.py = (D.pys xs).tail.foldl (fun a y => if PySem.W.dataLt y a then y else a) ((D.pys xs).headD .none) → Q d S
  | .sortP m, [x] => wOpt (lsrD x S) fun xs => wOpt (asPrs xs) fun ns => (ns.length < 64 ∧ ∀ p ∈ ns, (0 ≤ p.1 ∧ p.1 < 10000000) ∧ (0 ≤ p.2 ∧ p.2 < 10000000)) ∧ ∀ zs : List (Int × Int), zs.Perm ns → zs.Pairwise (fun a b => a.1 * 10000000 + a.2 ≤ b.1 * 10000000 + b.2) → newL m (zs.map prD) S Q
  | .sorted m, [x] => wOpt (lsrD x S) fun xs => wOpt (asInts xs) fun ns => ∀ zs : List Int, zs.Perm ns → zs.Pairwise (· ≤ ·) → newL m (zs.map .int) S Q
  | .sortS m, [x] => wOpt (lsrD x S) fun xs => wOpt (asStrs xs) fun ns => ns.length < 64 ∧ ∀ zs : List Str, zs.Perm ns → sortedS zs = true → newL m (zs.map .str) S Q
  | .max, [.tup xs, .tup ys] => (((D.tup xs).Ok ∧ (D.tup ys).Ok) ∧ PySem.W.alike (D.tup xs).py (D.tup ys).py = true ∧ PySem.W.alike (D.tup ys).py (D.tup xs).py = true ∧ PySem.W.alike (D.tup xs).py (D.tup xs).py = true ∧ PySem.W.alike (D.tup ys).py (D.tup ys).py = true) ∧ Q (if PySem.W.dataLt (D.tup xs).py (D.tup ys).py then .tup ys else .tup xs) S
  | .int, [.int i] => Q (.int i) S
  | .int, [.bl b] => Q (.int (if b then 1 else 0)) S
  | .str, [.int i] => i.natAbs.log2 < 1920 ∧ Q (.str (strI i)) S
  | .tuple, [x] => wOpt (seqD x S) fun xs => Q (.tup xs) S
  | .list m, [x] => wOpt (seqD x S) fun xs => newL m xs S Q
  | .all, [x] => wOpt (lstD x S) fun xs => wOpt (asBools xs) fun bs => Q (.bl (bs.all id)) S
  | .any, [x] => wOpt (lstD x S) fun xs => wOpt (asBools xs) fun bs => Q (.bl (bs.any id)) S
  | .sum, [x] => wOpt (lstD x S) fun xs => wOpt (asInts xs) fun bs => Q (.int bs.sum) S
  | _, _ => False
def tyD (x : D) (S : Sto) : Option String := match x with
  | .non => some "NoneType" | .bl _ => some "bool" | .int _ => some "int" | .str _ => some "str" | .tup _ => some "tuple" | .lst _ => some "list" | .lsk _ => some "list"
  | .ref a => match S a with
    | some (.lst _) => some "list"
    | some (.dct _) => some "dict"
    | _ => none
  | .ty _ => none
def isiD (t n : String) : Bool := t == n || (t == "bool" && n == "int")
def wApp (x : D) (ds : List D) (S : Sto) (Q : QK) : Prop := match x, ds with
  | .ref a, [d] => wOpt (lstAt S a) fun xs => xs.length < 16777216 ∧ Q .non (supd S a (.lst (xs ++ [d])))
  | _, _ => False
def wExt (x : D) (ds : List D) (S : Sto) (Q : QK) : Prop := match x, ds with
  | .ref a, [d] => wOpt (lstAt S a) fun xs => wOpt (lstD d S) fun ys => xs.length + ys.length ≤ 16777216 ∧ Q .non (supd S a (.lst (xs ++ ys)))
  | _, _ => False
def wPop (x : D) (ds : List D) (S : Sto) (Q : QK) : Prop := match x, ds with
  | .ref a, [] => wOpt (lstAt S a) fun xs => wOpt (xs.getLast?) fun d => Q d (supd S a (.lst xs.dropLast))
  | .ref a, [.int i] => wOpt (lstAt S a) fun xs => i = 0 ∧ wOpt (xs[0]?) fun d => Q d (supd S a (.lst (xs.eraseIdx 0)))
  | _, _ => False
def wIns (x : D) (ds : List D) (S : Sto) (Q : QK) : Prop := match x, ds with
  | .ref a, [.int i, d] => wOpt (lstAt S a) fun xs => (xs.length < 16777216 ∧ 0 ≤ i ∧ i < 9223372036854775808) ∧ Q .non (supd S a (.lst (xs.take i.toNat ++ [d] ++ xs.drop i.toNat)))
  | _, _ => False
def wMeth (m : Mth) (x : D) (ds : List D) (S : Sto) (Q : QK) : Prop := match m with
  | .append => wApp x ds S Q
  | .extend => wExt x ds S Q
  | .pop => wPop x ds S Q
  | .insert => wIns x ds S Q
def wFld (n f : Str) (x : D) (S : Sto) (Q : QK) : Prop := match x with
  | .ref a => wOpt (insAt S a n) fun fs => wOpt (fs.lookup f) fun d => Q d S
  | _ => False
def wSetFld (n f : Str) (x v : D) (S : Sto) (Q : Sto → Prop) : Prop := match x with
  | .ref a => wOpt (insAt S a n) fun fs => fs.length < 1000 ∧ Q (supd S a (.ins n (putD f v fs)))
  | _ => False
def wMth (n m : Str) (x : D) (S : Sto) (Q : Prop) : Prop := match x with
  | .ref a => wOpt (insAt S a n) fun fs => fs.lookup m = none ∧ Q
  | _ => False
/-- a dict, by its place -/
def wDct (x : D) (S : Sto) (Q : Addr → List (Key × D) → Prop) : Prop := match x with
  | .ref a => wOpt (dctAt S a) fun kvs => Q a kvs
  | _ => False
def wInD (n : Bool) (x y : D) (S : Sto) (Q : QK) : Prop := wDct y S fun _ kvs => wOpt (keyD x) fun k => Q (.bl (if n then !(kvGet kvs k).isSome else (kvGet kvs k).isSome)) S
def wGetD (x y : D) (S : Sto) (Q : QK) : Prop := wDct x S fun _ kvs => wOpt (keyD y) fun k => wOpt (kvGet kvs k) fun d => Q d S
def wGetOr (x y z : D) (S : Sto) (Q : QK) : Prop := wDct x S fun _ kvs => wOpt (keyD y) fun k => Q ((kvGet kvs k).getD z) S
def wDcw (x : D) (S : Sto) (Q : Addr → List (Key × D) → Prop) : Prop := match x with
  | .ref a => wOpt (dctW S a) fun kvs => Q a kvs
  | _ => False
def kvDel (kvs : List (Key × D)) (k : Key) : List (Key × D) := kvs.filter fun p => !decide (p.1 = k)
def wDpop (x y : D) (S : Sto) (Q : QK) : Prop := wDcw x S fun a kvs => wOpt (keyD y) fun k => wOpt (kvGet kvs k) fun v => Q v (supd S a (.dct (kvDel kvs k)))
def wDcn (x : D) (S : Sto) (Q : Addr → List (NK × D) → Prop) : Prop := match x with
  | .ref a => wOpt (dcnAt S a) fun kvs => Q a kvs
  | _ => False
def wDnw (x : D) (S : Sto) (Q : Addr → List (NK × D) → Prop) : Prop := match x with
  | .ref a => wOpt (dcnW S a) fun kvs => Q a kvs
  | _ => False
def wInN (n : Bool) (x y : D) (S : Sto) (Q : QK) : Prop := wDcn y S fun _ kvs => wOpt (keyT x) fun k => Q (.bl (if n then !(gGet kvs k).isSome else (gGet kvs k).isSome)) S
def wGetN (x y : D) (S : Sto) (Q : QK) : Prop := wDcn x S fun _ kvs => wOpt (keyT y) fun k => wOpt (gGet kvs k) fun d => Q d S
def wGetOrN (x y z : D) (S : Sto) (Q : QK) : Prop := wDcn x S fun _ kvs => wOpt (keyT y) fun k => Q ((gGet kvs k).getD z) S
def wSetKeyN (x y v : D) (S : Sto) (Q : Sto → Prop) : Prop := wDnw x S fun a kvs => wOpt (keyT y) fun k => kvs.length < 16777216 ∧ Q (supd S a (.dcn (gPut kvs k v)))
/-- pairs of such a key and a value -/
def pairN (d : D) : Option (NK × D) := match d with
  | .tup [k, v] => (keyT k).map fun kk => (kk, v)
  | _ => none
def pairsN : List D → Option (List (NK × D))
  | [] => some []
  | d :: r => (pairN d).bind fun p => (pairsN r).map (p :: ·)
def wDctPN (x : D) (S : Sto) (Q : QK) : Prop := wOpt (lsrD x S) fun xs => wOpt (pairsN xs) fun kvs => ∀ a, S a = none → Q (.ref a) (supd S a (.dcn (gPuts kvs)))
/-- data in order, as sorted puts them -/
def OrdD (zs : List D) : Prop := zs.Pairwise fun a b => PySem.W.dataLt b.py a.py = false
/-- what may be sorted -/
def SrtOk (xs : List D) : Prop := (D.pures xs = true ∧ ∀ a ∈ D.pys xs, ∀ b ∈ D.pys xs, PySem.W.alike a b = true) ∧ ((∀ a ∈ D.pys xs, ∃ x r, a = PyData.tuple (x :: r)) ∧ PyData.depthAll (D.pys xs) ≤ 60) ∧ xs.length ≤ 16777216
def wSortD (m : Bool) (xs : List D) (S : Sto) (Q : QK) : Prop := SrtOk xs ∧ ∀ zs : List D, zs.Perm xs → OrdD zs → newL m zs S Q
def wSrtT (m : Bool) (x : D) (S : Sto) (Q : QK) : Prop := match x with
  | .tup xs => wOpt (asInts xs) fun ns => ∀ zs : List Int, zs.Perm ns → zs.Pairwise (· ≤ ·) → newL m (zs.map .int) S Q
  | _ => False
/-- t.join(y) -/
def wJoin (t : Str) (y : D) (S : Sto) (Q : QK) : Prop := wOpt (seqD y S) fun ys => wOpt (asStrs ys) fun ts => (ts.map (·.length)).sum + ts.length * t.length ≤ 16777216 ∧ Q (.str (Txt.join t ts)) S
def wLenD (n : Bool) (x : D) (S : Sto) (Q : QK) : Prop := match n with
  | false => wDct x S fun _ kvs => Q (.int (kvs.length : Nat)) S
  | true => wDcn x S fun _ kvs => Q (.int (kvs.length : Nat)) S
def wSetKey (x y v : D) (S : Sto) (Q : Sto → Prop) : Prop := wDcw x S fun a kvs => wOpt (keyD y) fun k => kvs.length < 16777216 ∧ Q (supd S a (.dct (kvPut kvs k v)))
/-- sorted by the pairs (ts[n], n) -/
def lexLe (ts : List Int) (a b : Int) : Prop := ts.getD a.toNat 0 < ts.getD b.toNat 0 ∨ (ts.getD a.toNat 0 = ts.getD b.toNat 0 ∧ a ≤ b)
def wSortK (m : Bool) (x y : D) (S : Sto) (Q : QK) : Prop := match y with
  | .tup td => wOpt (lsrD x S) fun xs => wOpt (asInts xs) fun ns => wOpt (asInts td) fun ts => (∀ n ∈ ns, 0 ≤ n ∧ n < ts.length) ∧ ∀ zs : List Int, zs.Perm ns → zs.Pairwise (lexLe ts) → newL m (zs.map .int) S Q
  | _ => False
def wLset (x : D) (S : Sto) (Q : QK) : Prop := match x with
  | .tup xs => wOpt (asInts xs) fun ns => ns.length ≤ 1000 ∧ ∀ n : Nat, (∃ ds : List Int, ds.Nodup ∧ (∀ z, z ∈ ds ↔ z ∈ ns) ∧ ds.length = n) → Q (.int (n : Nat)) S
  | x => wOpt (lsrD x S) fun xs => wOpt (asPrs xs) fun ns => (ns.Nodup ∧ ns.length < 64) ∧ Q (.int (ns.length : Nat)) S
/-- pairs of a key and a value -/
def pairD (d : D) : Option (Key × D) := match d with
  | .tup [k, v] => (keyD k).map fun kk => (kk, v)
  | _ => none
def pairsD : List D → Option (List (Key × D))
  | [] => some []
  | d :: r => (pairD d).bind fun p => (pairsD r).map (p :: ·)
def putAllD (kvs : List (Key × D)) : List (Key × D) := kvs.foldl (fun acc p => kvPut acc p.1 p.2) []
def intKs : List (Key × D) → Option (List Int)
  | [] => some []
  | (.inl i, _) :: r => (intKs r).map (i :: ·)
  | _ => none
def wDctP (x : D) (S : Sto) (Q : QK) : Prop := wOpt (lsrD x S) fun xs => wOpt (pairsD xs) fun kvs => ∀ a, S a = none → Q (.ref a) (supd S a (.dct (putAllD kvs)))
def wSrtD (m : Bool) (x : D) (S : Sto) (Q : QK) : Prop := wDct x S fun _ kvs => wOpt (intKs kvs) fun ns => ns.length < 64 ∧ ∀ zs : List Int, zs.Perm ns → zs.Pairwise (· ≤ ·) → newL m (zs.map .int) S Q
def wGetL (x i : D) (S : Sto) (Q : QK) : Prop := match x, i with
  | .ref a, .int k => wOpt (lstAt S a) fun xs => 0 ≤ k ∧ wOpt (xs[k.toNat]?) fun d => Q d S
  | _, _ => False
/-- lists put together, where what comes out may change -/
def wCat (m : Bool) (x y : D) (S : Sto) (Q : QK) : Prop := wOpt (lstD x S) fun xs => wOpt (lstD y S) fun ys => xs.length + ys.length ≤ 16777216 ∧ newL m (xs ++ ys) S Q
def wRep (m : Bool) (x y : D) (S : Sto) (Q : QK) : Prop := match y with
  | .int k => wOpt (lstD x S) fun xs => (-9223372036854775808 ≤ k ∧ k < 9223372036854775808 ∧ xs.length * k.toNat ≤ 16777216) ∧ newL m (List.replicate k.toNat xs).flatten S Q
  | _ => False
def wCnt (x y : D) (S : Sto) (Q : QK) : Prop := match y with
  | .int k => wOpt (lstD x S) fun xs => wOpt (asInts xs) fun ns => Q (.int (ns.count k : Nat)) S
  | _ => False
def wSetIx (x i v : D) (S : Sto) (Q : Sto → Prop) : Prop := match x, i with
  | .ref a, .int k => wOpt (lstAt S a) fun xs => wOpt (ixN xs.length k) fun j => Q (supd S a (.lst (xs.set j v)))
  | _, _ => False
mutual
def asgT : T → D → En → Option En
  | .nm i, d, env => some (env.set i (some d))
  | .tup ts, .tup ds, env => asgTs ts ds env
  | .tup ts, .lst ds, env => asgTs ts ds env
  | .tup _, _, _ => none
def asgTs : List T → List D → En → Option En
  | [], [], env => some env
  | t :: ts, d :: ds, env => match asgT t d env with
    | some env1 => asgTs ts ds env1
    | none => none
  | _, _, _ => none
end
/-- an assignment: a list that may be changed is taken apart as it stands -/
def asgO (S : Sto) : T → D → En → Option En
  | .nm i, d, env => some (env.set i (some d))
  | .tup ts, .tup ds, env => asgTs ts ds env
  | .tup ts, .lst ds, env => asgTs ts ds env
  | .tup ts, .ref a, env => (lstAt S a).bind fun ds => asgTs ts ds env
  | .tup _, _, _ => none
def wipeD (env : En) : List Nat → En
  | [] => env
  | v :: vs => (wipeD env vs).set v none
/-- a comprehension's turns -/
def wLc0 (stay : Sto → Prop) (asg : D → Option En) (c : En → Sto → (Bool → Sto → Prop) → Prop) (el : En → Sto → QK → Prop) : List D → List D → Sto → (List D → Sto → Prop) → Prop
  | [], acc, S, Q => stay S ∧ Q acc S
  | d :: ds, acc, S, Q => stay S ∧ wOpt (asg d) fun e2 => c e2 S fun b S2 => wIf b (el e2 S2 fun y S3 => wLc0 stay asg c el ds (acc ++ [y]) S3 Q) (wLc0 stay asg c el ds acc S2 Q)
@[irreducible] def wLc (stay : Sto → Prop) (asg : D → Option En) (c : En → Sto → (Bool → Sto → Prop) → Prop) (el : En → Sto → QK → Prop) (ds acc : List D) (S : Sto) (Q : List D → Sto → Prop) : Prop := wLc0 stay asg c el ds acc S Q
structure Dn where
  nx : En → Sto → Prop
  rt : QK
  bk : En → Sto → Prop
  ct : En → Sto → Prop
  ex : Str → D → En → Sto → Prop := fun _ _ _ _ => False
/-- what stood locked at a is as it was -/
def unlk (a : Addr) (l o : SO) (K : Dn) : Dn where
  nx := fun e S => S a = some l ∧ K.nx e (supd S a o)
  rt := fun v S => S a = some l ∧ K.rt v (supd S a o)
  bk := fun e S => S a = some l ∧ K.bk e (supd S a o)
  ct := fun e S => S a = some l ∧ K.ct e (supd S a o)
/-- a for's turns -/
def wFor0 (stay : Sto → Prop) (asg : D → En → Option En) (body : Dn → En → Sto → Prop) (K : Dn) : List D → En → Sto → Prop
  | [], env, S => stay S ∧ K.nx env S
  | d :: ds, env, S => stay S ∧ wOpt (asg d env) fun e2 => body { nx := wFor0 stay asg body K ds, rt := K.rt, bk := K.nx, ct := wFor0 stay asg body K ds, ex := K.ex } e2 S
@[irreducible] def wFor (stay : Sto → Prop) (asg : D → En → Option En) (body : Dn → En → Sto → Prop) (K : Dn) (ds : List D) (env : En) (S : Sto) : Prop := wFor0 stay asg body K ds env S
@[irreducible] def wWhile (c : En → Sto → (Bool → Sto → Prop) → Prop) (body : Dn → En → Sto → Prop) (K : Dn) (env : En) (S : Sto) : Prop :=
  ∃ W : Nat → En → Sto → Prop, (∃ m, W m env S) ∧ ∀ m env S, W m env S →
    c env S fun b S1 => wIf b (body { nx := fun e s => ∃ m', m' < m ∧ W m' e s, rt := K.rt, bk := K.nx, ct := fun e s => ∃ m', m' < m ∧ W m' e s, ex := K.ex } env S1) (K.nx env S1)
/-- a tuple -/
def kindT : D → Bool
  | .tup _ => true
  | _ => false
def noStay : Sto → Prop := fun _ => True
def stayOf (x : D) (xs : List D) : Sto → Prop := match x with
  | .ref a => fun S => S a = some (.lst xs)
  | _ => fun _ => True

/-- None, or an exception's class -/
def excAt (S : Sto) (x : D) : Option (Option Str) := match x with
  | .non => some none
  | .ref a => match S a with
    | some (.exc n) => if exKn n = true then some (some n) else none
    | _ => none
  | _ => none
def exiB (ns : List Str) (o : Option Str) : Bool := match o with
  | none => false
  | some n => ns.any (exSub n)
/-! ### what must hold ahead -/
mutual
def wE (cs : CS) (EX : EK) : E → En → Sto → QK → Prop
  | .var i, env, S, Q => wVar (env[i]?) S Q
  | .int i, _, S, Q => Q (.int i) S
  | .bl b, _, S, Q => Q (.bl b) S
  | .non, _, S, Q => Q .non S
  | .str x, _, S, Q => Q (.str x) S
  | .cpow _ _ v, _, S, Q => Q (.int v) S
  | .cpm _ _ _ _ v, _, S, Q => Q (.int v) S
  | .glob _ d, _, S, Q => Q d S
  | .dict0, _, S, Q => ∀ a, S a = none → Q (.ref a) (supd S a (.dct []))
  | .lr1 m a, env, S, Q => wE cs EX a env S fun x S1 => match x with
    | .int n => (-4611686018427387904 ≤ n ∧ n ≤ 16777216) ∧ newL m (rgD 0 n) S1 Q
    | _ => False
  | .lr2 m a b, env, S, Q => wE cs EX a env S fun x S1 => wE cs EX b env S1 fun y S2 => match x, y with
    | .int i, .int j => (-4611686018427387904 ≤ i ∧ i < 4611686018427387904 ∧ j < 4611686018427387904 ∧ -4611686018427387904 ≤ j ∧ j - i ≤ 16777216) ∧ newL m (rgD i j) S2 Q
    | _, _ => False
  | .rev m a, env, S, Q => wE cs EX a env S fun x S1 => wOpt (lsrD x S1) fun xs => newL m xs.reverse S1 Q
  | .bin op a b, env, S, Q => wE cs EX a env S fun x S1 => wE cs EX b env S1 fun y S2 => wBin op x y S2 Q
  | .neg a, env, S, Q => wE cs EX a env S fun x S1 => match x with
    | .int i => Q (.int (-i)) S1
    | _ => False
  | .not a, env, S, Q => wE cs EX a env S fun x S1 => wB x S1 fun b S2 => Q (.bl (!b)) S2
  | .cmp op a b, env, S, Q => wE cs EX a env S fun x S1 => wE cs EX b env S1 fun y S2 => wCmp op x y S2 Q
  | .cmp2 o1 o2 a b c, env, S, Q => wE cs EX a env S fun x S1 => wE cs EX b env S1 fun y S2 => wCmp o1 x y S2 fun r S3 => wB r S3 fun k S4 =>
      wIf k (wE cs EX c env S4 fun z S5 => wCmp o2 y z S5 Q) (Q (.bl false) S4)
  | .and a b, env, S, Q => wE cs EX a env S fun x S1 => wB x S1 fun k S2 => wIf k (wE cs EX b env S2 Q) (Q (.bl false) S2)
  | .or a b, env, S, Q => wE cs EX a env S fun x S1 => wB x S1 fun k S2 => wIf k (Q (.bl true) S2) (wE cs EX b env S2 Q)
  | .ife c a b, env, S, Q => wT cs EX c env S fun k S1 => wIf k (wE cs EX a env S1 Q) (wE cs EX b env S1 Q)
  | .tup es, env, S, Q => wEs cs EX es env S fun ds S1 => Q (.tup ds) S1
  | .lst m es, env, S, Q => wEs cs EX es env S fun ds S1 => newL m ds S1 Q
  | .ix a b, env, S, Q => wE cs EX a env S fun x S1 => wE cs EX b env S1 fun y S2 => wIx x y S2 Q
  | .ixc a k, env, S, Q => wE cs EX a env S fun x S1 => wIxc x k S1 Q
  | .sl m a lo hi, env, S, Q => wE cs EX a env S fun x S1 => wO cs EX lo env S1 fun l S2 => wO cs EX hi env S2 fun h S3 => wSl m x l h S3 Q
  | .call f es, env, S, Q => wEs cs EX es env S fun ds S1 => cs f ds S1 Q EX
  | .blt b es, env, S, Q => wEs cs EX es env S fun ds S1 => wBlt b ds S1 Q
  | .isi a n, env, S, Q => wE cs EX a env S fun x S1 => wOpt (tyD x S1) fun t => Q (.bl (isiD t n)) S1
  | .meth m o es, env, S, Q => wE cs EX o env S fun x S1 => wOpt (refL x S1) fun _ => wEs cs EX es env S1 fun ds S2 => wMeth m x ds S2 Q
  | .lc m elt tg it none own, env, S, Q => wI cs EX it env S fun items stay S1 =>
      wLc stay (fun d => asgT tg d (wipeD env own)) (fun _ S2 R => R true S2) (fun e S2 R => wE cs EX elt e S2 R) items [] S1 fun ys S2 => newL m ys S2 Q
  | .lc m elt tg it (some c) own, env, S, Q => wI cs EX it env S fun items stay S1 =>
      wLc stay (fun d => asgT tg d (wipeD env own)) (fun e S2 R => wT cs EX c e S2 R) (fun e S2 R => wE cs EX elt e S2 R) items [] S1 fun ys S2 => newL m ys S2 Q
  | .fld n f o, env, S, Q => wE cs EX o env S fun x S1 => wFld n f x S1 Q
  | .mth g n m o es, env, S, Q => wE cs EX o env S fun x S1 => wMth n m x S1 (wEs cs EX es env S1 fun ds S2 => cs g (x :: ds) S2 Q EX)
  | .new g n es, env, S, Q => wEs cs EX es env S fun ds S1 => ∀ a, S1 a = none → cs g (.ref a :: ds) (supd S1 a (.ins n [])) (fun v S2 => v = .non ∧ Q (.ref a) S2) EX
  | .dct1 k v, env, S, Q => ∀ a, S a = none → wE cs EX k env (supd S a (.dct [])) fun x S1 => wE cs EX v env S1 fun y S2 => wOpt (keyD x) fun kk => S2 a = some (.dct []) ∧ Q (.ref a) (supd S2 a (.dct [(kk, y)]))
  | .inD n k d, env, S, Q => wE cs EX k env S fun x S1 => wE cs EX d env S1 fun y S2 => wInD n x y S2 Q
  | .dkeys m d, env, S, Q => wE cs EX d env S fun x S1 => wDct x S1 fun _ kvs => newL m (kvs.map fun p => kD p.1) S1 Q
  | .getD d k, env, S, Q => wE cs EX d env S fun x S1 => wE cs EX k env S1 fun y S2 => wGetD x y S2 Q
  | .getOr d k z, env, S, Q => wE cs EX d env S fun x S1 => wDct x S1 fun _ _ => wE cs EX k env S1 fun y S2 => wE cs EX z env S2 fun u S3 => wGetOr x y u S3 Q
  | .sortK m a t, env, S, Q => wE cs EX a env S fun x S1 => wVar (env[t]?) S1 fun y S2 => wSortK m x y S2 Q
  | .lset a, env, S, Q => wE cs EX a env S fun x S1 => wLset x S1 Q
  | .dctP a, env, S, Q => wE cs EX a env S fun x S1 => wDctP x S1 Q
  | .srtD m a, env, S, Q => wE cs EX a env S fun x S1 => wSrtD m x S1 Q
  | .cat m a b, env, S, Q => wE cs EX a env S fun x S1 => wE cs EX b env S1 fun y S2 => wCat m x y S2 Q
  | .repr a, env, S, Q => wE cs EX a env S fun x S1 => match x with
    | .tup xs => (D.tup xs).Shown ∧ Q (.str (D.tup xs).py.shown) S1
    | _ => False
  | .join s a, env, S, Q => wE cs EX s env S fun x S1 => match x with
    | .str t => wE cs EX a env S1 fun y S2 => wJoin t y S2 Q
    | _ => False
  | .upper a, env, S, Q => wE cs EX a env S fun x S1 => match x with
    | .str t => t.length ≤ 5592405 ∧ Q (.str (Txt.upper t)) S1
    | _ => False
  | .splt m a b, env, S, Q => wE cs EX a env S fun x S1 => match x with
    | .str t => wE cs EX b env S1 fun y S2 => wSplt m t y S2 Q
    | _ => False
  | .intT a, env, S, Q => wE cs EX a env S fun x S1 => wIntT x S1 Q
  | .lenT a, env, S, Q => wE cs EX a env S fun x S1 => wLenT x S1 Q
  | .ixT a k, env, S, Q => wE cs EX a env S fun x S1 => wIxT x k S1 Q
  | .sgn n a b, env, S, Q => wE cs EX a env S fun x S1 => match x with
    | .str c => wE cs EX b env S1 fun y S2 => wSgn n c y S2 Q
    | _ => False
  | .tab _ kvs k, env, S, Q => wE cs EX k env S fun x S1 => wTab kvs x S1 Q
  | .inTab _ kvs k, env, S, Q => wE cs EX k env S fun x S1 => wInTab kvs x S1 Q
  | .callV i fs es, env, S, Q => wFnV (env[i]?) fs fun f => wEs cs EX es env S fun ds S1 => cs f ds S1 Q EX
  | .few a b, env, S, Q => wE cs EX a env S fun x S1 => match x with
    | .str t => wE cs EX b env S1 fun y S2 => wFew t y S2 Q
    | _ => False
  | .inM a b, env, S, Q => wE cs EX a env S fun x S1 => wE cs EX b env S1 fun y S2 => wInM x y S2 Q
  | .eqM a b, env, S, Q => wE cs EX a env S fun x S1 => wE cs EX b env S1 fun y S2 => wEqM x y S2 Q
  | .rvl m a, env, S, Q => wE cs EX a env S fun x S1 => wOpt (lsrD x S1) fun xs => newL m xs.reverse S1 Q
  | .rvt a, env, S, Q => wE cs EX a env S fun x S1 => match x with
    | .tup xs => Q (.tup xs.reverse) S1
    | _ => False
  | .srtT m a, env, S, Q => wE cs EX a env S fun x S1 => wSrtT m x S1 Q
  | .sortD m a, env, S, Q => wE cs EX a env S fun x S1 => wOpt (lsrD x S1) fun xs => wSortD m xs S1 Q
  | .dpop d k, env, S, Q => wE cs EX d env S fun x S1 => wDct x S1 fun _ _ => wE cs EX k env S1 fun y S2 => wDpop x y S2 Q
  | .dict0N, _, S, Q => ∀ a, S a = none → Q (.ref a) (supd S a (.dcn []))
  | .dct1N k v, env, S, Q => ∀ a, S a = none → wE cs EX k env (supd S a (.dcn [])) fun x S1 => wE cs EX v env S1 fun y S2 => wOpt (keyT x) fun kk => S2 a = some (.dcn []) ∧ Q (.ref a) (supd S2 a (.dcn [(kk, y)]))
  | .inN n k d, env, S, Q => wE cs EX k env S fun x S1 => wE cs EX d env S1 fun y S2 => wInN n x y S2 Q
  | .getN d k, env, S, Q => wE cs EX d env S fun x S1 => wE cs EX k env S1 fun y S2 => wGetN x y S2 Q
  | .getOrN d k z, env, S, Q => wE cs EX d env S fun x S1 => wDcn x S1 fun _ _ => wE cs EX k env S1 fun y S2 => wE cs EX z env S2 fun u S3 => wGetOrN x y u S3 Q
  | .dctPN a, env, S, Q => wE cs EX a env S fun x S1 => wDctPN x S1 Q
  | .dkeysN m d, env, S, Q => wE cs EX d env S fun x S1 => wDcn x S1 fun _ kvs => newL m (kvs.map fun p => nkD p.1) S1 Q
  | .srtN m d, env, S, Q => wE cs EX d env S fun x S1 => wDcn x S1 fun _ kvs => wSortD m (kvs.map fun p => nkD p.1) S1 Q
  | .lenD n d, env, S, Q => wE cs EX d env S fun x S1 => wLenD n x S1 Q
  | .lockE e, env, S, Q => ∃ a o l, (S a = some o ∧ lockO o = some l) ∧ wE cs EX e env (supd S a l) fun v S1 => S1 a = some l ∧ Q v (supd S1 a o)
  | .rep m a b, env, S, Q => wE cs EX a env S fun x S1 => wE cs EX b env S1 fun y S2 => wRep m x y S2 Q
  | .tr1 a, env, S, Q => wE cs EX a env S fun x S1 => match x with
    | .int n => (-4611686018427387904 ≤ n ∧ n ≤ 16777216) ∧ Q (.tup (rgD 0 n)) S1
    | _ => False
  | .cnt a b, env, S, Q => wE cs EX a env S fun x S1 => wOpt (lstD x S1) fun _ => wE cs EX b env S1 fun y S2 => wCnt x y S2 Q
  | .dctS ks es, env, S, Q => ∀ a, S a = none → wEs cs EX es env (supd S a (.dct [])) fun ds S1 => S1 a = some (.dct []) ∧ Q (.ref a) (supd S1 a (.dct (putAllD ((ks.map Sum.inr).zip ds))))
  | .exi a ns, env, S, Q => wE cs EX a env S fun x S1 => wOpt (excAt S1 x) fun o => Q (.bl (exiB ns o)) S1
  | .frz a, env, S, Q => wE cs EX a env S fun x S1 => match x with
    | .ref a => wOpt (lstAt S1 a) fun xs => Q (.lst xs) (serase S1 a)
    | _ => False
termination_by structural e => e
def wEs (cs : CS) (EX : EK) : List E → En → Sto → (List D → Sto → Prop) → Prop
  | [], _, S, Q => Q [] S
  | e :: es, env, S, Q => wE cs EX e env S fun x S1 => wEs cs EX es env S1 fun xs S2 => Q (x :: xs) S2
def wO (cs : CS) (EX : EK) : Option E → En → Sto → (Option Int → Sto → Prop) → Prop
  | none, _, S, Q => Q none S
  | some e, env, S, Q => wE cs EX e env S fun x S1 => match x with
    | .int i => Q (some i) S1
    | _ => False
def wT (cs : CS) (EX : EK) : E → En → Sto → (Bool → Sto → Prop) → Prop
  | .not a, env, S, Q => wT cs EX a env S fun b S1 => Q (!b) S1
  | .and a b, env, S, Q => wT cs EX a env S fun k S1 => wIf k (wT cs EX b env S1 Q) (Q false S1)
  | .or a b, env, S, Q => wT cs EX a env S fun k S1 => wIf k (Q true S1) (wT cs EX b env S1 Q)
  | .cmp op a b, env, S, Q => wE cs EX a env S fun x S1 => wE cs EX b env S1 fun y S2 => wCmp op x y S2 fun r S3 => wB r S3 Q
  | .cmp2 o1 o2 a b c, env, S, Q => wE cs EX a env S fun x S1 => wE cs EX b env S1 fun y S2 => wCmp o1 x y S2 fun r S3 => wB r S3 fun k S4 =>
      wIf k (wE cs EX c env S4 fun z S5 => wCmp o2 y z S5 fun r2 S6 => wB r2 S6 Q) (Q false S4)
  | .var i, env, S, Q => wVar (env[i]?) S fun x S1 => wTru x S1 Q
  | .bl b, _, S, Q => Q b S
  | .ix a b, env, S, Q => wE cs EX a env S fun x S1 => wE cs EX b env S1 fun y S2 => wIx x y S2 fun z S3 => wTru z S3 Q
  | .ixc a k, env, S, Q => wE cs EX a env S fun x S1 => wIxc x k S1 fun z S3 => wTru z S3 Q
  | .call f es, env, S, Q => wEs cs EX es env S fun ds S1 => cs f ds S1 (fun z S3 => wTru z S3 Q) EX
  | .blt b es, env, S, Q => wEs cs EX es env S fun ds S1 => wBlt b ds S1 fun z S3 => wTru z S3 Q
  | .isi a n, env, S, Q => wE cs EX a env S fun x S1 => wOpt (tyD x S1) fun t => Q (isiD t n) S1
  | .inM a b, env, S, Q => wE cs EX a env S fun x S1 => wE cs EX b env S1 fun y S2 => wInM x y S2 fun r S3 => wB r S3 Q
  | .inD n k d, env, S, Q => wE cs EX k env S fun x S1 => wE cs EX d env S1 fun y S2 => wInD n x y S2 fun z S3 => wTru z S3 Q
  | .inN n k d, env, S, Q => wE cs EX k env S fun x S1 => wE cs EX d env S1 fun y S2 => wInN n x y S2 fun z S3 => wTru z S3 Q
  | .mth g n m o es, env, S, Q => wE cs EX o env S fun x S1 => wMth n m x S1 (wEs cs EX es env S1 fun ds S2 => cs g (x :: ds) S2 (fun z S3 => wTru z S3 Q) EX)
  | .fld n f o, env, S, Q => wE cs EX o env S fun x S1 => wFld n f x S1 fun z S3 => wTru z S3 Q
  | .exi a ns, env, S, Q => wE cs EX a env S fun x S1 => wOpt (excAt S1 x) fun o => Q (exiB ns o) S1
  | _, _, _, _ => False
termination_by structural e => e
def wI (cs : CS) (EX : EK) : I → En → Sto → (List D → (Sto → Prop) → Sto → Prop) → Prop
  | .r1 a, env, S, R => wE cs EX a env S fun x S1 => match x with
    | .int n => (-4611686018427387904 ≤ n ∧ n ≤ 16777216) ∧ R (rgD 0 n) noStay S1
    | _ => False
  | .r2 a b, env, S, R => wE cs EX a env S fun x S1 => wE cs EX b env S1 fun y S2 => match x, y with
    | .int i, .int j => (-4611686018427387904 ≤ i ∧ i < 4611686018427387904 ∧ j < 4611686018427387904 ∧ -4611686018427387904 ≤ j ∧ j - i ≤ 16777216) ∧ R (rgD i j) noStay S2
    | _, _ => False
  | .seq a, env, S, R => wE cs EX a env S fun x S1 => wOpt (seqD x S1) fun xs => R xs (stayOf x xs) S1
  | .zip a b, env, S, R => wE cs EX a env S fun x S1 => wE cs EX b env S1 fun y S2 => wOpt (seqD x S2) fun xs => wOpt (seqD y S2) fun ys => (kindT x = kindT y) ∧
      R (List.zipWith (fun p q => D.tup [p, q]) xs ys) (fun S => stayOf x xs S ∧ stayOf y ys S) S2
  | .zipX a b, env, S, R => wE cs EX a env S fun x S1 => wE cs EX b env S1 fun y S2 => wOpt (seqD x S2) fun xs => wOpt (seqD y S2) fun ys =>
      R (List.zipWith (fun p q => D.tup [p, q]) xs ys) (fun S => stayOf x xs S ∧ stayOf y ys S) S2
  | .zip3 a b c, env, S, R => wE cs EX a env S fun x S1 => wE cs EX b env S1 fun y S2 => wE cs EX c env S2 fun z S3 => wOpt (seqD x S3) fun xs => wOpt (seqD y S3) fun ys => wOpt (seqD z S3) fun zs =>
      R (List.zipWith (fun p qr => D.tup (p :: qr)) xs (List.zipWith (fun q r => [q, r]) ys zs)) (fun S => stayOf x xs S ∧ stayOf y ys S ∧ stayOf z zs S) S3
  | .dwk w d, env, S, R => wE cs EX d env S fun x S1 => match x with
    | .ref a => wOpt (lkAt S1 a) fun kvs => R (w.its kvs) noStay S1
    | _ => False
  | .chars a, env, S, R => wE cs EX a env S fun x S1 => match x with
    | .str z => z.length ≤ 16777216 ∧ R (sgnsD z) noStay S1
    | _ => False
  | .enum a, env, S, R => wE cs EX a env S fun x S1 => wOpt (seqD x S1) fun xs => R (xs.zipIdx.map fun p => D.tup [.int p.2, p.1]) (stayOf x xs) S1
end
/-- a handler's flag, its name gone -/
def flagE (i : Option Nat) (j : Nat) (b : Bool) (e : En) : En := match i with
  | none => e.set j (some (.bl b))
  | some i => (e.set j (some (.bl b))).set i none
/-- a call that an exception may come of -/
def wR (cs : CS) (EX : EK) (r : Rc) (es : List E) (env : En) (S : Sto) (Q : QK) (X : EK) : Prop := match r with
  | .fn f => wEs cs EX es env S fun ds S1 => cs f ds S1 Q X
  | .mth g n m o => wE cs EX o env S fun x S1 => wMth n m x S1 (wEs cs EX es env S1 fun ds S2 => cs g (x :: ds) S2 Q X)
  | .new g n => wEs cs EX es env S fun ds S1 => ∀ a, S1 a = none → cs g (.ref a :: ds) (supd S1 a (.ins n [])) (fun v S2 => v = .non ∧ Q (.ref a) S2) X
  | .cv i fs => wFnV (env[i]?) fs fun f => wEs cs EX es env S fun ds S1 => cs f ds S1 Q X
mutual
def wS (cs : CS) (EX : EK) : Stm → Dn → En → Sto → Prop
  | .expr e, K, env, S => wE cs EX e env S fun _ S1 => K.nx env S1
  | .ret e, K, env, S => wE cs EX e env S K.rt
  | .retN, K, _, S => K.rt .non S
  | .asg t e, K, env, S => wE cs EX e env S fun x S1 => wOpt (asgO S1 t x env) fun e2 => K.nx e2 S1
  | .aug i op e, K, env, S => wVar (env[i]?) S fun x S0 => wE cs EX e env S0 fun y S1 => wAug op x y S1 fun z S2 => K.nx (env.set i (some z)) S2
  | .setIx o i e, K, env, S => wE cs EX e env S fun v S1 => wE cs EX o env S1 fun x S2 => wE cs EX i env S2 fun j S3 => wSetIx x j v S3 fun S4 => K.nx env S4
  | .setFld n f o e, K, env, S => wE cs EX e env S fun v S1 => wE cs EX o env S1 fun x S2 => wSetFld n f x v S2 fun S3 => K.nx env S3
  | .setKey o k e, K, env, S => wE cs EX e env S fun v S1 => wE cs EX o env S1 fun x S2 => wE cs EX k env S2 fun j S3 => wSetKey x j v S3 fun S4 => K.nx env S4
  | .setKeyN o k e, K, env, S => wE cs EX e env S fun v S1 => wE cs EX o env S1 fun x S2 => wE cs EX k env S2 fun j S3 => wSetKeyN x j v S3 fun S4 => K.nx env S4
  | .lockS s, K, env, S => ∃ a o l, (S a = some o ∧ lockO o = some l) ∧ wS cs EX s (unlk a l o K) env (supd S a l)
  | .setKey2 o1 k1 o2 k2 e1 e2, K, env, S => wE cs EX e1 env S fun v S1 => wE cs EX e2 env S1 fun u S2 => wE cs EX o1 env S2 fun x S3 => wE cs EX k1 env S3 fun j S4 => wSetKey x j v S4 fun S5 =>
      wE cs EX o2 env S5 fun y S6 => wE cs EX k2 env S6 fun i S7 => wSetKey y i u S7 fun S8 => K.nx env S8
  | .setIx2 o1 k1 o2 k2 e1 e2, K, env, S => wE cs EX e1 env S fun v S1 => wE cs EX e2 env S1 fun u S2 => wE cs EX o1 env S2 fun x S3 => wE cs EX k1 env S3 fun j S4 => wSetIx x j v S4 fun S5 =>
      wE cs EX o2 env S5 fun y S6 => wE cs EX k2 env S6 fun i S7 => wSetIx y i u S7 fun S8 => K.nx env S8
  | .augIx o i op e, K, env, S => wE cs EX o env S fun x S1 => wE cs EX i env S1 fun j S2 => wGetL x j S2 fun y S3 => wE cs EX e env S3 fun z S4 => wAug op y z S4 fun v S5 => wSetIx x j v S5 fun S6 => K.nx env S6
  | .augKey o k op e, K, env, S => wE cs EX o env S fun x S1 => wE cs EX k env S1 fun j S2 => wGetD x j S2 fun y S3 => wE cs EX e env S3 fun z S4 => wAug op y z S4 fun v S5 => wSetKey x j v S5 fun S6 => K.nx env S6
  | .ifS c a b, K, env, S => wT cs EX c env S fun k S1 => wIf k (wSs cs EX a K env S1) (wSs cs EX b K env S1)
  | .forS t it b, K, env, S => wI cs EX it env S fun items stay S1 => wFor stay (asgT t) (wSs cs EX b) K items env S1
  | .whileS c b, K, env, S => wWhile (wT cs EX c) (wSs cs EX b) K env S
  | .never, _, _, _ => False
  | .tryS b, K, env, S => wSs cs EX b { nx := K.nx, rt := K.rt, bk := K.bk, ct := K.ct } env S
  | .pass, K, env, S => K.nx env S
  | .brk, K, env, S => K.bk env S
  | .cont, K, env, S => K.ct env S
  | .exprX r es, K, env, S => wR cs EX r es env S (fun _ S1 => K.nx env S1) fun n d S1 => K.ex n d env S1
  | .asgX t r es, K, env, S => wR cs EX r es env S (fun x S1 => wOpt (asgO S1 t x env) fun e2 => K.nx e2 S1) fun n d S1 => K.ex n d env S1
  | .retX r es, K, env, S => wR cs EX r es env S K.rt fun n d S1 => K.ex n d env S1
  | .fldX n f o r es, K, env, S => wR cs EX r es env S (fun v S1 => wE cs EX o env S1 fun x S2 => wSetFld n f x v S2 fun S3 => K.nx env S3) fun n d S1 => K.ex n d env S1
  | .rs n _, K, env, S => K.ex n .non env S
  | .tryX b c i j, K, env, S => wSs cs EX b { nx := K.nx, rt := K.rt, bk := K.bk, ct := K.ct, ex := fun n _ e S1 => ((exKn n = true ∧ exSub n c = true) ∧ i < e.length) ∧ ∀ a, S1 a = none → K.nx (((e.set i (some (.ref a))).set j (some (.ref a))).set i none) (supd S1 a (.exc n)) } env S
  | .tryF b c i j ts fs, K, env, S => wSs cs EX b { nx := K.nx, rt := K.rt, bk := K.bk, ct := K.ct, ex := fun n _ e S1 => (exKn n = true ∧ exSub n c = true) ∧ K.nx (flagE i j (ts.all (exSub n) && !fs.any (exSub n)) e) S1 } env S
  | .tryR b c n' _, K, env, S => wSs cs EX b { nx := K.nx, rt := K.rt, bk := K.bk, ct := K.ct, ex := fun n _ e S1 => (exKn n = true ∧ exSub n c = true) ∧ K.ex n' .non e S1 } env S
  | .par i j a b, K, env, S => wE cs EX a env S fun x S1 => wE cs EX b env S1 fun y S2 => K.nx ((env.set i (some x)).set j (some y)) S2
  | .par3 i j l a b c, K, env, S => wE cs EX a env S fun x S1 => wE cs EX b env S1 fun y S2 => wE cs EX c env S2 fun z S3 => K.nx (((env.set i (some x)).set j (some y)).set l (some z)) S3
@[irreducible] def wSs (cs : CS) (EX : EK) : List Stm → Dn → En → Sto → Prop
  | [], K, env, S => K.nx env S
  | s :: r, K, env, S => wS cs EX s { nx := wSs cs EX r K, rt := K.rt, bk := K.bk, ct := K.ct, ex := K.ex } env S
end

theorem wSs_nil (cs : CS) (EX : EK) (K : Dn) (env : En) (S : Sto) : wSs cs EX [] K env S = K.nx env S := by with_unfolding_all rfl
theorem wSs_cons (cs : CS) (EX : EK) (s : Stm) (r : List Stm) (K : Dn) (env : En) (S : Sto) : wSs cs EX (s :: r) K env S = wS cs EX s { nx := wSs cs EX r K, rt := K.rt, bk := K.bk, ct := K.ct, ex := K.ex } env S := by with_unfolding_all rfl
theorem ss_nil {cs : CS} {EX : EK} {K : Dn} {env : En} {S : Sto} (h : K.nx env S) : wSs cs EX [] K env S := by rw [wSs_nil]; exact h
theorem ss_cons {cs : CS} {EX : EK} {s : Stm} {r : List Stm} {K : Dn} {env : En} {S : Sto} (h : wS cs EX s { nx := wSs cs EX r K, rt := K.rt, bk := K.bk, ct := K.ct, ex := K.ex } env S) : wSs cs EX (s :: r) K env S := by rw [wSs_cons]; exact h
/-! ### defs -/
structure Fn where
  np : Nat
  n : Nat
  body : List Stm
def startD (n : Nat) (ds : List D) : En := ds.map some ++ List.replicate (n - ds.length) none
/-- a call of the f-th def, k calls deep at most -/
@[irreducible] def call (P : Nat → Fn) : Nat → CS
  | 0, _, _, _, _, _ => False
  | k + 1, f, ds, S, Q, EX => ds.length = (P f).np ∧ wSs (call P k) EX0 (P f).body { nx := fun _ S1 => Q .non S1, rt := Q, bk := fun _ _ => False, ct := fun _ _ => False, ex := fun n d _ S1 => EX n d S1 } (startD (P f).n ds) S
theorem call_zero (P : Nat → Fn) (f : Nat) (ds : List D) (S : Sto) (Q : QK) (EX : EK) : call P 0 f ds S Q EX = False := by with_unfolding_all rfl
theorem call_succ (P : Nat → Fn) (k f : Nat) (ds : List D) (S : Sto) (Q : QK) (EX : EK) :
    call P (k + 1) f ds S Q EX = (ds.length = (P f).np ∧ wSs (call P k) EX0 (P f).body { nx := fun _ S1 => Q .non S1, rt := Q, bk := fun _ _ => False, ct := fun _ _ => False, ex := fun n d _ S1 => EX n d S1 } (startD (P f).n ds) S) := by with_unfolding_all rfl
end Z
set_option Elab.async false
set_option linter.all false
set_option maxRecDepth 100000
set_option maxHeartbeats 4000000
/-! Z22: a tuple times nought, and times one. -/
namespace ZT
open PySem PySem.Spec PyProof.Rows L2
section
variable {prog : Program} {w : World} {A : Around} {E : Value → Shared → Prop} {s : Shared}
/-- what comes of few times: the tuple itself, or a new empty one -/
def fewT (t : Addr) (k : Int) (Q : Value → Shared → Prop) (s : Shared) : Prop := (k = 1 ∧ Q (.ref t) s) ∨ (k = 0 ∧ Q (.ref s.heap.objs.size) { s with heap := s.heap.push { cls := .type "tuple", data := .seq #[] } })
theorem few_times {t : Addr} {o : PySem.Obj} {items : Array Value} {n : Nat} {k : Int} {u : Tok} {Q : Value → Shared → Prop} (ho : s.heap.get? t = some o) (hc : o.cls = .type "tuple") (hd : o.data = .seq items n) (full : items.isEmpty = false) (q : fewT t k Q s) :
   wpAny (model prog w) A (call (.builtin "tuple.__mul__") [.ref t, .int k u]) Q E s := by
  have ix := AutoSeq1.idx_int
  obtain ⟨cls, dd, data, sl⟩ := o
  simp only at hc hd
  subst hc hd
  refine wpAny_call_entry F.slot_tuple_mul ⟨_, ho, rfl⟩ F.entry_tuple_mul ?_ (F.args_tuple_mul_2 _ _)
  rcases q with ⟨rfl, q⟩ | ⟨rfl, q⟩
  · wp_walk using wpAny_loadPart' ho
    exact ⟨_, rfl, q⟩
  · wp_walk using wpAny_loadPart' ho
    exact ⟨_, rfl, q⟩
/-- nothing, twice or four hundred times: the same again -/
theorem none_twice {t : Addr} {o : PySem.Obj} {n : Nat} {k : Int} (hk : k = 2 ∨ k = 400) {u : Tok} {Q : Value → Shared → Prop} (ho : s.heap.get? t = some o) (hc : o.cls = .type "tuple") (hd : o.data = .seq #[] n) (q : Q (.ref t) s) :
   wpAny (model prog w) A (call (.builtin "tuple.__mul__") [.ref t, .int k u]) Q E s := by
  have ix := AutoSeq1.idx_int
  obtain ⟨cls, dd, data, sl⟩ := o
  simp only at hc hd
  subst hc hd
  refine wpAny_call_entry F.slot_tuple_mul ⟨_, ho, rfl⟩ F.entry_tuple_mul ?_ (F.args_tuple_mul_2 _ _)
  rcases hk with rfl | rfl
  · wp_walk using wpAny_loadPart' ho
    exact ⟨_, rfl, q⟩
  · wp_walk using wpAny_loadPart' ho
    exact ⟨_, rfl, q⟩
/-- an int leaves the product with a tuple to the tuple -/
theorem int_leaves {t : Addr} {o : PySem.Obj} {items : Array Value} {n : Nat} {k : Int} {u : Tok} {Q : Value → Shared → Prop} (ho : s.heap.get? t = some o) (hc : o.cls = .type "tuple") (hd : o.data = .seq items n) (q : Q .notImplemented s) :
   wpAny (model prog w) A (call (.builtin "int.__rmul__") [.int k u, .ref t]) Q E s := by
  obtain ⟨cls, dd, data, sl⟩ := o
  simp only at hc hd
  subst hc hd
  exact call_meets F.slot_int_rmul (typeIs_int s k u) F.entry_int_rmul (F.args_int_rmul_2 _ _) (int_rmul_tuple k u t items n dd sl) ⟨ho, q⟩
end
/-- tuple * 0 and tuple * 1 -/
def rFew (K : PySem.W.Frag) : R2 := fun x y H Q => ∃ t k xs, x = .ref t ∧ y = .int k ∧ SqT K H t xs ∧ xs ≠ [] ∧ ((k = 1 ∧ Q x H) ∨ (k = 0 ∧ ∀ p, H p = none → Q (.ref p) (upd H p (.tup []))))
theorem op_few {X : Cx} : OpR X (binaryOp .Mult) (rFew X.K) := by
  rintro pins s σ H _ _ _ _ Q I rx ry ⟨t, k, xs, rfl, rfl, hT, ne, h⟩
  cases rx
  obtain ⟨u, rfl⟩ := ry
  obtain ⟨its, r, ⟨o, ho, hc, n, hd⟩, hs⟩ := I.tuple hT
  have full : its.toArray.isEmpty = false := by
    cases r with
    | nil => exact absurd rfl ne
    | cons _ _ => rfl
  have isT : s.TypeIs (.ref t) "tuple" := ⟨o, ho, hc⟩
  refine wpAny_binaryOp_repeat_ref (T := "tuple") (U := "int") (by decide) isT (fun z => typeIs_int z k u) noFill_tuple_mul F.fills_int_mul F.slot_int_rmul repeat_tuple F.slot_int_index.lookup (int_leaves ho hc hd ⟨rfl, isT, few_times ho hc hd full ?_⟩)
  rcases h with ⟨k1, q⟩ | ⟨k0, q⟩
  · exact .inl ⟨k1, .ref t, H, I, rfl, q⟩
  · have new := q _ (I.hok.fresh (Nat.le_refl _))
    refine .inr ⟨k0, .ref _, _, I.laid (t' := s.toks) (o := .tup []) (fun _ _ z => Heap.get?_push_of_some _ z) (Nat.le_refl _) ⟨Nat.zero_le _, [], .nil, IsTup.new _ _⟩, rfl, new⟩
/-- () * 2 -/
def rTwo (K : PySem.W.Frag) : R2 := fun x y H Q => ∃ t k, x = .ref t ∧ y = .int k ∧ (k = 2 ∨ k = 400) ∧ SqT K H t [] ∧ Q x H
theorem op_two {X : Cx} : OpR X (binaryOp .Mult) (rTwo X.K) := by
  rintro pins s σ H _ _ _ _ Q I rx ry ⟨t, k, rfl, rfl, hk, hT, q⟩
  cases rx
  obtain ⟨u, rfl⟩ := ry
  obtain ⟨its, r, ⟨o, ho, hc, n, hd⟩, hs⟩ := I.tuple hT
  cases r
  have isT : s.TypeIs (.ref t) "tuple" := ⟨o, ho, hc⟩
  exact wpAny_binaryOp_repeat_ref (T := "tuple") (U := "int") (by decide) isT (fun z => typeIs_int z k u) noFill_tuple_mul F.fills_int_mul F.slot_int_rmul repeat_tuple F.slot_int_index.lookup (int_leaves ho hc hd ⟨rfl, isT, none_twice hk ho hc hd ⟨.ref t, H, I, rfl, q⟩⟩)
end ZT
set_option Elab.async false
set_option linter.all false
set_option maxRecDepth 100000
set_option maxHeartbeats 4000000
/-! Z3: what the trees say holds of the model: values and expressions. -/
namespace Z
open PySem PySem.Spec PyProof.Rows L2

/-- the same wanted of the heap -/
def PD (K : PySem.W.Frag) (F : Addr → Prop) (S : Sto) (H : Hp) (Q : QK) : VK := fun v H' => ∃ d S', RelS K F S' H' ∧ Rep K F S' H' v d ∧ Keep K S H S' H' ∧ Q d S'
def PL (K : PySem.W.Frag) (F : Addr → Prop) (S : Sto) (H : Hp) (Q : List D → Sto → Prop) : List V → Hp → Prop := fun vs H' => ∃ ds S', RelS K F S' H' ∧ RepL K F S' H' vs ds ∧ Keep K S H S' H' ∧ Q ds S'
def PB (K : PySem.W.Frag) (F : Addr → Prop) (S : Sto) (H : Hp) (Q : Bool → Sto → Prop) : Bool → Hp → Prop := fun b H' => ∃ S', RelS K F S' H' ∧ Keep K S H S' H' ∧ Q b S'
theorem PD.of {K : PySem.W.Frag} {F : Addr → Prop} {S S1 : Sto} {H H1 : Hp} {Q : QK} {v : V} {H' : Hp} (k : Keep K S H S1 H1) (h : PD K F S1 H1 Q v H') : PD K F S H Q v H' := by
  obtain ⟨d, S', R, r, k', q⟩ := h
  exact ⟨d, S', R, r, k.trans k', q⟩
theorem PL.of {K : PySem.W.Frag} {F : Addr → Prop} {S S1 : Sto} {H H1 : Hp} {Q : List D → Sto → Prop} {v : List V} {H' : Hp} (k : Keep K S H S1 H1) (h : PL K F S1 H1 Q v H') : PL K F S H Q v H' := by
  obtain ⟨d, S', R, r, k', q⟩ := h
  exact ⟨d, S', R, r, k.trans k', q⟩
theorem PB.of {K : PySem.W.Frag} {F : Addr → Prop} {S S1 : Sto} {H H1 : Hp} {Q : Bool → Sto → Prop} {v : Bool} {H' : Hp} (k : Keep K S H S1 H1) (h : PB K F S1 H1 Q v H') : PB K F S H Q v H' := by
  obtain ⟨S', R, k', q⟩ := h
  exact ⟨S', R, k.trans k', q⟩

/-! ### what some reading of the library asks -/
section
variable (X : Cx)
def wpx (e : Expr) : TE := fun σ H Q => ∃ t, PE X e t ∧ t σ H Q
def wpt (e : Expr) : TT := fun σ H Q => ∃ t, PT X e t ∧ t σ H Q
def wpa (es : List Expr) : TA := fun σ H Q => ∃ t, PA X es t ∧ t σ H Q
def opx (f : Value → Value → Sem Value) : R2 := fun x y H Q => ∃ r, OpR X f r ∧ r x y H Q
def clx (f : Value) : List V → Hp → VK → Prop := fun xs H Q => ∃ r, CallR X f r ∧ r xs H Q
def mtx (n : String) : V → List V → Hp → VK → Prop := fun x vs H Q => ∃ r, MtM X n r ∧ r x vs H Q
/-- sequences are no longer than a line -/
def Bd (H : Hp) : Prop := ∀ a xs, SqL X.K H a xs ∨ SqT X.K H a xs → xs.length ≤ sizeLine
end
section
variable {X : Cx} {e : Expr} {es : List Expr} {σ : L2.St} {H : Hp}
theorem bd_of {pins : List (Addr × Obj)} {s : Shared} (I : Inv X pins σ H s) : Bd X H := fun a xs h =>
  h.elim (fun q => let ⟨_, _, _, b⟩ := I.list q; b) (fun q => let ⟨_, _, _, b⟩ := I.tuple q; b)
theorem pe_x : PE X e (wpx X e) := ⟨fun _ _ _ _ _ I h => h.choose_spec.1.run _ _ _ _ _ I h.choose_spec.2⟩
theorem pt_x : PT X e (wpt X e) := ⟨fun _ _ _ _ _ I h => h.choose_spec.1.run _ _ _ _ _ I h.choose_spec.2⟩
theorem pa_x : PA X es (wpa X es) := ⟨fun _ _ _ _ _ _ I h => h.choose_spec.1.run _ _ _ _ _ _ I h.choose_spec.2⟩
theorem op_x {f : Value → Value → Sem Value} : OpR X f (opx X f) := fun _ _ _ _ _ _ _ _ _ I a b ⟨_, h, q⟩ => h _ _ _ _ _ _ _ _ _ I a b q
theorem cl_x {f : Value} : CallR X f (clx X f) := fun _ _ _ _ _ _ _ I a ⟨_, h, q⟩ => h _ _ _ _ _ _ _ I a q
theorem mt_x {n : String} : MtM X n (mtx X n) := fun _ _ _ _ _ _ _ _ _ I a b ⟨_, h, q⟩ => h _ _ _ _ _ _ _ _ _ I a b q
theorem pex {t : TE} {Q : VK} (h : PE X e t) (q : t σ H Q) : wpx X e σ H Q := ⟨t, h, q⟩
theorem ptx {t : TT} {Q : Bool → Hp → Prop} (h : PT X e t) (q : t σ H Q) : wpt X e σ H Q := ⟨t, h, q⟩
theorem pax {t : TA} {Q : List V → Hp → Prop} (h : PA X es t) (q : t σ H Q) : wpa X es σ H Q := ⟨t, h, q⟩
theorem opr {f : Value → Value → Sem Value} {r : R2} {x y : V} {Q : VK} (h : OpR X f r) (q : r x y H Q) : opx X f x y H Q := ⟨r, h, q⟩
theorem clr {f : Value} {r : List V → Hp → VK → Prop} {xs : List V} {Q : VK} (h : CallR X f r) (q : r xs H Q) : clx X f xs H Q := ⟨r, h, q⟩
theorem mtr {n : String} {r : V → List V → Hp → VK → Prop} {x : V} {vs : List V} {Q : VK} (h : MtM X n r) (q : r x vs H Q) : mtx X n x vs H Q := ⟨r, h, q⟩
/-- less is wanted; what holds of every heap may be used, too -/
theorem wpx_inv {Q Q' : VK} (h : wpx X e σ H Q) (m : ∀ v H', Bd X H' → Q v H' → Q' v H') : wpx X e σ H Q' :=
  ⟨fun σ H Q' => ∃ Q, wpx X e σ H Q ∧ ∀ v H', Bd X H' → Q v H' → Q' v H', ⟨fun _ _ _ _ _ I ⟨_, h, m⟩ => thn (pe_x.run _ _ _ _ _ I h) fun _ _ ⟨v, H1, J, r, q⟩ => ⟨v, H1, J, r, m v H1 (bd_of J) q⟩⟩, Q, h, m⟩
theorem wpx_mono {Q Q' : VK} (h : wpx X e σ H Q) (m : ∀ v H', Q v H' → Q' v H') : wpx X e σ H Q' := wpx_inv h fun v H' _ => m v H'
theorem wpt_mono {Q Q' : Bool → Hp → Prop} (h : wpt X e σ H Q) (m : ∀ v H', Q v H' → Q' v H') : wpt X e σ H Q' :=
  ⟨fun σ H Q' => ∃ Q, wpt X e σ H Q ∧ ∀ v H', Q v H' → Q' v H', ⟨fun _ _ _ _ _ I ⟨_, h, m⟩ => thn (pt_x.run _ _ _ _ _ I h) fun _ _ ⟨H1, J, q⟩ => ⟨H1, J, m _ H1 q⟩⟩, Q, h, m⟩
theorem wpa_mono {Q Q' : List V → Hp → Prop} (h : wpa X es σ H Q) (m : ∀ v H', Q v H' → Q' v H') : wpa X es σ H Q' :=
  ⟨fun σ H Q' => ∃ Q, wpa X es σ H Q ∧ ∀ v H', Q v H' → Q' v H', ⟨fun _ _ _ _ _ _ I ⟨_, h, m⟩ => thn (pa_x.run _ _ _ _ _ _ I h) fun _ _ ⟨v, H1, J, r, q⟩ => ⟨v, H1, J, r, m v H1 q⟩⟩, Q, h, m⟩
theorem opx_mono {f : Value → Value → Sem Value} {x y : V} {Q Q' : VK} (h : opx X f x y H Q) (m : ∀ v H', Q v H' → Q' v H') : opx X f x y H Q' :=
  ⟨fun x y H Q' => ∃ Q, opx X f x y H Q ∧ ∀ v H', Q v H' → Q' v H', fun _ _ _ _ _ _ _ _ _ I a b ⟨_, h, m⟩ => thn (op_x _ _ _ _ _ _ _ _ _ I a b h) fun _ _ ⟨v, H1, J, r, q⟩ => ⟨v, H1, J, r, m v H1 q⟩, Q, h, m⟩
theorem clx_mono {f : Value} {xs : List V} {Q Q' : VK} (h : clx X f xs H Q) (m : ∀ v H', Q v H' → Q' v H') : clx X f xs H Q' :=
  ⟨fun xs H Q' => ∃ Q, clx X f xs H Q ∧ ∀ v H', Q v H' → Q' v H', fun _ _ _ _ _ _ _ I a ⟨_, h, m⟩ => thn (cl_x _ _ _ _ _ _ _ I a h) fun _ _ ⟨v, H1, J, r, q⟩ => ⟨v, H1, J, r, m v H1 q⟩, Q, h, m⟩
theorem mtx_mono {n : String} {x : V} {vs : List V} {Q Q' : VK} (h : mtx X n x vs H Q) (m : ∀ v H', Q v H' → Q' v H') : mtx X n x vs H Q' :=
  ⟨fun x vs H Q' => ∃ Q, mtx X n x vs H Q ∧ ∀ v H', Q v H' → Q' v H', fun _ _ _ _ _ _ _ _ _ I a b ⟨_, h, m⟩ => thn (mt_x _ _ _ _ _ _ _ _ _ I a b h) fun _ _ ⟨v, H1, J, r, q⟩ => ⟨v, H1, J, r, m v H1 q⟩, Q, h, m⟩
end

/-! ### the parts said of expressions -/
section
variable (X : Cx) (cs : CS)
def SndE (ir : E) (e : Expr) : Prop := ∀ (F : Addr → Prop) (env : En) (S : Sto) (σ : L2.St) (H : Hp) (Q : QK), RelS X.K F S H → Rl X.K F S H env σ → wE cs EX0 ir env S Q → wpx X e σ H (PD X.K F S H Q)
def SndT (ir : E) (e : Expr) : Prop := ∀ (F : Addr → Prop) (env : En) (S : Sto) (σ : L2.St) (H : Hp) (Q : Bool → Sto → Prop), RelS X.K F S H → Rl X.K F S H env σ → wT cs EX0 ir env S Q → wpt X e σ H (PB X.K F S H Q)
def SndA (irs : List E) (es : List Expr) : Prop := ∀ (F : Addr → Prop) (env : En) (S : Sto) (σ : L2.St) (H : Hp) (Q : List D → Sto → Prop), RelS X.K F S H → Rl X.K F S H env σ → wEs cs EX0 irs env S Q → wpa X es σ H (fun vs H' => PL X.K F S H Q vs H' ∧ vs.length = irs.length)
end

/-! ### operators by values -/
section
variable {X : Cx} {F : Addr → Prop} {S : Sto} {H : Hp} {Q : QK} {x y : V} {d e : D}
theorem wOpt_inv {α : Type} {o : Option α} {P : α → Prop} (h : wOpt o P) : ∃ d, o = some d ∧ P d := wOpt_in h
theorem PD.same (R : RelS X.K F S H) {v : V} (r : Rep X.K F S H v d) (q : Q d S) : PD X.K F S H Q v H := ⟨d, S, R, r, Keep.refl, q⟩
/-- a new tuple -/
theorem PD.tup (R : RelS X.K F S H) {p : Addr} {vs : List V} {ds : List D} (hn : H p = none) (r : RepL X.K F S H vs ds) (q : Q (.tup ds) S) : PD X.K F S H Q (.ref p) (upd H p (.tup vs)) :=
  ⟨.tup ds, S, R.new hn, .tup (.inl ⟨.inl upd_same, R.nhid hn⟩) ((keepNew hn).list r), keepNew hn, q⟩
/-- a new list -/
theorem PD.lst {m : Bool} (R : RelS X.K F S H) {p : Addr} {vs : List V} {ds : List D} (hn : H p = none) (r : RepL X.K F S H vs ds) (q : newL m ds S Q) : PD X.K F S H Q (.ref p) (upd H p (.lst vs)) := by
  have hs : S p = none := R.none hn
  cases m with
  | false => exact ⟨.lst ds, S, R.new hn, .lst upd_same hs (R.nhid hn) ((keepNew hn).list r), keepNew hn, q⟩
  | true =>
    have k : Keep X.K S H (supd S p (.lst ds)) (upd H p (.lst vs)) := keepNewM hn
    exact ⟨.ref p, supd S p (.lst ds), R.putN hn k ⟨vs, upd_same, k.list r⟩, .ref p, k, q p hs⟩

theorem wide64 {i : Int} (h : -18446744073709551616 < i ∧ i < 18446744073709551616) : -(2 ^ 64) < i ∧ i < 2 ^ 64 := by
  have e : (2 : Int) ^ 64 = 18446744073709551616 := by decide
  rw [e]; exact h
theorem log64 {j : Int} (h : 0 < j ∧ j < 18446744073709551616) : j.natAbs.log2 < 9000 := by
  have h1 : j.natAbs < 2 ^ 64 := by omega
  have h2 : j.natAbs ≠ 0 := by omega
  have := (Nat.log2_lt h2).mpr h1
  omega
theorem sz : sizeLine = 16777216 := sizeLine_eq
theorem lst_rep {v : V} {ds : List D} (R : RelS X.K F S H) (r : Rep X.K F S H v d) (h : lstD d S = some ds) : ∃ a xs, v = .ref a ∧ H a = some (.lst xs) ∧ RepL X.K F S H xs ds := by
  cases r with
  | lst hr hn nf rl =>
    have e : some _ = some ds := h
    cases e
    exact ⟨_, _, rfl, hr, rl⟩
  | ref a =>
    obtain ⟨xs, e, rl⟩ := R.at_ a _ (of_lstAt (show lstAt S a = some ds from h))
    exact ⟨a, xs, rfl, e, rl⟩
  | _ => exact nomatch (show (none : Option (List D)) = some ds from h)
theorem lsr_rep {v : V} {ds : List D} (R : RelS X.K F S H) (r : Rep X.K F S H v d) (h : lsrD d S = some ds) : ∃ a xs, v = .ref a ∧ SqL X.K H a xs ∧ RepL X.K F S H xs ds := by
  cases r with
  | lst hr hn nf rl =>
    have e : some _ = some ds := h
    cases e
    exact ⟨_, _, rfl, .inl (.inl hr), rl⟩
  | lsk hs rl =>
    have e : some _ = some ds := h
    cases e
    exact ⟨_, _, rfl, hs.sq, rl⟩
  | ref a =>
    obtain ⟨xs, e, rl⟩ := R.at_ a _ (of_lstAt (show lstAt S a = some ds from h))
    exact ⟨a, xs, rfl, .inl (.inl e), rl⟩
  | _ => exact nomatch (show (none : Option (List D)) = some ds from h)
theorem seq_rep {v : V} {ds : List D} (R : RelS X.K F S H) (r : Rep X.K F S H v d) (h : seqD d S = some ds) : ∃ a xs, v = .ref a ∧ (SqL X.K H a xs ∨ SqT X.K H a xs) ∧ RepL X.K F S H xs ds := by
  cases r with
  | tup hs rl =>
    have e : some _ = some ds := h
    cases e
    exact ⟨_, _, rfl, .inr hs.sq, rl⟩
  | lst hr hn nf rl =>
    have e : some _ = some ds := h
    cases e
    exact ⟨_, _, rfl, .inl (.inl (.inl hr)), rl⟩
  | lsk hs rl =>
    have e : some _ = some ds := h
    cases e
    exact ⟨_, _, rfl, .inl hs.sq, rl⟩
  | ref a =>
    obtain ⟨xs, e, rl⟩ := R.at_ a _ (of_lstAt (show lstAt S a = some ds from h))
    exact ⟨a, xs, rfl, .inl (.inl (.inl e)), rl⟩
  | _ => exact nomatch (show (none : Option (List D)) = some ds from h)
theorem RepL.flat {vs : List V} {ds : List D} (r : RepL X.K F S H vs ds) (k : Nat) : RepL X.K F S H (List.replicate k vs).flatten (List.replicate k ds).flatten := by
  induction k with
  | zero => exact .nil
  | succ k ih => exact r.append ih

theorem bin_s {op : Operator} {v u : V} (hu : X.A.units + 64 < cLine) (R : RelS X.K F S H) (rx : Rep X.K F S H v d) (ry : Rep X.K F S H u e) (h : wBin op d e S Q) : opx X (binaryOp op) v u H (PD X.K F S H Q) := by
  have SZ := sz
  unfold wBin at h
  split at h
  · cases rx; cases ry; exact opr op_add ⟨_, _, rfl, rfl, PD.same R (.int _) h⟩
  · cases rx; cases ry; exact opr op_sub ⟨_, _, rfl, rfl, PD.same R (.int _) h⟩
  · cases rx; cases ry; exact opr op_mul ⟨_, _, rfl, rfl, h.1.imp wide64 wide64, PD.same R (.int _) h.2⟩
  · cases rx; cases ry; exact opr op_fdivW ⟨_, _, rfl, rfl, ⟨h.1.1, log64 h.1⟩, PD.same R (.int _) h.2⟩
  · cases rx; cases ry; exact opr op_mod ⟨_, _, rfl, rfl, h.1, PD.same R (.int _) h.2⟩
  · cases rx with
    | tup h1 r1 =>
      cases ry with
      | tup h2 r2 =>
        have l1 := r1.length
        have l2 := r2.length
        refine opr op_catA ⟨_, _, _, _, rfl, rfl, h1.sq, h2.sq, by omega, ?_, ?_, ?_⟩
        · intro z
          subst z
          cases r1
          exact PD.same R (.tup h2 r2) (by simpa using h.2)
        · intro _ z
          subst z
          cases r2
          exact PD.same R (.tup h1 r1) (by simpa using h.2)
        · intro _ _ p hn
          exact PD.tup R hn (r1.append r2) h.2
  · cases rx with
    | lst h1 _ _ r1 =>
      cases ry with
      | lst h2 _ _ r2 =>
        have l1 := r1.length
        have l2 := r2.length
        exact opr op_cat ⟨_, _, _, _, rfl, rfl, h1, h2, by omega, fun p hn => PD.lst (m := false) R hn (r1.append r2) h.2⟩
  · cases rx; cases ry; exact opr op_add_str ⟨_, _, rfl, rfl, by omega, PD.same R (.str _) h.2⟩
  · cases rx
    cases ry with
    | lst h2 _ _ r2 =>
      obtain ⟨xs, e, b, q⟩ := wOpt_in h
      obtain ⟨vs, h1, r1⟩ := R.at_ _ _ (of_lstAt e)
      have l1 := r1.length
      have l2 := r2.length
      exact opr op_cat ⟨_, _, _, _, rfl, rfl, h1, h2, by omega, fun p hn => PD.lst (m := false) R hn (r1.append r2) q⟩
  · cases ry
    cases rx with
    | lst h1 _ _ r1 =>
      obtain ⟨ys, e, b, q⟩ := wOpt_in h
      obtain ⟨us, h2, r2⟩ := R.at_ _ _ (of_lstAt e)
      have l1 := r1.length
      have l2 := r2.length
      exact opr op_cat ⟨_, _, _, _, rfl, rfl, h1, h2, by omega, fun p hn => PD.lst (m := false) R hn (r1.append r2) q⟩
  · cases rx; cases ry
    obtain ⟨xs, e1, h⟩ := wOpt_in h
    obtain ⟨ys, e2, b, q⟩ := wOpt_in h
    obtain ⟨vs, h1, r1⟩ := R.at_ _ _ (of_lstAt e1)
    obtain ⟨us, h2, r2⟩ := R.at_ _ _ (of_lstAt e2)
    have l1 := r1.length
    have l2 := r2.length
    exact opr op_cat ⟨_, _, _, _, rfl, rfl, h1, h2, by omega, fun p hn => PD.lst (m := false) R hn (r1.append r2) q⟩
  · cases rx with
    | lst h1 _ _ r1 =>
      cases ry
      have l1 := r1.length
      obtain ⟨⟨a, b, c⟩, q⟩ := h
      exact opr op_rep ⟨_, _, _, rfl, rfl, h1, by omega, by omega, by rw [l1]; omega, fun p hn => PD.lst (m := false) R hn (r1.flat _) q⟩
  · rename_i xs0 k
    cases rx with
    | tup h1 r1 =>
      cases ry
      have l1 := r1.length
      obtain ⟨⟨a, b, c, e⟩, q⟩ := h
      by_cases a2 : xs0 = []
      · subst a2
        have k2 := a.resolve_left fun z => z rfl
        cases r1
        rw [show (List.replicate k.toNat ([] : List Z.D)).flatten = [] by simp] at q
        exact opr ZT.op_two ⟨_, _, rfl, rfl, k2, h1.sq, PD.same R (.tup h1 .nil) q⟩
      replace a : xs0 ≠ [] := a2
      rcases (by omega : 2 ≤ k ∨ k = 1 ∨ k = 0) with two | rfl | rfl
      · exact opr op_repT ⟨_, _, _, rfl, rfl, h1.sq, fun z => a (by subst z; cases r1; rfl), two, c, by omega, fun p hn => PD.tup R hn (r1.flat _) q⟩
      · refine opr ZT.op_few ⟨_, _, _, rfl, rfl, h1.sq, fun z => a (by subst z; cases r1; rfl), .inl ⟨rfl, PD.same R (.tup h1 r1) ?_⟩⟩
        rw [show (List.replicate (1 : Int).toNat _).flatten = _ from List.append_nil _] at q
        exact q
      · exact opr ZT.op_few ⟨_, _, _, rfl, rfl, h1.sq, fun z => a (by subst z; cases r1; rfl), .inr ⟨rfl, fun p hn => PD.tup R hn .nil q⟩⟩
  · exact h.elim

/-! ### comparisons -/
mutual
theorem rep_dp : ∀ (d : D) (v : V), Rep X.K F S H v d → d.pure = true → Dp X.K H v d.py
  | .non, _, .non, _ => .non
  | .bl _, _, .bl _, _ => .bl _
  | .int _, _, .int _, _ => .int _
  | .str _, _, .str _, _ => .str _
  | .ty _, _, .fn _, h => nomatch (show false = true from h)
  | .ref _, _, .ref _, h => nomatch (show false = true from h)
  | .lsk _, _, .lsk _ _, h => nomatch (show false = true from h)
  | .tup ds, _, .tup hs r, h => .tup hs.sq (rep_dps ds _ r h)
  | .lst ds, _, .lst hs _ _ r, h => .lst (.inl (.inl hs)) (rep_dps ds _ r h)
theorem rep_dps : ∀ (ds : List D) (vs : List V), RepL X.K F S H vs ds → D.pures ds = true → DpAll X.K H vs (D.pys ds)
  | [], _, .nil, _ => .nil
  | d :: ds, _, .cons r t, h => by
    have h2 : (d.pure && D.pures ds) = true := h
    rw [Bool.and_eq_true] at h2
    exact .cons (rep_dp d _ r h2.1) (rep_dps ds _ t h2.2)
end
theorem wNg_eq {n b : Bool} {S : Sto} {Q : QK} : wNg n b S Q = Q (.bl (if n then !b else b)) S := by cases n <;> rfl
theorem eq_s {n : Bool} {v u : V} (hu : X.A.units + 64 < cLine) (R : RelS X.K F S H) (rx : Rep X.K F S H v d) (ry : Rep X.K F S H u e) (h : wEq n d e S Q) :
    opx X (compareOp (if n then .NotEq else .Eq)) v u H (PD X.K F S H Q) := by
  unfold wEq at h
  simp only [wNg_eq] at h
  split at h
  · cases rx; cases ry
    cases n with
    | false => exact opr op_eq ⟨rfl, PD.same R (.bl _) (by rw [dec_int]; simpa [Bool.beq_eq_decide_eq] using h)⟩
    | true => exact opr op_ne ⟨rfl, PD.same R (.bl _) (by rw [dec_int]; simpa [Bool.beq_eq_decide_eq] using h)⟩
  · cases rx; cases ry
    cases n with
    | false => exact opr op_eq ⟨rfl, PD.same R (.bl _) (by rw [dec_bl]; simpa [Bool.beq_eq_decide_eq] using h)⟩
    | true => exact opr op_ne ⟨rfl, PD.same R (.bl _) (by rw [dec_bl]; simpa [Bool.beq_eq_decide_eq] using h)⟩
  · cases rx; cases ry
    cases n with
    | false => exact opr op_eq ⟨rfl, PD.same R (.bl _) (by simpa using h)⟩
    | true => exact opr op_ne ⟨rfl, PD.same R (.bl _) (by simpa using h)⟩
  · obtain ⟨xs, e1, ⟨⟨a1, a2⟩, ⟨b1, b2⟩⟩, q⟩ := wOpt_in h
    cases rx with
    | ref _ =>
      obtain ⟨vs, e2, rl⟩ := R.at_ _ _ (of_lstAt e1)
      have dx : Dp X.K H (.ref _) (D.lst xs).py := .lst (.inl (.inl e2)) (rep_dps xs _ rl a1)
      cases n with
      | false => exact opr (op_eqD hu) ⟨_, _, dx, rep_dp _ _ ry b1, a2, b2, PD.same R (.bl _) (by simpa using q)⟩
      | true => exact opr (op_neD hu) ⟨_, _, dx, rep_dp _ _ ry b1, a2, b2, PD.same R (.bl _) (by simpa using q)⟩
  · obtain ⟨ys, e1, ⟨⟨a1, a2⟩, ⟨b1, b2⟩⟩, q⟩ := wOpt_in h
    cases ry with
    | ref _ =>
      obtain ⟨vs, e2, rl⟩ := R.at_ _ _ (of_lstAt e1)
      have dy : Dp X.K H (.ref _) (D.lst ys).py := .lst (.inl (.inl e2)) (rep_dps ys _ rl b1)
      cases n with
      | false => exact opr (op_eqD hu) ⟨_, _, rep_dp _ _ rx a1, dy, a2, b2, PD.same R (.bl _) (by simpa using q)⟩
      | true => exact opr (op_neD hu) ⟨_, _, rep_dp _ _ rx a1, dy, a2, b2, PD.same R (.bl _) (by simpa using q)⟩
  · obtain ⟨⟨⟨a1, a2⟩, ⟨b1, b2⟩⟩, q⟩ := h
    cases n with
    | false => exact opr (op_eqD hu) ⟨_, _, rep_dp _ _ rx a1, rep_dp _ _ ry b1, a2, b2, PD.same R (.bl _) (by simpa using q)⟩
    | true => exact opr (op_neD hu) ⟨_, _, rep_dp _ _ rx a1, rep_dp _ _ ry b1, a2, b2, PD.same R (.bl _) (by simpa using q)⟩
/-- an order's rule over the library's data -/
def OrdR (X : Cx) (op : CmpOp) (f : PyData → PyData → Bool) : Prop := ∀ {A : Around} {E : Value → Shared → Prop} {s : Shared} {a b : Value} {da db : PyData} {as bs : List Addr} {Q : Value → Shared → Prop},
  Reads s.heap a da as → Reads s.heap b db bs → PySem.W.alike da db = true → da ≠ .none → A.units + min da.depth db.depth < cLine → Q (.bool (f da db)) s → wpAny (model X.prog X.w) A (compareOp op a b) Q E s
theorem op_ord {op : CmpOp} {f : PyData → PyData → Bool} (hu : X.A.units + 64 < cLine) (hd : OrdR X op f) : OpR X (compareOp op) (fun x y H Q => ∃ d e, (Dp X.K H x d ∧ Dp X.K H y e) ∧ (SeqAt.shaped d = true ∧ d ≠ .none ∧ PySem.W.alike d e = true) ∧ Q (.bl (f d e)) H) := by
  intro pins s σ H x y v u Q I rx ry ⟨d, e, ⟨dx, dy⟩, ⟨sd, nn, al⟩, q⟩
  obtain ⟨_, q1⟩ := Dp.reads I _ _ _ dx rx
  obtain ⟨_, q2⟩ := Dp.reads I _ _ _ dy ry
  have dp := SeqAt.depth_of_shaped sd
  exact hd q1 q2 al nn (by have := Nat.min_le_left d.depth e.depth; omega) ⟨.bl _, H, I, rfl, q⟩
theorem ord_s {op : CmpOp} {f : PyData → PyData → Bool} {g : Int → Int → Bool} {v u : V} (hu : X.A.units + 64 < cLine) (hi : OpR X (compareOp op) (rI0 fun i j => .bl (g i j))) (hd : OrdR X op f)
    (R : RelS X.K F S H) (rx : Rep X.K F S H v d) (ry : Rep X.K F S H u e) (h : wOrd f g d e S Q) : opx X (compareOp op) v u H (PD X.K F S H Q) := by
  unfold wOrd at h
  split at h
  · cases rx; cases ry
    exact opr hi ⟨_, _, rfl, rfl, PD.same R (.bl _) h⟩
  · obtain ⟨⟨⟨a1, a2⟩, ⟨b1, b2⟩, nn, al⟩, q⟩ := h
    refine opr (op_ord hu hd) ⟨_, _, ⟨rep_dp _ _ rx a1, rep_dp _ _ ry b1⟩, ⟨a2, fun z => ?_, al⟩, PD.same R (.bl _) q⟩
    cases d with
    | non => exact nn rfl
    | ref a => exact nomatch (show false = true from a1)
    | ty n => exact nomatch (show false = true from a1)
    | lsk _ => exact nomatch (show false = true from a1)
    | _ => exact nomatch z
theorem pys_map : ∀ ds : List D, D.pys ds = ds.map D.py
  | [] => rfl
  | d :: ds => by rw [List.map_cons, ← pys_map ds]; rfl
theorem any_pys {ds : List D} {p : PyData} : ((D.pys ds).any fun z => PyData.eqv z p) = ds.any fun z => PyData.eqv z.py p := by
  rw [pys_map, List.any_map]
  rfl
theorem op_inT (hu : X.A.units + 65 < cLine) : OpR X (compareOp .In) (fun x y H Q => ∃ d ds, Dp X.K H x d ∧ Dp X.K H y (.tuple ds) ∧ SeqAt.shaped d = true ∧ SeqAt.shaped (.tuple ds) = true ∧ Q (.bl (ds.any fun z => PyData.eqv z d)) H) := by
  intro pins s σ H x y v u Q I rx ry ⟨d, ds, hd, he, sd, se, q⟩
  obtain ⟨as, r1⟩ := Dp.reads I d x v hd rx
  obtain ⟨bs, r2⟩ := Dp.reads I (.tuple ds) y u he ry
  have c1 : (PyData.tuple ds).canLay0 = true := SeqAt.canLay_of_shaped se
  have e1 := SeqAt.depth_of_shaped sd
  exact SeqAt.in_tuple_reads r2 r1 (by simpa only [PyData.canLay0] using c1) (SeqAt.canLay_of_shaped sd) (by have := Nat.min_le_right (PyData.depthAll ds) d.depth; omega) ⟨.bl _, H, I, rfl, q⟩
theorem op_notInT (hu : X.A.units + 65 < cLine) : OpR X (compareOp .NotIn) (fun x y H Q => ∃ d ds, Dp X.K H x d ∧ Dp X.K H y (.tuple ds) ∧ SeqAt.shaped d = true ∧ SeqAt.shaped (.tuple ds) = true ∧ Q (.bl (!ds.any fun z => PyData.eqv z d)) H) := by
  intro pins s σ H x y v u Q I rx ry ⟨d, ds, hd, he, sd, se, q⟩
  obtain ⟨as, r1⟩ := Dp.reads I d x v hd rx
  obtain ⟨bs, r2⟩ := Dp.reads I (.tuple ds) y u he ry
  have c1 : (PyData.tuple ds).canLay0 = true := SeqAt.canLay_of_shaped se
  have e1 := SeqAt.depth_of_shaped sd
  exact SeqAt.notIn_tuple_reads r2 r1 (by simpa only [PyData.canLay0] using c1) (SeqAt.canLay_of_shaped sd) (by have := Nat.min_le_right (PyData.depthAll ds) d.depth; omega) ⟨.bl _, H, I, rfl, q⟩
theorem shaped_list {ds : List D} (h : SeqAt.shaped (D.tup ds).py = true) : SeqAt.shaped (.list (D.pys ds)) = true := by
  unfold SeqAt.shaped at h ⊢
  rw [Bool.and_eq_true] at h ⊢
  refine ⟨by have := h.1; simpa only [D.py, PyData.canLay0] using this, decide_eq_true (by have := of_decide_eq_true h.2; simpa only [D.py, PyData.depth] using this)⟩
theorem in_s {n : Bool} {v u : V} (hu : X.A.units + 65 < cLine) (R : RelS X.K F S H) (rx : Rep X.K F S H v d) (ry : Rep X.K F S H u e) (h : wIn n d e S Q) : opx X (compareOp (if n then .NotIn else .In)) v u H (PD X.K F S H Q) := by
  obtain ⟨ys, e1, ⟨⟨a1, a2⟩, ⟨b1, b2⟩⟩, q⟩ := wOpt_in h
  rw [wNg_eq] at q
  obtain ⟨a, xs, rfl, hs, rl⟩ := seq_rep R ry e1
  have dx := rep_dp _ _ rx a1
  have dy := rep_dps _ _ rl b1
  rcases hs with hs | hs
  · cases n with
    | false => exact opr (op_inD hu) ⟨_, _, dx, .lst hs dy, a2, shaped_list b2, PD.same R (.bl _) (by rw [any_pys]; simpa using q)⟩
    | true => exact opr (op_notInD hu) ⟨_, _, dx, .lst hs dy, a2, shaped_list b2, PD.same R (.bl _) (by rw [any_pys]; simpa using q)⟩
  · cases n with
    | false => exact opr (op_inT hu) ⟨_, _, dx, .tup hs dy, a2, b2, PD.same R (.bl _) (by rw [any_pys]; simpa using q)⟩
    | true => exact opr (op_notInT hu) ⟨_, _, dx, .tup hs dy, a2, b2, PD.same R (.bl _) (by rw [any_pys]; simpa using q)⟩
theorem cmp_s {op : CmpOp} {v u : V} (hu' : X.A.units + 70 < cLine) (R : RelS X.K F S H) (rx : Rep X.K F S H v d) (ry : Rep X.K F S H u e) (h : wCmp op d e S Q) : opx X (compareOp op) v u H (PD X.K F S H Q) := by
  have hu : X.A.units + 64 < cLine := by omega
  unfold wCmp at h
  split at h
  · exact eq_s (n := false) hu R rx ry h
  · exact eq_s (n := true) hu R rx ry h
  · exact ord_s hu op_lt (fun {_ _ _ _ _ _ _ _ _ _} a b c d e f => PySem.W.lt_data a b c d e f) R rx ry h
  · exact ord_s hu op_gt (fun {_ _ _ _ _ _ _ _ _ _} a b c d e f => PySem.W.gt_data a b c d e f) R rx ry h
  · exact ord_s hu op_le (fun {_ _ _ _ _ _ _ _ _ _} a b c d e f => PySem.W.le_data a b c d e f) R rx ry h
  · exact ord_s hu op_ge (fun {_ _ _ _ _ _ _ _ _ _} a b c d e f => PySem.W.ge_data a b c d e f) R rx ry h
  · obtain ⟨b, e1, q⟩ := wOpt_in h
    unfold isD at e1
    split at e1 <;> cases e1
    · cases rx; cases ry; exact opr op_isN ⟨rfl, PD.same R (.bl _) q⟩
    · cases rx; cases ry; exact opr op_isBl ⟨_, _, rfl, rfl, PD.same R (.bl _) q⟩
    all_goals (cases ry; cases rx <;> exact opr op_isN ⟨rfl, PD.same R (.bl _) q⟩)
  · obtain ⟨b, e1, q⟩ := wOpt_in h
    unfold isD at e1
    split at e1 <;> cases e1
    · cases rx; cases ry; exact opr op_notN ⟨rfl, PD.same R (.bl _) q⟩
    · cases rx; cases ry; exact opr op_notBl ⟨_, _, rfl, rfl, PD.same R (.bl _) q⟩
    all_goals (cases ry; cases rx <;> exact opr op_notN ⟨rfl, PD.same R (.bl _) q⟩)
  · exact in_s (n := false) (by omega) R rx ry h
  · exact in_s (n := true) (by omega) R rx ry h

/-! ### truth -/
theorem tru_s {v : V} {b : Bool} (R : RelS X.K F S H) (r : Rep X.K F S H v d) (h : tru d S = some b) : TruV X.K v H b := by
  cases r with
  | non => exact (Option.some.inj h).symm
  | bl _ => exact (Option.some.inj h).symm
  | int _ => exact (Option.some.inj h).symm
  | tup hs rl =>
    have e := Option.some.inj (show some _ = some b from h)
    subst e
    exact .inr (.inl ⟨_, hs.sq, by cases rl <;> rfl⟩)
  | lst hs _ _ rl =>
    have e := Option.some.inj (show some _ = some b from h)
    subst e
    exact .inl ⟨_, .inl (.inl hs), by cases rl <;> rfl⟩
  | lsk hs rl =>
    have e := Option.some.inj (show some _ = some b from h)
    subst e
    exact .inl ⟨_, hs.sq, by cases rl <;> rfl⟩
  | ref a =>
    have h2 : (lstAt S a).map (fun xs => !xs.isEmpty) = some b := h
    cases e : lstAt S a with
    | none => rw [e] at h2; cases h2
    | some xs =>
      rw [e] at h2
      cases h2
      obtain ⟨ys, e2, rl⟩ := R.at_ a _ (of_lstAt e)
      exact .inl ⟨_, .inl (.inl e2), by cases rl <;> rfl⟩
  | _ => exact nomatch (show (none : Option Bool) = some b from h)
end
end Z
set_option Elab.async false
set_option linter.all false
set_option maxRecDepth 100000
set_option maxHeartbeats 4000000
/-! Z4: what the trees say holds of the model: subscripts, built-ins, methods. -/
namespace Z
open PySem PySem.Spec PyProof.Rows L2
section
variable {prog : Program} {w : World} {A : Around} {s : Shared} {E : Value → Shared → Prop}
/-- max(a, b) of two data that may be compared -/
theorem max_pair {a b : Value} {da db : PyData} {as bs : List Addr} {Q : Value → Shared → Prop} (hh : A.handled = none) (ra : Reads s.heap a da as) (rb : Reads s.heap b db bs) (al : PySem.W.AlikeAll [da, db]) (hu : A.units + 1 + PyData.depthAll [da, db] < cLine)
    (h : ∀ h' tk, (∀ c o, s.heap.get? c = some o → h'.get? c = some o) → Q (if PySem.W.dataLt da db = true then b else a) { s with heap := h', toks := tk }) : wpAny (model prog w) A (PySem.call (.builtin "max") [a, b]) Q E s := by
  -- the pair laid as a tuple, and what is as it was
  let pr : Obj := { cls := .type "tuple", data := .seq #[a, b] }
  let h1 : Heap := s.heap.push pr
  have old : ∀ c o, s.heap.get? c = some o → h1.get? c = some o := fun _ _ z => Heap.get?_push_of_some _ z
  have tup : h1.IsTuple s.heap.objs.size #[a, b] := ⟨pr, Heap.get?_push_size _ rfl, rfl, 0, rfl⟩
  have both : ReadsAll h1 [a, b] [da, db] _ := .cons (Reads.keeps old ra) (.cons (Reads.keeps old rb) .nil)
  -- which of the two: by the place of the best one
  let best : Nat := argBest (fun i j => PySem.W.dataLt ([da, db].getD j PyData.none) ([da, db].getD i PyData.none)) 1
  have pick : ∀ v, (#[a, b] : Array Value)[best]? = some v → v = if PySem.W.dataLt da db = true then b else a := fun v hv => by
    have hb : best = if PySem.W.dataLt da db = true then 1 else 0 := by simp [best, argBest]
    rw [hb] at hv
    cases q : PySem.W.dataLt da db <;> (rw [q] at hv; simpa using hv.symm)
  have nm : (toString "max" ++ toString ".loop" : String) = "max.loop" := by decide
  refine call_function_tree F.kind_max F.plain_max F.entry_max (F.args_max2 _ _) ?_
  show wpAny _ A.in1 (Builtin.Builtins.bindParams "max" ["key", "default"] 0 ⟨[], []⟩ >>= _) _ _ s
  refine wpAny_bind (wpAny_of_eq (a := [none, none]) rfl ?_)
  show wpAny _ A.in1 (newTuple [a, b] >>= _) _ _ s
  refine wpAny_bind (wpAny_newObj_type (wpAny_bind (PySem.W.iter_tupleW (A := A.in1) (s := { s with heap := h1 }) hh tup fun s2 e W st fpl wr k => wpAny_bind (wpAny_newObj_type ?_))))
  rw [nm]
  have cmp := PySem.W.cmpIn_gt (prog := prog) (w := w) (A := A.in1) (s := { s with heap := h1 }) both al hu
  refine wpAny_pure ⟨plainId_quiet F.plain_max_loop _, codeAny_max_loop_firstH W h1 wr _ cmp s2.heap.objs.size (fun m => Nat.lt_irrefl _ (fpl _ m)) (fresh_in k) _ (by simp) (fun b o z => Heap.get?_push_of_some _ (k b o z))
    (W.frame 0 s2 _ s2.toks st (Nat.le_refl _) fun _ _ _ z => Heap.get?_push_of_some _ z) (Heap.get?_push_size _ rfl) fun v s3 hv m => ?_⟩
  obtain ⟨h3, tk, rfl, k3⟩ := PySem.W.moved_old e rfl (Moved.drop_new (tk := s2.toks) m (Nat.le_refl _))
  rw [pick v hv]
  exact h h3 tk fun c o z => k3 c o (old c o z)
end
section
variable {X : Cx}
def rMinP (K : PySem.W.Frag) : List V → Hp → VK → Prop := fun xs H Q => ∃ (a : Addr) (ys : List V) (ds : List PyData), xs = [V.ref a] ∧ SqL K H a ys ∧ DpAll K H ys ds ∧ PySem.W.AlikeAll ds ∧ PyData.depthAll ds ≤ 60 ∧ 0 < ds.length ∧
  ∀ (i : Nat) (y : V) (d : PyData), ys[i]? = some y → ds[i]? = some d → d = ds.tail.foldl (fun a y => if PySem.W.dataLt y a then y else a) (ds.headD .none) → Q y H
theorem call_minP (hc : X.calm = true) (hu : X.A.units + 70 < cLine) : CallR X (.builtin "min") (rMinP X.K) := by
  intro pins s σ H xs us Q I r ⟨a, ys, ds, e0, hs, dps, al, dp, hne, q⟩
  subst e0
  obtain ⟨its, rv, hl, _⟩ := I.list hs
  rw [Vals.ref1 r]
  obtain ⟨as, ra⟩ := Dp.readsAll I _ _ _ dps rv
  match ds, hne with
  | x :: xs, _ =>
    refine PySem.W.min_list_data (I.ok.hd hc) hl.isList ra al (by omega) fun i v h' tk bs hv rm k => ?_
    obtain ⟨bs2, r2, i2, _⟩ := PySem.W.readsAll_at ra i v (by simpa using hv)
    have ed := (reads_det (fun b o e _ => k b o e) r2 rm).1
    have hv' : its[i]? = some v := by simpa using hv
    have il : i < ys.length := by
      have h1 := List.getElem?_eq_some_iff.mp hv'
      obtain ⟨h2, _⟩ := h1
      have h3 := rv.length
      omega
    have hy : ys[i]? = some ys[i] := List.getElem?_eq_getElem il
    obtain ⟨u, hu2, ry⟩ := Vals.get rv hy
    have eu : u = v := by rw [hv'] at hu2; cases hu2; rfl
    rw [eu] at ry
    generalize ys[i] = y at hy ry
    have hd : (x :: xs)[i]? = some ((x :: xs).getD i .none) := by rw [List.getD_eq_getElem?_getD, List.getElem?_eq_getElem i2]; rfl
    exact ⟨y, H, I.kept k, ry, q i y _ hy hd ed.symm⟩
theorem ints_dps {K : PySem.W.Frag} {H : Hp} : ∀ ns : List Int, DpAll K H (ns.map V.int) (ns.map PyData.int)
  | [] => .nil
  | n :: ns => .cons (.int n) (ints_dps ns)
theorem greatest_of : ∀ (ns : List Int) (n : Int), ns.foldl max n ∈ n :: ns ∧ ∀ y ∈ n :: ns, y ≤ ns.foldl max n
  | [], n => ⟨List.mem_cons_self .., fun y hy => by rw [List.mem_singleton.mp hy]; exact Int.le_refl _⟩
  | k :: ns, n => by
    obtain ⟨h1, h2⟩ := greatest_of ns (max n k)
    have m := h2 (max n k) (List.mem_cons_self ..)
    refine ⟨?_, fun y hy => ?_⟩
    · rcases List.mem_cons.mp h1 with e | e
      · rw [List.foldl_cons, e]
        rcases Int.le_total n k with z | z
        · rw [Int.max_eq_right z]; exact List.mem_cons_of_mem _ (List.mem_cons_self ..)
        · rw [Int.max_eq_left z]; exact List.mem_cons_self ..
      · exact List.mem_cons_of_mem _ (List.mem_cons_of_mem _ e)
    · rw [List.foldl_cons]
      rcases List.mem_cons.mp hy with rfl | hy
      · exact Int.le_trans (Int.le_max_left ..) m
      rcases List.mem_cons.mp hy with rfl | hy
      · exact Int.le_trans (Int.le_max_right ..) m
      · exact h2 y (List.mem_cons_of_mem _ hy)
/-- max(t), t a tuple of ints -/
def rTop (K : PySem.W.Frag) : List V → Hp → VK → Prop := fun xs H Q => ∃ (a : Addr) (ns : List Int), xs = [V.ref a] ∧ SqT K H a (ns.map V.int) ∧ 0 < ns.length ∧ ∀ m, m ∈ ns → (∀ y ∈ ns, y ≤ m) → Q (.int m) H
theorem call_top (hc : X.calm = true) (hu : X.A.units + 70 < cLine) : CallR X (.builtin "max") (rTop X.K) := by
  rintro pins s σ H xs us Q I r ⟨a, ns, rfl, hs, hne, q⟩
  obtain ⟨its, vals, there, _⟩ := I.tuple hs
  rw [Vals.ref1 r]
  cases ns with
  | nil => exact absurd hne (Nat.lt_irrefl 0)
  | cons n ns =>
    obtain ⟨as, reads⟩ := Dp.readsAll I _ _ _ (ints_dps (n :: ns)) vals
    have flat : ∀ xs : List Int, PyData.depthAll (xs.map .int) = 0 := fun xs => by
      induction xs with
      | nil => rfl
      | cons x xs ih => show max (PyData.int x).depth _ = 0; rw [ih]; rfl
    have same : PySem.W.AlikeAll (PyData.int n :: ns.map .int) := by
      have k : ∀ d ∈ (n :: ns).map PyData.int, ∃ i, d = .int i := fun d hd => by
        obtain ⟨i, _, rfl⟩ := List.mem_map.mp hd
        exact ⟨i, rfl⟩
      refine ⟨fun x hx y hy => ?_, fun x hx z => ?_⟩
      · obtain ⟨i, rfl⟩ := k x hx
        obtain ⟨j, rfl⟩ := k y hy
        rfl
      · obtain ⟨i, rfl⟩ := k x hx
        cases z
    apply PySem.W.max_tuple_data (I.ok.hd hc) there reads same (by rw [show PyData.depthAll (PyData.int n :: ns.map .int) = 0 from flat (n :: ns)]; omega)
    intro i v h' tk bs _ seen kept
    rw [PySem.W.maxD_ints] at seen
    obtain ⟨mem, top⟩ := greatest_of ns n
    cases seen
    exact ⟨.int _, H, I.kept kept, ⟨_, rfl⟩, q _ mem top⟩
def rMaxP (K : PySem.W.Frag) : List V → Hp → VK → Prop := fun xs H Q => ∃ v u d e, xs = [v, u] ∧ Dp K H v d ∧ Dp K H u e ∧ PySem.W.AlikeAll [d, e] ∧ SeqAt.shaped d = true ∧ SeqAt.shaped e = true ∧ Q (if PySem.W.dataLt d e = true then u else v) H
theorem call_maxP (hc : X.calm = true) (hu : X.A.units + 70 < cLine) : CallR X (.builtin "max") (rMaxP X.K) := by
  intro pins s σ H xs us Q I r ⟨v, u, d, e, e0, dv, du, al, sd, se, q⟩
  subst e0
  obtain ⟨v1, u1, rfl, r1, r2⟩ := vals2 r
  obtain ⟨as, q1⟩ := Dp.reads I _ _ _ dv r1
  obtain ⟨bs, q2⟩ := Dp.reads I _ _ _ du r2
  have d1 := SeqAt.depth_of_shaped sd
  have d2 := SeqAt.depth_of_shaped se
  refine max_pair (I.ok.hd hc) q1 q2 al (by simp only [PyData.depthAll]; omega) fun h' tk k => ⟨_, H, I.kept k, ?_, q⟩
  split
  · exact r2
  · exact r1
end
section
variable {X : Cx} {F : Addr → Prop} {S : Sto} {H : Hp} {Q : QK} {x y : V} {d e : D}

theorem atI_len {α β : Type} {xs : List α} {ys : List β} (h : xs.length = ys.length) {i : Int} {y : β} (e : atI ys i = some y) : ∃ j, ixN xs.length i = some j ∧ ys[j]? = some y := by
  unfold atI at e
  rw [h]
  cases q : ixN ys.length i with
  | none => rw [q] at e; cases e
  | some j => rw [q] at e; exact ⟨j, rfl, e⟩
theorem rep_atI {vs : List V} {ds : List D} {i : Int} (r : RepL X.K F S H vs ds) (e : atI ds i = some d) : ∃ v, atI vs i = some v ∧ Rep X.K F S H v d := by
  obtain ⟨j, e1, e2⟩ := atI_len r.length e
  obtain ⟨v, e3, r3⟩ := r.get e2
  refine ⟨v, ?_, r3⟩
  unfold atI
  rw [e1]
  exact e3
theorem ix_s {v u : V} {b : Expr} (R : RelS X.K F S H) (rx : Rep X.K F S H v d) (ry : Rep X.K F S H u e) (h : wIx d e S Q) : (rIx X.K) v u H (PD X.K F S H Q) := by
  unfold wIx at h
  split at h
  · rename_i i
    cases ry
    obtain ⟨ds, e1, h⟩ := wOpt_in h
    obtain ⟨z, e2, q⟩ := wOpt_in h
    obtain ⟨a, xs, rfl, hs, rl⟩ := seq_rep R rx e1
    obtain ⟨w, e3, rw'⟩ := rep_atI rl e2
    rcases hs with hs | hs
    · exact .inl ⟨a, xs, i, w, rfl, rfl, hs, e3, PD.same R rw' q⟩
    · exact .inr (.inl ⟨a, xs, i, w, rfl, rfl, hs, e3, PD.same R rw' q⟩)
  · exact h.elim
theorem ixc_s {v : V} {k : Nat} (R : RelS X.K F S H) (rx : Rep X.K F S H v d) (h : wIxc d k S Q) : (rIx X.K) v (.int (k : Nat)) H (PD X.K F S H Q) := by
  unfold wIxc at h
  obtain ⟨ds, e1, h⟩ := wOpt_in h
  obtain ⟨z, e2, q⟩ := wOpt_in h
  obtain ⟨a, xs, rfl, hs, rl⟩ := seq_rep R rx e1
  obtain ⟨w, e3, rw'⟩ := rl.get e2
  rcases hs with hs | hs
  · exact .inl ⟨a, xs, k, w, rfl, rfl, hs, atI_nat e3, PD.same R rw' q⟩
  · exact .inr (.inl ⟨a, xs, k, w, rfl, rfl, hs, atI_nat e3, PD.same R rw' q⟩)

/-! ### slices -/
theorem rep_cut {vs : List V} {ds : List D} (r : RepL X.K F S H vs ds) (lo hi : Option Int) : RepL X.K F S H (cutV vs lo hi) (cut ds lo hi) := by
  unfold cutV cut
  rw [r.length]
  exact (r.drop _).take _
def rSl (K : PySem.W.Frag) : V → Option Int → Option Int → Hp → VK → Prop := fun x lo hi H Q => rSlA K x lo hi H Q ∨ rSlL K x lo hi H Q
theorem cut_all {α : Type} {xs : List α} {lo hi : Option Int} (h : HT.sIx xs.length 0 lo = 0 ∧ HT.sIx xs.length xs.length hi = xs.length) : cut xs lo hi = xs := by
  unfold cut
  rw [h.1, h.2]
  simp
theorem sl_s {m : Bool} {v : V} {lo hi : Option Int} (R : RelS X.K F S H) (rx : Rep X.K F S H v d) (h : wSl m d lo hi S Q) : rSl X.K v lo hi H (PD X.K F S H Q) := by
  unfold wSl at h
  split at h
  · cases rx with
    | tup hs rl =>
      refine .inl ⟨_, _, rfl, hs.sq, fun hw => ?_, fun _ p hn => PD.tup R hn (rep_cut rl lo hi) h⟩
      rw [rl.length] at hw
      rw [cut_all hw] at h
      exact PD.same R (.tup hs rl) h
  · obtain ⟨ds, e1, q⟩ := wOpt_in h
    obtain ⟨a, xs, rfl, hs, rl⟩ := lsr_rep R rx e1
    exact .inr ⟨a, xs, rfl, hs, fun p hn => PD.lst R hn (rep_cut rl lo hi) q⟩

theorem seq_case {d : D} {S : Sto} {ds : List D} (h : seqD d S = some ds) : d = .tup ds ∨ lsrD d S = some ds := by
  cases d with
  | tup xs => cases (show some xs = some ds from h); exact .inl rfl
  | lst xs => exact .inr h
  | lsk xs => exact .inr h
  | ref a => exact .inr h
  | _ => exact nomatch (show none = some _ from h)
/-! ### built-ins -/
theorem rep1 {vs : List V} {d : D} (r : RepL X.K F S H vs [d]) : ∃ v, vs = [v] ∧ Rep X.K F S H v d := by
  cases r with
  | cons r t => cases t; exact ⟨_, rfl, r⟩
theorem rep2 {vs : List V} {d e : D} (r : RepL X.K F S H vs [d, e]) : ∃ v u, vs = [v, u] ∧ Rep X.K F S H v d ∧ Rep X.K F S H u e := by
  cases r with
  | cons r t => cases t with
    | cons r2 t => cases t; exact ⟨_, _, rfl, r, r2⟩
theorem rep_bools : ∀ {ds : List D} {vs : List V} {bs : List Bool}, RepL X.K F S H vs ds → asBools ds = some bs → vs = bs.map V.bl
  | [], _, _, .nil, e => by cases e; rfl
  | .bl b :: ds, _, bs, .cons r t, e => by
    have e2 : (asBools ds).map (b :: ·) = some bs := e
    cases q : asBools ds with
    | none => rw [q] at e2; cases e2
    | some cs =>
      rw [q] at e2
      cases e2
      cases r
      rw [rep_bools t q]
      rfl
  | .non :: _, _, _, _, e => nomatch (show none = some _ from e)
  | .int _ :: _, _, _, _, e => nomatch (show none = some _ from e)
  | .str _ :: _, _, _, _, e => nomatch (show none = some _ from e)
  | .tup _ :: _, _, _, _, e => nomatch (show none = some _ from e)
  | .lst _ :: _, _, _, _, e => nomatch (show none = some _ from e)
  | .ref _ :: _, _, _, _, e => nomatch (show none = some _ from e)
  | .ty _ :: _, _, _, _, e => nomatch (show none = some _ from e)
theorem rep_ints : ∀ {ds : List D} {vs : List V} {bs : List Int}, RepL X.K F S H vs ds → asInts ds = some bs → vs = bs.map V.int
  | [], _, _, .nil, e => by cases e; rfl
  | .int b :: ds, _, bs, .cons r t, e => by
    have e2 : (asInts ds).map (b :: ·) = some bs := e
    cases q : asInts ds with
    | none => rw [q] at e2; cases e2
    | some cs =>
      rw [q] at e2
      cases e2
      cases r
      rw [rep_ints t q]
      rfl
  | .non :: _, _, _, _, e => nomatch (show none = some _ from e)
  | .bl _ :: _, _, _, _, e => nomatch (show none = some _ from e)
  | .str _ :: _, _, _, _, e => nomatch (show none = some _ from e)
  | .tup _ :: _, _, _, _, e => nomatch (show none = some _ from e)
  | .lst _ :: _, _, _, _, e => nomatch (show none = some _ from e)
  | .ref _ :: _, _, _, _, e => nomatch (show none = some _ from e)
  | .ty _ :: _, _, _, _, e => nomatch (show none = some _ from e)
theorem rep_mapS (zs : List Str) : RepL X.K F S H (zs.map V.str) (zs.map D.str) := by
  induction zs with
  | nil => exact .nil
  | cons z r ih => exact .cons (.str z) ih
theorem rep_strs {ys : List V} {xs : List D} {ns : List Str} (r : RepL X.K F S H ys xs) (e : asStrs xs = some ns) : ys = ns.map V.str := by
  induction xs generalizing ys ns with
  | nil =>
    cases r
    cases e
    rfl
  | cons x xs ih =>
    cases r with
    | cons r1 r2 =>
      cases r1 with
      | str s =>
        have e : (asStrs xs).map (s :: ·) = some ns := e
        cases q : asStrs xs with
        | none => rw [q] at e; cases e
        | some ms =>
          rw [q] at e
          cases e
          rw [ih r2 q]
          rfl
      | _ => exact nomatch (show none = some ns from e)
theorem rep_mapI (zs : List Int) : RepL X.K F S H (zs.map V.int) (zs.map D.int) := by
  induction zs with
  | nil => exact .nil
  | cons z r ih => exact .cons (.int z) ih
/-- the model's name, whether it is a type -/
def bltV : Blt → Value
  | .minP => .builtin "min" | .sortP _ => .builtin "sorted" | .len => .builtin "len" | .abs => .builtin "abs" | .min => .builtin "min" | .max => .builtin "max" | .all => .builtin "all" | .any => .builtin "any" | .sum => .builtin "sum" | .sorted _ => .builtin "sorted" | .sortS _ => .builtin "sorted"
  | .int => .type "int" | .tuple => .type "tuple" | .list _ => .type "list" | .str => .type "str"
def bltN : Blt → Str
  | .minP => "min" | .sortP _ => "sorted" | .len => "len" | .abs => "abs" | .min => "min" | .max => "max" | .all => "all" | .any => "any" | .sum => "sum" | .sorted _ => "sorted" | .sortS _ => "sorted"
  | .int => "int" | .tuple => "tuple" | .list _ => "list" | .str => "str"
theorem bltBoot (b : Blt) : bootBuiltins (bltN b) = some (bltV b) := by
  cases b
  case list m => exact (by decide +kernel : bootBuiltins "list" = some (.type "list"))
  case sorted m => exact (by decide +kernel : bootBuiltins "sorted" = some (.builtin "sorted"))
  case sortS m => exact (by decide +kernel : bootBuiltins "sorted" = some (.builtin "sorted"))
  case sortP m => exact (by decide +kernel : bootBuiltins "sorted" = some (.builtin "sorted"))
  all_goals decide +kernel
theorem repL_at {v : V} : ∀ {vs : List V} {ds : List D} {i : Nat}, RepL X.K F S H vs ds → vs[i]? = some v → ∃ d, ds[i]? = some d ∧ Rep X.K F S H v d
  | _, _, _, .nil, e => by simp at e
  | _, _, 0, .cons r _, e => by
    rw [List.getElem?_cons_zero] at e
    cases e
    exact ⟨_, rfl, r⟩
  | _, _, i + 1, .cons _ t, e => by
    rw [List.getElem?_cons_succ] at e
    rw [List.getElem?_cons_succ]
    exact repL_at (i := i) t e
theorem rep_pr {v : V} {p : Int × Int} (r : Rep X.K F S H v (prD p)) : TupI X.K H v [p.1, p.2] := by
  cases r with
  | tup hs rl =>
    cases rl with
    | cons r1 t =>
      cases t with
      | cons r2 t =>
        cases t
        cases r1
        cases r2
        exact ⟨_, rfl, hs.sq⟩
theorem asPrs_eq : ∀ {ds : List D} {ns : List (Int × Int)}, asPrs ds = some ns → ds = ns.map prD
  | [], _, e => by cases e; rfl
  | d :: ds, ns, e => by
    unfold asPrs at e
    split at e
    · rename_i heq
      cases heq
    · rename_i heq
      injection heq with h1 h2
      subst h1 h2
      cases q : asPrs ds with
      | none => rw [q] at e; cases e
      | some cs =>
        rw [q] at e
        cases e
        rw [asPrs_eq q]
        rfl
    · cases e
theorem repL_perm : ∀ {vs ys : List V} {ds : List D}, ys.Perm vs → RepL X.K F S H vs ds → ∃ es, es.Perm ds ∧ RepL X.K F S H ys es := fun {vs ys ds} p r => by
  induction p generalizing ds with
  | nil => exact ⟨_, .refl _, r⟩
  | cons x _ ih =>
    cases r with
    | cons r1 t =>
      obtain ⟨es, h1, h2⟩ := ih t
      exact ⟨_, h1.cons _, .cons r1 h2⟩
  | swap x y l =>
    cases r with
    | cons r1 t =>
      cases t with
      | cons r2 t => exact ⟨_, .swap _ _ _, .cons r2 (.cons r1 t)⟩
  | trans _ _ ih1 ih2 =>
    obtain ⟨es, h1, h2⟩ := ih2 r
    obtain ⟨es2, h3, h4⟩ := ih1 h2
    exact ⟨es2, h3.trans h1, h4⟩
def unD : D → Int × Int
  | .tup [.int a, .int b] => (a, b)
  | _ => (0, 0)
theorem perm_prs {es : List D} {ns : List (Int × Int)} (p : es.Perm (ns.map prD)) : es = (es.map unD).map prD ∧ (es.map unD).Perm ns := by
  refine ⟨?_, ?_⟩
  · rw [List.map_map]
    have : ∀ e ∈ es, (prD ∘ unD) e = e := fun e he => by
      obtain ⟨n, _, rfl⟩ := List.mem_map.mp (p.mem_iff.mp he)
      rfl
    conv => lhs; rw [← List.map_id es]
    exact List.map_congr_left fun e he => (this e he).symm
  · have := p.map unD
    rw [List.map_map] at this
    have e : ns.map (unD ∘ prD) = ns := by
      conv => rhs; rw [← List.map_id ns]
      exact List.map_congr_left fun _ _ => rfl
    rw [e] at this
    exact this
theorem repL_mem : ∀ {ys : List V} {zs : List (Int × Int)}, RepL X.K F S H ys (zs.map prD) → ∀ z ∈ zs, ∃ y ∈ ys, TupI X.K H y [z.1, z.2]
  | _, [], _, z, hz => by simp at hz
  | _, _ :: zs, .cons r t, z, hz => by
    rcases List.mem_cons.mp hz with rfl | hz
    · exact ⟨_, List.mem_cons_self .., rep_pr r⟩
    · obtain ⟨y, h1, h2⟩ := repL_mem t z hz
      exact ⟨y, List.mem_cons_of_mem _ h1, h2⟩
theorem repL_mem2 : ∀ {ys : List V} {zs : List (Int × Int)}, RepL X.K F S H ys (zs.map prD) → ∀ y ∈ ys, ∃ z ∈ zs, TupI X.K H y [z.1, z.2]
  | [], _, _, y, hy => by simp at hy
  | _ :: ys, _ :: zs, .cons r t, y, hy => by
    rcases List.mem_cons.mp hy with rfl | hy
    · exact ⟨_, List.mem_cons_self .., rep_pr r⟩
    · obtain ⟨z, h1, h2⟩ := repL_mem2 t y hy
      exact ⟨z, List.mem_cons_of_mem _ h1, h2⟩
theorem code_pr {x y : Int} : TS.code 10000000 [x, y] = x * 10000000 + y := by
  show x * 10000000 ^ 1 + (y * 10000000 ^ 0 + 0) = x * 10000000 + y
  rw [show (10000000 : Int) ^ 1 = 10000000 from by decide, show (10000000 : Int) ^ 0 = 1 from by decide, Int.mul_one, Int.add_zero]
theorem pw_prs : ∀ {ys : List V} {zs : List (Int × Int)}, RepL X.K F S H ys (zs.map prD) → ys.Pairwise (fun x y => ∀ n m, TupI X.K H x n → TupI X.K H y m → TS.code 10000000 n ≤ TS.code 10000000 m) → zs.Pairwise (fun a b => a.1 * 10000000 + a.2 ≤ b.1 * 10000000 + b.2)
  | _, [], _, _ => List.Pairwise.nil
  | _, z :: zs, .cons r t, p => by
    obtain ⟨h1, h2⟩ := List.pairwise_cons.mp p
    refine List.pairwise_cons.mpr ⟨fun w hw => ?_, pw_prs t h2⟩
    obtain ⟨y, hy, ty⟩ := repL_mem t w hw
    have := h1 y hy _ _ (rep_pr r) ty
    rw [code_pr, code_pr] at this
    exact this
theorem blt_s {b : Blt} {vs : List V} {ds : List D} (hc : X.calm = true) (hu : X.A.units + 70 < cLine) (R : RelS X.K F S H) (r : RepL X.K F S H vs ds) (h : wBlt b ds S Q) : clx X (bltV b) vs H (PD X.K F S H Q) := by
  unfold wBlt at h
  split at h
  · obtain ⟨v, rfl, r1⟩ := rep1 r
    obtain ⟨xs, e1, q⟩ := wOpt_in h
    obtain ⟨a, ys, rfl, hs, rl⟩ := seq_rep R r1 e1
    exact clr call_len_seq ⟨a, ys, rfl, hs, PD.same R (.int _) (by rw [rl.length]; exact q)⟩
  · obtain ⟨v, rfl, r1⟩ := rep1 r
    cases r1
    exact clr call_abs ⟨_, rfl, PD.same R (.int _) h⟩
  · obtain ⟨v, u, rfl, r1, r2⟩ := rep2 r
    cases r1; cases r2
    exact clr (call_min2 hc) ⟨_, _, rfl, PD.same R (.int _) h⟩
  · obtain ⟨v, u, rfl, r1, r2⟩ := rep2 r
    cases r1; cases r2
    exact clr (call_max2 hc) ⟨_, _, rfl, PD.same R (.int _) h⟩
  · obtain ⟨v, rfl, r1⟩ := rep1 r
    obtain ⟨xs, e1, h⟩ := wOpt_in h
    obtain ⟨ns, e2, hne, q⟩ := wOpt_in h
    obtain ⟨a, ys, rfl, hs, rl⟩ := lsr_rep R r1 e1
    exact clr (cr_min hc) ⟨a, ns, rfl, by rw [← rep_ints rl e2]; exact hs, hne, fun m h1 h2 => PD.same R (.int _) (q m h1 h2)⟩
  · obtain ⟨v, rfl, r1⟩ := rep1 r
    obtain ⟨xs, e1, h⟩ := wOpt_in h
    obtain ⟨ns, e2, hne, q⟩ := wOpt_in h
    obtain ⟨a, ys, rfl, hs, rl⟩ := seq_rep R r1 e1
    rcases hs with hs | hs
    · exact clr (cr_max hc) ⟨a, ns, rfl, by rw [← rep_ints rl e2]; exact hs, hne, fun m h1 h2 => PD.same R (.int _) (q m h1 h2)⟩
    · exact clr (call_top hc hu) ⟨a, ns, rfl, by rw [← rep_ints rl e2]; exact hs, hne, fun m h1 h2 => PD.same R (.int _) (q m h1 h2)⟩
  · obtain ⟨v, rfl, r1⟩ := rep1 r
    obtain ⟨xs, e1, ⟨⟨pu, al, dp⟩, hne⟩, q⟩ := wOpt_in h
    obtain ⟨a, ys, rfl, hs, rl⟩ := lsr_rep R r1 e1
    exact clr (call_minP hc hu) ⟨a, ys, _, rfl, hs, rep_dps _ _ rl pu, al, dp, by rw [pys_map, List.length_map]; exact hne, fun i y d hy hd e => by
      obtain ⟨d', hd', rd⟩ := repL_at rl hy
      rw [pys_map, List.getElem?_map, hd'] at hd
      cases hd
      exact PD.same R rd (q d' (List.mem_of_getElem? hd') e)⟩
  · obtain ⟨v, rfl, r1⟩ := rep1 r
    obtain ⟨xs, e1, h⟩ := wOpt_in h
    obtain ⟨ns, e2, ⟨h64, hb⟩, q⟩ := wOpt_in h
    obtain ⟨a, ys, rfl, hs, rl⟩ := lsr_rep R r1 e1
    obtain rfl := asPrs_eq e2
    refine clr (cr_sortT (d := 2) (B := 10000000) (by decide)) ⟨a, ys, rfl, hs, ?_, fun x hx => ?_, fun zs p hp hw hn => ?_⟩
    · have := RepL.length rl
      rw [List.length_map] at this
      omega
    · obtain ⟨z, hz, tz⟩ := repL_mem2 rl x hx
      refine ⟨_, tz, rfl, fun m hm => ?_⟩
      obtain ⟨b1, b2⟩ := hb z hz
      rcases List.mem_cons.mp hm with rfl | hm
      · exact b1
      · rw [List.mem_singleton.mp hm]
        exact b2
    · obtain ⟨es, p1, r2⟩ := repL_perm hp rl
      obtain ⟨p2, p3⟩ := perm_prs p1
      rw [p2] at r2
      exact PD.lst R hn r2 (q _ p3 (pw_prs r2 hw))
  · obtain ⟨v, rfl, r1⟩ := rep1 r
    obtain ⟨xs, e1, h⟩ := wOpt_in h
    obtain ⟨ns, e2, q⟩ := wOpt_in h
    obtain ⟨a, ys, rfl, hs, rl⟩ := lsr_rep R r1 e1
    exact clr cr_sortedI ⟨a, ns, rfl, by rw [← rep_ints rl e2]; exact hs, fun zs p h1 h2 hn => PD.lst R hn (rep_mapI zs) (q zs h1 h2)⟩
  · obtain ⟨v, rfl, r1⟩ := rep1 r
    obtain ⟨xs, e1, h⟩ := wOpt_in h
    obtain ⟨ns, e2, l64, q⟩ := wOpt_in h
    obtain ⟨a, ys, rfl, hs, rl⟩ := lsr_rep R r1 e1
    exact clr cr_sortedS ⟨a, ns, rfl, by rw [← rep_strs rl e2]; exact hs, l64, fun zs p h1 h2 hn => PD.lst R hn (rep_mapS zs) (q zs h1 h2)⟩
  · obtain ⟨v, u, rfl, r1, r2⟩ := rep2 r
    obtain ⟨⟨⟨⟨a1, a2⟩, ⟨b1, b2⟩⟩, al1, al2, al3, al4⟩, q⟩ := h
    refine clr (call_maxP hc hu) ⟨v, u, _, _, rfl, rep_dp _ _ r1 a1, rep_dp _ _ r2 b1, ⟨?_, ?_⟩, a2, b2, ?_⟩
    · intro x hx y hy
      simp only [List.mem_cons, List.not_mem_nil, or_false] at hx hy
      rcases hx with rfl | rfl <;> rcases hy with rfl | rfl <;> assumption
    · intro x hx
      simp only [List.mem_cons, List.not_mem_nil, or_false] at hx
      rcases hx with rfl | rfl <;> exact fun z => nomatch z
    · split
      · rename_i hl
        rw [if_pos hl] at q
        exact PD.same R r2 q
      · rename_i hl
        rw [if_neg hl] at q
        exact PD.same R r1 q
  · obtain ⟨v, rfl, r1⟩ := rep1 r
    cases r1
    exact clr call_int1 (.inl ⟨_, rfl, PD.same R (.int _) h⟩)
  · obtain ⟨v, rfl, r1⟩ := rep1 r
    cases r1
    exact clr call_int1 (.inr ⟨_, rfl, PD.same R (.int _) h⟩)
  · obtain ⟨v, rfl, r1⟩ := rep1 r
    cases r1
    exact clr call_str_int ⟨_, rfl, h.1, PD.same R (.str _) h.2⟩
  · obtain ⟨v, rfl, r1⟩ := rep1 r
    obtain ⟨xs, e1, q⟩ := wOpt_in h
    rcases seq_case e1 with e | e
    · subst e
      cases r1 with
      | tup hs rl => exact clr call_tuple_of ⟨_, _, rfl, .inr ⟨hs.sq, PD.same R (.tup hs rl) q⟩⟩
    · obtain ⟨a, ys, rfl, hs, rl⟩ := lsr_rep R r1 e
      exact clr call_tuple_of ⟨a, ys, rfl, .inl ⟨hs, fun l hn => PD.tup R hn rl q⟩⟩
  · obtain ⟨v, rfl, r1⟩ := rep1 r
    obtain ⟨xs, e1, q⟩ := wOpt_in h
    obtain ⟨a, ys, rfl, hs, rl⟩ := seq_rep R r1 e1
    exact clr call_list_of ⟨a, ys, rfl, hs, fun l hn => PD.lst R hn rl q⟩
  · obtain ⟨v, rfl, r1⟩ := rep1 r
    obtain ⟨xs, e1, h⟩ := wOpt_in h
    obtain ⟨bs, e2, q⟩ := wOpt_in h
    obtain ⟨a, ys, rfl, hs, rl⟩ := lst_rep R r1 e1
    exact clr (cr_all hc) ⟨a, bs, rfl, .inl (.inl (by rw [← rep_bools rl e2]; exact hs)), PD.same R (.bl _) q⟩
  · obtain ⟨v, rfl, r1⟩ := rep1 r
    obtain ⟨xs, e1, h⟩ := wOpt_in h
    obtain ⟨bs, e2, q⟩ := wOpt_in h
    obtain ⟨a, ys, rfl, hs, rl⟩ := lst_rep R r1 e1
    exact clr (cr_any hc) ⟨a, bs, rfl, .inl (.inl (by rw [← rep_bools rl e2]; exact hs)), PD.same R (.bl _) q⟩
  · obtain ⟨v, rfl, r1⟩ := rep1 r
    obtain ⟨xs, e1, h⟩ := wOpt_in h
    obtain ⟨bs, e2, q⟩ := wOpt_in h
    obtain ⟨a, ys, rfl, hs, rl⟩ := lst_rep R r1 e1
    exact clr (cr_sum hc) ⟨a, bs, rfl, .inl (.inl (by rw [← rep_ints rl e2]; exact hs)), PD.same R (.int _) q⟩
  · exact h.elim

/-! ### isinstance of a built-in class -/
def isiT : String → Bool := fun n => ["int", "bool", "str", "tuple", "list", "dict"].contains n
theorem kit_isi {t n : String} (ht : t ∈ ["NoneType", "bool", "int", "str", "tuple", "list", "dict"]) (hn : isiT n = true) : kitB t n = some (isiD t n) := by
  have hn2 : n ∈ ["int", "bool", "str", "tuple", "list", "dict"] := List.contains_iff_mem.mp hn
  simp only [List.mem_cons, List.not_mem_nil, or_false] at ht hn2
  rcases ht with rfl | rfl | rfl | rfl | rfl | rfl | rfl <;> rcases hn2 with rfl | rfl | rfl | rfl | rfl | rfl <;> decide +kernel
theorem ty_s {v : V} {t : String} (R : RelS X.K F S H) (r : Rep X.K F S H v d) (h : tyD d S = some t) : TyX X.K H v (.type t) ∧ t ∈ ["NoneType", "bool", "int", "str", "tuple", "list", "dict"] := by
  cases r with
  | non => cases (show some "NoneType" = some t from h); exact ⟨.base .non, by simp⟩
  | bl _ => cases (show some "bool" = some t from h); exact ⟨.base (.bl _), by simp⟩
  | int _ => cases (show some "int" = some t from h); exact ⟨.base (.int _), by simp⟩
  | str _ => cases (show some "str" = some t from h); exact ⟨.base (.str _), by simp⟩
  | tup hs _ =>
    cases (show some "tuple" = some t from h)
    refine ⟨?_, by simp⟩
    rcases hs.sq with (hs | ⟨o, hs⟩) | ⟨o, its, n, e1, e2, _⟩
    · exact .base (.tup hs)
    · exact .fTuple hs
    · exact .kTuple e1 e2
  | lst hs _ _ _ =>
    cases (show some "list" = some t from h)
    refine ⟨?_, by simp⟩
    exact .base (.lst hs)
  | lsk hs _ =>
    cases (show some "list" = some t from h)
    refine ⟨?_, by simp⟩
    rcases hs.sq with (hs | ⟨o, hs⟩) | ⟨o, its, n, e1, e2, _⟩
    · exact .base (.lst hs)
    · exact .base (.frz hs)
    · exact .kList e1 e2
  | ref a =>
    unfold tyD at h
    simp only at h
    split at h
    · rename_i xs e
      cases h
      obtain ⟨ys, e2, rl⟩ := R.at_ a _ e
      exact ⟨.base (.lst e2), by simp⟩
    · rename_i kvs e
      cases h
      obtain ⟨ys, e2, rl⟩ := R.at_ a _ e
      exact ⟨.base (.dK e2), by simp⟩
    · cases h
  | _ => exact nomatch (show none = some _ from h)
theorem isi_s {v : V} {t n : String} (R : RelS X.K F S H) (r : Rep X.K F S H v d) (h : tyD d S = some t) (hn : isiT n = true) (q : Q (.bl (isiD t n)) S) : clx X (.builtin "isinstance") [v, .ty n] H (PD X.K F S H Q) := by
  obtain ⟨ty, ht⟩ := ty_s R r h
  exact clr call_isi ⟨v, .ty n, .type t, .type n, isiD t n, rfl, (by first | exact .ty _ | exact ClsV.ty _ | constructor), ty, kit_ty (kit_isi ht hn), PD.same R (.bl _) q⟩

/-! ### methods of lists -/
theorem app_s {v : V} {ds : List D} {vs : List V} (R : RelS X.K F S H) (rx : Rep X.K F S H v d) (r : RepL X.K F S H vs ds) (h : wApp d ds S Q) : mtx X "list.append" v vs H (PD X.K F S H Q) := by
  cases rx with
  | ref a =>
    cases r with
    | nil => exact h.elim
    | @cons u _ z _ r1 t =>
      cases t with
      | cons _ _ => exact h.elim
      | nil =>
        obtain ⟨xs, e2, hz, q⟩ := wOpt_in (show wOpt (lstAt S a) _ from h)
        have e2 := of_lstAt e2
        obtain ⟨ys, e3, rl⟩ := R.at_ a _ e2
        have SZ := sz
        have hl := rl.length
        have k : Keep X.K S H (supd S a (.lst (xs ++ [z]))) (upd H a (.lst (ys ++ [u]))) := keepMut R e2
        exact mtr mt_append ⟨a, ys, u, rfl, rfl, e3, by omega, .non, _, R.putM e2 k ⟨_, upd_same, k.list (rl.append (.cons r1 .nil))⟩, .non, k, q⟩
  | _ => exact h.elim
theorem ins_s {v : V} {ds : List D} {vs : List V} (R : RelS X.K F S H) (rx : Rep X.K F S H v d) (r : RepL X.K F S H vs ds) (h : wIns d ds S Q) : mtx X "list.insert" v vs H (PD X.K F S H Q) := by
  unfold wIns at h
  split at h
  · rename_i a i z
    cases rx
    cases r with
    | cons r1 t =>
      cases t with
      | cons r2 t =>
        cases t
        cases r1
        rename_i u
        obtain ⟨xs, e2, ⟨hz, h0, h1⟩, q⟩ := wOpt_in h
        have e2 := of_lstAt e2
        obtain ⟨ys, e3, rl⟩ := R.at_ a _ e2
        have SZ := sz
        have hl := rl.length
        have k : Keep X.K S H (supd S a (.lst (xs.take i.toNat ++ [z] ++ xs.drop i.toNat))) (upd H a (.lst (ys.take i.toNat ++ [u] ++ ys.drop i.toNat))) := keepMut R e2
        exact mtr mt_insert ⟨a, ys, i, u, rfl, rfl, e3, by omega, h0, by omega, .non, _, R.putM e2 k ⟨_, upd_same, k.list (((rl.take _).append (.cons r2 .nil)).append (rl.drop _))⟩, .non, k, q⟩
  · exact h.elim
theorem pop_s {v : V} {ds : List D} {vs : List V} (R : RelS X.K F S H) (rx : Rep X.K F S H v d) (r : RepL X.K F S H vs ds) (h : wPop d ds S Q) : mtx X "list.pop" v vs H (PD X.K F S H Q) := by
  cases rx with
  | ref a =>
    cases r with
    | cons r1 t =>
      cases t with
      | cons _ _ =>
        unfold wPop at h
        split at h
        · contradiction
        · rename_i a0 i ea ei
          cases ei
        · exact h.elim
      | nil =>
        unfold wPop at h
        split at h
        · contradiction
        · rename_i a0 i ea ei
          cases ea
          cases ei
          cases r1
          obtain ⟨xs, e2, hi, h5⟩ := wOpt_in h
          obtain ⟨z, e4, q⟩ := wOpt_in h5
          clear h h5
          subst hi
          have e2 := of_lstAt e2
          obtain ⟨ys, e3, rl⟩ := R.at_ a _ e2
          have hl := rl.length
          obtain ⟨w, e5, rw'⟩ := rl.get e4
          have pos : 0 < ys.length := (List.getElem?_eq_some_iff.mp e5).1
          have k : Keep X.K S H (supd S a (.lst (xs.eraseIdx 0))) (upd H a (.lst (ys.eraseIdx 0))) := keepMut R e2
          have rt : RepL X.K F S H (ys.eraseIdx 0) (xs.eraseIdx 0) := by
            cases rl with
            | nil => exact .nil
            | cons _ t => exact t
          have ix : seqIndex? 0 ys.length = some 0 := by
            unfold seqIndex?
            simp [pos]
          exact mtr mt_popAt ⟨a, ys, 0, 0, w, rfl, rfl, e3, by decide, by decide, ix, e5, z, _, R.putM e2 k ⟨_, upd_same, k.list rt⟩, k _ _ rw', k, q⟩
        · exact h.elim
    | nil =>
      obtain ⟨xs, e2, h⟩ := wOpt_in (show wOpt (lstAt S a) _ from h)
      obtain ⟨z, e4, q⟩ := wOpt_in h
      have e2 := of_lstAt e2
      obtain ⟨ys, e3, rl⟩ := R.at_ a _ e2
      have hl := rl.length
      rw [List.getLast?_eq_getElem?] at e4
      obtain ⟨w, e5, rw'⟩ := rl.get e4
      have k : Keep X.K S H (supd S a (.lst xs.dropLast)) (upd H a (.lst ys.dropLast)) := keepMut R e2
      exact mtr mt_pop ⟨a, ys, w, rfl, rfl, e3, by rw [hl]; exact e5, z, _, R.putM e2 k ⟨_, upd_same, k.list rl.dropLast⟩, k _ _ rw', k, q⟩
  | _ => exact h.elim
theorem ext_s {v : V} {ds : List D} {vs : List V} (R : RelS X.K F S H) (rx : Rep X.K F S H v d) (r : RepL X.K F S H vs ds) (h : wExt d ds S Q) : mtx X "list.extend" v vs H (PD X.K F S H Q) := by
  cases rx with
  | ref a =>
    cases r with
    | nil => exact h.elim
    | cons r1 t =>
      cases t with
      | cons _ _ => exact h.elim
      | nil =>
        obtain ⟨xs, e2, h⟩ := wOpt_in (show wOpt (lstAt S a) _ from h)
        obtain ⟨zs, e4, hz, q⟩ := wOpt_in h
        have e2 := of_lstAt e2
        obtain ⟨ys, e3, rl⟩ := R.at_ a _ e2
        obtain ⟨b, ws, rfl, hb, rb⟩ := lst_rep R r1 e4
        have SZ := sz
        have hl := rl.length
        have hl2 := rb.length
        have k : Keep X.K S H (supd S a (.lst (xs ++ zs))) (upd H a (.lst (ys ++ ws))) := keepMut R e2
        exact mtr mt_extend ⟨a, b, ys, ws, rfl, rfl, e3, hb, by omega, .non, _, R.putM e2 k ⟨_, upd_same, k.list (rl.append rb)⟩, .non, k, q⟩
  | _ => exact h.elim
/-- o[i] = v -/
theorem set_s {v i w : V} {dd ii ww : D} {P : Sto → Prop} (R : RelS X.K F S H) (rx : Rep X.K F S H v dd) (ri : Rep X.K F S H i ii) (rw' : Rep X.K F S H w ww) (h : wSetIx dd ii ww S P) :
    rSetL v i w H fun H' => ∃ S', RelS X.K F S' H' ∧ Keep X.K S H S' H' ∧ P S' := by
  cases rx with
  | ref a =>
    cases ri with
    | int k =>
      obtain ⟨xs, e2, h⟩ := wOpt_in (show wOpt (lstAt S a) _ from h)
      obtain ⟨j, e4, q⟩ := wOpt_in h
      have e2 := of_lstAt e2
      obtain ⟨ys, e3, rl⟩ := R.at_ a _ e2
      have k : Keep X.K S H (supd S a (.lst (xs.set j ww))) (upd H a (.lst (ys.set j w))) := keepMut R e2
      exact ⟨a, ys, _, j, rfl, rfl, e3, by rw [rl.length]; exact e4, _, R.putM e2 k ⟨_, upd_same, k.list (rl.set j rw')⟩, k, q⟩
    | _ => exact h.elim
  | _ => exact h.elim
end
end Z
set_option Elab.async false
set_option linter.all false
set_option maxRecDepth 100000
set_option maxHeartbeats 4000000
/-! ZG: what a def promises at one surrounding alone (where it is known, say, that no repr is under way). -/
namespace Z
open PySem PySem.Spec PyProof.Rows L2
/-- a def's promise, called from A -/
structure FnAt (P : Program) (w : World) (K : PySem.W.Frag) (mg : Str → Option Value) (base : Heap) (A : Around) (f : Addr) (fd : FuncData) (ps : List Str) (sp : Sp) : Prop where
  fits : ∀ vs H Q E, sp vs H Q E → vs.length = ps.length
  runs : ∀ (outer : List Env) (s : Shared) (H : Hp) (args : Args) (us : List Value) (vs : List V) (Q : VK) (E : XK), Env0 P w K mg base A outer s H → BindsTo s fd args (ps.zip us) → Vals vs us → sp vs H Q E → codeAny (PySem.model P w) A (.call (.ref f) args) (CR CX0 outer P w H s Q E) s
section
variable {P : Program} {w : World} {K : PySem.W.Frag} {mg : Str → Option Value} {base : Heap} {A : Around} {f : Addr} {fd : FuncData} {ps : List Str} {sp : Sp}
theorem FnAt.every {k : Nat} (F : FnOk P w K mg base CX0 k f fd ps sp) (r : Room k A) : FnAt P w K mg base A f fd ps sp := ⟨F.len, fun _ _ _ _ _ _ _ _ => F.run _ _ _ _ _ _ _ _ _ r⟩
/-- no exception comes out -/
theorem out_of {outer : List Env} {H : Hp} {s s' : Shared} {Q : VK} {E : XK} {r : Result} (h : CR CX0 outer P w H s Q E r s') : ∃ u, r = .ok (.ret u) ∧ CE outer P w H s Q u s' := by
  match r, h with
  | .ok (.ret u), h => exact ⟨u, rfl, h⟩
  | .ok .next, h => exact h.elim
  | .ok .brk, h => exact h.elim
  | .ok .cont, h => exact h.elim
  | .error _, h => exact h.elim
end
section
variable {X : Cx} {f : Addr} {fd : FuncData} {ps : List Str} {sp : Sp}
theorem cr_at (F : FnAt X.prog X.w X.K X.mg X.base X.A f fd ps sp) (hb : Binds X.K fd ps []) : CallR X (.ref f) fun vs H Q => sp vs H Q E0 := fun pins s σ H vs us Q I rv h => by
  have len : (us ++ []).length = ps.length := by
    rw [List.append_nil, ← rv.length]
    exact F.fits _ _ _ _ h
  have bound := hb s us I.kIn len
  rw [List.append_nil] at bound
  apply wpAny_call
  refine codeAny_mono (F.runs X.stack s H ⟨us, []⟩ us vs Q E0 I.env0 bound rv h) ?_
  intro r s' z
  obtain ⟨u, rfl, ends⟩ := out_of z
  exact I.after ends
/-- f(..) of such a def -/
theorem pe_at {x : Str} {p pos : Pos} {e : Expr} {es : List Expr} {t : TA} (F : FnAt X.prog X.w X.K X.mg X.base X.A f fd ps sp) (hb : Binds X.K fd ps []) (hg : Gl X x) (hm : X.mg x = some (.ref f)) (hk : PySem.W.keepIn X.K (.ref f) = true) (ha : PA X (e :: es) t)
   (hd : (x == ("__debug__" : Str)) = false) (h1 : starEach (e :: es) X.env = (false, eval e X.env) :: starEach es X.env) (h2 : (backTo pos (starEach es X.env)).any (·.1) = false) : PE X (.Call (.Name x p) (e :: es) [] pos) (tCall sp [] E0 t) := by
  constructor
  intro pins s σ H Q I h
  apply wpAny_Call_Name_kw
  apply ld_glob I hg hm _ hd
  apply PySem.W.callWith_K (h₀ := X.base) I.ok.mod.kin hk _ h1 h2
  apply thn (ha.run pos pins s σ H _ I h)
  rintro us s1 ⟨vs, H1, I1, rv, q⟩
  rw [List.append_nil] at q
  exact ⟨I1.kIn, cr_at F hb pins s1 σ H1 vs us Q I1 rv q⟩
theorem pe_at0 {x : Str} {p pos : Pos} (F : FnAt X.prog X.w X.K X.mg X.base X.A f fd ps sp) (hb : Binds X.K fd ps []) (hg : Gl X x) (hm : X.mg x = some (.ref f)) (hk : PySem.W.keepIn X.K (.ref f) = true) (hd : (x == ("__debug__" : Str)) = false) :
   PE X (.Call (.Name x p) [] [] pos) (tCall sp [] E0 tNil) := by
  constructor
  intro pins s σ H Q I h
  apply wpAny_Call_Name_kw
  apply ld_glob I hg hm _ hd
  apply PySem.W.callWith_K0 I.kIn hk
  exact cr_at F hb pins s σ H [] [] Q I .nil h
end
section
variable {P : Program} {w : World} {K : PySem.W.Frag} {mg : Str → Option Value} {base : Heap} {A : Around} {sp : Sp} {N ps : List Str} {name qual : Str} {params : Arguments} {body : List Stmt} {scope : Scope} {dV kV doc pm cdv ct : Value} {an : Option Addr} {f : Addr}
/-- the frame that a call from A makes -/
abbrev frameOf (qual : Str) (scope : Scope) (f : Addr) (cdv : Value) (s : Shared) : Env := envOfC qual scope s.heap.objs.size f cdv
/-- where the body ends: the caller's wish -/
theorem body_ends {outer : List Env} {s s' : Shared} {H : Hp} {Q : VK} {E : XK} {fl : Flow}
   (h : SP (cxOf CX0 P w K mg base N qual scope f cdv A outer s H E) [] { nx := fun _ H' => Q .non H', rt := Q } fl s') :
   CR CX0 outer P w H s Q E (.ok (.ret (match (generalizing := false) fl with | .ret v => v | _ => .none))) s' := by
  match fl, h with
  | .ret u, ⟨v, σ', H', J, rv, q⟩ => exact ⟨v, H', J.os, J.bare, J.base, J.hok, rv, q⟩
  | .next, ⟨σ', H', J, q⟩ => exact ⟨.non, H', J.os, J.bare, J.base, J.hok, rfl, q⟩
  | .brk, ⟨_, _, _, q⟩ => exact q.elim
  | .cont, ⟨_, _, _, q⟩ => exact q.elim
theorem fnAt_of {oc : Value} {od : Option Addr} {osl : Array (Option Value)} (lk : K.lookup f = some ⟨oc, od, .func (PySem.W.fnOf name qual params body scope dV kV doc pm an cdv ct), osl⟩) (hcd : PySem.W.codeIn K cdv qual = true) (S : FnScope N ps scope)
   (calm : A.handled = none) (room : A.depth < recursionLimit) (fits : ∀ vs H Q E, sp vs H Q E → vs.length = ps.length)
   (walk : ∀ (outer : List Env) (s : Shared) (H : Hp) (vs : List V) (Q : VK) (E : XK), sp vs H Q E → ∃ t, PSs (cxOf CX0 P w K mg base N qual scope f cdv A outer s H E) body t ∧ t { nx := fun _ H' => Q .non H', rt := Q } (start N vs) H) :
   FnAt P w K mg base A f (PySem.W.fnOf name qual params body scope dV kV doc pm an cdv ct) ps sp := by
  constructor
  · exact fits
  intro outer s H args us vs Q E e0 bound rv hsp
  obtain ⟨t, reads, wish⟩ := walk outer s H vs Q E hsp
  have old : ∀ b o, base.get? b = some o → s.heap.get? b = some o := fun b o e => (e0.bs b o e).1
  have kin := e0.mod.kin.keeps old
  -- each parameter is a name of the frame, or a cell of it
  have slots : ∀ y ∈ ps.zip us, scope.names.lookup y.1 = some .local ∨ (scope.names.lookup y.1 = some .cell ∧ ((cellsFrom (s.heap.objs.size + 1) scope.names []).lookup y.1).isSome = true) := by
    rintro ⟨n, u⟩ hy
    exact (S.par n (List.of_mem_zip hy).1).imp id fun q => ⟨q, PySem.W.cellsFrom_some _ _ _ (.inl q)⟩
  apply codeAny_call_function room (kin _ _ lk) rfl S.co S.gen rfl (PySem.W.codeRec_of kin hcd)
  apply bound
  apply wpAny_newFunctionEnv_cells S.kind slots
  rintro _ rfl s1 x
  refine ⟨(e0.mod.nolimit.keeps old).keeps x.toInCall.keep, ?_⟩
  apply codeAny_func
  have start_ := inv_start (CX := CX0) (E := E) S calm e0 (fits _ _ _ _ hsp) rv x
  exact wpAny_mono (reads.run [] s1 _ H _ start_ wish) (fun fl s' z => body_ends z) fun _ _ z => z
end
/-! ### the law's own call -/
section
variable {P : Program} {w : World} {K : PySem.W.Frag} {h : Heap} {a : Addr} {o : PySem.Obj} {xs : List V}
/-- the script alone is tracked, unless it is an object of the module -/
def scriptH (K : PySem.W.Frag) (a : Addr) (o : PySem.Obj) (xs : List V) : Hp := fun b => match K.lookup a with
  | some _ => none
  | none => if b = a then some (.frz o (.lst xs)) else none
theorem scriptH_at {b : Addr} {u : HO} (z : scriptH K a o xs b = some u) : b = a ∧ u = .frz o (.lst xs) ∧ K.lookup a = none := by
  unfold scriptH at z
  split at z
  · cases z
  · next e =>
    split at z
    · next q => exact ⟨q, (Option.some.inj z).symm, e⟩
    · cases z
/-- all but a tracked script stands in the base -/
theorem base_has {b : Addr} {u : PySem.Obj} (e : h.get? b = some u) (n : b = a → K.lookup a ≠ none) : (hidT h (scriptH K a o xs)).get? b = some u := hidT_get e (by
  cases z : scriptH K a o xs b with
  | none => rfl
  | some v =>
    obtain ⟨q, _, l⟩ := scriptH_at z
    exact absurd l (n q))
/-- what the law's def is called with, and the promise of its end -/
theorem law_caller {mg mb : Str → Option Value} {fa : Addr} {fd : FuncData} {x : Str} {sp : Sp} {s : Shared} {vs : List Value} {ns : List Int}
   (kin : K.In s.heap) (glob : s.heap.Ns mainGlobals mg) (blt : s.heap.Ns builtinsNs mb) (boot : ∀ x : Str, x ≠ "__name__" → mb x = bootBuiltins x) (lim : s.heap.NoLimit) (none_ : s.gens = #[])
   (there : s.heap.get? a = some { cls := .type "list", data := .seq vs.toArray }) (hi : IntsAre vs ns) (few : ns.length ≤ sizeLine)
   (F : ∀ base : Heap, K.In base → base.Ns mainGlobals mg → FnAt P w K mg base callerA fa fd [x] sp) (bound : ∀ (s : Shared) (u : Value), BindsTo s fd ⟨[u], []⟩ [(x, u)])
   (wish : ∀ H : Hp, SqL K H a (ns.map V.int) → sp [.ref a] H (fun v _ => v = .bl true) E0) :
   codeAny (PySem.model P w) callerA (.call (.ref fa) ⟨[.ref a], []⟩) (fun r s' => r = .ok (.ret (.bool true)) ∧ OldK s.heap s'.heap ∧ s'.os = s.os ∧ AllBare s'.gens) s := by
  have vals := vals_ints hi
  have many : (ns.map V.int).length ≤ sizeLine := by rw [List.length_map]; exact few
  generalize hH : scriptH K a { cls := .type "list", data := .seq vs.toArray } (ns.map V.int) = H
  have seen : SqL K H a (ns.map V.int) := by
    subst hH
    cases k : K.lookup a with
    | none => exact .inl (.inr ⟨{ cls := .type "list", data := .seq vs.toArray }, by unfold scriptH; rw [k]; exact if_pos rfl⟩)
    | some u =>
      have same : s.heap.get? a = some u := kin a u k
      rw [there] at same
      cases same
      exact .inr ⟨_, vs.toArray, _, k, rfl, rfl, rfl, by rw [List.size_toArray, hi.length]; exact few, by simpa using vals⟩
  have tracked : HOk P w H s.heap := fun b u z => by
    rw [← hH] at z
    obtain ⟨rfl, rfl, _⟩ := scriptH_at z
    exact ⟨there, many, vs, _, vals, there⟩
  -- the module's objects and its namespaces are no script that is tracked
  have noDict : ∀ {b : Addr} {m : Str → Option Value}, s.heap.Ns b m → (hidT s.heap H).Ns b m := fun {b m} ⟨u, es, ep, e, d, r⟩ => by
    refine ⟨u, es, ep, ?_, d, r⟩
    rw [← hH]
    refine base_has e fun q _ => ?_
    rw [q, there] at e
    cases e
    cases d
  have kinB : K.In (hidT s.heap H) := fun b u k => by
    rw [← hH]
    exact base_has (kin b u k) fun q => by rw [← q, k]; exact fun z => nomatch z
  obtain ⟨ml, lim1, lim2⟩ := lim
  have e0 : Env0 P w K mg (hidT s.heap H) callerA [] s H := by
    refine { frames := rfl, mod := ⟨kinB, noDict glob, ⟨mb, noDict blt, boot⟩, ml, noDict lim1, lim2⟩, bs := fun b u e => of_hidT e, bsz := Nat.le_of_eq (hidT_size _ _), funs := trivial, frf := fun b hb => ?_, hok := tracked, bare := .of_eq none_ }
    cases (show b ∈ ([] : List Addr) from hb)
  apply codeAny_mono ((F _ kinB (noDict glob)).runs [] s H ⟨[.ref a], []⟩ [.ref a] [.ref a] _ E0 e0 (bound s (.ref a)) (.cons rfl .nil) (wish H seen))
  intro r s' z
  obtain ⟨u, rfl, v, H', os, bare, un, hok', rv, rfl⟩ := out_of z
  obtain rfl : u = .bool true := rv
  refine ⟨rfl, OldK.of_keep fun b ob e => ?_, os, bare⟩
  cases q : H b with
  | none => exact un.keep b ob e q (fun z => by cases (show b ∈ ([] : List Addr) from z)) (by simp)
  | some t =>
    have q2 := q
    rw [← hH] at q2
    obtain ⟨rfl, rfl, _⟩ := scriptH_at q2
    rw [there] at e
    cases e
    exact (hok' _ _ (un.frzs _ _ _ q)).1
end
/-- what is wanted of the law's def -/
def LawAtC (l : PySem.W.OpenLaw) (w : World) (K : PySem.W.Frag) (n : Nat) (x : Str) (mg : Str → Option Value) (fa : Addr) : Prop :=
  ∃ (fd : FuncData) (sp : Sp), (∀ (s : Shared) (u : Value), BindsTo s fd ⟨[u], []⟩ [(x, u)]) ∧ (∀ (H : Hp) (a : Addr) (ns : List Int), ns.length ≤ n → SqL K H a (ns.map V.int) → sp [.ref a] H (fun v _ => v = .bl true) E0) ∧
    ∀ base : Heap, K.In base → base.Ns mainGlobals mg → FnAt l.prog w K mg base callerA fa fd [x] sp
theorem walk_caller {l : PySem.W.OpenLaw} {n : Nat} {q : Program} {loose : List Str} {XP : (Str → Option Value) → Heap → Prop} {YP : World → Heap → Prop} {d : DefRec} {x : Str} (most : l.most = some n) (few : n ≤ sizeLine) (plain : d.params.defaults = [])
   (F : ∀ (w : World) (mg : Str → Option Value) (fa : Addr) (h : Heap), YP w h → h.Ns mainGlobals mg → mg d.name = some (.ref fa) → ∃ K : PySem.W.Frag, K.In h ∧ LawAtC l w K n x mg fa) : PySem.W.WalkO q loose XP YP l.row.toRowW d [] (fun f vs => PySem.call f vs) := by
  apply Att.attach_callB most plain
  intro w _ s mg mb fa _ _ _ _ a vs ns top Y _ _ _ named obj whole len _ gens
  obtain ⟨K, kin, fd, sp, bound, wish, promise⟩ := F w mg fa s.heap Y top.T.g named
  exact law_caller kin top.T.g top.T.b top.T.builtins top.T.nolimit gens obj whole (Nat.le_trans len few) promise bound fun H seen => wish H a ns len seen
end Z
set_option Elab.async false
set_option linter.all false
set_option maxRecDepth 100000
set_option maxHeartbeats 4000000
/-! Z5: what the trees say holds of the model: expressions. -/
namespace Z
open PySem PySem.Spec PyProof.Rows L2

/-! ### syntax -/
def nst : Expr → Bool
  | .Starred .. => false
  | _ => true
def nsts : List Expr → Bool
  | [] => true
  | e :: es => nst e && nsts es
theorem star_cons {e : Expr} {es : List Expr} {env : Env} (h : nst e = true) : starEach (e :: es) env = (false, eval e env) :: starEach es env := by
  cases e <;> first | rfl | exact nomatch (show false = true from h)
theorem star_any {env : Env} {pos : Pos} : ∀ {es : List Expr}, nsts es = true → (backTo pos (starEach es env)).any (·.1) = false
  | [], _ => rfl
  | e :: es, h => by
    have h2 : (nst e && nsts es) = true := h
    rw [Bool.and_eq_true] at h2
    rw [star_cons h2.1]
    show (false || (backTo pos (starEach es env)).any (·.1)) = false
    rw [star_any h2.2]
    rfl
theorem star_all {env : Env} {pos : Pos} : ∀ {es : List Expr}, nsts es = true → (backTo pos (starEach es env)).all (fun x => !x.1) = true
  | [], _ => rfl
  | e :: es, h => by
    have h2 : (nst e && nsts es) = true := h
    rw [Bool.and_eq_true] at h2
    rw [star_cons h2.1]
    show (true && (backTo pos (starEach es env)).all (fun x => !x.1)) = true
    rw [star_all h2.2]
    rfl
/-- no slice -/
def nsl : Expr → Bool
  | .Slice .. => false
  | _ => true
theorem plain_ix {b : Expr} (h : nsl b = true) : PlainIx b := fun o i => by
  cases b <;> first | rfl | exact nomatch (show false = true from h)
/-- no call -/
def ncl : Expr → Bool
  | .Call .. => false
  | _ => true
theorem base_of {o : Expr} {m : Str} {env : Env} {w : Sem Value} (h : ncl o = true) : attributeBase o m env w = w := by
  cases o <;> first | rfl | exact nomatch (show false = true from h)
/-- no set display -/
def nset : Expr → Bool
  | .Set .. => false
  | _ => true
theorem folded_of {e : Expr} {env : Env} (h : nset e = true) : ∀ x, foldedSetIterable e env x = pure x := fun x => by
  cases e <;> first | rfl | exact nomatch (show false = true from h)
theorem mark_of {op : CmpOp} {e : Expr} (h : nset e = true) : behindInMarks op e = false := by
  cases e <;> first | rfl | exact nomatch (show false = true from h)
/-- an expression whose test is its value's truth -/
def nbl : Expr → Bool
  | .UnaryOp .. => false
  | .BoolOp .. => false
  | .IfExp .. => false
  | .Compare .. => false
  | _ => true
theorem test_of {e : Expr} {env : Env} (h : nbl e = true) : ∀ whole, isTrue e env whole = (do let v ← whole; standAt e.pos; holding [v] (truthy v)) := fun whole => by
  cases e <;> first | rfl | exact nomatch (show false = true from h)

/-! ### what stands around -/
/-- a def's promise by its calls -/
def lift (K : PySem.W.Frag) (sp : List D → Sto → QK → EK → Prop) : Sp := fun vs H Q _ => ∃ ds S Q0 F, RelS K F S H ∧ RepL K F S H vs ds ∧ sp ds S Q0 EX0 ∧
  ∀ d S' v H', Q0 d S' → RelS K F S' H' → Rep K F S' H' v d → Keep K S H S' H' → Q v H'
/-- .. with what an exception of its class leaves -/
def liftX (K : PySem.W.Frag) (sp : List D → Sto → QK → EK → Prop) : Sp := fun vs H Q E => ∃ ds S Q0 EX F, RelS K F S H ∧ RepL K F S H vs ds ∧ sp ds S Q0 EX ∧
  (∀ d S' v H', Q0 d S' → RelS K F S' H' → Rep K F S' H' v d → Keep K S H S' H' → Q v H') ∧ ∀ n S' C H', EX n .non S' → clsAt K n = some C → RelS K F S' H' → Keep K S H S' H' → E (.ref C) none H'
def FnIs (X : Cx) (cs : CS) (x : Str) (n : Nat) : Prop := ∃ (f : Addr) (fd : FuncData) (ps : List Str), FnAt X.prog X.w X.K X.mg X.base X.A f fd ps (lift X.K (cs n)) ∧ X.mg x = some (.ref f) ∧ PySem.W.keepIn X.K (.ref f) = true ∧ Binds X.K fd ps []
/-- a name of the module that holds a datum -/
def GlobIs (X : Cx) (x : Str) (d : D) : Prop := ∃ u v, X.mg x = some u ∧ RelV v u ∧ ∀ F S H, Rep X.K F S H v d
structure Ctx where
  N : List Str
  sc : Scope
  fns : List (Str × Nat)
  mths : List ((Str × Str) × Nat) := []
  clss : List (Str × Nat) := []
  flds : List (Str × Str) := []
  lam : Bool := false
  rp : Bool := false
  cmp : Option Scope
  consts : List (Str × D)
  tabs : List (Str × List (Str × D)) := []
  xf : List (Str × Nat) := []
  ex : Bool := false
/-- a def that an exception may come of -/
def FnX (X : Cx) (cs : CS) (x : Str) (n : Nat) : Prop := ∃ (k : Nat) (f : Addr) (fd : FuncData) (ps : List Str), FnOk X.prog X.w X.K X.mg X.base (L2N.CX X.prog X.w) k f fd ps (liftX X.K (cs n)) ∧ Room k X.A ∧ X.mg x = some (.ref f) ∧ PySem.W.keepIn X.K (.ref f) = true ∧ Binds X.K fd ps []
/-- an own exception class, made of a text: what is raised, what is asked of it -/
structure ExCls (K : PySem.W.Frag) (mg : Str → Option Value) (n : Str) : Prop where
  ex : ∃ C, clsAt K n = some C ∧ mg n = some (.ref C) ∧ PySem.W.keepIn K (.ref C) = true ∧ PySem.W.excIn K C [.type "ValueError", .type "Exception", .type "BaseException", .type "object"] "ValueError.__new__" = true ∧ ExcC K C ∧ PySem.W.typeIn K (.ref C) = some (.type "type")
  exm : ∀ C, clsAt K n = some C → ∀ m ∈ exAll, ∃ D, clsAt K m = some D ∧ mg m = some (.ref D) ∧ PySem.W.keepIn K (.ref D) = true ∧ PySem.W.exmOne K (.ref C) (.ref D) = some (exSub n m) ∧ PySem.W.kitOne K (.ref C) (.ref D) = some (exSub n m)
  ve : ∀ C, clsAt K n = some C → PySem.W.kitOne K (.ref C) (.type "ValueError") = some true
  no : ∀ m ∈ exAll, ∀ D, clsAt K m = some D → PySem.W.kitOne K (.type "NoneType") (.ref D) = some false
/-- a method of a class of the module, by its calls -/
def MthIs (X : Cx) (cs : CS) (n m : Str) (g : Nat) : Prop := ∃ (C : Addr) (k : Nat) (f : Addr) (fd : FuncData) (ps : List Str), clsAt X.K n = some C ∧ Cls X.K C ∧ Meth X.K C m f ∧ FnOk X.prog X.w X.K X.mg X.base CX0 k f fd ps (lift X.K (cs g)) ∧ Room k X.A ∧ Binds X.K fd ps []
/-- a class that is made by the g-th def -/
def MkIs (X : Cx) (cs : CS) (n : Str) (g : Nat) : Prop := ∃ (C : Addr) (k : Nat) (f : Addr) (fd : FuncData) (ps : List Str), clsAt X.K n = some C ∧ Mk X.K C f ∧ X.mg n = some (.ref C) ∧ FnOk X.prog X.w X.K X.mg X.base CX0 k f fd ps (lift X.K (cs g)) ∧ Room (k + 1) X.A ∧ Binds X.K fd ps []
def MthX (X : Cx) (cs : CS) (n m : Str) (g : Nat) : Prop := ∃ (C : Addr) (k : Nat) (f : Addr) (fd : FuncData) (ps : List Str), clsAt X.K n = some C ∧ Cls X.K C ∧ Meth X.K C m f ∧ FnOk X.prog X.w X.K X.mg X.base (L2N.CX X.prog X.w) k f fd ps (liftX X.K (cs g)) ∧ Room k X.A ∧ Binds X.K fd ps []
def MkX (X : Cx) (cs : CS) (n : Str) (g : Nat) : Prop := ∃ (C : Addr) (k : Nat) (f : Addr) (fd : FuncData) (ps : List Str), clsAt X.K n = some C ∧ Mk X.K C f ∧ X.mg n = some (.ref C) ∧ FnOk X.prog X.w X.K X.mg X.base (L2N.CX X.prog X.w) k f fd ps (liftX X.K (cs g)) ∧ Room (k + 1) X.A ∧ Binds X.K fd ps []
/-- an attribute that no class has -/
def FldIs (X : Cx) (n f : Str) : Prop := ∃ C, clsAt X.K n = some C ∧ Cls X.K C ∧ NoAttr X.K C f
/-- what the making of the lambda leans on -/
def LamIs (X : Cx) : Prop := ∃ cc P, X.env.code = .ref cc ∧ lamTab X.K = some (cc, P) ∧ LamX.TabB X.base X.mg cc P ∧ X.env.qual ++ "<lambda>" = lamQ ∧ X.A.depth < recursionLimit
/-- a name of the module that holds a table with text keys -/
def TabIs (X : Cx) (x : Str) (kvs : List (Str × D)) : Prop := ∃ (a : Addr) (es : Array DictEntry) (n : Nat), X.mg x = some (.ref a) ∧ KDict X.K X.w a es n ∧
  (∀ z, ∃ r, PySem.W.nsIn X.K a z = some r ∧ r.isSome = (kvs.lookup z).isSome) ∧ ∀ z d, kvs.lookup z = some d → ∃ v, KDct X.K X.w a z v ∧ ∀ F S H, Rep X.K F S H v d
def bltAll : List Str := ["ValueError", "len", "abs", "min", "max", "int", "tuple", "list", "all", "any", "sum", "sorted", "str", "isinstance", "range", "zip", "enumerate", "bool", "dict", "set", "repr", "reversed"]
def Ctx.ok (c : Ctx) (x : Str) : Bool := match c.cmp with
  | none => true
  | some sc => decide (sc.names.lookup x = some .cell) || decide (c.sc.names.lookup x = some .local)
structure COk (X : Cx) (c : Ctx) (cs : CS) : Prop where
  sc : X.env.scope = c.sc
  N : X.N = c.N
  nd : X.N.Nodup
  calm : X.calm = true
  hu : X.A.units + 70 < cLine
  pass : PassesOwn (model X.prog X.w) X.A X.env X.xe
  fns : ∀ x n, c.fns.lookup x = some n → FnIs X cs x n
  blt : ∀ x ∈ bltAll, X.mg x = none
  cons : ∀ x d, c.consts.lookup x = some d → GlobIs X x d
  fn : ∀ x, c.ok x = true → X.fn x = true ∨ X.env.scope.names.lookup x = some .local
  mths : ∀ n m g, c.mths.lookup (n, m) = some g → MthIs X cs n m g
  clss : ∀ n g, c.clss.lookup n = some g → MkIs X cs n g
  flds : ∀ n f, c.flds.contains (n, f) = true → FldIs X n f
  lam : c.lam = true → LamIs X
  gd : c.rp = true → X.A.guards = some []
  mgk : ∀ n f, clsAt X.K n = some f → X.mg n = some (.ref f)
  tabs : ∀ x kvs, c.tabs.lookup x = some kvs → TabIs X x kvs
  st : c.cmp = none → X.stack = X.env :: X.outer
  fr : c.cmp = none → X.env.frame = some X.env.locals
  xfn : ∀ x n, c.xf.lookup x = some n → FnX X cs x n
  xmth : ∀ n m g, c.mths.lookup (n, m) = some g → MthX X cs n m g
  xcls : ∀ n g, c.clss.lookup n = some g → MkX X cs n g
  exc : c.ex = true → ∀ n, exKn n = true → ExCls X.K X.mg n
def Ctx.vis (c : Ctx) (x : Str) : Bool := match c.sc.names.lookup x with
  | some .local => true
  | some .cell => true
  | some .free => true
  | _ => false
def Ctx.loc (c : Ctx) (x : Str) : Bool := match c.sc.names.lookup x with
  | some .local => true
  | some .cell => true
  | _ => false
def Ctx.gl (c : Ctx) (x : Str) : Bool := match c.sc.names.lookup x with
  | some .globalImplicit => true
  | _ => false
def dbg (x : Str) : Bool := x == ("__debug__" : Str) || x == ("__classdict__" : Str)
section
variable {X : Cx} {c : Ctx} {cs : CS}
theorem COk.vis (O : COk X c cs) {x : Str} (h : c.vis x = true) : Vis X.env.scope x := by
  unfold Ctx.vis at h
  unfold Vis
  rw [O.sc]
  split at h <;> rename_i e
  · exact .inl e
  · exact .inr (.inl e)
  · exact .inr (.inr e)
  · cases h
theorem COk.loc (O : COk X c cs) {x : Str} (h : c.loc x = true) : L2.Loc X.env.scope x := by
  unfold Ctx.loc at h
  unfold L2.Loc
  rw [O.sc]
  split at h <;> rename_i e
  · exact .inl e
  · exact .inr e
  · cases h
theorem COk.gl (O : COk X c cs) {x : Str} (h : c.gl x = true) : Gl X x := by
  unfold Ctx.gl at h
  unfold Gl Env.kindOf
  rw [O.sc]
  split at h <;> rename_i e
  · exact e
  · cases h
theorem dbg1 {x : Str} (h : dbg x = false) : (x == ("__debug__" : Str)) = false := (Bool.or_eq_false_iff.mp h).1
theorem dbg2 {x : Str} (h : dbg x = false) : (x == ("__classdict__" : Str)) = false := (Bool.or_eq_false_iff.mp h).2
end

/-! ### expressions -/
section
variable {X : Cx} {c : Ctx} {cs : CS}
theorem sE_var (O : COk X c cs) {i : Nat} {x : Str} {pos : Pos} (hN : c.N[i]? = some x) (hv : c.vis x = true) (hd : dbg x = false) : SndE X cs (.var i) (.Name x pos) := by
  intro F env S σ H Q R L h
  refine pex (pe_var (i := i) (by rw [O.N]; exact hN) (O.vis hv) (dbg1 hd) (dbg2 hd)) ?_
  have h2 : wVar (env[i]?) S Q := h
  cases e : env[i]? with
  | none => rw [e] at h2; exact h2.elim
  | some o =>
    rw [e] at h2
    cases o with
    | none => exact h2.elim
    | some d =>
      obtain ⟨v, e1, r⟩ := L.at_ i d e
      exact ⟨v, e1, PD.same R r h2⟩
theorem sE_glob (O : COk X c cs) {x : Str} {d : D} {pos : Pos} (hx : c.consts.lookup x = some d) (hg : c.gl x = true) (hd : dbg x = false) : SndE X cs (.glob x d) (.Name x pos) := by
  intro F env S σ H Q R L h
  obtain ⟨u, v, hm, r, rp⟩ := O.cons x d hx
  exact pex (pe_glob (O.gl hg) hm r (dbg1 hd)) (PD.same R (rp F S H) h)
theorem sE_dict0 {pos : Pos} : SndE X cs .dict0 (.Dict [] [] pos) := by
  intro F env S σ H Q R L h
  refine pex pe_dnewK fun p hn => ?_
  have hs : S p = none := R.none hn
  have k : Keep X.K S H (supd S p (.dct [])) (upd H p (.dK [])) := keepNewM hn
  exact ⟨.ref p, supd S p (.dct []), R.putN hn k ⟨[], upd_same, .nil⟩, .ref p, k, h p hs⟩
theorem sE_int {i : Int} {k : Nat} {pos : Pos} : SndE X cs (.int i) (.Constant (.int i) k pos) := fun F env S σ H Q R L h => pex pe_int (PD.same R (.int _) h)
theorem sE_bl {i : Bool} {k : Nat} {pos : Pos} : SndE X cs (.bl i) (.Constant (.bool i) k pos) := fun F env S σ H Q R L h => pex pe_bl (PD.same R (.bl _) h)
theorem sE_non {k : Nat} {pos : Pos} : SndE X cs .non (.Constant .none k pos) := fun F env S σ H Q R L h => pex pe_non (PD.same R .non h)
theorem sE_str {i : Str} {k : Nat} {pos : Pos} : SndE X cs (.str i) (.Constant (.str i) k pos) := fun F env S σ H Q R L h => pex pe_str (PD.same R (.str _) h)
theorem sE_cpow {b v : Int} {n : Nat} {k1 k2 : Nat} {p1 p2 pos : Pos} (hb : b.natAbs < 2 ^ 64) (hn : n ≤ 1000000) (hv : b ^ n = v) : SndE X cs (.cpow b n v) (.BinOp (.Constant (.int b) k1 p1) .Pow (.Constant (.int (n : Int)) k2 p2) pos) := by
  intro F env S σ H Q R L h
  refine pex (pe_op op_pow pe_int pe_int) ⟨_, _, rfl, rfl, ⟨by omega, by omega, hb⟩, PD.same R (.int _) ?_⟩
  rw [show ((n : Nat) : Int).toNat = n from Int.toNat_natCast n, hv]
  exact h
theorem sE_cpm {b c2 v : Int} {n m : Nat} {k1 k2 k3 k4 : Nat} {p1 p2 p3 p4 p5 p6 pos : Pos} (hb : b.natAbs < 2 ^ 64) (hn : n ≤ 1000000) (hc : c2.natAbs < 2 ^ 64) (hm : m ≤ 1000000) (w1 : (b ^ n).natAbs < 2 ^ 1024) (w2 : (c2 ^ m).natAbs < 2 ^ 1024) (hv : b ^ n * c2 ^ m = v) :
    SndE X cs (.cpm b n c2 m v) (.BinOp (.BinOp (.Constant (.int b) k1 p1) .Pow (.Constant (.int (n : Int)) k2 p2) p3) .Mult (.BinOp (.Constant (.int c2) k3 p4) .Pow (.Constant (.int (m : Int)) k4 p5) p6) pos) := by
  intro F env S σ H Q R L h
  refine pex (pe_op op_mulW pe_x pe_x) ?_
  refine wpx_mono (sE_cpow (cs := cs) hb hn rfl F env S σ H (fun d S1 => d = .int (b ^ n) ∧ S1 = S) R L ⟨rfl, rfl⟩) fun v1 H1 ⟨d1, S1, R1, r1, q1, e1, e2⟩ => ?_
  subst e1 e2
  cases r1
  refine wpx_mono (sE_cpow (cs := cs) hc hm rfl F env S1 σ H1 (fun d S2 => d = .int (c2 ^ m) ∧ S2 = S1) R1 (q1.env L) ⟨rfl, rfl⟩) fun v2 H2 ⟨d2, S2, R2, r2, q2, e1, e2⟩ => ?_
  subst e1 e2
  cases r2
  exact ⟨_, _, rfl, rfl, wide_mul w1 w2 (by decide) (by decide) (by decide), PD.of (q1.trans q2) (PD.same R2 (.int _) (by rw [hv]; exact h))⟩
theorem sE_bin (O : COk X c cs) {op : Operator} {a b : E} {x y : Expr} {pos : Pos} (ha : SndE X cs a x) (hb : SndE X cs b y) : SndE X cs (.bin op a b) (.BinOp x op y pos) := by
  intro F env S σ H Q R L h
  refine pex (pe_op op_x pe_x pe_x) ?_
  refine wpx_mono (ha F env S σ H _ R L h) fun v H1 ⟨d, S1, R1, r1, k1, h1⟩ => ?_
  refine wpx_mono (hb F env S1 σ H1 _ R1 (k1.env L) h1) fun u H2 ⟨e, S2, R2, r2, k2, h2⟩ => ?_
  exact opx_mono (bin_s (Nat.lt_of_le_of_lt (by omega) O.hu) R2 (k2 _ _ r1) r2 h2) fun w H3 q => q.of (k1.trans k2)
theorem sE_neg {a : E} {x : Expr} {pos : Pos} (ha : SndE X cs a x) : SndE X cs (.neg a) (.UnaryOp .USub x pos) := by
  intro F env S σ H Q R L h
  refine pex (pe_un un_neg pe_x) ?_
  refine wpx_mono (ha F env S σ H _ R L h) fun v H1 ⟨d, S1, R1, r1, k1, h1⟩ => ?_
  cases r1 with
  | int i => exact ⟨i, rfl, PD.of k1 (PD.same R1 (.int _) h1)⟩
  | _ => exact h1.elim
theorem wB_in {d : D} {S : Sto} {Q : Bool → Sto → Prop} (h : wB d S Q) : ∃ b, d = .bl b ∧ Q b S := by
  cases d with
  | bl b => exact ⟨b, rfl, h⟩
  | _ => exact h.elim
theorem sE_not {a : E} {x : Expr} {pos : Pos} (ha : SndE X cs a x) : SndE X cs (.not a) (.UnaryOp .Not x pos) := by
  intro F env S σ H Q R L h
  refine pex (pe_not pe_x) ?_
  refine wpx_mono (ha F env S σ H _ R L h) fun v H1 ⟨d, S1, R1, r1, k1, h1⟩ => ?_
  obtain ⟨b, rfl, q⟩ := wB_in h1
  cases r1
  exact ⟨b, rfl, PD.of k1 (PD.same R1 (.bl _) q)⟩
theorem sE_cmp (O : COk X c cs) {op : CmpOp} {a b : E} {x y : Expr} {pos : Pos} (ha : SndE X cs a x) (hb : SndE X cs b y) (hm : nset y = true) : SndE X cs (.cmp op a b) (.Compare x [op] [y] pos) := by
  intro F env S σ H Q R L h
  refine pex (pe_cmpR op_x pe_x pe_x (mark_of hm)) ?_
  refine wpx_mono (ha F env S σ H _ R L h) fun v H1 ⟨d, S1, R1, r1, k1, h1⟩ => ?_
  refine wpx_mono (hb F env S1 σ H1 _ R1 (k1.env L) h1) fun u H2 ⟨e, S2, R2, r2, k2, h2⟩ => ?_
  exact opx_mono (cmp_s O.hu R2 (k2 _ _ r1) r2 h2) fun w H3 q => q.of (k1.trans k2)
theorem last2 {o1 o2 : CmpOp} {y z : Expr} (hm : nset z = true) : lastMarks [o1, o2] [y, z] = false := by
  show behindInMarks o2 z = false
  exact mark_of hm
theorem wIf_in {b : Bool} {p q : Prop} (h : wIf b p q) : (b = true ∧ p) ∨ (b = false ∧ q) := by
  unfold wIf at h
  cases b with
  | true => exact .inl ⟨rfl, h⟩
  | false => exact .inr ⟨rfl, h⟩
theorem sE_cmp2 (O : COk X c cs) {o1 o2 : CmpOp} {a b d : E} {x y z : Expr} {pos : Pos} (ha : SndE X cs a x) (hb : SndE X cs b y) (hd : SndE X cs d z) (hm : nset z = true) : SndE X cs (.cmp2 o1 o2 a b d) (.Compare x [o1, o2] [y, z] pos) := by
  intro F env S σ H Q R L h
  refine pex (pe_chain op_x op_x pe_x pe_x pe_x (last2 hm)) ?_
  refine wpx_mono (ha F env S σ H _ R L h) fun v H1 ⟨d1, S1, R1, r1, k1, h1⟩ => ?_
  refine wpx_mono (hb F env S1 σ H1 _ R1 (k1.env L) h1) fun u H2 ⟨e, S2, R2, r2, k2, h2⟩ => ?_
  refine opx_mono (cmp_s O.hu R2 (k2 _ _ r1) r2 h2) fun w H3 ⟨f, S3, R3, r3, k3, h3⟩ => ?_
  obtain ⟨b, rfl, q⟩ := wB_in h3
  cases r3
  refine ⟨b, rfl, ?_⟩
  have k13 := (k1.trans k2).trans k3
  rcases wIf_in q with ⟨rfl, q2⟩ | ⟨rfl, q2⟩
  · rw [if_pos rfl]
    refine wpx_mono (hd F env S3 σ H3 _ R3 (k13.env L) q2) fun w' H4 ⟨g, S4, R4, r4, k4, h4⟩ => ?_
    exact opx_mono (cmp_s O.hu R4 (k4 _ _ (k3 _ _ r2)) r4 h4) fun _ _ q => q.of (k13.trans k4)
  · rw [if_neg Bool.false_ne_true]
    exact PD.of k13 (PD.same R3 (.bl _) q2)
/-- and, or: the first of at least two -/
theorem sE_and {a b : E} {x y : Expr} {r : List Expr} {pos : Pos} (ha : SndE X cs a x) (hb : SndE X cs b (.BoolOp .And (y :: r) pos)) : SndE X cs (.and a b) (.BoolOp .And (x :: y :: r) pos) := by
  intro F env S σ H Q R L h
  refine pex (pe_and pe_x pe_x) ?_
  refine wpx_mono (ha F env S σ H _ R L h) fun v H1 ⟨d, S1, R1, r1, k1, h1⟩ => ?_
  obtain ⟨k, rfl, q⟩ := wB_in h1
  cases r1
  refine ⟨k, rfl, ?_⟩
  rcases wIf_in q with ⟨rfl, q2⟩ | ⟨rfl, q2⟩
  · rw [if_pos rfl]
    exact wpx_mono (hb F env S1 σ H1 _ R1 (k1.env L) q2) fun _ _ q => q.of k1
  · rw [if_neg Bool.false_ne_true]
    exact PD.of k1 (PD.same R1 (.bl _) q2)
theorem sE_or {a b : E} {x y : Expr} {r : List Expr} {pos : Pos} (ha : SndE X cs a x) (hb : SndE X cs b (.BoolOp .Or (y :: r) pos)) : SndE X cs (.or a b) (.BoolOp .Or (x :: y :: r) pos) := by
  intro F env S σ H Q R L h
  refine pex (pe_or pe_x pe_x) ?_
  refine wpx_mono (ha F env S σ H _ R L h) fun v H1 ⟨d, S1, R1, r1, k1, h1⟩ => ?_
  obtain ⟨k, rfl, q⟩ := wB_in h1
  cases r1
  refine ⟨k, rfl, ?_⟩
  rcases wIf_in q with ⟨rfl, q2⟩ | ⟨rfl, q2⟩
  · rw [if_pos rfl]
    exact PD.of k1 (PD.same R1 (.bl _) q2)
  · rw [if_neg Bool.false_ne_true]
    exact wpx_mono (hb F env S1 σ H1 _ R1 (k1.env L) q2) fun _ _ q => q.of k1
theorem sE_one {a : E} {op : BoolOp} {x : Expr} {pos : Pos} (ha : SndE X cs a x) : SndE X cs a (.BoolOp op [x] pos) := fun F env S σ H Q R L h => pex (pe_one pe_x) (ha F env S σ H Q R L h)
theorem sE_ife {k a b : E} {z x y : Expr} {pos : Pos} (hk : SndT X cs k z) (ha : SndE X cs a x) (hb : SndE X cs b y) : SndE X cs (.ife k a b) (.IfExp z x y pos) := by
  intro F env S σ H Q R L h
  refine pex (pe_ifExp pt_x pe_x pe_x) ?_
  refine wpt_mono (hk F env S σ H _ R L h) fun b H1 ⟨S1, R1, k1, h1⟩ => ?_
  rcases wIf_in h1 with ⟨rfl, q2⟩ | ⟨rfl, q2⟩
  · rw [if_pos rfl]
    exact wpx_mono (ha F env S1 σ H1 _ R1 (k1.env L) q2) fun _ _ q => q.of k1
  · rw [if_neg Bool.false_ne_true]
    exact wpx_mono (hb F env S1 σ H1 _ R1 (k1.env L) q2) fun _ _ q => q.of k1
theorem sA_nil : SndA X cs [] [] := fun F env S σ H Q R L h => pax pa_nil ⟨⟨[], S, R, .nil, Keep.refl, h⟩, rfl⟩
theorem sA_cons {a : E} {as : List E} {x : Expr} {xs : List Expr} (hn : nst x = true) (ha : SndE X cs a x) (hs : SndA X cs as xs) : SndA X cs (a :: as) (x :: xs) := by
  intro F env S σ H Q R L h
  refine pax (pa_cons pe_x pa_x (star_cons hn)) ?_
  refine wpx_mono (ha F env S σ H _ R L h) fun v H1 ⟨d, S1, R1, r1, k1, h1⟩ => ?_
  refine wpa_mono (hs F env S1 σ H1 _ R1 (k1.env L) h1) fun vs H2 ⟨⟨ds, S2, R2, r2, k2, h2⟩, hl⟩ => ?_
  exact ⟨⟨d :: ds, S2, R2, .cons (k2 _ _ r1) r2, k1.trans k2, h2⟩, by rw [List.length_cons, List.length_cons, hl]⟩
theorem small_len {n : Nat} (h : n ≤ 1000) : n ≤ sizeLine := by
  have := sz
  omega
theorem sE_tup {as : List E} {xs : List Expr} {k : Nat} {pos : Pos} (hl : as.length ≤ 1000) (ha : SndA X cs as xs) : SndE X cs (.tup as) (.Tuple xs k pos) := by
  intro F env S σ H Q R L h
  refine pex (pe_tup pa_x) ?_
  refine wpa_mono (ha F env S σ H _ R L h) fun vs H1 ⟨⟨ds, S1, R1, r1, k1, h1⟩, e⟩ => ?_
  exact ⟨by rw [e]; exact small_len hl, fun p hn => PD.of k1 (PD.tup R1 hn r1 h1)⟩
theorem sE_lst {m : Bool} {as : List E} {xs : List Expr} {pos : Pos} (hl : as.length ≤ 1000) (ha : SndA X cs as xs) : SndE X cs (.lst m as) (.List xs pos) := by
  intro F env S σ H Q R L h
  refine pex (pe_lst pa_x) ?_
  refine wpa_mono (ha F env S σ H _ R L h) fun vs H1 ⟨⟨ds, S1, R1, r1, k1, h1⟩, e⟩ => ?_
  exact ⟨by rw [e]; exact small_len hl, fun p hn => PD.of k1 (PD.lst R1 hn r1 h1)⟩
theorem sE_ix {a b : E} {x y : Expr} {pos : Pos} (hn : nsl y = true) (ha : SndE X cs a x) (hb : SndE X cs b y) : SndE X cs (.ix a b) (.Subscript x y pos) := by
  intro F env S σ H Q R L h
  refine pex (pe_ix ix_seq pe_x pe_x (plain_ix hn)) ?_
  refine wpx_mono (ha F env S σ H _ R L h) fun v H1 ⟨d, S1, R1, r1, k1, h1⟩ => ?_
  refine wpx_mono (hb F env S1 σ H1 _ R1 (k1.env L) h1) fun u H2 ⟨e, S2, R2, r2, k2, h2⟩ => ?_
  have q := ix_s (b := y) R2 (k2 _ _ r1) r2 h2
  have m : ∀ {w : V} {H3 : Hp}, PD X.K F S2 H2 Q w H3 → PD X.K F S H Q w H3 := fun q => q.of (k1.trans k2)
  rcases q with ⟨p, vs, i, w, e1, e2, e3, e4, q⟩ | ⟨p, vs, i, w, e1, e2, e3, e4, q⟩ | ⟨z, i, w, e1, e2, e3, e4, q⟩
  · exact .inl ⟨p, vs, i, w, e1, e2, e3, e4, m q⟩
  · exact .inr (.inl ⟨p, vs, i, w, e1, e2, e3, e4, m q⟩)
  · exact .inr (.inr ⟨z, i, w, e1, e2, e3, e4, m q⟩)
theorem sE_ixc {a : E} {k : Nat} {x : Expr} {n : Nat} {p2 pos : Pos} (ha : SndE X cs a x) : SndE X cs (.ixc a k) (.Subscript x (.Constant (.int (k : Int)) n p2) pos) := by
  intro F env S σ H Q R L h
  refine pex (pe_ix ix_seq pe_x pe_int (fun _ _ => rfl)) ?_
  refine wpx_mono (ha F env S σ H _ R L h) fun v H1 ⟨d, S1, R1, r1, k1, h1⟩ => ?_
  have q := ixc_s R1 r1 h1
  have m : ∀ {w : V} {H3 : Hp}, PD X.K F S1 H1 Q w H3 → PD X.K F S H Q w H3 := fun q => q.of k1
  rcases q with ⟨p, vs, i, w, e1, e2, e3, e4, q⟩ | ⟨p, vs, i, w, e1, e2, e3, e4, q⟩ | ⟨z, i, w, e1, e2, e3, e4, q⟩
  · exact .inl ⟨p, vs, i, w, e1, e2, e3, e4, m q⟩
  · exact .inr (.inl ⟨p, vs, i, w, e1, e2, e3, e4, m q⟩)
  · exact .inr (.inr ⟨z, i, w, e1, e2, e3, e4, m q⟩)
/-- a part of a slice -/
def SndO (X : Cx) (cs : CS) (ir : Option E) (e : Option Expr) : Prop := (ir = none ∧ e = none) ∨ ∃ a x, ir = some a ∧ e = some x ∧ SndE X cs a x
theorem sl_any : SlR X (rSl X.K) := sl_tupA.or sl_list
theorem sE_sl {m : Bool} {a : E} {lo hi : Option E} {x : Expr} {l u : Option Expr} {p2 pos : Pos} (ha : SndE X cs a x) (hl : SndO X cs lo l) (hu : SndO X cs hi u) : SndE X cs (.sl m a lo hi) (.Subscript x (.Slice l u none p2) pos) := by
  intro F env S σ H Q R L h
  have fin : ∀ {v : V} {d : D} {S1 S3 : Sto} {H1 H3 : Hp} {l u : Option Int}, Keep X.K S H S1 H1 → Rep X.K F S1 H1 v d → RelS X.K F S3 H3 → Keep X.K S1 H1 S3 H3 → wSl m d l u S3 Q → rSl X.K v l u H3 (PD X.K F S H Q) := by
    intro v d S1 S3 H1 H3 l u k1 r1 R3 k3 h3
    have q := sl_s R3 (k3 _ _ r1) h3
    have mm : ∀ {w : V} {H4 : Hp}, PD X.K F S3 H3 Q w H4 → PD X.K F S H Q w H4 := fun q => q.of (k1.trans k3)
    rcases q with ⟨p, vs, e1, e2, q1, q2⟩ | ⟨p, vs, e1, e2, q1⟩
    · exact .inl ⟨p, vs, e1, e2, fun z => mm (q1 z), fun z p hn => mm (q2 z p hn)⟩
    · exact .inr ⟨p, vs, e1, e2, fun p hn => mm (q1 p hn)⟩
  have A := ha F env S σ H _ R L h
  rcases hl with ⟨rfl, rfl⟩ | ⟨a1, x1, rfl, rfl, hl⟩ <;> rcases hu with ⟨rfl, rfl⟩ | ⟨a2, x2, rfl, rfl, hu⟩
  · refine pex (pe_slice sl_any pe_x po_none po_none) ?_
    exact wpx_mono A fun v H1 ⟨d, S1, R1, r1, k1, h1⟩ => fin k1 r1 R1 Keep.refl h1
  · refine pex (pe_slice sl_any pe_x po_none (po_some pe_x)) ?_
    refine wpx_mono A fun v H1 ⟨d, S1, R1, r1, k1, h1⟩ => ?_
    refine wpx_mono (hu F env S1 σ H1 _ R1 (k1.env L) h1) fun v2 H2 ⟨d2, S2, R2, r2, k2, h2⟩ => ?_
    cases r2 with
    | int i => exact ⟨i, rfl, fin k1 r1 R2 k2 h2⟩
    | _ => exact h2.elim
  · refine pex (pe_slice sl_any pe_x (po_some pe_x) po_none) ?_
    refine wpx_mono A fun v H1 ⟨d, S1, R1, r1, k1, h1⟩ => ?_
    refine wpx_mono (hl F env S1 σ H1 _ R1 (k1.env L) h1) fun v2 H2 ⟨d2, S2, R2, r2, k2, h2⟩ => ?_
    cases r2 with
    | int i => exact ⟨i, rfl, fin k1 r1 R2 k2 h2⟩
    | _ => exact h2.elim
  · refine pex (pe_slice sl_any pe_x (po_some pe_x) (po_some pe_x)) ?_
    refine wpx_mono A fun v H1 ⟨d, S1, R1, r1, k1, h1⟩ => ?_
    refine wpx_mono (hl F env S1 σ H1 _ R1 (k1.env L) h1) fun v2 H2 ⟨d2, S2, R2, r2, k2, h2⟩ => ?_
    cases r2 with
    | int i =>
      refine ⟨i, rfl, ?_⟩
      refine wpx_mono (hu F env S2 σ H2 _ R2 ((k1.trans k2).env L) h2) fun v3 H3 ⟨d3, S3, R3, r3, k3, h3⟩ => ?_
      cases r3 with
      | int j => exact ⟨j, rfl, fin k1 r1 R3 (k2.trans k3) h3⟩
      | _ => exact h3.elim
    | _ => exact h2.elim
/-! ### calls -/
theorem call_fin {F : Addr → Prop} {f : Nat} {S : Sto} {H : Hp} {Q : QK} {vs : List V} {H1 : Hp} (q : PL X.K F S H (fun ds S1 => cs f ds S1 Q EX0) vs H1) : lift X.K (cs f) (vs ++ []) H1 (PD X.K F S H Q) E0 := by
  obtain ⟨ds, S1, R1, r1, k1, h1⟩ := q
  rw [List.append_nil]
  exact ⟨ds, S1, Q, F, R1, r1, h1, fun d S' v H' q R' r' k' => ⟨d, S', R', r', k1.trans k', q⟩⟩
theorem sE_call0 (O : COk X c cs) {f : Nat} {x : Str} {p pos : Pos} (hf : c.fns.lookup x = some f) (hg : c.gl x = true) (hd : dbg x = false) : SndE X cs (.call f []) (.Call (.Name x p) [] [] pos) := by
  intro F env S σ H Q R L h
  obtain ⟨fa, fd, ps, G, hm, hk, hb⟩ := O.fns x f hf
  exact pex (pe_at0 G hb (O.gl hg) hm hk (dbg1 hd)) (call_fin (vs := []) ⟨[], S, R, .nil, Keep.refl, h⟩)
theorem sE_call (O : COk X c cs) {f : Nat} {as : List E} {x : Str} {e : Expr} {es : List Expr} {p pos : Pos} (hf : c.fns.lookup x = some f) (hg : c.gl x = true) (hd : dbg x = false) (hns : nsts (e :: es) = true) (ha : SndA X cs as (e :: es)) :
    SndE X cs (.call f as) (.Call (.Name x p) (e :: es) [] pos) := by
  intro F env S σ H Q R L h
  obtain ⟨fa, fd, ps, G, hm, hk, hb⟩ := O.fns x f hf
  have h2 : (nst e && nsts es) = true := hns
  rw [Bool.and_eq_true] at h2
  exact pex (pe_at G hb (O.gl hg) hm hk pa_x (dbg1 hd) (star_cons h2.1) (star_any h2.2)) (wpa_mono (ha F env S σ H _ R L h) fun vs H1 q => call_fin q.1)
theorem bltN_in (b : Blt) : bltN b ∈ bltAll := by
  cases b
  case list m => exact (by decide +kernel : ("list" : Str) ∈ bltAll)
  case sorted m => exact (by decide +kernel : ("sorted" : Str) ∈ bltAll)
  case sortS m => exact (by decide +kernel : ("sorted" : Str) ∈ bltAll)
  case sortP m => exact (by decide +kernel : ("sorted" : Str) ∈ bltAll)
  all_goals decide +kernel
theorem bltN_nn (b : Blt) : bltN b ≠ "__name__" := by
  cases b
  case list m => exact (by decide +kernel : ("list" : Str) ≠ "__name__")
  case sorted m => exact (by decide +kernel : ("sorted" : Str) ≠ "__name__")
  case sortS m => exact (by decide +kernel : ("sorted" : Str) ≠ "__name__")
  case sortP m => exact (by decide +kernel : ("sorted" : Str) ≠ "__name__")
  all_goals decide +kernel
theorem bltN_db (b : Blt) : (bltN b == ("__debug__" : Str)) = false := by
  cases b
  case list m => exact (by decide +kernel : (("list" : Str) == ("__debug__" : Str)) = false)
  case sorted m => exact (by decide +kernel : (("sorted" : Str) == ("__debug__" : Str)) = false)
  case sortS m => exact (by decide +kernel : (("sorted" : Str) == ("__debug__" : Str)) = false)
  case sortP m => exact (by decide +kernel : (("sorted" : Str) == ("__debug__" : Str)) = false)
  all_goals decide +kernel
theorem sE_blt (O : COk X c cs) {b : Blt} {as : List E} {x : Str} {e : Expr} {es : List Expr} {p pos : Pos} (hx : x = bltN b) (hg : c.gl x = true) (hns : nsts (e :: es) = true) (ha : SndA X cs as (e :: es)) :
    SndE X cs (.blt b as) (.Call (.Name x p) (e :: es) [] pos) := by
  intro F env S σ H Q R L h
  subst hx
  have h2 : (nst e && nsts es) = true := hns
  rw [Bool.and_eq_true] at h2
  have hm := O.blt _ (bltN_in b)
  have A : wpa X (e :: es) σ H (fun vs H1 => clx X (bltV b) vs H1 (PD X.K F S H Q)) := wpa_mono (ha F env S σ H _ R L h) fun vs H1 ⟨⟨ds, S1, R1, r1, k1, h1⟩, _⟩ =>
    clx_mono (blt_s O.calm O.hu R1 r1 h1) fun _ _ q => q.of k1
  have hv := bltBoot b
  cases b <;> first
    | exact pex (pe_callB cl_x (O.gl hg) hm hv pa_x (bltN_nn _) (bltN_db _) (star_cons h2.1) (star_any h2.2)) A
    | exact pex (pe_callTy cl_x (O.gl hg) hm hv pa_x (bltN_nn _) (bltN_db _) (star_cons h2.1) (star_any h2.2)) A
theorem boot_isi : bootBuiltins "isinstance" = some (.builtin "isinstance") := by decide +kernel
/-- the built-in classes by their names -/
def clsN (n : String) : Str := Str.ofString n
theorem sE_isi (O : COk X c cs) {a : E} {n : String} {x : Expr} {p p2 pos : Pos} {y : Str} (hy : y = clsN n) (hyb : bootBuiltins y = some (.type n)) (hya : y ∈ bltAll) (hyn : y ≠ "__name__") (hyd : (y == ("__debug__" : Str)) = false) (hn : isiT n = true) (hg : c.gl "isinstance" = true) (hg2 : c.gl y = true) (hns : nst x = true) (ha : SndE X cs a x) :
    SndE X cs (.isi a n) (.Call (.Name "isinstance" p) [x, .Name y p2] [] pos) := by
  intro F env S σ H Q R L h
  have hm := O.blt "isinstance" (by decide +kernel)
  refine pex (pe_callB cl_x (O.gl hg) hm boot_isi (pa_cons pe_x (pa_cons (pe_bltn (v := .ty n) (O.gl hg2) (O.blt _ hya) hyb rfl hyn hyd) pa_nil) (star_cons hns)) (by decide +kernel) (by decide +kernel) (star_cons hns) rfl) ?_
  refine wpx_mono (ha F env S σ H _ R L h) fun v H1 ⟨d, S1, R1, r1, k1, h1⟩ => ?_
  obtain ⟨t, e1, q⟩ := wOpt_in h1
  exact clx_mono (isi_s R1 r1 e1 hn q) fun _ _ q => q.of k1
theorem rgV_rep {F : Addr → Prop} {S : Sto} {H : Hp} (a b : Int) : RepL X.K F S H (rgV a b) (rgD a b) := by
  unfold rgV rgD
  induction (List.range (b - a).toNat) with
  | nil => exact .nil
  | cons i r ih => exact .cons (.int _) ih
theorem sE_lr1 (O : COk X c cs) {m : Bool} {a : E} {x : Expr} {p p2 pos pos2 : Pos} (hg : c.gl "list" = true) (hg2 : c.gl "range" = true) (hn : nst x = true) (ha : SndE X cs a x) : SndE X cs (.lr1 m a) (.Call (.Name "list" p) [.Call (.Name "range" p2) [x] [] pos2] [] pos) := by
  intro F env S σ H Q R L h
  refine pex (pe_listRg O.calm (O.gl hg) (O.blt "list" (by decide +kernel)) (prg_1 (O.gl hg2) (O.blt "range" (by decide +kernel)) pe_x (star_cons hn))) ?_
  refine wpx_mono (ha F env S σ H _ R L h) fun v H1 ⟨d, S1, R1, r1, k1, h1⟩ => ?_
  cases r1 with
  | int n => exact ⟨n, rfl, ⟨by omega, by omega, by omega, by omega, by omega⟩, fun q hn => PD.of k1 (PD.lst R1 hn (rgV_rep 0 n) h1.2)⟩
  | _ => exact h1.elim
theorem sE_lr2 (O : COk X c cs) {m : Bool} {a b : E} {x y : Expr} {p p2 pos pos2 : Pos} (hg : c.gl "list" = true) (hg2 : c.gl "range" = true) (hn : nst x = true) (hn2 : nst y = true) (ha : SndE X cs a x) (hb : SndE X cs b y) : SndE X cs (.lr2 m a b) (.Call (.Name "list" p) [.Call (.Name "range" p2) [x, y] [] pos2] [] pos) := by
  intro F env S σ H Q R L h
  refine pex (pe_listRg O.calm (O.gl hg) (O.blt "list" (by decide +kernel)) (prg_2 (O.gl hg2) (O.blt "range" (by decide +kernel)) pe_x pe_x (star_cons hn) (star_cons hn2) (star_any (by show (nst y && true) = true; rw [hn2]; rfl)))) ?_
  refine wpx_mono (ha F env S σ H _ R L h) fun v H1 ⟨d, S1, R1, r1, k1, h1⟩ => ?_
  refine wpx_mono (hb F env S1 σ H1 _ R1 (k1.env L) h1) fun v2 H2 ⟨d2, S2, R2, r2, k2, h2⟩ => ?_
  cases r1 with
  | int i =>
    cases r2 with
    | int j => exact ⟨i, j, rfl, rfl, ⟨by omega, by omega, by omega, by omega, by omega⟩, fun q hn => PD.of (k1.trans k2) (PD.lst R2 hn (rgV_rep i j) h2.2)⟩
    | _ => exact h2.elim
  | _ => cases d2 <;> exact h2.elim
theorem sE_rev {m : Bool} {a : E} {x : Expr} {k : Nat} {p1 p2 p3 pos : Pos} (ha : SndE X cs a x) : SndE X cs (.rev m a) (.Subscript x (.Slice none none (some (.UnaryOp .USub (.Constant (.int 1) k p1) p2)) p3) pos) := by
  intro F env S σ H Q R L h
  refine pex (pe_revL pe_x) ?_
  refine wpx_mono (ha F env S σ H _ R L h) fun v H1 ⟨d, S1, R1, r1, k1, h1⟩ => ?_
  obtain ⟨ds, e1, q⟩ := wOpt_in h1
  obtain ⟨a, xs, rfl, hs, rl⟩ := lsr_rep R1 r1 e1
  exact ⟨a, xs, rfl, hs, fun p hn => PD.of k1 (PD.lst R1 hn rl.reverse q)⟩
theorem sE_cat {m : Bool} {a b : E} {x y : Expr} {pos : Pos} (ha : SndE X cs a x) (hb : SndE X cs b y) : SndE X cs (.cat m a b) (.BinOp x .Add y pos) := by
  intro F env S σ H Q R L h
  have SZ := sz
  refine pex (pe_op op_cat pe_x pe_x) ?_
  refine wpx_mono (ha F env S σ H _ R L h) fun v H1 ⟨d, S1, R1, r1, k1, h1⟩ => ?_
  refine wpx_mono (hb F env S1 σ H1 _ R1 (k1.env L) h1) fun u H2 ⟨e, S2, R2, r2, k2, h2⟩ => ?_
  obtain ⟨xs, e1, h2⟩ := wOpt_in h2
  obtain ⟨ys, e2, hl, q⟩ := wOpt_in h2
  obtain ⟨p, vs, rfl, s1, l1⟩ := lst_rep R2 (k2 _ _ r1) e1
  obtain ⟨p2, us, rfl, s2, l2⟩ := lst_rep R2 r2 e2
  have n1 := l1.length
  have n2 := l2.length
  exact ⟨_, _, _, _, rfl, rfl, s1, s2, by omega, fun _ hn => PD.of (k1.trans k2) (PD.lst R2 hn (l1.append l2) q)⟩
theorem sE_rep {m : Bool} {a b : E} {x y : Expr} {pos : Pos} (ha : SndE X cs a x) (hb : SndE X cs b y) : SndE X cs (.rep m a b) (.BinOp x .Mult y pos) := by
  intro F env S σ H Q R L h
  have SZ := sz
  refine pex (pe_op op_rep pe_x pe_x) ?_
  refine wpx_mono (ha F env S σ H _ R L h) fun v H1 ⟨d, S1, R1, r1, k1, h1⟩ => ?_
  refine wpx_mono (hb F env S1 σ H1 _ R1 (k1.env L) h1) fun u H2 ⟨e, S2, R2, r2, k2, h2⟩ => ?_
  dsimp only [wRep] at h2
  split at h2
  · obtain ⟨xs, e1, ⟨b1, b2, b3⟩, q⟩ := wOpt_in h2
    obtain ⟨p, vs, rfl, s1, l1⟩ := lst_rep R2 (k2 _ _ r1) e1
    have n1 := l1.length
    cases r2
    exact ⟨_, _, _, rfl, rfl, s1, by omega, by omega, by rw [n1]; omega, fun _ hn => PD.of (k1.trans k2) (PD.lst R2 hn (l1.flat _) q)⟩
  · exact h2.elim
theorem sE_tr1 (O : COk X c cs) {a : E} {x : Expr} {p p2 pos pos2 : Pos} (hg : c.gl "tuple" = true) (hg2 : c.gl "range" = true) (hn : nst x = true) (ha : SndE X cs a x) : SndE X cs (.tr1 a) (.Call (.Name "tuple" p) [.Call (.Name "range" p2) [x] [] pos2] [] pos) := by
  intro F env S σ H Q R L h
  refine pex (pe_tupRg O.calm (O.gl hg) (O.blt "tuple" (by decide +kernel)) (prg_1 (O.gl hg2) (O.blt "range" (by decide +kernel)) pe_x (star_cons hn))) ?_
  refine wpx_mono (ha F env S σ H _ R L h) fun v H1 ⟨d, S1, R1, r1, k1, h1⟩ => ?_
  cases r1 with
  | int n => exact ⟨n, rfl, ⟨by omega, by omega, by omega, by omega, by omega⟩, fun q hn => PD.of k1 (PD.tup R1 hn (rgV_rep 0 n) h1.2)⟩
  | _ => exact h1.elim
/-! ### methods of lists -/
theorem few {es : List Expr} {env : Env} {pos : Pos} (h : nsts es = true) (hn : es.length + 0 + 0 < 30) :
    ((backTo pos (starEach es env)).all (fun x => !x.1) && (backToKw pos (keywordEach [] env)).all (fun x => x.1.isSome) && decide (es.length + ([] : List Keyword).length + (if ([] : List Keyword).isEmpty then 0 else 1) < 30)) = true := by
  rw [star_all h]
  show (true && true && decide (es.length + 0 + 0 < 30)) = true
  rw [decide_eq_true hn]
  rfl
theorem ref_ty {F : Addr → Prop} {v : V} {d : D} {S : Sto} {H : Hp} {ds : List D} (R : RelS X.K F S H) (r : Rep X.K F S H v d) (h : refL d S = some ds) : tyV X.K "list" v H := by
  cases r with
  | ref a =>
    obtain ⟨xs, e, _⟩ := R.at_ a _ (of_lstAt (show lstAt S a = some ds from h))
    exact Or.inl ⟨rfl, _, Or.inl (Or.inl e)⟩
  | _ => exact nomatch (show none = some _ from h)
def mthN : Mth → Str
  | .append => "append" | .extend => "extend" | .pop => "pop" | .insert => "insert"
theorem sE_ins {o a b : E} {x y z : Expr} {ap cp : Pos} (hn : nst y = true) (hn2 : nst z = true) (hc : ncl x = true) (hl : (ap.endLine == cp.line) = true) (ho : SndE X cs o x) (ha : SndE X cs a y) (hb : SndE X cs b z) : SndE X cs (.meth .insert o [a, b]) (.Call (.Attribute x "insert" ap) [y, z] [] cp) := by
  intro F env S σ H Q R L h
  refine pex (pe_bm PySem.F.plainAttrs_list PySem.F.slot_list_insert PySem.F.type_list_insert mt_x pe_x (pa_cons pe_x (pa_cons pe_x pa_nil (star_cons hn2)) (star_cons hn)) (base_of hc) (few (by show (nst y && (nst z && true)) = true; rw [hn, hn2]; rfl) (by show 2 + 0 + 0 < 30; decide)) hl (star_cons hn) (star_any (by show (nst z && true) = true; rw [hn2]; rfl))) ?_
  refine wpx_mono (ho F env S σ H _ R L h) fun v H1 ⟨d, S1, R1, r1, k1, h1⟩ => ?_
  obtain ⟨ds, e, h1⟩ := wOpt_in h1
  refine ⟨ref_ty R1 r1 e, ?_⟩
  refine wpx_mono (ha F env S1 σ H1 _ R1 (k1.env L) h1) fun u H2 ⟨d2, S2, R2, r2, k2, h2⟩ => ?_
  refine wpx_mono (hb F env S2 σ H2 _ R2 ((k1.trans k2).env L) h2) fun u3 H3 ⟨d3, S3, R3, r3, k3, h3⟩ => ?_
  exact mtx_mono (ins_s R3 ((k2.trans k3) _ _ r1) (.cons (k3 _ _ r2) (.cons r3 .nil)) h3) fun _ _ q => q.of ((k1.trans k2).trans k3)
theorem sE_app {o a : E} {x y : Expr} {ap cp : Pos} (hn : nst y = true) (hc : ncl x = true) (hl : (ap.endLine == cp.line) = true) (ho : SndE X cs o x) (ha : SndE X cs a y) : SndE X cs (.meth .append o [a]) (.Call (.Attribute x "append" ap) [y] [] cp) := by
  intro F env S σ H Q R L h
  refine pex (pe_bm PySem.F.plainAttrs_list PySem.F.slot_list_append PySem.F.type_list_append mt_x pe_x (pa_cons pe_x pa_nil (star_cons hn)) (base_of hc) (few (by show (nst y && true) = true; rw [hn]; rfl) (by show 1 + 0 + 0 < 30; decide)) hl (star_cons hn) rfl) ?_
  refine wpx_mono (ho F env S σ H _ R L h) fun v H1 ⟨d, S1, R1, r1, k1, h1⟩ => ?_
  obtain ⟨ds, e, h1⟩ := wOpt_in h1
  refine ⟨ref_ty R1 r1 e, ?_⟩
  refine wpx_mono (ha F env S1 σ H1 _ R1 (k1.env L) h1) fun u H2 ⟨d2, S2, R2, r2, k2, h2⟩ => ?_
  exact mtx_mono (app_s R2 (k2 _ _ r1) (.cons r2 .nil) h2) fun _ _ q => q.of (k1.trans k2)
theorem sE_ext {o a : E} {x y : Expr} {ap cp : Pos} (hn : nst y = true) (hc : ncl x = true) (hl : (ap.endLine == cp.line) = true) (ho : SndE X cs o x) (ha : SndE X cs a y) : SndE X cs (.meth .extend o [a]) (.Call (.Attribute x "extend" ap) [y] [] cp) := by
  intro F env S σ H Q R L h
  refine pex (pe_bm PySem.F.plainAttrs_list PySem.F.slot_list_extend PySem.F.type_list_extend mt_x pe_x (pa_cons pe_x pa_nil (star_cons hn)) (base_of hc) (few (by show (nst y && true) = true; rw [hn]; rfl) (by show 1 + 0 + 0 < 30; decide)) hl (star_cons hn) rfl) ?_
  refine wpx_mono (ho F env S σ H _ R L h) fun v H1 ⟨d, S1, R1, r1, k1, h1⟩ => ?_
  obtain ⟨ds, e, h1⟩ := wOpt_in h1
  refine ⟨ref_ty R1 r1 e, ?_⟩
  refine wpx_mono (ha F env S1 σ H1 _ R1 (k1.env L) h1) fun u H2 ⟨d2, S2, R2, r2, k2, h2⟩ => ?_
  exact mtx_mono (ext_s R2 (k2 _ _ r1) (.cons r2 .nil) h2) fun _ _ q => q.of (k1.trans k2)
theorem sE_pop {o : E} {x : Expr} {ap cp : Pos} (hc : ncl x = true) (hl : (ap.endLine == cp.line) = true) (ho : SndE X cs o x) : SndE X cs (.meth .pop o []) (.Call (.Attribute x "pop" ap) [] [] cp) := by
  intro F env S σ H Q R L h
  refine pex (pe_bm0 PySem.F.plainAttrs_list PySem.F.slot_list_pop PySem.F.type_list_pop mt_x pe_x (base_of hc) hl) ?_
  refine wpx_mono (ho F env S σ H _ R L h) fun v H1 ⟨d, S1, R1, r1, k1, h1⟩ => ?_
  obtain ⟨ds, e, h1⟩ := wOpt_in h1
  refine ⟨ref_ty R1 r1 e, ?_⟩
  exact mtx_mono (pop_s R1 r1 .nil h1) fun _ _ q => q.of k1
theorem sE_popAt {o a : E} {x y : Expr} {ap cp : Pos} (hn : nst y = true) (hc : ncl x = true) (hl : (ap.endLine == cp.line) = true) (ho : SndE X cs o x) (ha : SndE X cs a y) : SndE X cs (.meth .pop o [a]) (.Call (.Attribute x "pop" ap) [y] [] cp) := by
  intro F env S σ H Q R L h
  refine pex (pe_bm PySem.F.plainAttrs_list PySem.F.slot_list_pop PySem.F.type_list_pop mt_x pe_x (pa_cons pe_x pa_nil (star_cons hn)) (base_of hc) (few (by show (nst y && true) = true; rw [hn]; rfl) (by show 1 + 0 + 0 < 30; decide)) hl (star_cons hn) rfl) ?_
  refine wpx_mono (ho F env S σ H _ R L h) fun v H1 ⟨d, S1, R1, r1, k1, h1⟩ => ?_
  obtain ⟨ds, e, h1⟩ := wOpt_in h1
  refine ⟨ref_ty R1 r1 e, ?_⟩
  refine wpx_mono (ha F env S1 σ H1 _ R1 (k1.env L) h1) fun u H2 ⟨d2, S2, R2, r2, k2, h2⟩ => ?_
  exact mtx_mono (pop_s R2 (k2 _ _ r1) (.cons r2 .nil) h2) fun _ _ q => q.of (k1.trans k2)
theorem sE_cnt {o a : E} {x y : Expr} {ap cp : Pos} (hn : nst y = true) (hc : ncl x = true) (hl : (ap.endLine == cp.line) = true) (ho : SndE X cs o x) (ha : SndE X cs a y) : SndE X cs (.cnt o a) (.Call (.Attribute x "count" ap) [y] [] cp) := by
  intro F env S σ H Q R L h
  refine pex (pe_bm PySem.F.plainAttrs_list PySem.F.slot_list_count PySem.F.type_list_count mt_lcount pe_x (pa_cons pe_x pa_nil (star_cons hn)) (base_of hc) (few (by show (nst y && true) = true; rw [hn]; rfl) (by show 1 + 0 + 0 < 30; decide)) hl (star_cons hn) rfl) ?_
  refine wpx_mono (ho F env S σ H _ R L h) fun v H1 ⟨d, S1, R1, r1, k1, h1⟩ => ?_
  obtain ⟨ds, e, h1⟩ := wOpt_in h1
  obtain ⟨p, vs, rfl, s1, l1⟩ := lst_rep R1 r1 e
  refine ⟨Or.inl ⟨rfl, _, Or.inl (Or.inl s1)⟩, ?_⟩
  refine wpx_mono (ha F env S1 σ H1 _ R1 (k1.env L) h1) fun u H2 ⟨d2, S2, R2, r2, k2, h2⟩ => ?_
  dsimp only [wCnt] at h2
  split at h2
  · obtain ⟨xs, e1, h2⟩ := wOpt_in h2
    obtain ⟨ns, e2, q⟩ := wOpt_in h2
    obtain ⟨p2, us, ep, s2, l2⟩ := lst_rep R2 (k2 _ _ r1) e1
    cases ep
    cases r2
    exact ⟨p, ns, _, rfl, rfl, by rw [← rep_ints l2 e2]; exact Or.inl (Or.inl s2), PD.of (k1.trans k2) (PD.same R2 (.int _) q)⟩
  · exact h2.elim
theorem sE_frz {a : E} {x : Expr} (ha : SndE X cs a x) : SndE X cs (.frz a) x := by
  intro F env S σ H Q R L h
  refine wpx_mono (ha F env S σ H _ R L h) fun v H1 ⟨d, S1, R1, r1, k1, h1⟩ => ?_
  cases r1 with
  | ref b =>
    obtain ⟨xs, e, q⟩ := wOpt_in (show wOpt (lstAt S1 b) _ from h1)
    obtain ⟨vs, e2, rl⟩ := R1.at_ b _ (of_lstAt e)
    have hs : ∀ c, S1 c = none → serase S1 b c = none := fun c h => by
      unfold serase
      split
      · rfl
      · exact h
    have k : Keep X.K S1 H1 (serase S1 b) H1 := ⟨fun _ _ e => e, fun _ _ _ e => e, fun _ _ e _ => e, fun c _ h _ _ => hs c h, fun _ o e n => ⟨o, e, n⟩⟩
    refine ⟨.lst xs, serase S1 b, ⟨fun c o ho => ?_, fun c f => ⟨(R1.hid c f).1, hs c (R1.hid c f).2⟩, R1.tab⟩, .lst e2 (by unfold serase; rw [if_pos rfl]) (R1.nh (of_lstAt e)) (k.list rl), k1.trans k, q⟩
    have ho2 : S1 c = some o := by
      unfold serase at ho
      split at ho
      · cases ho
      · exact ho
    exact RO.keep k rfl (R1.at_ c o ho2)
  | _ => exact h1.elim

/-! ### tests -/
theorem sT_not {a : E} {x : Expr} {pos : Pos} (ha : SndT X cs a x) : SndT X cs (.not a) (.UnaryOp .Not x pos) := by
  intro F env S σ H Q R L h
  refine ptx (pt_not pt_x) ?_
  exact wpt_mono (ha F env S σ H _ R L h) fun b H1 ⟨S1, R1, k1, q⟩ => ⟨S1, R1, k1, q⟩
theorem pw_any {op : BoolOp} {xs : List Expr} {pos : Pos} : PW X (.BoolOp op xs pos) (wpt X (.BoolOp op xs pos)) := ⟨fun _ _ _ _ _ _ I h => pt_x.run _ _ _ _ _ I h⟩
theorem sT_and {a b : E} {x y : Expr} {r : List Expr} {pos : Pos} (ha : SndT X cs a x) (hb : SndT X cs b (.BoolOp .And (y :: r) pos)) : SndT X cs (.and a b) (.BoolOp .And (x :: y :: r) pos) := by
  intro F env S σ H Q R L h
  refine ptx (pw_and pt_x pw_any).pt ?_
  refine wpt_mono (ha F env S σ H _ R L h) fun k H1 ⟨S1, R1, k1, h1⟩ => ?_
  rcases wIf_in h1 with ⟨rfl, q⟩ | ⟨rfl, q⟩
  · rw [if_pos rfl]
    exact wpt_mono (hb F env S1 σ H1 _ R1 (k1.env L) q) fun _ _ q => q.of k1
  · rw [if_neg Bool.false_ne_true]
    exact ⟨S1, R1, k1, q⟩
theorem sT_or {a b : E} {x y : Expr} {r : List Expr} {pos : Pos} (ha : SndT X cs a x) (hb : SndT X cs b (.BoolOp .Or (y :: r) pos)) : SndT X cs (.or a b) (.BoolOp .Or (x :: y :: r) pos) := by
  intro F env S σ H Q R L h
  refine ptx (pw_or pt_x pw_any).pt ?_
  refine wpt_mono (ha F env S σ H _ R L h) fun k H1 ⟨S1, R1, k1, h1⟩ => ?_
  rcases wIf_in h1 with ⟨rfl, q⟩ | ⟨rfl, q⟩
  · rw [if_pos rfl]
    exact ⟨S1, R1, k1, q⟩
  · rw [if_neg Bool.false_ne_true]
    exact wpt_mono (hb F env S1 σ H1 _ R1 (k1.env L) q) fun _ _ q => q.of k1
theorem sT_one1 {a : E} {x : Expr} {pos : Pos} (ha : SndT X cs a x) : SndT X cs a (.BoolOp .And [x] pos) := fun F env S σ H Q R L h => ptx (pw_and1 pt_x).pt (ha F env S σ H Q R L h)
theorem sT_one2 {a : E} {x : Expr} {pos : Pos} (ha : SndT X cs a x) : SndT X cs a (.BoolOp .Or [x] pos) := fun F env S σ H Q R L h => ptx (pw_or1 pt_x).pt (ha F env S σ H Q R L h)
theorem sT_cmp (O : COk X c cs) {op : CmpOp} {a b : E} {x y : Expr} {pos : Pos} (ha : SndE X cs a x) (hb : SndE X cs b y) (hm : nset y = true) : SndT X cs (.cmp op a b) (.Compare x [op] [y] pos) := by
  intro F env S σ H Q R L h
  refine ptx (pt_cmpR op_x pe_x pe_x (mark_of hm)) ?_
  refine wpx_mono (ha F env S σ H _ R L h) fun v H1 ⟨d, S1, R1, r1, k1, h1⟩ => ?_
  refine wpx_mono (hb F env S1 σ H1 _ R1 (k1.env L) h1) fun u H2 ⟨e, S2, R2, r2, k2, h2⟩ => ?_
  refine opx_mono (cmp_s O.hu R2 (k2 _ _ r1) r2 h2) fun w H3 ⟨f, S3, R3, r3, k3, h3⟩ => ?_
  obtain ⟨b, rfl, q⟩ := wB_in h3
  cases r3
  exact ⟨b, rfl, S3, R3, (k1.trans k2).trans k3, q⟩
theorem sT_cmp2 (O : COk X c cs) {o1 o2 : CmpOp} {a b d : E} {x y z : Expr} {pos : Pos} (ha : SndE X cs a x) (hb : SndE X cs b y) (hd : SndE X cs d z) (hm : nset z = true) : SndT X cs (.cmp2 o1 o2 a b d) (.Compare x [o1, o2] [y, z] pos) := by
  intro F env S σ H Q R L h
  refine ptx (pt_chain op_x op_x pe_x pe_x pe_x (last2 hm)) ?_
  refine wpx_mono (ha F env S σ H _ R L h) fun v H1 ⟨d1, S1, R1, r1, k1, h1⟩ => ?_
  refine wpx_mono (hb F env S1 σ H1 _ R1 (k1.env L) h1) fun u H2 ⟨e, S2, R2, r2, k2, h2⟩ => ?_
  refine opx_mono (cmp_s O.hu R2 (k2 _ _ r1) r2 h2) fun w H3 ⟨f, S3, R3, r3, k3, h3⟩ => ?_
  obtain ⟨b, rfl, q⟩ := wB_in h3
  cases r3
  refine ⟨b, rfl, ?_⟩
  have k13 := (k1.trans k2).trans k3
  rcases wIf_in q with ⟨rfl, q2⟩ | ⟨rfl, q2⟩
  · rw [if_pos rfl]
    refine wpx_mono (hd F env S3 σ H3 _ R3 (k13.env L) q2) fun w' H4 ⟨g, S4, R4, r4, k4, h4⟩ => ?_
    refine opx_mono (cmp_s O.hu R4 (k4 _ _ (k3 _ _ r2)) r4 h4) fun _ _ ⟨f5, S5, R5, r5, k5, h5⟩ => ?_
    obtain ⟨b, rfl, q3⟩ := wB_in h5
    cases r5
    exact ⟨b, rfl, S5, R5, (k13.trans k4).trans k5, q3⟩
  · rw [if_neg Bool.false_ne_true]
    exact ⟨false, rfl, S3, R3, k13, q2⟩
/-- by the value's truth -/
theorem sT_val {a : E} {x : Expr} (hb : nbl x = true) (ha : ∀ (env : En) (S : Sto) (Q : Bool → Sto → Prop), wT cs EX0 a env S Q → wE cs EX0 a env S fun z S1 => wTru z S1 Q) (he : SndE X cs a x) : SndT X cs a x := by
  intro F env S σ H Q R L h
  refine ptx (pt_truth pe_x (test_of hb)) ?_
  refine wpx_mono (he F env S σ H _ R L (ha env S Q h)) fun v H1 ⟨d, S1, R1, r1, k1, h1⟩ => ?_
  obtain ⟨b, e, q⟩ := wOpt_in h1
  exact ⟨b, tru_s R1 r1 e, S1, R1, k1, q⟩
end
end Z
set_option Elab.async false
set_option linter.all false
set_option maxRecDepth 100000
set_option maxHeartbeats 4000000
/-! Z55: what the trees say holds of the model: instances, dicts, the lambda's order. -/
namespace Z
open PySem PySem.Spec PyProof.Rows L2

/-! ### attributes -/
section
variable {K : PySem.W.Frag} {F : Addr → Prop} {S : Sto} {H : Hp}
theorem RepF.look {f : Str} : ∀ {gs : List (Str × V)} {fs : List (Str × D)} {d : D}, RepF K F S H gs fs → fs.lookup f = some d → ∃ v, gs.lookup f = some v ∧ Rep K F S H v d
  | _, _, _, .nil, e => nomatch e
  | (g, v) :: gs, (g', d') :: fs, d, .cons r t, e => by
    obtain ⟨rfl, r⟩ := r
    rw [List.lookup_cons] at e ⊢
    cases q : (f == g) with
    | true => rw [q] at e; cases e; exact ⟨v, rfl, r⟩
    | false => rw [q] at e; exact RepF.look t e
theorem RepF.lookN {f : Str} : ∀ {gs : List (Str × V)} {fs : List (Str × D)}, RepF K F S H gs fs → fs.lookup f = none → gs.lookup f = none
  | _, _, .nil, _ => rfl
  | (g, v) :: gs, (g', d') :: fs, .cons r t, e => by
    obtain ⟨rfl, r⟩ := r
    rw [List.lookup_cons] at e ⊢
    cases q : (f == g) with
    | true => rw [q] at e; cases e
    | false => rw [q] at e; exact RepF.lookN t e
theorem RepF.put {f : Str} {v : V} {d : D} (rv : Rep K F S H v d) : ∀ {gs : List (Str × V)} {fs : List (Str × D)}, RepF K F S H gs fs → RepF K F S H (putF f v gs) (putD f d fs)
  | _, _, .nil => .cons ⟨rfl, rv⟩ .nil
  | (g, u) :: gs, (g', d') :: fs, .cons r t => by
    obtain ⟨rfl, r⟩ := r
    unfold putF putD
    by_cases q : g = f
    · rw [if_pos q, if_pos q]
      exact .cons ⟨rfl, rv⟩ t
    · rw [if_neg q, if_neg q]
      exact .cons ⟨rfl, r⟩ (RepF.put rv t)
theorem RepF.length : ∀ {gs : List (Str × V)} {fs : List (Str × D)}, RepF K F S H gs fs → gs.length = fs.length
  | _, _, .nil => rfl
  | _, _, .cons _ t => congrArg Nat.succ (RepF.length t)
/-! ### a dict's pairs -/
theorem RepK.get {k : Key} : ∀ {gs : List (Key × V)} {kvs : List (Key × D)}, RepK K F S H gs kvs → (∀ d, kvGet kvs k = some d → ∃ v, valV gs k = some v ∧ Rep K F S H v d) ∧ (kvGet kvs k = none → valV gs k = none)
  | _, _, .nil => ⟨fun d e => (nomatch (show (none : Option D) = some d from e)), fun _ => rfl⟩
  | (g, u) :: gs, (g', d') :: fs, .cons r t => by
    obtain ⟨rfl, r⟩ := r
    by_cases q : g = k
    · rw [valV_pos (p := (g, u)) q]
      have e : kvGet ((g, d') :: fs) k = some d' := by simp [kvGet, List.find?_cons, q]
      rw [e]
      exact ⟨fun d z => by cases z; exact ⟨u, rfl, r⟩, fun z => nomatch z⟩
    · rw [valV_neg (p := (g, u)) q]
      have e : kvGet ((g, d') :: fs) k = kvGet fs k := by simp [kvGet, List.find?_cons, q]
      rw [e]
      exact RepK.get t
theorem RepK.any {k : Key} : ∀ {gs : List (Key × V)} {kvs : List (Key × D)}, RepK K F S H gs kvs → (gs.any fun p => decide (p.1 = k)) = kvs.any fun p => decide (p.1 = k)
  | _, _, .nil => rfl
  | (g, u) :: gs, (g', d') :: fs, .cons r t => by
    obtain ⟨rfl, r⟩ := r
    rw [List.any_cons, List.any_cons, RepK.any t]
theorem RepK.repl {k : Key} {v : V} {d : D} (rv : Rep K F S H v d) : ∀ {gs : List (Key × V)} {kvs : List (Key × D)}, RepK K F S H gs kvs → RepK K F S H (gs.map fun p => if p.1 = k then (p.1, v) else p) (kvs.map fun p => if p.1 = k then (p.1, d) else p)
  | _, _, .nil => .nil
  | (g, u) :: gs, (g', d') :: fs, .cons r t => by
    obtain ⟨rfl, r⟩ := r
    rw [List.map_cons, List.map_cons]
    refine .cons ?_ (RepK.repl rv t)
    by_cases q : g = k
    · rw [if_pos q, if_pos q]
      exact ⟨rfl, rv⟩
    · rw [if_neg q, if_neg q]
      exact ⟨rfl, r⟩
theorem RepK.snoc {k : Key} {v : V} {d : D} (rv : Rep K F S H v d) : ∀ {gs : List (Key × V)} {kvs : List (Key × D)}, RepK K F S H gs kvs → RepK K F S H (gs ++ [(k, v)]) (kvs ++ [(k, d)])
  | _, _, .nil => .cons ⟨rfl, rv⟩ .nil
  | _, _, .cons r t => .cons r (RepK.snoc rv t)
theorem RepK.put {k : Key} {v : V} {d : D} {gs : List (Key × V)} {kvs : List (Key × D)} (r : RepK K F S H gs kvs) (rv : Rep K F S H v d) : RepK K F S H (putK gs k v) (kvPut kvs k d) := by
  unfold putK kvPut
  rw [r.any]
  split
  · exact r.repl rv
  · exact r.snoc rv
theorem RepK.length : ∀ {gs : List (Key × V)} {kvs : List (Key × D)}, RepK K F S H gs kvs → gs.length = kvs.length
  | _, _, .nil => rfl
  | _, _, .cons _ t => congrArg Nat.succ (RepK.length t)
theorem RepK.keysL : ∀ {gs : List (Key × V)} {kvs : List (Key × D)}, RepK K F S H gs kvs → RepL K F S H (gs.map fun p => kV p.1) (kvs.map fun p => kD p.1)
  | _, _, .nil => .nil
  | (g, u) :: gs, (g', d') :: fs, .cons r t => by
    obtain ⟨rfl, r⟩ := r
    refine .cons ?_ (RepK.keysL t)
    cases g with
    | inl i => exact .int i
    | inr x => exact .str x
theorem key_rep {v : V} {d : D} {k : Key} (r : Rep K F S H v d) (e : keyD d = some k) : v = kV k := by
  cases r with
  | int i => cases (show some (Sum.inl i) = some k from e); rfl
  | str x => cases (show some (Sum.inr x) = some k from e); rfl
  | _ => exact nomatch (show (none : Option Key) = some k from e)
end

section
variable {X : Cx} {c : Ctx} {cs : CS}
theorem wFld_in {n f : Str} {x : D} {S : Sto} {Q : QK} (h : wFld n f x S Q) : ∃ a fs d, x = .ref a ∧ S a = some (.ins n fs) ∧ fs.lookup f = some d ∧ Q d S := by
  cases x with
  | ref a =>
    obtain ⟨fs, e1, h⟩ := wOpt_in (show wOpt (insAt S a n) _ from h)
    obtain ⟨d, e2, q⟩ := wOpt_in h
    exact ⟨a, fs, d, rfl, of_insAt e1, e2, q⟩
  | _ => exact h.elim
theorem sE_fld (O : COk X c cs) {n f : Str} {o : E} {x : Expr} {pos : Pos} (hf : c.flds.contains (n, f) = true) (hc : ncl x = true) (ho : SndE X cs o x) : SndE X cs (.fld n f o) (.Attribute x f pos) := by
  intro F env S σ H Q R L h
  obtain ⟨C, e0, cl, na⟩ := O.flds n f hf
  refine pex (pe_fld pe_x (base_of hc)) ?_
  refine wpx_mono (ho F env S σ H _ R L h) fun v H1 ⟨d, S1, R1, r1, k1, h1⟩ => ?_
  obtain ⟨a, fs, d, rfl, e1, e2, q⟩ := wFld_in h1
  cases r1
  obtain ⟨C', dx, gs, e3, e4, rf⟩ := R1.at_ a _ e1
  rw [e0] at e3
  cases e3
  obtain ⟨v, e5, rv⟩ := rf.look e2
  exact ⟨a, C, dx, gs, v, rfl, e4, cl, na, e5, PD.of k1 (PD.same R1 rv q)⟩
/-- a method call's tree -/
theorem meth_tree {o : Expr} {m : Str} {ap cp : Pos} {es : List Expr} {env : Env} (hc : ncl o = true) (hs : nsts es = true) (hl : (ap.endLine == cp.line) = true) (hn : es.length < 30) : eval (.Call (.Attribute o m ap) es [] cp) env = (do
      let ov ← eval o env
      standAt ap.atName
      let (f, first) ← holding [ov] (getMethod ov m (plainOf o env))
      callWith cp f first (backTo cp (starEach es env)) (backToKw cp (keywordEach [] env))) := by
  refine mcall_of (base_of hc) fun ov => mcall_line ?_ hl
  show ((backTo cp (starEach es env)).all (fun x => !x.1) && (backToKw cp (keywordEach [] env)).all (fun x => x.1.isSome) && decide (es.length + ([] : List Keyword).length < 30)) = true
  rw [star_all hs]
  show (true && true && decide (es.length + 0 < 30)) = true
  rw [decide_eq_true (by omega)]
  rfl
/-- the instance whose method is called -/
theorem wMth_in {n m : Str} {C : Addr} {F : Addr → Prop} {v : V} {d : D} {S1 : Sto} {H1 : Hp} {P : Prop} (e0 : clsAt X.K n = some C) (R1 : RelS X.K F S1 H1) (r1 : Rep X.K F S1 H1 v d) (h1 : wMth n m d S1 P) :
    ∃ a dx gs, v = .ref a ∧ d = .ref a ∧ H1 a = some (.ins C dx gs) ∧ gs.lookup m = none ∧ P := by
  cases d with
  | ref a =>
    obtain ⟨fs, e1, e2, p⟩ := wOpt_in (show wOpt (insAt S1 a n) _ from h1)
    cases r1
    obtain ⟨C', dx, gs, e3, e4, rf⟩ := R1.at_ a _ (of_insAt e1)
    rw [e0] at e3
    cases e3
    exact ⟨a, dx, gs, rfl, rfl, e4, rf.lookN e2, p⟩
  | _ => exact h1.elim
theorem sE_mth0 (O : COk X c cs) {n m : Str} {g : Nat} {o : E} {x : Expr} {ap cp : Pos} (hm : c.mths.lookup (n, m) = some g) (hc : ncl x = true) (hl : (ap.endLine == cp.line) = true) (ho : SndE X cs o x) :
    SndE X cs (.mth g n m o []) (.Call (.Attribute x m ap) [] [] cp) := by
  intro F env S σ H Q R L h
  obtain ⟨C, k, f, fd, ps, e0, cl, me, F1, hr, hb⟩ := O.mths n m g hm
  refine pex (pe_meth0 (pl := plainOf x X.env) pe_x cl me F1 hr hb .nil pass0 (meth_tree hc rfl hl (by decide))) ?_
  refine wpx_mono (ho F env S σ H _ R L h) fun v H1 ⟨d, S1, R1, r1, k1, h1⟩ => ?_
  obtain ⟨a, dx, gs, rfl, rfl, e4, e5, p⟩ := wMth_in e0 R1 r1 h1
  refine ⟨a, dx, gs, rfl, e4, e5, ?_⟩
  exact ⟨[.ref a], S1, Q, F, R1, .cons (.ref a) .nil, p, fun d' S' v' H' q' R' r' k' => ⟨d', S', R', r', k1.trans k', q'⟩⟩
theorem sE_mth (O : COk X c cs) {n m : Str} {g : Nat} {o : E} {as : List E} {x e : Expr} {es : List Expr} {ap cp : Pos} (hm : c.mths.lookup (n, m) = some g) (hc : ncl x = true) (hs : nsts (e :: es) = true) (hl : (ap.endLine == cp.line) = true) (hn : (e :: es).length < 30) (ho : SndE X cs o x) (ha : SndA X cs as (e :: es)) :
    SndE X cs (.mth g n m o as) (.Call (.Attribute x m ap) (e :: es) [] cp) := by
  intro F env S σ H Q R L h
  obtain ⟨C, k, f, fd, ps, e0, cl, me, F1, hr, hb⟩ := O.mths n m g hm
  have h2 : (nst e && nsts es) = true := hs
  rw [Bool.and_eq_true] at h2
  refine pex (pe_meth (pl := plainOf x X.env) pe_x cl me F1 hr hb .nil pass0 pa_x (star_cons h2.1) (star_any h2.2) (meth_tree hc hs hl hn)) ?_
  refine wpx_mono (ho F env S σ H _ R L h) fun v H1 ⟨d, S1, R1, r1, k1, h1⟩ => ?_
  obtain ⟨a, dx, gs, rfl, rfl, e4, e5, p⟩ := wMth_in e0 R1 r1 h1
  refine ⟨a, dx, gs, rfl, e4, e5, ?_⟩
  refine wpa_mono (ha F env S1 σ H1 _ R1 (k1.env L) p) fun vs H2 ⟨⟨ds, S2, R2, r2, k2, q2⟩, _⟩ => ?_
  rw [List.append_nil]
  exact ⟨.ref a :: ds, S2, Q, F, R2, .cons (.ref a) r2, q2, fun d' S' v' H' q' R' r' k' => ⟨d', S', R', r', (k1.trans k2).trans k', q'⟩⟩
/-- a new instance, laid with its own dict -/
theorem inst_new {F : Addr → Prop} {S : Sto} {H : Hp} {x dx C : Addr} {n : Str} (R : RelS X.K F S H) (e0 : clsAt X.K n = some C) (hx : H x = Option.none) (hd : H dx = Option.none) (ne : dx ≠ x) :
    RelS X.K F (supd S x (.ins n [])) (upd (upd H dx (.own x)) x (.ins C dx [])) ∧ Keep X.K S H (supd S x (.ins n [])) (upd (upd H dx (.own x)) x (.ins C dx [])) := by
  have R1 : RelS X.K F S (upd H dx (.own x)) := R.new hd
  have hx1 : upd H dx (.own x) x = Option.none := by rw [upd_ne (Ne.symm ne)]; exact hx
  have k : Keep X.K S (upd H dx (.own x)) (supd S x (.ins n [])) (upd (upd H dx (.own x)) x (.ins C dx [])) := keepNewM hx1
  exact ⟨R1.putN hx1 k ⟨C, dx, [], e0, upd_same, .nil⟩, (keepNew hd).trans k⟩
theorem sE_new (O : COk X c cs) {n : Str} {g : Nat} {as : List E} {e : Expr} {es : List Expr} {p cp : Pos} (hm : c.clss.lookup n = some g) (hg : c.gl n = true) (hd : dbg n = false) (hs : nsts (e :: es) = true) (ha : SndA X cs as (e :: es)) :
    SndE X cs (.new g n as) (.Call (.Name n p) (e :: es) [] cp) := by
  intro F env S σ H Q R L h
  obtain ⟨C, k, f, fd, ps, e0, mk, mg, F1, hr, hb⟩ := O.clss n g hm
  have h2 : (nst e && nsts es) = true := hs
  rw [Bool.and_eq_true] at h2
  refine pex (pe_make mk F1 hr (O.gl hg) mg hb .nil pass0 pa_x (dbg1 hd) (star_cons h2.1) (star_any h2.2)) ?_
  refine wpa_mono (ha F env S σ H _ R L h) fun vs H1 ⟨⟨ds, S1, R1, r1, k1, q1⟩, _⟩ => ?_
  intro x dx hx hdx ne
  rw [List.append_nil]
  obtain ⟨R2, k2⟩ := inst_new R1 e0 hx hdx ne
  refine ⟨.ref x :: ds, supd S1 x (.ins n []), _, F, R2, .cons (.ref x) (k2.list r1), q1 x (R1.none hx), fun d' S' v' H' ⟨e', q'⟩ R' r' k' => ?_⟩
  subst e'
  cases r'
  exact ⟨rfl, .ref x, S', R', .ref x, (k1.trans k2).trans k', q'⟩
/-! ### dicts -/
theorem wDct_in {x : D} {S : Sto} {P : Addr → List (Key × D) → Prop} (h : wDct x S P) : ∃ a kvs, x = .ref a ∧ dctAt S a = some kvs ∧ P a kvs := by
  cases x with
  | ref a =>
    obtain ⟨kvs, e, p⟩ := wOpt_in (show wOpt (dctAt S a) _ from h)
    exact ⟨a, kvs, rfl, e, p⟩
  | _ => exact h.elim
theorem wDcw_in {x : D} {S : Sto} {P : Addr → List (Key × D) → Prop} (h : wDcw x S P) : ∃ a kvs, x = .ref a ∧ S a = some (.dct kvs) ∧ P a kvs := by
  cases x with
  | ref a =>
    obtain ⟨kvs, e, p⟩ := wOpt_in (show wOpt (dctW S a) _ from h)
    exact ⟨a, kvs, rfl, of_dctW e, p⟩
  | _ => exact h.elim
/-- a dict that is read, be it walked or not -/
theorem dct_rd {F : Addr → Prop} {S : Sto} {H : Hp} {a : Addr} {kvs : List (Key × D)} (R : RelS X.K F S H) (h : dctAt S a = some kvs) : ∃ gs, Rd H a (.dK gs) ∧ RepK X.K F S H gs kvs := by
  rcases of_dctAt h with e | e
  · obtain ⟨gs, e3, rk⟩ := R.at_ a _ e
    exact ⟨gs, .inl e3, rk⟩
  · obtain ⟨ob, gs, e3, rk⟩ := R.at_ a _ e
    exact ⟨gs, .inr ⟨ob, e3⟩, rk⟩
theorem dgetR {H : Hp} {a : Addr} {gs : List (Key × V)} {k : Key} (e : Rd H a (.dK gs)) : DGet H a (kV k) (valV gs k) := .inl ⟨gs, k, e, rfl, rfl⟩
theorem sE_dct1 {k v : E} {x y : Expr} {pos : Pos} (hk : SndE X cs k x) (hv : SndE X cs v y) : SndE X cs (.dct1 k v) (.Dict [some x] [y] pos) := by
  intro F env S σ H Q R L h
  refine pex (pe_disp (pps_cons pe_x pe_x pps_nil) rfl rfl (fun z => nomatch z) (by show 1 ≤ 15; decide)) fun p hp => ?_
  have k0 : Keep X.K S H (supd S p (.dct [])) (upd H p (.dK [])) := keepNewM hp
  have R0 := R.putN hp k0 (o := .dct []) ⟨[], upd_same, .nil⟩
  refine wpx_mono (hk F env _ σ _ _ R0 (k0.env L) (h p (R.none hp))) fun u H1 ⟨d, S1, R1, r1, k1, h1⟩ => ?_
  refine wpx_mono (hv F env S1 σ H1 _ R1 ((k0.trans k1).env L) h1) fun w H2 ⟨e, S2, R2, r2, k2, h2⟩ => ?_
  obtain ⟨kk, e1, e2, q⟩ := wOpt_in h2
  obtain ⟨gs, e3, rk⟩ := R2.at_ p _ e2
  cases rk
  obtain rfl := key_rep (k2 _ _ r1) e1
  refine ⟨e3, [(kk, w)], rfl, by show 1 ≤ 15; decide, ?_⟩
  have k3 : Keep X.K S2 H2 (supd S2 p (.dct [(kk, e)])) (upd H2 p (.dK (mergeK [] [(kk, w)]))) := keepMut R2 e2
  exact ⟨.ref p, _, R2.putM e2 k3 ⟨[(kk, w)], upd_same, .cons ⟨rfl, k3 _ _ r2⟩ .nil⟩, .ref p, ((k0.trans k1).trans k2).trans k3, q⟩
theorem optD {F : Addr → Prop} {S : Sto} {H : Hp} {gs : List (Key × V)} {kvs : List (Key × D)} (r : RepK X.K F S H gs kvs) (k : Key) : (valV gs k).isSome = (kvGet kvs k).isSome := by
  cases e : kvGet kvs k with
  | none => rw [(RepK.get r).2 e]; rfl
  | some d => obtain ⟨v, e2, _⟩ := (RepK.get r).1 d e; rw [e2]; rfl
theorem sE_inD (O : COk X c cs) {n : Bool} {k d : E} {x y : Expr} {pos : Pos} (hm : nset y = true) (hk : SndE X cs k x) (hd : SndE X cs d y) : SndE X cs (.inD n k d) (.Compare x [if n then .NotIn else .In] [y] pos) := by
  intro F env S σ H Q R L h
  have hu : X.A.units + 1 < cLine := Nat.lt_of_le_of_lt (by omega) O.hu
  have go : wpx X x σ H fun v H1 => wpx X y σ H1 fun u H2 => ∃ a o, u = .ref a ∧ DGet H2 a v o ∧ PD X.K F S H Q (.bl (if n then !o.isSome else o.isSome)) H2 := by
    refine wpx_mono (hk F env S σ H _ R L h) fun v H1 ⟨d1, S1, R1, r1, k1, h1⟩ => ?_
    refine wpx_mono (hd F env S1 σ H1 _ R1 (k1.env L) h1) fun u H2 ⟨d2, S2, R2, r2, k2, h2⟩ => ?_
    obtain ⟨a, kvs, rfl, e1, h3⟩ := wDct_in h2
    obtain ⟨kk, e2, q⟩ := wOpt_in h3
    cases r2
    obtain ⟨gs, e3, rk⟩ := dct_rd R2 e1
    obtain rfl := key_rep (k2 _ _ r1) e2
    refine ⟨a, _, rfl, dgetR e3, ?_⟩
    rw [optD rk]
    exact PD.of (k1.trans k2) (PD.same R2 (.bl _) q)
  cases n with
  | false => exact pex (pe_cmp (pc_din hu pe_x pe_x) (mark_of hm)) go
  | true => exact pex (pe_cmp (pc_dnotin hu pe_x pe_x) (mark_of hm)) go
theorem sT_inD (O : COk X c cs) {n : Bool} {k d : E} {x y : Expr} {pos : Pos} (hm : nset y = true) (hk : SndE X cs k x) (hd : SndE X cs d y) : SndT X cs (.inD n k d) (.Compare x [if n then .NotIn else .In] [y] pos) := by
  intro F env S σ H Q R L h
  have hu : X.A.units + 1 < cLine := Nat.lt_of_le_of_lt (by omega) O.hu
  have go : wpx X x σ H fun v H1 => wpx X y σ H1 fun u H2 => ∃ a o, u = .ref a ∧ DGet H2 a v o ∧ ∃ b, V.bl (if n then !o.isSome else o.isSome) = .bl b ∧ PB X.K F S H Q b H2 := by
    refine wpx_mono (hk F env S σ H _ R L h) fun v H1 ⟨d1, S1, R1, r1, k1, h1⟩ => ?_
    refine wpx_mono (hd F env S1 σ H1 _ R1 (k1.env L) h1) fun u H2 ⟨d2, S2, R2, r2, k2, h2⟩ => ?_
    obtain ⟨a, kvs, rfl, e1, h3⟩ := wDct_in h2
    obtain ⟨kk, e2, q⟩ := wOpt_in h3
    cases r2
    obtain ⟨gs, e3, rk⟩ := dct_rd R2 e1
    obtain rfl := key_rep (k2 _ _ r1) e2
    refine ⟨a, _, rfl, dgetR e3, _, rfl, S2, R2, k1.trans k2, ?_⟩
    rw [optD rk]
    obtain ⟨b, e4, q⟩ := wOpt_in q
    cases (show some _ = some b from e4)
    exact q
  cases n with
  | false => exact ptx (pt_cmp (pc_din hu pe_x pe_x) (mark_of hm)) go
  | true => exact ptx (pt_cmp (pc_dnotin hu pe_x pe_x) (mark_of hm)) go
theorem sE_dkeys (O : COk X c cs) {m : Bool} {d : E} {x : Expr} {p pos : Pos} (hg : c.gl "list" = true) (hn : nst x = true) (hd : SndE X cs d x) : SndE X cs (.dkeys m d) (.Call (.Name "list" p) [x] [] pos) := by
  intro F env S σ H Q R L h
  refine pex (pe_callTy (call_listD O.calm) (O.gl hg) (O.blt "list" (by decide +kernel)) (by decide +kernel) (pa_cons pe_x pa_nil (star_cons hn)) (by decide +kernel) (by decide +kernel) (star_cons hn) rfl) ?_
  refine wpx_mono (hd F env S σ H _ R L h) fun v H1 ⟨d1, S1, R1, r1, k1, h1⟩ => ?_
  obtain ⟨a, kvs, rfl, e1, q⟩ := wDct_in h1
  cases r1
  obtain ⟨gs, e3, rk⟩ := dct_rd R1 e1
  exact ⟨a, gs, rfl, e3, fun p hp => PD.of k1 (PD.lst R1 hp rk.keysL q)⟩
theorem pairD_in {d : D} {p : Key × D} (h : pairD d = some p) : ∃ k, d = .tup [k, p.2] ∧ keyD k = some p.1 := by
  unfold pairD at h
  split at h
  · rename_i k v
    obtain ⟨kk, e, rfl⟩ := Option.map_eq_some_iff.mp h
    exact ⟨k, rfl, e⟩
  · cases h
theorem tup_in {F : Addr → Prop} {S : Sto} {H : Hp} {v : V} {ds : List D} (r : Rep X.K F S H v (.tup ds)) : ∃ a xs, v = .ref a ∧ SqT X.K H a xs ∧ RepL X.K F S H xs ds := by
  cases r with
  | tup hs rl => exact ⟨_, _, rfl, hs.sq, rl⟩
theorem two_in {F : Addr → Prop} {S : Sto} {H : Hp} {vs : List V} {a b : D} (r : RepL X.K F S H vs [a, b]) : ∃ u w, vs = [u, w] ∧ Rep X.K F S H u a ∧ Rep X.K F S H w b := by
  cases r with
  | cons r1 r2 => cases r2 with
    | cons r3 r4 => cases r4; exact ⟨_, _, rfl, r1, r3⟩
theorem pairs_rep {F : Addr → Prop} {S : Sto} {H : Hp} : ∀ (xs : List D) {vs : List V} {kvs : List (Key × D)}, RepL X.K F S H vs xs → pairsD xs = some kvs → ∃ ps gs, vs = ps.map V.ref ∧ Paired (fun p kv => SqT X.K H p [kV kv.1, kv.2]) ps gs ∧ RepK X.K F S H gs kvs := by
  intro xs
  induction xs with
  | nil =>
    intro vs kvs r e
    cases r
    cases (show some [] = some kvs from e)
    exact ⟨[], [], rfl, .nil, .nil⟩
  | cons d ds ih =>
    intro vs kvs r e
    cases r with
    | cons r rs =>
      obtain ⟨p, ep, e2⟩ := Option.bind_eq_some_iff.mp (show (pairD d).bind _ = some kvs from e)
      obtain ⟨rest, er, rfl⟩ := Option.map_eq_some_iff.mp e2
      obtain ⟨k, rfl, ek⟩ := pairD_in ep
      obtain ⟨a, us, rfl, hs, rl⟩ := tup_in r
      obtain ⟨u, w, rfl, ru, rw'⟩ := two_in rl
      obtain ⟨ps, gs, rfl, pp, rg⟩ := ih rs er
      have h1 := key_rep ru ek
      subst h1
      exact ⟨a :: ps, (p.1, w) :: gs, rfl, .cons hs pp, .cons ⟨rfl, rw'⟩ rg⟩
theorem merge_rep {F : Addr → Prop} {S : Sto} {H : Hp} {gs : List (Key × V)} {kvs : List (Key × D)} (r : RepK X.K F S H gs kvs) : ∀ {g0 : List (Key × V)} {k0 : List (Key × D)}, RepK X.K F S H g0 k0 → RepK X.K F S H (mergeK g0 gs) (kvs.foldl (fun acc p => kvPut acc p.1 p.2) k0) := by
  unfold RepK at r
  induction r with
  | nil => intro g0 k0 r0; exact r0
  | @cons p q ps qs h t ih =>
    intro g0 k0 r0
    obtain ⟨k, v⟩ := p
    obtain ⟨k2, d⟩ := q
    obtain ⟨h1, h2⟩ := h
    simp only at h1 h2
    subst h1
    exact ih (RepK.put r0 h2)
theorem intKs_rep {F : Addr → Prop} {S : Sto} {H : Hp} {gs : List (Key × V)} {kvs : List (Key × D)} (r : RepK X.K F S H gs kvs) : ∀ {ns : List Int}, intKs kvs = some ns → gs.map (·.1) = ns.map Sum.inl := by
  unfold RepK at r
  induction r with
  | nil => intro ns e; cases (show some [] = some ns from e); rfl
  | @cons p q ps qs h t ih =>
    intro ns e
    obtain ⟨k2, d⟩ := q
    cases k2 with
    | inl i =>
      obtain ⟨rest, er, rfl⟩ := Option.map_eq_some_iff.mp (show (intKs qs).map (i :: ·) = some ns from e)
      rw [List.map_cons, List.map_cons, ih er, h.1]
    | inr x => exact nomatch (show (none : Option (List Int)) = some ns from e)
theorem sE_dctP (O : COk X c cs) {a : E} {x : Expr} {p pos : Pos} (hg : c.gl "dict" = true) (hn : nst x = true) (ha : SndE X cs a x) : SndE X cs (.dctP a) (.Call (.Name "dict" p) [x] [] pos) := by
  intro F env S σ H Q R L h
  refine pex (pe_callTy (call_dictP O.calm) (O.gl hg) (O.blt "dict" (by decide +kernel)) (by decide +kernel) (pa_cons pe_x pa_nil (star_cons hn)) (by decide +kernel) (by decide +kernel) (star_cons hn) rfl) ?_
  refine wpx_mono (ha F env S σ H _ R L h) fun v H1 ⟨d1, S1, R1, r1, k1, h1⟩ => ?_
  obtain ⟨xs, e1, h2⟩ := wOpt_in h1
  obtain ⟨kvs, e2, q⟩ := wOpt_in h2
  obtain ⟨l, ys, rfl, hs, rl⟩ := lsr_rep R1 r1 e1
  obtain ⟨ps, gs, rfl, pp, rg⟩ := pairs_rep _ rl e2
  refine ⟨l, ps, gs, rfl, hs, pp, fun b hb => ?_⟩
  have k0 : Keep X.K S1 H1 (supd S1 b (.dct (putAllD kvs))) (upd H1 b (.dK (mergeK [] gs))) := keepNewM hb
  exact ⟨.ref b, _, R1.putN hb k0 (o := .dct (putAllD kvs)) ⟨_, upd_same, RepK.map (fun _ _ z => k0 _ _ z) (merge_rep rg .nil)⟩, .ref b, k1.trans k0, q b (R1.none hb)⟩
/-- a display: keys that are texts, from the left -/
def SndD (X : Cx) (cs : CS) (ks : List Str) (es : List E) (xs : List (Option Expr)) (ys : List Expr) (pos : Pos) : Prop := ∃ trs, PPs X pos xs ys trs ∧ ∀ (F : Addr → Prop) (env : En) (S : Sto) (σ : L2.St) (H : Hp) (P : List D → Sto → Prop) (W : List (V × V) → Hp → Prop), RelS X.K F S H → Rl X.K F S H env σ → wEs cs EX0 es env S P →
  (∀ ds S1 vs H1, RelS X.K F S1 H1 → RepL X.K F S1 H1 vs ds → Keep X.K S H S1 H1 → P ds S1 → W ((ks.zip vs).map fun p => (.str p.1, p.2)) H1) → tPairs trs σ H W
theorem sD_nil {pos : Pos} : SndD X cs [] [] [] [] pos := ⟨[], pps_nil, fun F env S σ H P W R L h g => g [] S [] H R .nil Keep.refl h⟩
theorem sD_cons {k : Str} {ks : List Str} {e : E} {es : List E} {j : Nat} {p pos : Pos} {y : Expr} {xs : List (Option Expr)} {ys : List Expr} (he : SndE X cs e y) (hs : SndD X cs ks es xs ys pos) : SndD X cs (k :: ks) (e :: es) (some (.Constant (.str k) j p) :: xs) (y :: ys) pos := by
  obtain ⟨trs, pp, g⟩ := hs
  refine ⟨_, pps_cons pe_str pe_x pp, fun F env S σ H P W R L h w => ?_⟩
  show wpx X y σ H fun u H2 => tPairs trs σ H2 fun ps H3 => W ((.str k, u) :: ps) H3
  refine wpx_mono (he F env S σ H _ R L h) fun v H1 ⟨d, S1, R1, r1, k1, h1⟩ => ?_
  exact g F env S1 σ H1 _ _ R1 (k1.env L) h1 fun ds S2 vs H2 R2 r2 k2 h2 => w (d :: ds) S2 (v :: vs) H2 R2 (.cons (k2 _ _ r1) r2) (k1.trans k2) h2
theorem zip_keys {F : Addr → Prop} {S : Sto} {H : Hp} : ∀ {ks : List Str} {vs : List V} {ds : List D}, RepL X.K F S H vs ds → RepK X.K F S H ((ks.map Sum.inr).zip vs) ((ks.map Sum.inr).zip ds)
  | [], _, _, _ => .nil
  | _ :: _, _, _, .nil => .nil
  | k :: ks, _, _, .cons r t => .cons ⟨rfl, r⟩ (zip_keys (ks := ks) t)
theorem sE_dctS {ks : List Str} {es : List E} {xs : List (Option Expr)} {ys : List Expr} {pos : Pos} (hs : SndD X cs ks es xs ys pos) (h1 : xs.all (·.isSome) = true) (h2 : xs.length = ys.length) (h3 : xs ≠ []) (h4 : ks.length ≤ 15) (h5 : xs.length ≤ 15) : SndE X cs (.dctS ks es) (.Dict xs ys pos) := by
  intro F env S σ H Q R L h
  obtain ⟨trs, pp, g⟩ := hs
  refine pex (pe_disp pp h1 h2 h3 h5) fun p hp => ?_
  have k0 : Keep X.K S H (supd S p (.dct [])) (upd H p (.dK [])) := keepNewM hp
  have R0 := R.putN hp k0 (o := .dct []) ⟨[], upd_same, .nil⟩
  refine g F env _ σ _ _ _ R0 (k0.env L) (h p (R.none hp)) fun ds S1 vs H1 R1 r1 k1 ⟨e2, q⟩ => ?_
  obtain ⟨gs, e3, rk⟩ := R1.at_ p _ e2
  cases rk
  have rz := zip_keys (X := X) (ks := ks) r1
  have hl : ((ks.map Sum.inr : List Key).zip vs).length ≤ 15 := by
    rw [List.length_zip, List.length_map]
    omega
  refine ⟨e3, (ks.map Sum.inr).zip vs, ?_, hl, ?_⟩
  · rw [List.zip_map_left, List.map_map]
    rfl
  have k2 : Keep X.K S1 H1 (supd S1 p (.dct (putAllD ((ks.map Sum.inr).zip ds)))) (upd H1 p (.dK (mergeK [] ((ks.map Sum.inr).zip vs)))) := keepMut R1 e2
  exact ⟨.ref p, _, R1.putM e2 k2 ⟨_, upd_same, RepK.map (fun _ _ z => k2 _ _ z) (merge_rep rz .nil)⟩, .ref p, (k0.trans k1).trans k2, q⟩
theorem sE_srtD (O : COk X c cs) {m : Bool} {a : E} {x : Expr} {p pos : Pos} (hg : c.gl "sorted" = true) (hn : nst x = true) (ha : SndE X cs a x) : SndE X cs (.srtD m a) (.Call (.Name "sorted" p) [x] [] pos) := by
  intro F env S σ H Q R L h
  refine pex (pe_callB (call_sortedDI O.calm) (O.gl hg) (O.blt "sorted" (by decide +kernel)) (by decide +kernel) (pa_cons pe_x pa_nil (star_cons hn)) (by decide +kernel) (by decide +kernel) (star_cons hn) rfl) ?_
  refine wpx_mono (ha F env S σ H _ R L h) fun v H1 ⟨d1, S1, R1, r1, k1, h1⟩ => ?_
  obtain ⟨l, kvs, rfl, e1, h2⟩ := wDct_in h1
  obtain ⟨ns, e2, h64, q⟩ := wOpt_in h2
  cases r1
  obtain ⟨gs, e3, rk⟩ := dct_rd R1 e1
  exact ⟨l, gs, ns, rfl, e3, intKs_rep rk e2, h64, fun zs b h1 h2 hb => PD.of k1 (PD.lst R1 hb (rep_mapI zs) (q zs h1 h2))⟩
/-- set(t), t a tuple of whole numbers: what is in it, so many as there may be -/
def rSetT (K : PySem.W.Frag) (w : World) : List V → Hp → VK → Prop := fun xs H Q => ∃ (l : Addr) (ns : List Int), xs = [.ref l] ∧ SqT K H l (ns.map V.int) ∧ ns.length ≤ 1000 ∧ ∀ p c, H p = none → Q (.ref p) (upd H p (SetO w p (fun j => decide (j ∈ ns)) c))
theorem its_ints : ∀ {ns : List Int} {us : List Value}, Vals (ns.map V.int) us → IntsAre us ns
  | [], _, r => by cases r; exact .nil
  | n :: ns, _, r => by
    cases r with
    | cons r1 r2 =>
      obtain ⟨k, rfl⟩ := r1
      exact .cons n k (its_ints r2)
theorem cr_setT (hc : X.calm = true) : CallR X (.type "set") (rSetT X.K X.w) := by
  intro pins s σ H xs us Q I r h
  obtain ⟨l, ns, rfl, hq, hl, q⟩ := h
  obtain ⟨u, rfl, ru⟩ := vals1 r
  cases ru
  obtain ⟨its, rv, pt, _⟩ := I.tuple hq
  exact call_set_tupI ns (I.ok.hd hc) pt (by simpa using its_ints rv) (by unfold scanBound; omega) fun h' tk c hS _ hk =>
    ⟨.ref _, upd H s.heap.objs.size (SetO X.w s.heap.objs.size (fun j => decide (j ∈ ns)) c), I.laid hk (Nat.le_refl _) (setO_new hS), rfl, q _ c (I.hok.fresh (Nat.le_refl _))⟩
/-- len(s), s such a set -/
def rLenS (w : World) : List V → Hp → VK → Prop := fun xs H Q => ∃ (a : Addr) (S : Int → Bool) (n : Nat), xs = [.ref a] ∧ H a = some (SetO w a S n) ∧ ∀ ks : List Int, ks.Nodup → (∀ k, S k = true ↔ k ∈ ks) → ks.length = n → Q (.int n) H
theorem cr_lenS : CallR X (.builtin "len") (rLenS X.w) := by
  intro pins s σ H xs us Q I r h
  obtain ⟨a, S, n, rfl, ha, q⟩ := h
  obtain ⟨u, rfl, ru⟩ := vals1 r
  cases ru
  obtain ⟨o, es, ep, t, ho, hex, hd, _, nd, hS, hb, hf, hn, _⟩ := setO_get I ha
  refine call_len_set ho hex hd hf (by unfold scanBound at hb; omega) ⟨.int n, H, I.tok _, ⟨_, by rw [hn]⟩, q _ nd hS (by rw [List.length_map, Array.length_toList, hn])⟩
/-- .. of pairs -/
def rLenP (K : PySem.W.Frag) (P : Program) (w : World) : List V → Hp → VK → Prop := fun xs H Q => ∃ (a : Addr) (L : List (Addr × List Int)), xs = [.ref a] ∧ H a = some (SetTO P w a L) ∧ (∀ p ∈ L, SqT K H p.1 (p.2.map V.int)) ∧ ((L.map (·.2)).Nodup → Q (.int L.length) H)
theorem cr_lenP : CallR X (.builtin "len") (rLenP X.K X.prog X.w) := by
  intro pins s σ H xs us Q I r h
  obtain ⟨a, L, rfl, ha, hk, q⟩ := h
  obtain ⟨u, rfl, ru⟩ := vals1 r
  cases ru
  have R0 : SetT0 X.prog X.w s.heap a L := (I.hok a _ ha).1
  obtain ⟨es, ep, t, R⟩ := R0.full fun p hp => I.isT (hk p hp)
  have hs := R.size
  have hf := R.few
  obtain ⟨o, ho, hex, hd⟩ := R.ob
  exact call_len_set ho hex hd R.fits (by omega) ⟨.int L.length, H, I.tok _, ⟨_, by rw [hs]⟩, q R.nd⟩
def rSet2 (X : Cx) : List V → Hp → VK → Prop := fun xs H Q => rSetT X.K X.w xs H Q ∨ rSetOfT X.K X.prog X.w xs H Q
theorem cr_set2 (hc : X.calm = true) (hu : X.A.units + 64 < cLine) : CallR X (.type "set") (rSet2 X) := by
  intro pins s σ H xs us Q I r h
  rcases h with h | h
  · exact cr_setT hc pins s σ H xs us Q I r h
  · exact cr_setOfT hc hu pins s σ H xs us Q I r h
def rLen2 (X : Cx) : List V → Hp → VK → Prop := fun xs H Q => rLenS X.w xs H Q ∨ rLenP X.K X.prog X.w xs H Q
theorem cr_len2 : CallR X (.builtin "len") (rLen2 X) := by
  intro pins s σ H xs us Q I r h
  rcases h with h | h
  · exact cr_lenS pins s σ H xs us Q I r h
  · exact cr_lenP pins s σ H xs us Q I r h
theorem ks_of {F : Addr → Prop} {S : Sto} {H : Hp} : ∀ {ys : List V} {ns : List (Int × Int)}, RepL X.K F S H ys (ns.map prD) → ∃ ks : List (Addr × List Int), ys = ks.map (fun p => V.ref p.1) ∧ (∀ p ∈ ks, SqT X.K H p.1 (p.2.map V.int)) ∧ ks.map (·.2) = ns.map fun p => [p.1, p.2]
  | _, [], .nil => ⟨[], rfl, fun p hp => by simp at hp, rfl⟩
  | _, n :: ns, .cons r t => by
    obtain ⟨ks, h1, h2, h3⟩ := ks_of t
    obtain ⟨a, rfl, ha⟩ := rep_pr r
    refine ⟨(a, [n.1, n.2]) :: ks, by rw [h1]; rfl, fun p hp => ?_, by rw [List.map_cons, h3]; rfl⟩
    rcases List.mem_cons.mp hp with rfl | hp
    · exact ha
    · exact h2 p hp
theorem sE_lset (O : COk X c cs) {a : E} {x : Expr} {p p2 q pos : Pos} (hg : c.gl "len" = true) (hg2 : c.gl "set" = true) (hn : nst x = true) (ha : SndE X cs a x) : SndE X cs (.lset a) (.Call (.Name "len" p) [.Call (.Name "set" p2) [x] [] q] [] pos) := by
  intro F env S σ H Q R L h
  have hu : X.A.units + 64 < cLine := Nat.lt_of_le_of_lt (by omega) O.hu
  refine pex (pe_callB cr_len2 (O.gl hg) (O.blt "len" (by decide +kernel)) (by decide +kernel) (pa_cons (pe_callTy (cr_set2 O.calm hu) (O.gl hg2) (O.blt "set" (by decide +kernel)) (by decide +kernel) (pa_cons pe_x pa_nil (star_cons hn)) (by decide +kernel) (by decide +kernel) (star_cons hn) rfl) pa_nil rfl) (by decide +kernel) (by decide +kernel) rfl rfl) ?_
  refine wpx_mono (ha F env S σ H _ R L h) fun v H1 ⟨d1, S1, R1, r1, k1, h1⟩ => ?_
  replace h1 : wLset d1 S1 Q := h1
  unfold wLset at h1
  split at h1
  · cases r1 with
    | @tup l vs xs hs rl =>
      obtain ⟨ns, e1, h3, q⟩ := wOpt_in h1
      obtain rfl := rep_ints rl e1
      refine .inl ⟨l, ns, rfl, hs.sq, h3, fun b n hb => ?_⟩
      refine .inl ⟨b, _, n, rfl, upd_same, fun ks nd hk hl => ?_⟩
      exact ⟨.int (n : Nat), S1, R1.new hb, .int _, k1.trans (keepNew hb), q n ⟨ks, nd, fun z => by rw [← hk]; simp, hl⟩⟩
  · obtain ⟨xs, e1, h2⟩ := wOpt_in h1
    obtain ⟨ns, e2, ⟨hnd, h64⟩, q⟩ := wOpt_in h2
    obtain ⟨l, ys, rfl, hs, rl⟩ := lsr_rep R1 r1 e1
    obtain rfl := asPrs_eq e2
    obtain ⟨ks, rfl, hk, e3⟩ := ks_of rl
    have lks : ks.length = ns.length := by
      have := congrArg List.length e3
      rw [List.length_map, List.length_map] at this
      exact this
    have ndk : (ks.map (·.2)).Nodup := by
      rw [e3]
      unfold List.Nodup
      rw [List.pairwise_map]
      exact List.Pairwise.imp (fun {a b} h z => h (by
        injection z with z1 z2
        injection z2 with z2 _
        exact Prod.ext z1 z2)) hnd
    refine .inr ⟨l, ks, rfl, hs, hk, by omega, fun b M hb hM1 hM2 => ?_⟩
    have kk : Keep X.K S1 H1 S1 (upd H1 b (SetTO X.prog X.w b M)) := keepNew hb
    obtain ⟨ks2, e4, hk2, e5⟩ := ks_of (kk.list rl)
    have e6 : ks2 = ks := by
      rw [← e3] at e5
      clear hk hk2 hM1 hM2 lks ndk e3 kk q hs rl
      induction ks generalizing ks2 with
      | nil =>
        cases ks2 with
        | nil => rfl
        | cons _ _ => cases e4
      | cons p ks ih =>
        cases ks2 with
        | nil => cases e4
        | cons p2 ks2 =>
          rw [List.map_cons, List.map_cons] at e4 e5
          injection e4 with f1 f2
          injection e5 with f3 f4
          injection f1 with f1
          rw [ih _ f2 f4, Prod.ext f1.symm f3]
    rw [e6] at hk2
    refine .inr ⟨b, M, rfl, upd_same, fun p hp => hk2 p (hM1 p hp), fun nd => ?_⟩
    have pm : (M.map (·.2)).Perm (ks.map (·.2)) := (List.perm_ext_iff_of_nodup nd ndk).mpr fun k => ⟨fun hk => by
      obtain ⟨p, hp, rfl⟩ := List.mem_map.mp hk
      exact List.mem_map.mpr ⟨p, hM1 p hp, rfl⟩, fun hk => by
      obtain ⟨p, hp, rfl⟩ := List.mem_map.mp hk
      exact hM2 p hp⟩
    have lM : M.length = ns.length := by
      have := pm.length_eq
      rw [List.length_map, List.length_map] at this
      omega
    rw [lM]
    exact ⟨.int (ns.length : Nat), S1, R1.new hb, .int _, k1.trans (keepNew hb), q⟩
theorem noSl_of {e : Expr} (h : nsl e = true) : NoSl e := plain_ix h
theorem sE_getD (O : COk X c cs) {d k : E} {x y : Expr} {pos : Pos} (hs : nsl y = true) (hd : SndE X cs d x) (hk : SndE X cs k y) : SndE X cs (.getD d k) (.Subscript x y pos) := by
  intro F env S σ H Q R L h
  have hu : X.A.units + 1 < cLine := Nat.lt_of_le_of_lt (by omega) O.hu
  refine pex (pe_dget hu pe_x pe_x (noSl_of hs)) ?_
  refine wpx_mono (hd F env S σ H _ R L h) fun v H1 ⟨d1, S1, R1, r1, k1, h1⟩ => ?_
  refine wpx_mono (hk F env S1 σ H1 _ R1 (k1.env L) h1) fun u H2 ⟨d2, S2, R2, r2, k2, h2⟩ => ?_
  obtain ⟨a, kvs, rfl, e1, h3⟩ := wDct_in h2
  obtain ⟨kk, e2, h4⟩ := wOpt_in h3
  obtain ⟨z, e4, q⟩ := wOpt_in h4
  cases r1
  obtain ⟨gs, e3, rk⟩ := dct_rd R2 e1
  obtain rfl := key_rep r2 e2
  obtain ⟨w, e5, rw'⟩ := (RepK.get rk).1 z e4
  exact ⟨a, w, rfl, by have := dgetR (k := kk) e3; rw [e5] at this; exact this, PD.of (k1.trans k2) (PD.same R2 rw' q)⟩
theorem sE_getOr (O : COk X c cs) {d k z : E} {x y w : Expr} {ap cp : Pos} (hc : ncl x = true) (hn : nst y = true) (hn2 : nst w = true) (hl : (ap.endLine == cp.line) = true) (hd : SndE X cs d x) (hk : SndE X cs k y) (hz : SndE X cs z w) :
    SndE X cs (.getOr d k z) (.Call (.Attribute x "get" ap) [y, w] [] cp) := by
  intro F env S σ H Q R L h
  have hu : X.A.units + 1 < cLine := Nat.lt_of_le_of_lt (by omega) O.hu
  have hs : nsts [y, w] = true := by show (nst y && (nst w && true)) = true; rw [hn, hn2]; rfl
  have m2 : M2 X x "get" ap y w cp := ⟨base_of hc, few hs (by show 2 + 0 + 0 < 30; decide), hl, by rw [star_cons hn, star_cons hn2]; rfl⟩
  refine pex (pe_dget2 hu pe_x pe_x pe_x m2) ?_
  refine wpx_mono (hd F env S σ H _ R L h) fun v H1 ⟨d1, S1, R1, r1, k1, h1⟩ => ?_
  obtain ⟨a, kvs, rfl, e1, h1⟩ := wDct_in h1
  cases r1
  obtain ⟨gs, e3, rk⟩ := dct_rd R1 e1
  refine ⟨a, rfl, .inl ⟨gs, e3⟩, ?_⟩
  refine wpx_mono (hk F env S1 σ H1 _ R1 (k1.env L) h1) fun u H2 ⟨d2, S2, R2, r2, k2, h2⟩ => ?_
  refine wpx_mono (hz F env S2 σ H2 _ R2 ((k1.trans k2).env L) h2) fun u3 H3 ⟨d3, S3, R3, r3, k3, h3⟩ => ?_
  obtain ⟨a', kvs, e0, e1, h3⟩ := wDct_in h3
  cases e0
  obtain ⟨kk, e2, q⟩ := wOpt_in h3
  obtain ⟨gs, e3, rk⟩ := dct_rd R3 e1
  obtain rfl := key_rep (k3 _ _ r2) e2
  refine ⟨_, dgetR e3, PD.of ((k1.trans k2).trans k3) ?_⟩
  cases e5 : kvGet kvs kk with
  | none =>
    rw [(RepK.get rk).2 e5]
    rw [e5] at q
    exact PD.same R3 r3 q
  | some z =>
    obtain ⟨w, e6, rw'⟩ := (RepK.get rk).1 z e5
    rw [e6]
    rw [e5] at q
    exact PD.same R3 rw' q
end
end Z
set_option Elab.async false
set_option linter.all false
set_option maxRecDepth 100000
set_option maxHeartbeats 4000000
/-! Z56: sorted(xs, key=lambda x: (t[x], x)). -/
namespace Z
open PySem PySem.Spec PyProof.Rows L2 SrtO
/-- a value's whole number -/
def numV : Value → Int
  | .int i _ => i
  | _ => 0
/-- the pair by which it is sorted -/
def keyP (ts : List Int) (v : Value) : Int × Int := (ts.getD (numV v).toNat 0, numV v)
theorem ints_num {us : List Value} {ns : List Int} (h : IntsAre us ns) : us.map numV = ns := by
  induction h with
  | nil => rfl
  | cons n t _ ih => rw [List.map_cons, ih]; rfl
theorem ints_of_all {us : List Value} (h : ∀ u ∈ us, ∃ n t, u = Value.int n t) : IntsAre us (us.map numV) := by
  have q := intsAre_ofList us h
  rw [ints_num q]
  exact q
theorem byKey_ints {ts ns : List Int} {us out : List Value} (hi : IntsAre us ns) (B : ByKey (keyP ts) us out) : IntsAre out (out.map numV) ∧ (out.map numV).Perm ns ∧ (out.map numV).Pairwise (lexLe ts) := by
  refine ⟨ints_of_all fun u hu => hi.all u (B.1.mem_iff.mp hu), ?_, ?_⟩
  · have := B.1.map numV
    rw [ints_num hi] at this
    exact this
  · rw [List.pairwise_map]
    refine B.2.imp fun {u v} e => ?_
    have n : ¬ lexB (keyP ts v) (keyP ts u) = true := by rw [e]; exact Bool.false_ne_true
    rw [lexB_iff] at n
    unfold lexLe
    simp only [keyP] at n
    omega
/-- one name, nothing else -/
def oneParam : Arguments → Option Str
  | ⟨[], [⟨x, none, _⟩], none, [], [], none, []⟩ => if x = "house" then some "house" else none
  | _ => none
theorem one_bind {params : Arguments} {x : Str} (h : oneParam params = some x) (body : Expr) (scope : Scope) (qual : Str) (cl : List (Str × Addr)) (pm cv ct v : Value) : bindArgs (PySem.W.kla_fn "<lambda>" qual params body scope cl pm cv ct) ⟨[v], []⟩ = pure [(x, v)] := by
  unfold oneParam at h
  split at h
  · split at h
    · rename_i e
      subst e
      cases h
      rfl
    · cases h
  · cases h
theorem one_def {params : Arguments} {x : Str} (h : oneParam params = some x) (env : Env) : defaultsOf params env = ([], []) := by
  unfold oneParam at h
  split at h
  · split at h
    · rename_i e
      subst e
      cases h
      rfl
    · cases h
  · cases h
/-- the lambda's names -/
def lamOk (params : Arguments) (scope : Scope) (t x : Str) : Bool :=
  decide (oneParam params = some x) && decide (scope.kind = .function) && !scope.isCoroutine && !scope.isGenerator && decide (scope.names.lookup x = some .local) && decide (scope.names.lookup t = some .free) &&
    (scope.names.all fun y => !decide (y.2 = .cell) && (!decide (y.2 = .free) || decide (y.1 = t))) && !dbg t && !dbg x
theorem lamTX_of {params : Arguments} {scope : Scope} {t x : Str} {p1 p2 p3 p4 p5 : Pos} {kk : Nat} (h : lamOk params scope t x = true) : LamTX params (.Tuple [.Subscript (.Name t p1) (.Name x p2) p3, .Name x p4] kk p5) scope t x ∧ (∀ y ∈ scope.names, y.2 = .free → y.1 = t) ∧ oneParam params = some x := by
  unfold lamOk at h
  simp only [Bool.and_eq_true, decide_eq_true_eq, Bool.not_eq_true', List.all_eq_true, Bool.or_eq_true, decide_eq_false_iff_not] at h
  obtain ⟨⟨⟨⟨⟨⟨⟨⟨h1, h2⟩, h3⟩, h4⟩, h5⟩, h6⟩, h7⟩, h8⟩, h9⟩ := h
  exact ⟨⟨⟨p1, p2, p3, p4, p5, kk, rfl⟩, h2, h3, h4, h5, h6, fun y hy => (h7 y hy).1, ⟨dbg1 h8, dbg2 h8⟩, dbg1 h9, one_bind h1 _ _⟩, fun y hy e => (h7 y hy).2.elim (fun z => absurd e z) id, h1⟩
section
variable {X : Cx} {c : Ctx} {cs : CS}
/-- what is asked of the list, of what is captured, of the heap behind -/
def AskK (K : PySem.W.Frag) (t : Nat) (σ : L2.St) (Q : VK) (v : V) (H1 : Hp) : Prop := ∃ (l ta : Addr) (ns ts : List Int), v = .ref l ∧ SqL K H1 l (ns.map .int) ∧ σ[t]? = some (some (.ref ta)) ∧ SqT K H1 ta (ts.map .int) ∧ (∀ n ∈ ns, 0 ≤ n ∧ n < ts.length) ∧ TabZ K H1 ∧
    ∀ H2, LamX.ExtN H1 H2 → TabZ K H2 → ∀ zs : List Int, zs.Perm ns → zs.Pairwise (lexLe ts) → ∀ d, H2 d = none → Q (.ref d) (upd H2 d (.lst (zs.map .int)))
theorem sE_sortK (O : COk X c cs) {m : Bool} {a : E} {t : Nat} {tn xn : Str} {x : Expr} {params : Arguments} {scope : Scope} {p p1 p2 p3 p4 p5 lpos kpos pos : Pos} {kk : Nat} (hl : c.lam = true) (hg : c.gl "sorted" = true) (hn : nst x = true) (hN : c.N[t]? = some tn) (hcell : c.sc.names.lookup tn = some .cell)
    (hL : lamOk params scope tn xn = true) (ha : SndE X cs a x) : SndE X cs (.sortK m a t) (.Call (.Name "sorted" p) [x] [⟨some "key", .Lambda params (.Tuple [.Subscript (.Name tn p1) (.Name xn p2) p3, .Name xn p4] kk p5) scope lpos, kpos⟩] pos) := by
  intro F env S σ H Q R L h
  obtain ⟨LT, free, one⟩ := lamTX_of (p1 := p1) (p2 := p2) (p3 := p3) (p4 := p4) (p5 := p5) (kk := kk) hL
  obtain ⟨cc, P, hcode, hT, TB, hq, hroom⟩ := O.lam hl
  have hmg := O.blt "sorted" (by decide +kernel)
  have visT : X.env.scope.names.lookup tn = some .cell := by rw [O.sc]; exact hcell
  -- what is asked of the list and of what is captured
  refine ⟨fun σ H Q => wpx X x σ H (AskK X.K t σ Q), ⟨fun pins s σ H Q I h => ?_⟩, ?_⟩
  · refine wpAny_Call_Name_kw (ld_blt I (O.gl hg) hmg (by decide +kernel : bootBuiltins "sorted" = some (.builtin "sorted")) ?_ (by decide +kernel) (by decide +kernel))
    refine callWith_kw (thn ((pa_cons pe_x pa_nil (star_cons hn)).run pos pins s σ H (fun vs H1 => ∃ v, vs = [v] ∧ AskK X.K t σ Q v H1) I (wpx_mono h fun v H1 q => ⟨v, rfl, q⟩)) fun us s1 ⟨vs, H1, I1, r1, v, e1, l, ta, ns, ts, e2, hs, ht, hst, hb, tz, q⟩ => ?_) (by rw [star_cons hn]; rfl) (star_any (by show (nst x && true) = true; rw [hn]; rfl)) rfl rfl
    subst e1 e2
    obtain ⟨u, rfl, ru⟩ := r1.one
    cases ru
    have tabs : LamX.Tabs [(P, X.env.qual ++ "<lambda>")] H1 := fun z hz => by
      rw [List.mem_singleton.mp hz]
      have := tz cc P hT
      rw [hq]
      exact this
    have hfree : ∀ y ∈ scope.names, y.2 = .free → ∃ c, X.env.cells.lookup y.1 = some c := fun y hy e => by
      rw [free y hy e]
      exact I1.ok.has tn (.inl visT)
    refine wpAny_evalAll_cons (wpAny_bind (LamX.lam_make2 I1 TB hcode (List.mem_singleton.mpr rfl) (fun z hz _ => by rw [List.mem_singleton.mp hz]) tabs (one_def one _) hfree fun f c' pm ctv H2 s2 I2 eN T2 hf hfn hfr hco => wpAny_bind (wpAny_standAt (wpAny_pure (wpAny_evalAll_nil ?_)))))
    -- the list, the tuple as they stand
    have hs2 : SqL X.K H2 l (ns.map .int) := by
      rcases hs with (hs | ⟨o, hs⟩) | hs
      · exact .inl (.inl (eN _ _ hs fun _ z => nomatch z))
      · exact .inl (.inr ⟨o, eN _ _ hs fun _ z => nomatch z⟩)
      · exact .inr hs
    have ht2 : SqT X.K H2 ta (ts.map .int) := by
      rcases hst with (hs | ⟨o, hs⟩) | hs
      · exact .inl (.inl (eN _ _ hs fun _ z => nomatch z))
      · exact .inl (.inr ⟨o, eN _ _ hs fun _ z => nomatch z⟩)
      · exact .inr hs
    have tz2 : TabZ X.K H2 := fun c0 P0 e0 => by
      rw [hT] at e0
      cases e0
      have := T2 _ (List.mem_singleton.mpr rfl)
      rw [hq] at this
      exact this
    obtain ⟨its, ri, pl, hz⟩ := I2.list hs2
    obtain ⟨jts, rj, tp, hz2⟩ := I2.tuple ht2
    have hi := ri.ints
    have hj := rj.ints
    have lim := sz
    -- the captured name's cell
    obtain ⟨mm, _, hlk⟩ := I2.loc
    obtain ⟨u', ru, lk⟩ := hlk t tn (.ref ta) (by rw [O.N]; exact hN) ht (.inr (.inl visT))
    cases ru
    obtain ⟨cl, hc1, hc2⟩ : ∃ cl, X.env.cells.lookup tn = some cl ∧ s2.heap.IsCell cl (some (.ref ta)) := by
      rcases lk with ⟨z, _⟩ | ⟨_, cl, z1, z2⟩
      · have z : X.env.scope.names.lookup tn = some .local := z
        rw [visT] at z
        cases z
      · exact ⟨cl, z1, z2⟩
    have hrec : s2.heap.CodeRec (.ref c') (X.env.qual ++ "<lambda>") := by
      obtain ⟨⟨oc, vs, t, h1, h2, h3⟩, _, _⟩ := I2.hok c' _ hco
      exact ⟨c', oc, vs, t, rfl, h1, h2, h3⟩
    refine sorted_by (k := keyP ts) pl.isList (by rw [← ri.length]; exact hz) (fun v hv => ?_) fun h' tk d out c g le hd B => ?_
    · obtain ⟨i, tok, rfl⟩ := hi.all v hv
      have him : i ∈ ns := by
        rw [← ints_num hi]
        exact List.mem_map.mpr ⟨_, hv, rfl⟩
      obtain ⟨b0, b1⟩ := hb i him
      have hlt : ts.length = jts.length := by rw [← ints_num hj, List.length_map]
      rw [List.length_map] at hz2
      have hget : jts[i.toNat]? = some jts[i.toNat] := List.getElem?_eq_getElem (by omega)
      obtain ⟨j, uj, ej⟩ := hj.all jts[i.toNat] (List.getElem_mem _)
      have e3 : ts.getD i.toNat 0 = j := by
        rw [← ints_num hj, List.getD_eq_getElem?_getD, List.getElem?_map, hget, ej]
        rfl
      have := lam_key (A := X.A.in1.in1) (prog := X.prog) (w := X.w) (i := i) (u := tok) (n := i.toNat) (j := j) (uj := uj) LT hf hrec (show X.A.depth < recursionLimit from hroom) I2.nolimit (NdefX.clo_has hfree (PySem.mem_of_lookup LT.fre) hc1) hc2 tp ⟨b0, by omega⟩ (seqIndex_of b0 (by rw [List.size_toArray]; omega)) (by rw [List.getElem?_toArray, hget, ej])
      show KeyOf X.prog X.w X.A.in1.in1 (.ref f) s2.heap (.int i tok) (ts.getD i.toNat 0, i)
      rw [e3]
      exact this
    · obtain ⟨k1, k2, k3⟩ := byKey_ints hi B
      have hlen : ((out.toList.map numV).map V.int).length ≤ sizeLine := by
        rw [List.length_map, k2.length_eq]
        rw [List.length_map] at hz
        exact hz
      refine ⟨.ref d, upd H2 d (.lst ((out.toList.map numV).map V.int)), I2.laid (t' := tk) g le ⟨hlen, out.toList, c, vals_of_ints k1, ?_⟩, rfl, q H2 eN tz2 _ k2 k3 d (I2.hok.fresh le)⟩
      rw [Array.toArray_toList]
      exact hd
  · refine wpx_mono (ha F env S σ H _ R L h) fun v H1 ⟨d, S1, R1, r1, k1, h1⟩ => ?_
    cases e : env[t]? with
    | none => rw [e] at h1; exact h1.elim
    | some o =>
      rw [e] at h1
      cases o with
      | none => exact h1.elim
      | some y =>
        obtain ⟨tv, e1, rt⟩ := L.at_ t y e
        have rt := k1 _ _ rt
        have h1 : wSortK m d y S1 Q := h1
        unfold wSortK at h1
        split at h1
        · rename_i td
          obtain ⟨xs, e2, h1⟩ := wOpt_in h1
          obtain ⟨ns, e3, h1⟩ := wOpt_in h1
          obtain ⟨ts, e4, hb, q⟩ := wOpt_in h1
          obtain ⟨l, ws, rfl, hs, rl⟩ := lsr_rep R1 r1 e2
          cases rt with
          | @tup ta vs _ hst rtl =>
            rw [rep_ints rl e3] at hs
            have hst := hst.sq
            rw [rep_ints rtl e4] at hst
            refine ⟨l, ta, ns, ts, rfl, hs, e1, hst, hb, R1.tab, fun H2 eN tz zs z1 z2 p hp => ?_⟩
            -- the heap's tables alone are otherwise
            have k2 : Keep X.K S1 H1 S1 H2 := ⟨fun b xs e => eN _ _ e (fun _ z => nomatch z), fun b o u e => eN _ _ e (fun _ z => nomatch z), fun b xs e _ => eN _ _ e (fun _ z => nomatch z), fun b _ e _ _ => e, fun b o e t => ⟨o, eN _ _ e (fun _ z => by subst z; cases t), t⟩⟩
            have R2 : RelS X.K F S1 H2 := ⟨fun b o e => by
              obtain ⟨u, hu⟩ : ∃ u, H1 b = some u := by
                cases q : H1 b with
                | none => rw [R1.none q] at e; cases e
                | some u => exact ⟨u, rfl⟩
              exact RO.keep k2 (by rw [hu]; exact eN _ _ hu fun ps z => by subst z; exact (R1.pl e).1 _ hu) (R1.at_ b o e), fun b f => by
                obtain ⟨⟨xs, e⟩, n⟩ := R1.hid b f
                exact ⟨⟨xs, eN _ _ e (fun _ z => nomatch z)⟩, n⟩, tz⟩
            exact PD.of (k1.trans k2) (PD.lst R2 hp (rep_mapI zs) (q zs z1 z2))
        · exact h1.elim
end
end Z
set_option Elab.async false
set_option linter.all false
set_option maxRecDepth 100000
set_option maxHeartbeats 4000000
/-! Z57: a tuple from behind: t[::-1]. -/
namespace Z
open PySem PySem.Spec PyProof.Rows L2 HT
section
variable {prog : Program} {w : World} {A : Around} {E : Value → Shared → Prop} {s : Shared}
/-- from the last place to the first one -/
theorem back_span (n : Nat) : Builtin.Slice.sliceAdjust none none (-1) (n : Int) = ((n : Int) - 1, -1) ∧ Builtin.Slice.slicePlaces ((n : Int) - 1) (-1) (-1) = n := by
  refine ⟨rfl, ?_⟩
  unfold Builtin.Slice.slicePlaces
  rw [if_neg (by decide), show -(-1 : Int) = 1 from rfl, Int.ediv_one]
  split <;> omega
theorem back_items (xs : Array Value) : ((List.range xs.size).filterMap fun (k : Nat) => xs[((xs.size : Int) - 1 + (k : Int) * (-1)).toNat]?).toArray = xs.toList.reverse.toArray := by
  congr 1
  have e : ∀ k ∈ List.range xs.size, xs[((xs.size : Int) - 1 + (k : Int) * (-1)).toNat]? = some (xs.toList.reverse.getD k .none) := fun k hk => by
    have hk := List.mem_range.mp hk
    rw [show ((xs.size : Int) - 1 + (k : Int) * (-1)).toNat = xs.size - 1 - k by omega, List.getD_eq_getElem?_getD, List.getElem?_reverse (by rw [Array.length_toList]; exact hk), Array.getElem?_toList, Array.length_toList, Array.getElem?_eq_getElem (by omega)]
    rfl
  have all : ∀ l : List Nat, (∀ k ∈ l, xs[((xs.size : Int) - 1 + (k : Int) * (-1)).toNat]? = some (xs.toList.reverse.getD k .none)) → (l.filterMap fun (k : Nat) => xs[((xs.size : Int) - 1 + (k : Int) * (-1)).toNat]?) = l.map fun k => xs.toList.reverse.getD k .none := fun l => by
    induction l with
    | nil => intro _; rfl
    | cons k l ih =>
      intro h
      rw [List.filterMap_cons, h k (List.mem_cons_self ..), List.map_cons, ih fun j hj => h j (List.mem_cons_of_mem _ hj)]
  rw [all _ e]
  apply List.ext_getElem?
  intro k
  rw [List.getElem?_map]
  by_cases z : k < xs.size
  · rw [List.getElem?_range z]
    show some (xs.toList.reverse.getD k .none) = _
    rw [List.getD_eq_getElem?_getD, List.getElem?_eq_getElem (show k < xs.toList.reverse.length by rw [List.length_reverse, Array.length_toList]; exact z)]
    rfl
  · rw [List.getElem?_eq_none (by rw [List.length_range]; omega), List.getElem?_eq_none (by rw [List.length_reverse, Array.length_toList]; omega)]
    rfl
theorem back_applied {sl : Addr} {u : Tok} {n : Nat} {Q : Int × Int × Nat → Shared → Prop} (hs : s.heap.IsSliceOf sl .none .none (.int (-1) u)) (h : Q ((n : Int) - 1, -1, n) s) :
   wpAny (model prog w) A (Builtin.Slice.sliceApplied (.ref sl) (pure (n : Int))) Q E s := by
  obtain ⟨o, ho, _, hd⟩ := hs
  have three : ∀ {R : Value × Value × Value → Shared → Prop}, R (.none, .none, .int (-1) u) s → wpAny (model prog w) A (Builtin.Slice.sliceFields (.ref sl)) R E s := fun r =>
    wpAny_bind (wpAny_field ho hd rfl (wpAny_bind (wpAny_field ho hd rfl (wpAny_bind (wpAny_field ho hd rfl (wpAny_pure r))))))
  have last : ∀ {R : Int × Int × Nat → Shared → Prop}, R ((n : Int) - 1, -1, n) s → wpAny (model prog w) A (pure ((n : Int) - 1, (-1 : Int), Builtin.Slice.slicePlaces ((n : Int) - 1) (-1) (-1))) R E s := fun r =>
    wpAny_pure (by rw [(back_span n).2]; exact r)
  exact wpAny_bind (three (wpAny_bind (slicePart_int (wpAny_bind (slicePart_none (wpAny_bind (slicePart_none (wpAny_bind (wpAny_pure (last h))))))))))
/-- a tuple from behind -/
theorem back_tuple {t sl : Addr} {items : Array Value} {u : Tok} {Q : Value → Shared → Prop} (ht : IsTup s.heap t items) (hs : s.heap.IsSliceOf sl .none .none (.int (-1) u)) (hz : items.size ≤ sizeLine)
   (q : Q (.ref s.heap.objs.size) { s with heap := s.heap.push { cls := .type "tuple", data := .seq items.toList.reverse.toArray } }) : wpAny (model prog w) A (getItem (.ref t) (.ref sl)) Q E s := by
  have fits : sizeOk (.seq items.toList.reverse.toArray) := by
    show items.toList.reverse.toArray.size ≤ sizeLine
    rw [List.size_toArray, List.length_reverse, Array.length_toList]
    exact hz
  have isSl : s.TypeIs (.ref sl) "slice" := by
    obtain ⟨o, ho, hc, _⟩ := hs
    exact ⟨o, ho, hc⟩
  unfold getItem
  refine wpAny_holding (wpAny_bind (wpAny_sequenceKey ht.typeIs (by decide) (wpAny_bind (wpAny_callSpecial?_slot (name := Str.ofString "__getitem__") ht.typeIs PyProof.Rows.slot_tuple_getitem (wpAny_call_entry PyProof.Rows.slot_tuple_getitem ht.typeIs PyProof.Rows.entry_tuple_getitem ?_ (PyProof.Rows.args_tuple_getitem _ _))))))
  have body : wpAny (model prog w) A.in1 (Builtin.«tuple.__getitem__» ⟨[.ref t, .ref sl], []⟩) (fun f s' => ∃ v, f = .done (.ret v) ∧ Q v s') E s := by
    refine (show wpAny (model prog w) A.in1 (Builtin.Tuple.tupleItemsOf (.ref t) >>= fun xs => _) _ _ _ from wpAny_bind (tupleItemsOf_ ht (wpAny_bind (wpAny_typeOf isSl ?_))))
    rw [if_pos (by decide)]
    refine wpAny_bind (back_applied hs ?_)
    have no : ¬ (((items.size : Int) - 1 == 0 && (-1 : Int) == 1 && items.size == items.size) = true) := by simp
    refine (show wpAny (model prog w) A.in1 (if (((items.size : Int) - 1 == 0 && (-1 : Int) == 1 && items.size == items.size) = true) then _ else _) _ _ _ from ?_)
    rw [if_neg no, back_items]
    have made : ∀ {R : Value → Shared → Prop}, R (.ref s.heap.objs.size) { s with heap := s.heap.push { cls := .type "tuple", data := .seq items.toList.reverse.toArray } } → wpAny (model prog w) A.in1 (Builtin.Tuple.tupleExact items.toList.reverse.toArray) R E s := fun r => wpAny_newObj_type r fits
    exact wpAny_bind (m := Builtin.Tuple.tupleExact _) (made (wpAny_pure ⟨_, rfl, q⟩))
  exact wpAny_mono body (fun f s' ⟨v, e, h⟩ => ⟨v, e, wpAny_pure h⟩) fun _ _ h => h
end
/-- t[::-1] -/
def tBackT (K : PySem.W.Frag) (te : TE) : TE := fun σ H Q => te σ H fun x H1 => ∃ a xs, x = .ref a ∧ SqT K H1 a xs ∧ ∀ p, H1 p = none → Q (.ref p) (upd H1 p (.tup xs.reverse))
theorem pe_backT {X : Cx} {e : Expr} {te : TE} {k : Nat} {p1 p2 p3 pos : Pos} (he : PE X e te) : PE X (.Subscript e (.Slice none none (some (.UnaryOp .USub (.Constant (.int 1) k p1) p2)) p3) pos) (tBackT X.K te) := by
  have part : PO X (some (.UnaryOp .USub (.Constant (.int 1) k p1) p2)) (tPart (tUn (rU fun i => .int (-i)) (tC (.int 1)))) := po_some (pe_un un_neg pe_int)
  constructor
  intro pins s σ H Q I h
  apply Subscript_
  refine thn (he.run pins s σ H _ I h) ?_
  rintro v s1 ⟨_, H1, I1, r1, a, xs, rfl, hx, q⟩
  cases r1
  apply wpAny_Slice
  rw [evalPart_none]
  refine wpAny_pure ?_
  refine wpAny_pure ?_
  refine thn (part.run pins s1 σ H1 (fun o H2 => o = some (-1) ∧ H2 = H1) I1 ⟨1, rfl, -1, rfl, rfl, rfl⟩) ?_
  rintro vs s2 ⟨_, _, I2, ps, rfl, rfl⟩
  cases ps with
  | int _ u =>
    have kept := I2.kept (h' := s2.heap.push { cls := .type "slice", data := .fields #[.none, .none, .int (-1) u] }) (t' := s2.toks) fun _ _ z => Heap.get?_push_of_some _ z
    obtain ⟨its, r, ht, hz⟩ := kept.tuple hx
    have room : its.toArray.size ≤ sizeLine := by
      rw [List.size_toArray, ← r.length]
      exact hz
    refine tail_any (ops := [.ref a, .ref s2.heap.objs.size]) ht.typeIs PyProof.Rows.slot_tuple_getitem.lookup (back_tuple ht (Heap.IsSliceOf.new ..) room ?_) (by with_unfolding_all rfl)
    have new := kept.hok.fresh (Nat.le_refl _)
    refine ⟨.ref _, _, kept.laid (t' := s2.toks) (o := .tup xs.reverse) (fun _ _ z => Heap.get?_push_of_some _ z) (Nat.le_refl _) ?_, rfl, q _ new⟩
    exact ⟨by rw [List.length_reverse]; exact hz, _, r.reverse, IsTup.new _ _⟩
section
variable {X : Cx} {cs : CS}
theorem sE_rvt {a : E} {x : Expr} {k : Nat} {p1 p2 p3 pos : Pos} (ha : SndE X cs a x) : SndE X cs (.rvt a) (.Subscript x (.Slice none none (some (.UnaryOp .USub (.Constant (.int 1) k p1) p2)) p3) pos) := by
  intro F env S σ H Q R L h
  refine pex (pe_backT pe_x) ?_
  refine wpx_mono (ha F env S σ H _ R L h) fun v H1 ⟨d, S1, R1, r1, k1, h1⟩ => ?_
  cases r1 with
  | tup hs rl =>
    exact ⟨_, _, rfl, hs.sq, fun p hn => PD.of k1 (PD.tup R1 hn rl.reverse h1)⟩
  | _ => exact h1.elim
end
end Z
set_option Elab.async false
set_option linter.all false
set_option maxRecDepth 100000
set_option maxHeartbeats 4000000
/-! Z6: what the trees say holds of the model: targets, what is walked, comprehensions, statements. -/
namespace Z
open PySem PySem.Spec PyProof.Rows L2
/-! ### lists (false) and tuples (true) alike -/
def SqA (K : PySem.W.Frag) (H : Hp) (a : Addr) (xs : List V) : Bool → Prop
  | true => SqT K H a xs
  | false => SqL K H a xs
def StA (h : Heap) (a : Addr) (its : Array Value) : Bool → Prop
  | true => h.IsTuple a its
  | false => h.IsList a its
def AtA (h : Heap) (it a : Addr) (i : Nat) : Bool → Prop
  | true => h.IsTupleIter it a i
  | false => h.IsListIter it a i
def obA (a : Addr) : Bool → Obj
  | true => { cls := .type "tuple_iterator", data := .fields #[.ref a, .int 0 0] }
  | false => { cls := .type "list_iterator", data := .fields #[.ref a, .int 0 0] }
theorem begA (t : Bool) (a : Addr) (its : Array Value) : Begins (.ref a) (obA a t) fun h => StA h a its t := match t with
  | true => begins_tuple a its
  | false => begins_list a its
theorem drwA {prog : Program} {w : World} {A : Around} (hh : A.handled = none) (t : Bool) {it a : Addr} (hne : a ≠ it) (its : Array Value) : Draws prog w A it [it, a] its.size (fun i v => its[i]? = some v) (fun i h => AtA h it a i t ∧ StA h a its t) := match t with
  | true => Draws.tuple hh it a hne its
  | false => Draws.list hh it a hne its
theorem atA_new {h : Heap} {it a : Addr} : ∀ {t : Bool}, h.get? it = some (obA a t) → AtA h it a 0 t
  | true, e => ⟨_, e, rfl, rfl⟩
  | false, e => ⟨_, e, rfl, rfl⟩
theorem atA_obj {h : Heap} {it a : Addr} {i : Nat} : ∀ {t : Bool}, AtA h it a i t → ∃ o, h.get? it = some o ∧ ∀ v, o.data ≠ .cell v
  | true, ⟨o, e, _, d⟩ => ⟨o, e, fun v z => by rw [d] at z; cases z⟩
  | false, ⟨o, e, _, d⟩ => ⟨o, e, fun v z => by rw [d] at z; cases z⟩
theorem atA_keep {h h' : Heap} {it a : Addr} {i : Nat} (k : ∀ o, h.get? it = some o → h'.get? it = some o) : ∀ {t : Bool}, AtA h it a i t → AtA h' it a i t
  | true, x => x.at k
  | false, x => x.at k
section
variable {X : Cx} {pins : List (Addr × Obj)} {σ : L2.St} {H : Hp} {s : Shared} {a : Addr} {xs ys : List V}
theorem sqA_its (I : Inv X pins σ H s) : ∀ {t : Bool}, SqA X.K H a xs t → ∃ its : List Value, Vals xs its ∧ StA s.heap a its.toArray t ∧ a < s.heap.objs.size
  | true, h => let ⟨its, r, p, _⟩ := I.tuple h; ⟨its, r, p, let ⟨_, e, _⟩ := p; Heap.lt_size e⟩
  | false, h => let ⟨its, r, p, _⟩ := I.list h; ⟨its, r, p.isList, p.lt⟩
theorem sqA_inj (I : Inv X pins σ H s) : ∀ {t : Bool}, SqA X.K H a xs t → SqA X.K H a ys t → xs = ys
  | true, h, g => I.tuple_inj h g
  | false, h, g => I.list_inj h g
end

/-! ### an iterator of the library's, that tells new tuples, as one of ours -/
/-- what it tells at a turn, by what stands in the heap -/
def TurnsBy (P : Program) (w : World) (K : PySem.W.Frag) (J : It) (wr : List Addr) (e : Addr) (tn : Nat → Heap → Prop) : Prop :=
  ∀ X : Cx, X.prog = P → X.w = w → X.K = K → X.calm = true → ∀ (i : Nat) (pins : List (Addr × Obj)) (s : Shared) (σ : L2.St) (H : Hp), Inv X pins σ H s → tn i s.heap → J.go i H ∨ J.stop i H →
    ∃ (n : Nat) (fp : List Addr) (Pt : Nat → Array Value → Prop) (St : Nat → Heap → Prop) (Mid : Nat → Addr → Heap → Prop), WalksT P w X.A e fp wr n Pt St Mid ∧ St i s.heap ∧ (∀ h, St (i + 1) h → tn (i + 1) h) ∧ (J.go i H → i < n) ∧ (J.stop i H → i = n) ∧
      ∀ us, Pt i us → ∃ vs : List V, Vals vs us.toList ∧ vs.length ≤ sizeLine ∧ ∀ T, H T = none → J.yld i H (.ref T) (upd H T (.tup vs))
theorem turn_by {P : Program} {w : World} {K : PySem.W.Frag} {elts : List Expr} {kk : Nat} {tpos : Pos} {J : It} {wr ch : List Addr} {e : Addr} {tn : Nat → Heap → Prop} (sub : ∀ b ∈ wr, b ∈ ch) (he : e ∈ ch)
    (obj : ∀ i h, tn i h → ∀ b ∈ ch, ∃ o, h.get? b = some o ∧ ∀ v, o.data ≠ .cell v) (keep : ∀ i h h', tn i h → (∀ b ∈ ch, ∀ o, h.get? b = some o → h'.get? b = some o) → tn i h')
    (self : ∀ (A : Around) (i : Nat) (s : Shared) (Q : Value → Shared → Prop) (E : Value → Shared → Prop), tn i s.heap → Q (.ref e) s → wpAny (model P w) A (pyIter (.ref e)) Q E s) (src : TurnsBy P w K J wr e tn) : Turn P w K (.Tuple elts kk tpos) J ch e tn where
  mem := he
  obj := obj
  keep := keep
  self := self
  item := fun X p1 p2 p3 hc i pins s σ H E I hf st go => by
    obtain ⟨n, fp, Pt, St, Mid, W, s0, next, lt, -, tells⟩ := src X p1 p2 p3 hc i pins s σ H I st (.inl go)
    subst p1 p2 p3
    refine W.item i s _ _ (lt go) s0 fun T us h1 tk ht hT hus mid k1 => ⟨_, rfl, W.go elts kk tpos i T _ _ _ mid fun h2 st2 k2 => ?_⟩
    obtain ⟨vs, rv, hz, hy⟩ := tells us ht
    have new : ObjOk X.prog X.w (upd H T (.tup vs)) h2 T (.tup vs) := ⟨hz, us.toList, rv, hus.at fun o q => k2 T o (W.apart i T h1 mid) q⟩
    refine ⟨.ref T, _, I.turnedNew (ch := ch) (t' := tk) (fun b o hb q => k2 b o (fun z => hb (sub b z)) (k1 b o (fun z => hb (sub b z)) q)) hf hT new, rfl, hy T (I.hok.fresh hT), next _ st2, fun b hb => ?_⟩
    obtain ⟨o, hb1, _⟩ := obj i s.heap st b hb
    rw [upd_ne (Nat.ne_of_lt (Nat.lt_of_lt_of_le (Heap.lt_size hb1) hT))]
    exact (hf b hb).1
  done := fun X p1 p2 p3 hc i pins s σ H E I hf st go => by
    obtain ⟨n, fp, Pt, St, Mid, W, s0, -, -, last, -⟩ := src X p1 p2 p3 hc i pins s σ H I st (.inr go)
    subst p1 p2 p3
    rw [last go] at s0
    exact W.done s _ _ s0 fun h' tk k => ⟨rfl, I.turnedL (ch := ch) (t' := tk) (fun b o hb q => k b o (fun z => hb (sub b z)) q) hf⟩

/-! ### enumerate -/
section
variable {prog : Program} {w : World} {A : Around} {s : Shared} {E : Value → Shared → Prop}
abbrev enOb (it : Addr) : Obj := { cls := .type "enumerate", data := .fields #[.none, .bool false, .ref it, rawInt 0, .none, .none] }
theorem en_new (t : Bool) (a : Addr) (its : Array Value) : Meets (Builtin.«enumerate.__new__» ⟨[.type "enumerate", .ref a], []⟩)
    (fun _ R s => StA s.heap a its t ∧ R (.ok (.ret (.ref (s.heap.push (obA a t)).objs.size))) { s with heap := (s.heap.push (obA a t)).push (enOb s.heap.objs.size) }) := by
  refine .of_wp fun prog w A R ⟨h0, gs, dr, tk, o0⟩ ⟨st, fin⟩ => ?_
  have hsub := sub_enumerate
  have go : ∀ {B : Around} {E' : Value → Shared → Prop} {Q : Value → Shared → Prop}, Q (.ref h0.objs.size) ⟨h0.push (obA a t), gs, dr, tk, o0⟩ → wpAny (model prog w) B (pyIter (.ref a)) Q E' ⟨h0, gs, dr, tk, o0⟩ := fun q => (begA t a its).iter _ _ _ _ _ _ st q
  wp_walk using go
  refine wpAny_stack_any fun fr => wpAny_pure ?_
  split
  case h_1 c _ _ _ _ _ => cases (c == Value.type "enumerate") <;> (wp_walk using go; exact ⟨_, rfl, fin⟩)
  all_goals (wp_walk using go; exact ⟨_, rfl, fin⟩)
theorem en_call (t : Bool) {a : Addr} {its : Array Value} {Q : Value → Shared → Prop} (st : StA s.heap a its t)
    (h : ∀ h', IsEnum h' (s.heap.objs.size + 1) s.heap.objs.size 0 .none → AtA h' s.heap.objs.size a 0 t → (∀ b o, s.heap.get? b = some o → h'.get? b = some o) → Q (.ref (s.heap.objs.size + 1)) { s with heap := h' }) :
    wpAny (model prog w) A (PySem.call (.type "enumerate") [.ref a]) Q E s := by
  have sz1 : ∀ o : Obj, (s.heap.push o).objs.size = s.heap.objs.size + 1 := fun o => Heap.size_push ..
  have top : ∀ o u : Obj, u.isFreed = false → ((s.heap.push o).push u).get? (s.heap.objs.size + 1) = some u := fun o u f => by rw [← sz1 o]; exact Heap.get?_push_size _ f
  refine callType_new F.called_enumerate (by decide) (F.typeCall_enumerate_1 _) (F.newCall_enumerate_1 _) (fun _ => F.args_object_init_2 _ _) F.entry_enumerate_new (en_new t a its) ⟨st, ?_⟩
  rw [sz1]
  exact ⟨⟨_, top _ _ rfl, rfl⟩, h _ (top _ _ rfl) (atA_new (Heap.get?_push_of_some _ (Heap.get?_push_size _ (begA t a its).free))) fun b o q => Heap.get?_push_of_some _ (Heap.get?_push_of_some _ q)⟩
end
/-- places and items of what stands at a -/
def ItEn (K : PySem.W.Frag) (a : Addr) (t : Bool) : It where
  go := fun i H => ∃ xs, SqA K H a xs t ∧ i < xs.length
  stop := fun i H => ∃ xs, SqA K H a xs t ∧ i = xs.length
  yld := fun i H v H' => ∃ T x, (v = .ref T ∧ H T = none ∧ H' = upd H T (.tup [.int (i : Nat), x])) ∧ ∀ xs, SqA K H a xs t → xs[i]? = some x
theorem turn_en {P : Program} {w : World} {K : PySem.W.Frag} {elts : List Expr} {kk : Nat} {tpos : Pos} {a e it : Addr} (t : Bool) (n1 : e ≠ it) (n2 : a ≠ it) (n3 : a ≠ e) :
    Turn P w K (.Tuple elts kk tpos) (ItEn K a t) [e, it] e (fun i h => (∃ old, IsEnum h e it i old) ∧ AtA h it a i t) := by
  refine turn_by (fun _ z => z) (List.mem_cons_self ..) (fun i h ⟨⟨old, he⟩, hit⟩ b hb => ?_) (fun i h h' ⟨⟨old, he⟩, hit⟩ k => ⟨⟨old, k e (by simp) _ he⟩, atA_keep (k it (by simp)) hit⟩) (fun A i s Q E ⟨⟨_, he⟩, _⟩ q => wpAny_pyIter_enum he q) ?_
  · simp only [List.mem_cons, List.not_mem_nil, or_false] at hb
    rcases hb with rfl | rfl
    · exact ⟨_, he, fun v z => nomatch z⟩
    · exact atA_obj hit
  · intro X p1 p2 p3 hc i pins s σ H I ⟨he, hit⟩ alt
    subst p3
    obtain ⟨xs, hq, hlt⟩ : ∃ xs, SqA X.K H a xs t ∧ ((ItEn X.K a t).go i H → i < xs.length) ∧ ((ItEn X.K a t).stop i H → i = xs.length) := by
      rcases alt with ⟨xs, hq, h⟩ | ⟨xs, hq, h⟩
      · exact ⟨xs, hq, fun _ => h, fun ⟨ys, hy, h2⟩ => by rw [h2, sqA_inj I hy hq]⟩
      · exact ⟨xs, hq, fun ⟨ys, hy, h2⟩ => by rw [sqA_inj I hq hy]; exact h2, fun _ => h⟩
    obtain ⟨its, rv, sa, _⟩ := sqA_its I hq
    have W := WalksT.enumerateD (drwA (prog := X.prog) (w := X.w) (A := X.A.in1) (I.ok.hd hc) t n2 its.toArray) e n1 (by simp [n1, Ne.symm n3]) (by simp)
    subst p1 p2
    have hl : its.toArray.size = xs.length := by rw [List.size_toArray]; exact rv.length.symm
    refine ⟨_, _, _, _, _, W, ⟨he, hit, sa⟩, fun h z => ⟨z.1, z.2.1⟩, fun g => by rw [hl]; exact hlt.1 g, fun g => by rw [hl]; exact hlt.2 g, fun us ⟨tk, u, hu, e2⟩ => ?_⟩
    subst e2
    have hi : i < its.length := (List.getElem?_eq_some_iff.mp (show its[i]? = some u by simpa using hu)).1
    have hx : xs[i]? = some (xs[i]'(by rw [rv.length]; exact hi)) := List.getElem?_eq_getElem _
    obtain ⟨u', hu', rx⟩ := rv.get hx
    have eu : u' = u := Option.some.inj (hu'.symm.trans (show its[i]? = some u by simpa using hu))
    subst eu
    exact ⟨[.int (i : Nat), _], .cons ⟨_, rfl⟩ (.cons rx .nil), (by rw [sz]; decide : 2 ≤ sizeLine), fun T hT => ⟨T, _, ⟨rfl, hT, rfl⟩, fun ys hy => by rw [sqA_inj I hy hq]; exact hx⟩⟩
theorem pi_en {X : Cx} {e : Expr} {p pos tpos : Pos} {elts : List Expr} {kk : Nat} (hg : Gl X "enumerate") (hm : X.mg "enumerate" = none) (hn : nst e = true) :
    PI X (.Tuple elts kk tpos) (.Call (.Name "enumerate" p) [e] [] pos) fun σ H R => wpx X e σ H fun v H1 => ∃ a xs t, v = .ref a ∧ SqA X.K H1 a xs t ∧ R (ItEn X.K a t) H1 := by
  refine ⟨fun pins s σ H R I h => Call_ (ld_blt I hg hm boot_enumerate (PyProof.Rows.callWith_type1 (thn ((pa_cons pe_x pa_nil (star_cons hn)).run pos pins s σ H (fun vs H1 => ∃ v, vs = [v] ∧ ∃ a xs t, v = .ref a ∧ SqA X.K H1 a xs t ∧ R (ItEn X.K a t) H1) I ?_) fun us s1 ⟨vs, H1, J, rv, q⟩ => ?_) (star_cons hn) rfl))⟩
  · exact wpx_mono h fun v H1 q => ⟨v, rfl, q⟩
  · obtain ⟨v, rfl, a, xs, t, rfl, hq, r⟩ := q
    obtain ⟨u, rfl, ru⟩ := rv.one
    cases ru
    obtain ⟨its, _, sa, lt⟩ := sqA_its J hq
    refine en_call t sa fun h' he hit k => wpAny_pyIter_enum he ⟨_, [s1.heap.objs.size + 1, s1.heap.objs.size], _, _, H1, rfl, J.kept (t' := s1.toks) k, turn_en t (Nat.succ_ne_self _) (Nat.ne_of_lt lt) (Nat.ne_of_lt (Nat.lt_succ_of_lt lt)), ⟨⟨_, he⟩, hit⟩, fun b hb => ?_, r⟩
    have old : s1.heap.objs.size ≤ b := by
      simp only [List.mem_cons, List.not_mem_nil, or_false] at hb
      rcases hb with rfl | rfl
      · exact Nat.le_succ _
      · exact Nat.le_refl _
    exact J.fpOk old (J.hok.fresh old)

/-! ### targets -/
section
variable {X : Cx}
def wpg (X : Cx) (tg : Expr) : TG := fun v σ H Q => ∃ t, PG X tg t ∧ t v σ H Q
theorem pg_x {tg : Expr} : PG X tg (wpg X tg) := ⟨fun _ _ _ _ _ _ _ I r h => h.choose_spec.1.run _ _ _ _ _ _ _ I r h.choose_spec.2⟩
theorem pgx {tg : Expr} {t : TG} {v : V} {σ : L2.St} {H : Hp} {Q : L2.St → Hp → Prop} (h : PG X tg t) (q : t v σ H Q) : wpg X tg v σ H Q := ⟨t, h, q⟩
theorem wpg_mono {tg : Expr} {v : V} {σ : L2.St} {H : Hp} {Q Q' : L2.St → Hp → Prop} (h : wpg X tg v σ H Q) (m : ∀ σ H, Q σ H → Q' σ H) : wpg X tg v σ H Q' :=
  ⟨fun v σ H Q' => ∃ Q, wpg X tg v σ H Q ∧ ∀ σ H, Q σ H → Q' σ H, ⟨fun _ _ _ _ _ _ _ I r ⟨_, h, m⟩ => thn (pg_x.run _ _ _ _ _ _ _ I r h) fun _ _ ⟨σ1, H1, J, q⟩ => ⟨σ1, H1, J, m _ _ q⟩⟩, Q, h, m⟩
def wpgs (X : Cx) (tg : List Expr) : TGs := fun vs σ H Q => ∃ t, PGs X tg t ∧ t vs σ H Q
theorem pgs_x {tg : List Expr} : PGs X tg (wpgs X tg) := ⟨fun _ _ _ _ _ _ _ I r h => h.choose_spec.1.run _ _ _ _ _ _ _ I r h.choose_spec.2⟩
theorem pgsx {tg : List Expr} {t : TGs} {v : List V} {σ : L2.St} {H : Hp} {Q : L2.St → Hp → Prop} (h : PGs X tg t) (q : t v σ H Q) : wpgs X tg v σ H Q := ⟨t, h, q⟩
theorem wpgs_mono {tg : List Expr} {v : List V} {σ : L2.St} {H : Hp} {Q Q' : L2.St → Hp → Prop} (h : wpgs X tg v σ H Q) (m : ∀ σ H, Q σ H → Q' σ H) : wpgs X tg v σ H Q' :=
  ⟨fun v σ H Q' => ∃ Q, wpgs X tg v σ H Q ∧ ∀ σ H, Q σ H → Q' σ H, ⟨fun _ _ _ _ _ _ _ I r ⟨_, h, m⟩ => thn (pgs_x.run _ _ _ _ _ _ _ I r h) fun _ _ ⟨σ1, H1, J, q⟩ => ⟨σ1, H1, J, m _ _ q⟩⟩, Q, h, m⟩
/-- the places that a target stores -/
def tIds : T → List Nat
  | .nm i => [i]
  | .tup ts => tIdsL ts
where tIdsL : List T → List Nat
  | [] => []
  | t :: r => tIds t ++ tIdsL r
def SndG (X : Cx) (t : T) (tg : Expr) : Prop := ∀ (F : Addr → Prop) (env env2 : En) (S : Sto) (σ : L2.St) (H : Hp) (v : V) (d : D), RelS X.K F S H → Rl X.K F S H env σ → Rep X.K F S H v d → asgT t d env = some env2 →
  wpg X tg v σ H fun σ2 H2 => H2 = H ∧ Rl X.K F S H env2 σ2 ∧ ∀ own : List Nat, (∀ i ∈ tIds t, i ∈ own) → wipe σ2 own = wipe σ own
def SndGs (X : Cx) (ts : List T) (tgs : List Expr) : Prop := ∀ (F : Addr → Prop) (env env2 : En) (S : Sto) (σ : L2.St) (H : Hp) (vs : List V) (ds : List D), RelS X.K F S H → Rl X.K F S H env σ → RepL X.K F S H vs ds → asgTs ts ds env = some env2 →
  wpgs X tgs vs σ H fun σ2 H2 => H2 = H ∧ Rl X.K F S H env2 σ2 ∧ ∀ own : List Nat, (∀ i ∈ tIds.tIdsL ts, i ∈ own) → wipe σ2 own = wipe σ own
theorem wipe_set {σ : L2.St} {i : Nat} {o : Option V} : ∀ {own : List Nat}, i ∈ own → wipe (σ.set i o) own = wipe σ own
  | [], h => nomatch h
  | j :: own, h => by
    unfold wipe
    by_cases hj : i ∈ own
    · rw [wipe_set hj]
    · have hi : i = j := by
        rcases List.mem_cons.mp h with h | h
        · exact h
        · exact absurd h hj
      subst hi
      have go : ∀ {own : List Nat}, i ∉ own → wipe (σ.set i o) own = (wipe σ own).set i o := by
        intro own
        induction own with
        | nil => intro _; rfl
        | cons k own ih =>
          intro hk
          unfold wipe
          rw [ih fun z => hk (List.mem_cons_of_mem _ z)]
          exact List.set_comm _ _ fun z => hk (by rw [z]; exact List.mem_cons_self)
      rw [go hj, List.set_set]
theorem sG_name {c : Ctx} {cs : CS} (O : COk X c cs) {i : Nat} {x : Str} {pos : Pos} (hN : c.N[i]? = some x) (hl : c.loc x = true) (ho : c.ok x = true) : SndG X (.nm i) (.Name x pos) := by
  intro F env env2 S σ H v d R L r e
  cases (show some (env.set i (some d)) = some env2 from e)
  exact pgx (pg_name (i := i) O.nd (by rw [O.N]; exact hN) (O.loc hl) (O.fn _ ho)) ⟨rfl, L.set i r, fun own h => wipe_set (h i (List.mem_singleton.mpr rfl))⟩
theorem sGs_nil : SndGs X [] [] := by
  intro F env env2 S σ H vs ds R L r e
  cases r with
  | nil =>
    cases (show some env = some env2 from e)
    exact pgsx pgs_nil ⟨rfl, rfl, L, fun _ _ => rfl⟩
  | cons _ _ => exact nomatch (show none = some _ from e)
theorem asg_cons {t : Expr} {es : List Expr} {env : Env} (h : nst t = true) : (assignEach (t :: es) env).map (·.2) = assign t env :: (assignEach es env).map (·.2) := by
  cases t <;> first | rfl | exact nomatch (show false = true from h)
theorem asg_none {env : Env} : ∀ {es : List Expr}, nsts es = true → (assignEach es env).findIdx? (·.1) = none ∧ (assignEach es env).length = es.length
  | [], _ => ⟨rfl, rfl⟩
  | e :: es, h => by
    have h2 : (nst e && nsts es) = true := h
    rw [Bool.and_eq_true] at h2
    obtain ⟨a, b⟩ := asg_none (env := env) h2.2
    have q : assignEach (e :: es) env = (false, assign e env) :: assignEach es env := by
      cases e <;> first | rfl | exact nomatch (show false = true from h2.1)
    rw [q]
    refine ⟨?_, by rw [List.length_cons, List.length_cons, b]⟩
    rw [List.findIdx?_cons, a]
    rfl
theorem sGs_cons {t : T} {ts : List T} {g : Expr} {gs : List Expr} (hn : nst g = true) (h1 : SndG X t g) (h2 : SndGs X ts gs) : SndGs X (t :: ts) (g :: gs) := by
  intro F env env2 S σ H vs ds R L r e
  cases r with
  | nil => exact nomatch (show none = some _ from e)
  | @cons v vs d ds r rs =>
    have e' : (match asgT t d env with | some env1 => asgTs ts ds env1 | none => none) = some env2 := e
    cases q : asgT t d env with
    | none => rw [q] at e'; cases e'
    | some env1 =>
      rw [q] at e'
      refine pgsx (pgs_cons pg_x pgs_x (asg_cons hn)) ⟨v, vs, rfl, ?_⟩
      refine wpg_mono (h1 F env env1 S σ H v d R L r q) fun σ1 H1 ⟨e1, L1, w1⟩ => ?_
      subst e1
      refine wpgs_mono (h2 F env1 env2 S σ1 _ vs ds R L1 rs e') fun σ2 H2 ⟨e2, L2, w2⟩ => ⟨e2, L2, fun own ho => ?_⟩
      rw [w2 own fun i hi => ho i (List.mem_append_right _ hi), w1 own fun i hi => ho i (List.mem_append_left _ hi)]
theorem sG_tup {c : Ctx} {cs : CS} (O : COk X c cs) {ts : List T} {gs : List Expr} {k : Nat} {pos : Pos} (hn : nsts gs = true) (hlen : ts.length = gs.length) (h : SndGs X ts gs) : SndG X (.tup ts) (.Tuple gs k pos) := by
  intro F env env2 S σ H v d R L r e
  have hl : ∀ (ts : List T) (ds : List D) (env env2 : En), asgTs ts ds env = some env2 → ts.length = ds.length := by
    intro ts
    induction ts with
    | nil => intro ds env env2 e; cases ds with
      | nil => rfl
      | cons _ _ => exact nomatch (show none = some _ from e)
    | cons t ts ih =>
      intro ds env env2 e
      cases ds with
      | nil => exact nomatch (show none = some _ from e)
      | cons d ds =>
        have e' : (match asgT t d env with | some env1 => asgTs ts ds env1 | none => none) = some env2 := e
        cases q : asgT t d env with
        | none => rw [q] at e'; cases e'
        | some env1 => rw [q] at e'; rw [List.length_cons, List.length_cons, ih ds env1 env2 e']
  obtain ⟨a1, a2⟩ := asg_none (env := X.env) hn
  cases r with
  | @tup a xs ds hs rl =>
    have e' : asgTs ts ds env = some env2 := e
    exact pgx (pg_tup (n := gs.length) O.calm pgs_x a2 a1) ⟨a, xs, rfl, hs.sq, by rw [rl.length, ← hl ts ds env env2 e', hlen], h F env env2 S σ H xs ds R L rl e'⟩
  | @lst a xs ds h1 h2 h3 rl =>
    have e' : asgTs ts ds env = some env2 := e
    exact pgx (pg_lst (n := gs.length) O.calm pgs_x a2 a1) ⟨a, xs, rfl, SqL.of h1, by rw [rl.length, ← hl ts ds env env2 e', hlen], h F env env2 S σ H xs ds R L rl e'⟩
  | _ => exact nomatch (show none = some _ from e)
def SndJ (X : Cx) (t : T) (tg : Expr) : Prop := ∀ (F : Addr → Prop) (env env2 : En) (S : Sto) (σ : L2.St) (H : Hp) (v : V) (d : D), RelS X.K F S H → Rl X.K F S H env σ → Rep X.K F S H v d → asgO S t d env = some env2 →
  wpg X tg v σ H fun σ2 H2 => H2 = H ∧ Rl X.K F S H env2 σ2 ∧ ∀ own : List Nat, (∀ i ∈ tIds t, i ∈ own) → wipe σ2 own = wipe σ own
theorem asgTs_len : ∀ {ts : List T} {ds : List D} {env env2 : En}, asgTs ts ds env = some env2 → ts.length = ds.length
  | [], [], _, _, _ => rfl
  | [], _ :: _, _, _, e => nomatch (show none = some _ from e)
  | _ :: _, [], _, _, e => nomatch (show none = some _ from e)
  | t :: ts, d :: ds, env, env2, e => by
    have e' : (match asgT t d env with | some env1 => asgTs ts ds env1 | none => none) = some env2 := e
    cases q : asgT t d env with
    | none => rw [q] at e'; cases e'
    | some env1 =>
      rw [q] at e'
      rw [List.length_cons, List.length_cons, asgTs_len e']
theorem sJ_name {i : Nat} {tg : Expr} (h : SndG X (.nm i) tg) : SndJ X (.nm i) tg := fun F env env2 S σ H v d R L r e => h F env env2 S σ H v d R L r e
theorem sJ_tup {c : Ctx} {cs : CS} (O : COk X c cs) {ts : List T} {gs : List Expr} {k : Nat} {pos : Pos} (hn : nsts gs = true) (hlen : ts.length = gs.length) (h : SndGs X ts gs) : SndJ X (.tup ts) (.Tuple gs k pos) := by
  intro F env env2 S σ H v d R L r e
  cases r with
  | tup q rl => exact sG_tup O hn hlen h F env env2 S σ H _ _ R L (.tup q rl) e
  | lst h1 h2 h3 rl => exact sG_tup O hn hlen h F env env2 S σ H _ _ R L (.lst h1 h2 h3 rl) e
  | ref a =>
    obtain ⟨ds, hd, e'⟩ := Option.bind_eq_some_iff.mp (show (lstAt S a).bind _ = some env2 from e)
    obtain ⟨xs, hx, rl⟩ := R.at_ _ _ (of_lstAt hd)
    obtain ⟨a1, a2⟩ := asg_none (env := X.env) hn
    exact pgx (pg_lst (n := gs.length) O.calm pgs_x a2 a1) ⟨a, xs, rfl, SqL.of hx, by rw [rl.length, ← asgTs_len e', hlen], h F env env2 S σ H xs ds R L rl e'⟩
  | _ => exact nomatch (show none = some _ from e)
end

/-! ### what is walked -/
/-- the iterator yields the items -/
def ItOk (K : PySem.W.Frag) (F : Addr → Prop) (S : Sto) (H : Hp) (J : It) (items : List D) (stay : Sto → Prop) : Prop := items.length ≤ sizeLine ∧
  ∀ F' : Addr → Prop, (∀ v d, Rep K F S H v d → Rep K F' S H v d) → ∀ S2 H2, RelS K F' S2 H2 → Keep K S H S2 H2 → stay S2 →
    (∀ (i : Nat) (d : D), items[i]? = some d → J.go i H2 ∧ ∀ x H3, J.yld i H2 x H3 → RelS K F' S2 H3 ∧ Keep K S2 H2 S2 H3 ∧ Rep K F' S2 H3 x d) ∧ J.stop items.length H2
def wpi (X : Cx) (tg iter : Expr) : TI := fun σ H R => ∃ t, PI X tg iter t ∧ t σ H R
section
variable {X : Cx}
theorem pi_x {tg iter : Expr} : PI X tg iter (wpi X tg iter) := ⟨fun _ _ _ _ _ I h => h.choose_spec.1.run _ _ _ _ _ I h.choose_spec.2⟩
theorem pix {tg iter : Expr} {t : TI} {σ : L2.St} {H : Hp} {R : It → Hp → Prop} (h : PI X tg iter t) (q : t σ H R) : wpi X tg iter σ H R := ⟨t, h, q⟩
theorem wpi_mono {tg iter : Expr} {σ : L2.St} {H : Hp} {R R' : It → Hp → Prop} (h : wpi X tg iter σ H R) (m : ∀ J H', R J H' → R' J H') : wpi X tg iter σ H R' :=
  ⟨fun σ H R' => ∃ R, wpi X tg iter σ H R ∧ ∀ J H', R J H' → R' J H', ⟨fun _ _ _ _ _ I ⟨_, h, m⟩ => thn (pi_x.run _ _ _ _ _ I h) fun _ _ q => thn q fun _ _ ⟨it, fp, tn, J, H1, e, g, t1, t2, t3, r⟩ => ⟨it, fp, tn, J, H1, e, g, t1, t2, t3, m J H1 r⟩⟩, R, h, m⟩
end
def PJ (K : PySem.W.Frag) (F : Addr → Prop) (S : Sto) (H : Hp) (R : List D → (Sto → Prop) → Sto → Prop) : It → Hp → Prop := fun J H1 => ∃ items stay S1, RelS K F S1 H1 ∧ Keep K S H S1 H1 ∧ ItOk K F S1 H1 J items stay ∧ R items stay S1
def SndI (X : Cx) (cs : CS) (ir : I) (tg iter : Expr) : Prop := ∀ (F : Addr → Prop) (env : En) (S : Sto) (σ : L2.St) (H : Hp) (R : List D → (Sto → Prop) → Sto → Prop), RelS X.K F S H → Rl X.K F S H env σ → wI cs EX0 ir env S R → wpi X tg iter σ H (PJ X.K F S H R)
section
variable {X : Cx} {c : Ctx} {cs : CS}
theorem rg_at {a b : Int} {i : Nat} {d : D} (h : (rgD a b)[i]? = some d) : i < (b - a).toNat ∧ d = .int (a + (i : Nat)) := by
  unfold rgD at h
  rw [List.getElem?_map] at h
  cases q : (List.range (b - a).toNat)[i]? with
  | none => rw [q] at h; cases h
  | some j =>
    rw [q] at h
    cases h
    obtain ⟨h1, h2⟩ := List.getElem?_eq_some_iff.mp q
    rw [List.getElem_range] at h2
    subst h2
    exact ⟨by simpa using h1, rfl⟩
theorem itOk_range {K : PySem.W.Frag} {F : Addr → Prop} {S : Sto} {H : Hp} {a b : Int} {n : Nat} (hn : (b - a).toNat = n) (h : b - a ≤ 16777216) : ItOk K F S H (Itr a n) (rgD a b) noStay := by
  have SZ := sz
  have hl : (rgD a b).length = n := by unfold rgD; rw [List.length_map, List.length_range, hn]
  refine ⟨by rw [hl]; omega, fun F' hF S2 H2 R2 k2 _ => ⟨fun i d e => ?_, by show n ≤ _; rw [hl]; exact Nat.le_refl _⟩⟩
  obtain ⟨h1, rfl⟩ := rg_at e
  refine ⟨by show i < n; omega, fun x H3 y => ?_⟩
  obtain ⟨rfl, rfl⟩ := y
  exact ⟨R2, Keep.refl, .int _⟩
theorem two62 : (2 : Int) ^ 62 = 4611686018427387904 := by decide
theorem sI_r1 (O : COk X c cs) {a : E} {x tg : Expr} {p pos : Pos} (hg : c.gl "range" = true) (hn : nst x = true) (ha : SndE X cs a x) : SndI X cs (.r1 a) tg (.Call (.Name "range" p) [x] [] pos) := by
  intro F env S σ H R RS L h
  have T := two62
  refine pix (pi_range1 (O.gl hg) (O.blt "range" (by decide +kernel)) (pa_cons pe_x pa_nil (star_cons hn)) (star_cons hn)) ?_
  refine wpx_mono (ha F env S σ H _ RS L h) fun v H1 ⟨d, S1, R1, r1, k1, h1⟩ => ?_
  cases r1 with
  | int n =>
    obtain ⟨⟨z1, z2⟩, q⟩ := h1
    refine ⟨n, rfl, by omega, by omega, _, _, S1, R1, k1, itOk_range (b := n) (by rw [Int.sub_zero]) (by omega), q⟩
  | _ => exact h1.elim
theorem sI_r2 (O : COk X c cs) {a b : E} {x y tg : Expr} {p pos : Pos} (hg : c.gl "range" = true) (hn : nst x = true) (hn2 : nst y = true) (ha : SndE X cs a x) (hb : SndE X cs b y) : SndI X cs (.r2 a b) tg (.Call (.Name "range" p) [x, y] [] pos) := by
  intro F env S σ H R RS L h
  have T := two62
  refine pix (pi_range2 (O.gl hg) (O.blt "range" (by decide +kernel)) (pa_cons pe_x (pa_cons pe_x pa_nil (star_cons hn2)) (star_cons hn)) (by rw [star_cons hn, star_cons hn2]; rfl) (star_cons hn2)) ?_
  refine wpx_mono (ha F env S σ H _ RS L h) fun v H1 ⟨d, S1, R1, r1, k1, h1⟩ => ?_
  refine wpx_mono (hb F env S1 σ H1 _ R1 (k1.env L) h1) fun u H2 ⟨e, S2, R2, r2, k2, h2⟩ => ?_
  cases d with
  | int i =>
    cases e with
    | int j =>
      cases r1
      cases r2
      obtain ⟨⟨z1, z2, z3, z4, z5⟩, q⟩ := h2
      exact ⟨i, j, rfl, ⟨by omega, by omega, by omega, by omega⟩, _, _, S2, R2, k1.trans k2, itOk_range (b := j) rfl (by omega), q⟩
    | _ => exact h2.elim
  | _ => exact h2.elim
/-- over a list or a tuple, whichever comes -/
theorem pi_sq {tg e : Expr} : PI X tg e fun σ H R => wpx X e σ H fun v H1 => ∃ a xs, v = .ref a ∧ ((SqL X.K H1 a xs ∧ R (Itl X.K a) H1) ∨ (SqT X.K H1 a xs ∧ R (Itt X.K a) H1)) := by
  refine ⟨fun pins s σ H R I h => thn (pe_x.run pins s σ H _ I h) fun u s1 ⟨v, H1, J, r, a, xs, ev, q⟩ => ?_⟩
  subst ev
  cases r
  have fp : ∀ b ∈ [s1.heap.objs.size], FpOk X pins H1 b := fun b hb => by
    rw [List.mem_singleton.mp hb]
    exact J.fpOk (Nat.le_refl _) (J.hok.fresh (Nat.le_refl _))
  have kp : ∀ o : Obj, Inv X pins σ H1 { s1 with heap := s1.heap.push o } := fun o => J.kept (t' := s1.toks) fun _ _ z => Heap.get?_push_of_some _ z
  rcases q with ⟨hq, r⟩ | ⟨hq, r⟩
  · obtain ⟨its, _, pl, _⟩ := J.list hq
    exact wpAny_pyIter_list pl.isList ⟨_, _, _, Itl X.K a, H1, rfl, kp _, turn_list a _, ⟨_, Heap.get?_push_size _ rfl, rfl, rfl⟩, fp, r⟩
  · obtain ⟨its, _, pt, _⟩ := J.tuple hq
    exact wpAny_pyIter_tuple (show s1.heap.IsTuple a its.toArray from pt) ⟨_, _, _, Itt X.K a, H1, rfl, kp _, turn_tuple a _, ⟨_, Heap.get?_push_size _ rfl, rfl, rfl⟩, fp, r⟩
/-- a list value, later -/
theorem lst_later {F : Addr → Prop} {S S2 : Sto} {H H2 : Hp} {v : V} {d : D} {ds : List D} {b : Addr} (hb : v = .ref b) (r : Rep X.K F S H v d) (e : lsrD d S = some ds) (R2 : RelS X.K F S2 H2) (k : Keep X.K S H S2 H2) (st : stayOf d ds S2) :
    ∃ ys, SqL X.K H2 b ys ∧ RepL X.K F S2 H2 ys ds := by
  have e2 : lsrD d S2 = some ds := by
    cases d with
    | ref a => exact lstAt_of st
    | _ => exact e
  obtain ⟨b', ys, e3, hs, rl⟩ := lsr_rep R2 (k _ _ r) e2
  subst hb
  cases e3
  exact ⟨ys, hs, rl⟩
theorem tup_later {F : Addr → Prop} {S S2 : Sto} {H H2 : Hp} {ds : List D} {b : Addr} (r : Rep X.K F S H (.ref b) (.tup ds)) (k : Keep X.K S H S2 H2) : ∃ ys, SqT X.K H2 b ys ∧ RepL X.K F S2 H2 ys ds := by
  have q := k _ _ r
  cases q with
  | tup hs rl => exact ⟨_, hs.sq, rl⟩
/-- what is walked: a list, a tuple -/
theorem sI_seq {a : E} {x tg : Expr} (ha : SndE X cs a x) : SndI X cs (.seq a) tg x := by
  intro F env S σ H R RS L h
  refine pix pi_sq (wpx_inv (ha F env S σ H _ RS L h) fun v H1 bd ⟨d, S1, R1, r1, k1, h1⟩ => ?_)
  obtain ⟨ds, e1, q⟩ := wOpt_in h1
  rcases seq_case e1 with e | e
  · subst e
    cases r1 with
    | @tup b xs _ hs rl =>
      have hz := bd _ _ (.inr hs.sq)
      refine ⟨b, xs, rfl, .inr ⟨hs.sq, ds, _, S1, R1, k1, ⟨by rw [← rl.length]; exact hz, fun F' hF S2 H2 R2 k2 st => ?_⟩, q⟩⟩
      obtain ⟨ys, hy, ry⟩ := tup_later (hF _ _ (.tup hs rl)) k2
      refine ⟨fun i z ez => ?_, ⟨ys, hy, by rw [ry.length]; exact Nat.le_refl _⟩⟩
      obtain ⟨w, ew, rw'⟩ := ry.get ez
      refine ⟨⟨ys, w, hy, ew⟩, fun x H3 ⟨y1, y2⟩ => ?_⟩
      subst y1
      have := y2 _ hy
      rw [ew] at this
      cases this
      exact ⟨R2, Keep.refl, rw'⟩
  · obtain ⟨b, xs, rfl, hs, rl⟩ := lsr_rep R1 r1 e
    have hz := bd _ _ (.inl hs)
    refine ⟨b, xs, rfl, .inl ⟨hs, ds, _, S1, R1, k1, ⟨by rw [← rl.length]; exact hz, fun F' hF S2 H2 R2 k2 st => ?_⟩, q⟩⟩
    obtain ⟨ys, hy, ry⟩ := lst_later rfl (hF _ _ r1) e R2 k2 st
    refine ⟨fun i z ez => ?_, ⟨ys, hy, by rw [ry.length]; exact Nat.le_refl _⟩⟩
    obtain ⟨w, ew, rw'⟩ := ry.get ez
    refine ⟨⟨ys, w, hy, ew⟩, fun x H3 ⟨y1, y2⟩ => ?_⟩
    subst y1
    have := y2 _ hy
    rw [ew] at this
    cases this
    exact ⟨R2, Keep.refl, rw'⟩
theorem zip_at {xs ys : List D} {i : Nat} {d : D} (h : (List.zipWith (fun p q => D.tup [p, q]) xs ys)[i]? = some d) : ∃ p q, xs[i]? = some p ∧ ys[i]? = some q ∧ d = .tup [p, q] := by
  rw [List.getElem?_zipWith] at h
  cases e1 : xs[i]? with
  | none => rw [e1] at h; cases h
  | some p =>
    cases e2 : ys[i]? with
    | none => rw [e1, e2] at h; cases h
    | some q => rw [e1, e2] at h; cases h; exact ⟨p, q, rfl, rfl, rfl⟩
/-- the pair that a zip, an enumerate yields -/
theorem pair_yld {F : Addr → Prop} {S2 : Sto} {H2 : Hp} {T : Addr} {x y : V} {p q : D} (R2 : RelS X.K F S2 H2) (hT : H2 T = none) (rx : Rep X.K F S2 H2 x p) (ry : Rep X.K F S2 H2 y q) :
    RelS X.K F S2 (upd H2 T (.tup [x, y])) ∧ Keep X.K S2 H2 S2 (upd H2 T (.tup [x, y])) ∧ Rep X.K F S2 (upd H2 T (.tup [x, y])) (.ref T) (.tup [p, q]) := by
  have k : Keep X.K S2 H2 S2 (upd H2 T (.tup [x, y])) := keepNew hT
  exact ⟨R2.new hT, k, .tup (.inl ⟨.inl upd_same, R2.nhid hT⟩) (.cons (k _ _ rx) (.cons (k _ _ ry) .nil))⟩
theorem sI_zip (O : COk X c cs) {a b : E} {x y : Expr} {elts : List Expr} {kk : Nat} {tp p pos : Pos} (hg : c.gl "zip" = true) (hn : nst x = true) (hn2 : nst y = true) (ha : SndE X cs a x) (hb : SndE X cs b y) :
    SndI X cs (.zip a b) (.Tuple elts kk tp) (.Call (.Name "zip" p) [x, y] [] pos) := by
  intro F env S σ H R RS L h
  have h2 : nsts [y] = true := by show (nst y && true) = true; rw [hn2]; rfl
  refine pix (RZ.pi_zipA (O.gl hg) (O.blt "zip" (by decide +kernel)) (pa_cons pe_x (pa_cons pe_x pa_nil (star_cons hn2)) (star_cons hn)) (star_cons hn) (star_any h2)) ?_
  refine wpx_mono (ha F env S σ H _ RS L h) fun v H1 ⟨d, S1, R1, r1, k1, h1⟩ => ?_
  refine wpx_inv (hb F env S1 σ H1 _ R1 (k1.env L) h1) fun v2 H2 bd ⟨e, S2, R2, r2, k2, h2⟩ => ?_
  obtain ⟨xs, e1, h2⟩ := wOpt_in h2
  obtain ⟨ys, e2, ek, q⟩ := wOpt_in h2
  have r1 := k2 _ _ r1
  rcases seq_case e1 with z | z
  · subst z
    rcases seq_case e2 with z2 | z2
    · subst z2
      cases r1 with
      | @tup a1 vs _ hs rl =>
        cases r2 with
        | @tup a2 ws _ hs2 rl2 =>
          have hz := bd _ _ (.inr hs.sq)
          refine ⟨a1, a2, vs, ws, rfl, .inr ⟨hs.sq, hs2.sq, _, _, S2, R2, k1.trans k2, ⟨by rw [List.length_zipWith, ← rl.length]; exact Nat.le_trans (Nat.min_le_left _ _) hz, fun F' hF S3 H3 R3 k3 st => ?_⟩, q⟩⟩
          obtain ⟨ps, hp, rp⟩ := tup_later (hF _ _ (.tup hs rl)) k3
          obtain ⟨qs, hq, rq⟩ := tup_later (hF _ _ (.tup hs2 rl2)) k3
          refine ⟨fun i z ez => ?_, ⟨ps, qs, hp, hq, by rw [List.length_zipWith, rp.length, rq.length]; omega⟩⟩
          obtain ⟨p, q, e5, e6, rfl⟩ := zip_at ez
          obtain ⟨w, ew, rw'⟩ := rp.get e5
          obtain ⟨w2, ew2, rw2⟩ := rq.get e6
          refine ⟨⟨ps, qs, w, w2, hp, hq, ew, ew2⟩, fun x H4 ⟨T, x1, x2, y1, y2, y3, y4, y5⟩ => ?_⟩
          subst y1 y3
          have f1 := y4 _ hp
          have f2 := y5 _ hq
          rw [ew] at f1
          rw [ew2] at f2
          cases f1
          cases f2
          exact pair_yld R3 y2 rw' rw2
    · exfalso
      cases e with
      | tup _ => exact nomatch (show none = some _ from z2)
      | _ => exact nomatch ek
  · rcases seq_case e2 with z2 | z2
    · exfalso
      subst z2
      cases d with
      | tup _ => exact nomatch (show none = some _ from z)
      | _ => exact nomatch ek
    · obtain ⟨a1, vs, rfl, hs, rl⟩ := lsr_rep R2 r1 (show lsrD d S2 = some xs from z)
      obtain ⟨a2, ws, rfl, hs2, rl2⟩ := lsr_rep R2 r2 z2
      have hz := bd _ _ (.inl hs)
      refine ⟨a1, a2, vs, ws, rfl, .inl ⟨hs, hs2, _, _, S2, R2, k1.trans k2, ⟨by rw [List.length_zipWith, ← rl.length]; exact Nat.le_trans (Nat.min_le_left _ _) hz, fun F' hF S3 H3 R3 k3 st => ?_⟩, q⟩⟩
      obtain ⟨ps, hp, rp⟩ := lst_later rfl (hF _ _ r1) z R3 k3 st.1
      obtain ⟨qs, hq, rq⟩ := lst_later rfl (hF _ _ r2) z2 R3 k3 st.2
      refine ⟨fun i z ez => ?_, ⟨ps, qs, hp, hq, by rw [List.length_zipWith, rp.length, rq.length]; omega⟩⟩
      obtain ⟨p, q, e5, e6, rfl⟩ := zip_at ez
      obtain ⟨w, ew, rw'⟩ := rp.get e5
      obtain ⟨w2, ew2, rw2⟩ := rq.get e6
      refine ⟨⟨ps, qs, w, w2, hp, hq, ew, ew2⟩, fun x H4 ⟨T, x1, x2, y1, y2, y3, y4, y5⟩ => ?_⟩
      subst y1 y3
      have f1 := y4 _ hp
      have f2 := y5 _ hq
      rw [ew] at f1
      rw [ew2] at f2
      cases f1
      cases f2
      exact pair_yld R3 y2 rw' rw2
theorem sI_enum (O : COk X c cs) {a : E} {x : Expr} {elts : List Expr} {kk : Nat} {tp p pos : Pos} (hg : c.gl "enumerate" = true) (hn : nst x = true) (ha : SndE X cs a x) :
    SndI X cs (.enum a) (.Tuple elts kk tp) (.Call (.Name "enumerate" p) [x] [] pos) := by
  intro F env S σ H R RS L h
  refine pix (pi_en (O.gl hg) (O.blt "enumerate" (by decide +kernel)) hn) (wpx_inv (ha F env S σ H _ RS L h) fun v H1 bd ⟨d, S1, R1, r1, k1, h1⟩ => ?_)
  obtain ⟨ds, e1, q⟩ := wOpt_in h1
  -- however it stands later
  have fin : ∀ (b : Addr) (vs : List V) (t : Bool), SqA X.K H1 b vs t → RepL X.K F S1 H1 vs ds → (∀ (F' : Addr → Prop), (∀ v d, Rep X.K F S1 H1 v d → Rep X.K F' S1 H1 v d) → ∀ S2 H2, RelS X.K F' S2 H2 → Keep X.K S1 H1 S2 H2 → stayOf d ds S2 → ∃ ys, SqA X.K H2 b ys t ∧ RepL X.K F' S2 H2 ys ds) →
      PJ X.K F S H R (ItEn X.K b t) H1 := fun b vs t hs rl later => by
    have hl : (ds.zipIdx.map fun p => D.tup [.int p.2, p.1]).length = ds.length := by rw [List.length_map, List.length_zipIdx]
    have hz : vs.length ≤ sizeLine := bd b vs (match t, hs with
      | true, hs => .inr hs
      | false, hs => .inl hs)
    refine ⟨_, stayOf d ds, S1, R1, k1, ⟨by rw [hl, ← rl.length]; exact hz, fun F' hF S2 H2 R2 k2 st => ?_⟩, q⟩
    obtain ⟨ys, hy, ry⟩ := later F' hF S2 H2 R2 k2 st
    refine ⟨fun i z ez => ?_, ⟨ys, hy, by rw [hl, ry.length]⟩⟩
    rw [List.getElem?_map, List.getElem?_zipIdx, Option.map_map] at ez
    obtain ⟨p, ep, rfl⟩ := Option.map_eq_some_iff.mp ez
    obtain ⟨w, ew, rw'⟩ := ry.get ep
    refine ⟨⟨ys, hy, (List.getElem?_eq_some_iff.mp ew).1⟩, fun x H3 ⟨T, u, ⟨x1, x2, x3⟩, y⟩ => ?_⟩
    have eu := (y ys hy).symm.trans ew
    cases eu
    subst x1 x3
    have z := pair_yld (p := .int (i : Nat)) R2 x2 (.int (i : Nat)) rw'
    simpa using z
  rcases seq_case e1 with z | z
  · subst z
    cases r1 with
    | @tup b vs _ hs rl => exact ⟨b, vs, true, rfl, hs.sq, fin b vs true hs.sq rl fun F' hF S2 H2 R2 k2 _ => tup_later (hF _ _ (.tup hs rl)) k2⟩
  · obtain ⟨b, vs, rfl, hs, rl⟩ := lsr_rep R1 r1 z
    exact ⟨b, vs, false, rfl, hs, fin b vs false hs rl fun F' hF S2 H2 R2 k2 st => lst_later rfl (hF _ _ r1) z R2 k2 st⟩
/-! ### comprehensions -/
/-- a comprehension's block -/
def Ctx.blk (c : Ctx) (scope : Scope) : Ctx := { c with sc := relS scope c.sc, cmp := some scope, lam := false }
theorem COk.blk (O : COk X c cs) (s : Shared) (H : Hp) (scope : Scope) (C : Addr) (cl : List (Str × Addr)) (fp : List Addr) : COk (X.blk s H scope (compEnvC scope cl C X.env) fp) (c.blk scope) cs where
  sc := by
    show relS scope X.env.scope = relS scope c.sc
    rw [O.sc]
  N := O.N
  nd := O.nd
  calm := O.calm
  hu := O.hu
  pass := PassesOwn.never
  st := fun h => nomatch h
  fr := fun h => nomatch h
  xfn := O.xfn
  xmth := O.xmth
  xcls := O.xcls
  exc := O.exc
  fns := O.fns
  blt := O.blt
  cons := O.cons
  mths := O.mths
  clss := O.clss
  flds := O.flds
  lam := fun h => nomatch h
  gd := O.gd
  mgk := O.mgk
  tabs := O.tabs
  fn := fun x h => by
    have h2 : (decide (scope.names.lookup x = some .cell) || decide ((relS scope c.sc).names.lookup x = some .local)) = true := h
    rcases Bool.or_eq_true_iff.mp h2 with h3 | h3
    · left
      show (scope.names.lookup x == some .cell) = true
      rw [of_decide_eq_true h3]
      rfl
    · right
      show (relS scope X.env.scope).names.lookup x = some .local
      rw [O.sc]
      exact of_decide_eq_true h3
theorem Rl.wipe {K : PySem.W.Frag} {F : Addr → Prop} {S : Sto} {H : Hp} {env : En} {σ : L2.St} (r : Rl K F S H env σ) : ∀ own : List Nat, Rl K F S H (wipeD env own) (L2.wipe σ own)
  | [] => r
  | i :: own => by
    unfold wipeD L2.wipe
    exact (Rl.wipe r own).forget i
abbrev LcQ (stay : Sto → Prop) (asg : D → Option En) (cc : En → Sto → (Bool → Sto → Prop) → Prop) (el : En → Sto → QK → Prop) := wLc stay asg cc el
theorem lc_eq {stay : Sto → Prop} {asg : D → Option En} {cc : En → Sto → (Bool → Sto → Prop) → Prop} {el : En → Sto → QK → Prop} {ds acc : List D} {S : Sto} {Q : List D → Sto → Prop} : wLc stay asg cc el ds acc S Q = wLc0 stay asg cc el ds acc S Q := by
  unfold wLc
  rfl
theorem lc_out {stay : Sto → Prop} {asg : D → Option En} {cc : En → Sto → (Bool → Sto → Prop) → Prop} {el : En → Sto → QK → Prop} {d : D} {ds acc : List D} {S : Sto} {Q : List D → Sto → Prop} (h : wLc stay asg cc el (d :: ds) acc S Q) :
    stay S ∧ ∃ e2, asg d = some e2 ∧ cc e2 S fun b S2 => wIf b (el e2 S2 fun y S3 => wLc stay asg cc el ds (acc ++ [y]) S3 Q) (wLc stay asg cc el ds acc S2 Q) := by
  simp only [lc_eq] at h ⊢
  exact ⟨h.1, wOpt_in h.2⟩
theorem lc_end {stay : Sto → Prop} {asg : D → Option En} {cc : En → Sto → (Bool → Sto → Prop) → Prop} {el : En → Sto → QK → Prop} {acc : List D} {S : Sto} {Q : List D → Sto → Prop} (h : wLc stay asg cc el [] acc S Q) : stay S ∧ Q acc S := by
  rw [lc_eq] at h
  exact h
theorem wipe_put {σ : L2.St} {i : Nat} {o : Option V} : ∀ {own : List Nat}, i ∉ own → L2.wipe (σ.set i o) own = (L2.wipe σ own).set i o
  | [], _ => rfl
  | k :: own, hk => by
    unfold L2.wipe
    rw [wipe_put fun z => hk (List.mem_cons_of_mem _ z)]
    exact List.set_comm _ _ fun z => hk (by rw [z]; exact List.mem_cons_self)
theorem wipe_sub {σ : L2.St} {own : List Nat} : ∀ {sub : List Nat}, (∀ i ∈ sub, i ∈ own) → L2.wipe (L2.wipe σ sub) own = L2.wipe σ own
  | [], _ => rfl
  | i :: sub, h => by
    show L2.wipe ((L2.wipe σ sub).set i none) own = _
    rw [wipe_set (h i List.mem_cons_self)]
    exact wipe_sub fun j hj => h j (List.mem_cons_of_mem _ hj)
/-- the turn's state, by the place in the items: the new list at D is hidden -/
structure LcI (K : PySem.W.Frag) (F : Addr → Prop) (S1 : Sto) (H1 : Hp) (D : Addr) (i : Nat) (Wp : List Z.D → Sto → Prop) (H2 : Hp) : Prop where
  ex : ∃ (acc : List Z.D) (accV : List V) (S2 : Sto), RelS K (fun b => F b ∨ b = D) S2 H2 ∧ Keep K S1 H1 S2 H2 ∧ H2 D = some (.lst accV) ∧ RepL K (fun b => F b ∨ b = D) S2 H2 accV acc ∧ acc.length ≤ i ∧ Wp acc S2
theorem lc_read (O : COk X c cs) {m : Bool} {el : E} {t : T} {it : I} {own : List Nat} {cnd : Option E} {elt tg iter : Expr} {ifs : List Expr} {scope : Scope} {pos : Pos} {ownN : List (Str × Nat)} (hown : ownN.map (·.2) = own) (hf : nset iter = true)
    (hb : blkC c.N c.sc scope ownN = true) (ht : ∀ i ∈ tIds t, i ∈ own) (hi : SndI X cs it tg iter) (hg : ∀ {X' : Cx}, X'.K = X.K → COk X' (c.blk scope) cs → SndG X' t tg) (he : ∀ {X' : Cx}, X'.K = X.K → COk X' (c.blk scope) cs → SndE X' cs el elt)
    (hc : (cnd = none ∧ ifs = []) ∨ ∃ ci ce, cnd = some ci ∧ ifs = [ce] ∧ ∀ {X' : Cx}, X'.K = X.K → COk X' (c.blk scope) cs → SndT X' cs ci ce) : ∀ (F : Addr → Prop) (env : En) (S : Sto) (σ : L2.St) (H : Hp) (Q : QK), RelS X.K F S H → Rl X.K F S H env σ → wE cs EX0 (.lc m el t it cnd own) env S Q →
    ∃ (g : TG) (tt : TT) (te : TE), (∀ (s : Shared) (H : Hp) (C : Addr) (cl : List (Str × Addr)) (fp : List Addr), PG (X.blk s H scope (compEnvC scope cl C X.env) fp) tg g) ∧ (∀ (s : Shared) (H : Hp) (C : Addr) (cl : List (Str × Addr)) (fp : List Addr), PTs (X.blk s H scope (compEnvC scope cl C X.env) fp) ifs tt) ∧
      (∀ (s : Shared) (H : Hp) (C : Addr) (cl : List (Str × Addr)) (fp : List Addr), PE (X.blk s H scope (compEnvC scope cl C X.env) fp) elt te) ∧ tLc (wpi X tg iter) g tt te (ownN.map (·.2)) σ H (PD X.K F S H Q) := by
  intro F env S σ H Q R L h
  have SZ := sz
  -- the test and the element, wherever the block stands
  let cc : En → Sto → (Bool → Sto → Prop) → Prop := fun e S2 Rk => match cnd with
    | none => Rk true S2
    | some ci => wT cs EX0 ci e S2 Rk
  let asg : Z.D → Option En := fun d => asgT t d (wipeD env own)
  let ee : En → Sto → QK → Prop := fun e S2 Rk => wE cs EX0 el e S2 Rk
  let QQ : List Z.D → Sto → Prop := fun ys S2 => newL m ys S2 Q
  have h : wI cs EX0 it env S fun items stay S1 => wLc stay asg cc ee items [] S1 QQ := by
    cases cnd with
    | none => exact h
    | some ci => exact h
  let TG' : TG := fun v σ H Q => ∀ (s : Shared) (H0 : Hp) (C : Addr) (cl : List (Str × Addr)) (fp : List Addr), wpg (X.blk s H0 scope (compEnvC scope cl C X.env) fp) tg v σ H Q
  let TT' : TT := fun σ H Q => match cnd with
    | none => Q true H
    | some _ => ∀ (s : Shared) (H0 : Hp) (C : Addr) (cl : List (Str × Addr)) (fp : List Addr), wpt (X.blk s H0 scope (compEnvC scope cl C X.env) fp) (ifs.headD elt) σ H Q
  let TE' : TE := fun σ H Q => ∀ (s : Shared) (H0 : Hp) (C : Addr) (cl : List (Str × Addr)) (fp : List Addr), wpx (X.blk s H0 scope (compEnvC scope cl C X.env) fp) elt σ H Q
  refine ⟨TG', TT', TE', fun s H0 C cl fp => ⟨fun _ _ _ _ _ _ _ I r h => pg_x.run _ _ _ _ _ _ _ I r (h s H0 C cl fp)⟩, fun s H0 C cl fp => ?_, fun s H0 C cl fp => ⟨fun _ _ _ _ _ I h => pe_x.run _ _ _ _ _ I (h s H0 C cl fp)⟩, ?_⟩
  · rcases hc with ⟨rfl, rfl⟩ | ⟨ci, ce, rfl, rfl, _⟩
    · exact pts_nil
    · exact pts_one ⟨fun _ _ _ _ _ I h => pt_x.run _ _ _ _ _ I (h s H0 C cl fp)⟩
  rw [hown]
  refine wpi_mono (hi F env S σ H _ R L h) fun J H1 ⟨items, stay, S1, R1, k1, ok, q⟩ => ?_
  intro D hD
  have hF : ∀ v d, Rep X.K F S1 H1 v d → Rep X.K (fun b => F b ∨ b = D) S1 H1 v d := hideGo hD
  have ok2 := ok.2 _ hF
  refine ⟨fun i n H2 => i + n = items.length ∧ LcI X.K F S1 H1 D i (fun acc S2 => wLc stay asg cc ee (items.drop i) acc S2 QQ) H2, ⟨items.length, by omega, ⟨[], [], S1, R1.hide hD, keepNew hD, upd_same, .nil, Nat.le_refl _, q⟩⟩, ?_⟩
  rintro i n H2 ⟨hn, acc, accV, S2, R2, k2, hD2, ra, hal, q⟩
  have hS2 : S2 D = none := (R2.hid D (.inr rfl)).2
  have L2' : Rl X.K (fun b => F b ∨ b = D) S2 H2 (wipeD env own) (L2.wipe σ own) := Rl.wipe (k2.env ((k1.env L).map hF)) own
  by_cases hlt : i < items.length
  · obtain ⟨d, ed⟩ : ∃ d, items[i]? = some d := ⟨items[i], List.getElem?_eq_getElem hlt⟩
    have edrop : items.drop i = d :: items.drop (i + 1) := by
      rw [List.drop_eq_getElem_cons hlt]
      have := List.getElem?_eq_getElem hlt
      rw [ed] at this
      rw [← Option.some.inj this]
    rw [edrop] at q
    obtain ⟨st, e2, ea, q⟩ := lc_out q
    obtain ⟨go, _⟩ := ok2 S2 H2 R2 k2 st
    obtain ⟨go, yl⟩ := go i d ed
    refine .inr ⟨go, LcI X.K F S1 H1 D (i + 1) (fun acc S2 => wLc stay asg cc ee (items.drop (i + 1)) acc S2 QQ), fun H4 w => ⟨n - 1, by omega, by omega, w⟩, fun x H3 y => ?_⟩
    obtain ⟨R3, k3, r3⟩ := yl x H3 y
    intro s H0 C cl fp
    have O' := O.blk s H0 scope C cl fp
    refine wpg_mono (hg (X' := X.blk s H0 scope (compEnvC scope cl C X.env) fp) rfl O' _ _ e2 S2 _ H3 x d R3 (k3.env L2') r3 ea) fun σ2 H4 ⟨e4, L4, hw⟩ => ⟨(hw own ht).trans (wipe_sub fun _ h => h), ?_⟩
    subst e4
    have hD3 := k3.lst D accV hD2 hS2
    have ra3 := k3.list ra
    -- behind the test
    have fin : ∀ (b : Bool) (S5 : Sto) (H5 : Hp), RelS X.K (fun b => F b ∨ b = D) S5 H5 → Keep X.K S2 H4 S5 H5 → wIf b (ee e2 S5 fun y S3 => wLc stay asg cc ee (items.drop (i + 1)) (acc ++ [y]) S3 QQ) (wLc stay asg cc ee (items.drop (i + 1)) acc S5 QQ) →
        if b = true then TE' σ2 H5 fun y H6 => ∃ acc', H6 D = some (.lst acc') ∧ acc'.length < sizeLine ∧ LcI X.K F S1 H1 D (i + 1) (fun acc S2 => wLc stay asg cc ee (items.drop (i + 1)) acc S2 QQ) (upd H6 D (.lst (acc' ++ [y])))
        else LcI X.K F S1 H1 D (i + 1) (fun acc S2 => wLc stay asg cc ee (items.drop (i + 1)) acc S2 QQ) H5 := by
      intro b S5 H5 R5 k5 q5
      have hD5 := k5.lst D accV hD3 hS2
      have hS5 : S5 D = none := (R5.hid D (.inr rfl)).2
      rcases wIf_in q5 with ⟨rfl, q6⟩ | ⟨rfl, q6⟩
      · rw [if_pos rfl]
        intro s' H0' C' cl' fp'
        refine wpx_mono (he (X' := X.blk s' H0' scope (compEnvC scope cl' C' X.env) fp') rfl (O.blk s' H0' scope C' cl' fp') _ e2 S5 σ2 H5 _ R5 (k5.env L4) q6) fun y H6 ⟨dy, S6, R6, r6, k6, q7⟩ => ?_
        have hD6 := k6.lst D accV hD5 hS5
        have hS6 : S6 D = none := (R6.hid D (.inr rfl)).2
        have ra6 := (k5.trans k6).list ra3
        have hl := ra.length
        have hz := ok.1
        refine ⟨accV, hD6, by omega, ⟨acc ++ [dy], accV ++ [y], S6, R6.hset (.inr rfl), ?_, upd_same, (ra6.append (.cons r6 .nil)).map (hidSet (.inr rfl)), by rw [List.length_append]; show acc.length + 1 ≤ i + 1; omega, q7⟩⟩
        have k16 : Keep X.K S1 H1 S6 H6 := ((k2.trans k3).trans k5).trans k6
        have ne : ∀ b, H1 b ≠ none → b ≠ D := fun b z e => z (by rw [e]; exact hD)
        exact ⟨fun b xs e => by rw [upd_ne (ne b (by rw [e]; exact fun z => nomatch z))]; exact k16.tup b xs e, fun b o u e => by rw [upd_ne (ne b (by rw [e]; exact fun z => nomatch z))]; exact k16.frz b o u e,
          fun b xs e n => by rw [upd_ne (ne b (by rw [e]; exact fun z => nomatch z))]; exact k16.lst b xs e n, k16.sto, fun b o e t => by
            obtain ⟨u, e1, t1⟩ := k16.dom b o e t
            exact upd_dom e1 t1 rfl⟩
      · rw [if_neg Bool.false_ne_true]
        exact ⟨acc, accV, S5, R5, ((k2.trans k3).trans k5), hD5, k5.list ra3, by omega, q6⟩
    rcases hc with ⟨rfl, rfl⟩ | ⟨ci, ce, rfl, rfl, hct⟩
    · exact fin true S2 H4 R3 Keep.refl q
    · intro s' H0' C' cl' fp'
      refine wpt_mono (hct (X' := X.blk s' H0' scope (compEnvC scope cl' C' X.env) fp') rfl (O.blk s' H0' scope C' cl' fp') _ e2 S2 σ2 H4 _ R3 L4 q) fun b H5 ⟨S5, R5, k5, q5⟩ => ?_
      exact fin b S5 H5 R5 k5 q5
  · have ei : i = items.length := by omega
    subst ei
    rw [List.drop_length] at q
    obtain ⟨st, q⟩ := lc_end q
    refine .inl ⟨(ok2 S2 H2 R2 k2 st).2, ?_⟩
    have R2' : RelS X.K F S2 H2 := R2.show fun b f => .inl f
    have k : Keep X.K S H S2 H2 := k1.trans k2
    have ra' := RepL.map (showGo (F' := F) fun b f => Or.inl f) ra
    have nF : ¬ F D := R1.nhid hD
    cases m with
    | false => exact ⟨.lst acc, S2, R2', .lst hD2 hS2 nF ra', k, q⟩
    | true =>
      have q := q D hS2
      have ne : ∀ b, H1 b ≠ none → b ≠ D := fun b z e => z (by rw [e]; exact hD)
      have k3 : Keep X.K S1 H1 (supd S2 D (.lst acc)) H2 := ⟨k2.tup, k2.frz, k2.lst, fun b o n e t => by rw [supd_ne (ne b (by rw [e]; exact fun z => nomatch z))]; exact k2.sto b o n e t, k2.dom⟩
      have mp : ∀ v d, Rep X.K (fun b => F b ∨ b = D) S2 H2 v d → Rep X.K F (supd S2 D (.lst acc)) H2 v d := supGo
      refine ⟨.ref D, supd S2 D (.lst acc), ⟨fun b o e => ?_, fun b f => ?_, ?_⟩, .ref D, k1.trans k3, q⟩
      · by_cases hb : b = D
        · subst hb
          rw [supd_same] at e
          cases e
          exact ⟨accV, hD2, ra.map mp⟩
        · rw [supd_ne hb] at e
          exact RO.map mp rfl (R2.at_ b o e)
      · have hb : b ≠ D := fun z => nF (by rw [← z]; exact f)
        exact ⟨(R2'.hid b f).1, by rw [supd_ne hb]; exact (R2'.hid b f).2⟩
      · exact R2'.tab
theorem sE_lc (O : COk X c cs) {m : Bool} {el : E} {t : T} {it : I} {own : List Nat} {cnd : Option E} {elt tg iter : Expr} {ifs : List Expr} {scope : Scope} {pos : Pos} {ownN : List (Str × Nat)} (hown : ownN.map (·.2) = own) (hf : nset iter = true)
    (hb : blkC c.N c.sc scope ownN = true) (ht : ∀ i ∈ tIds t, i ∈ own) (hi : SndI X cs it tg iter) (hg : ∀ {X' : Cx}, X'.K = X.K → COk X' (c.blk scope) cs → SndG X' t tg) (he : ∀ {X' : Cx}, X'.K = X.K → COk X' (c.blk scope) cs → SndE X' cs el elt)
    (hc : (cnd = none ∧ ifs = []) ∨ ∃ ci ce, cnd = some ci ∧ ifs = [ce] ∧ ∀ {X' : Cx}, X'.K = X.K → COk X' (c.blk scope) cs → SndT X' cs ci ce) : SndE X cs (.lc m el t it cnd own) (.ListComp elt [⟨tg, iter, ifs, 0⟩] scope pos) := by
  intro F env S σ H Q R L h
  obtain ⟨g, tt, te, h1, h2, h3, q⟩ := lc_read (pos := pos) O hown hf hb ht hi hg he hc F env S σ H Q R L h
  exact pex (pe_lc O.calm O.nd pi_x (blkOk_by (by rw [O.N, O.sc]; exact hb)) h1 h2 h3 (folded_of hf)) q
end
end Z
set_option Elab.async false
set_option linter.all false
set_option maxRecDepth 100000
set_option maxHeartbeats 4000000
/-! Z7: what the trees say holds of the model: statements. -/
namespace Z
open PySem PySem.Spec PyProof.Rows L2
theorem sw2 {env : Env} {x y : Str} {a b : Expr} {px py pt p2 : Pos} {k k2 : Nat} (hx : env.scope.names.lookup x = some .local) (hy : env.scope.names.lookup y = some .local) (hl : (py.line == px.line) = true) (hxy : x ≠ y) (ha : nst a = true) (hb : nst b = true)
    (hf : (foldedForSure 8 a && foldedForSure 8 b) = false) (hc : (constantsAlone 8 a && constantsAlone 8 b) = false) (hk : env.scope.kind = .function) : swappedStores [.Tuple [.Name x px, .Name y py] k pt] (.Tuple [a, b] k2 p2) env = pure (some [x, y]) := by
  have kx : (env.kindOf x == some .local) = true := by unfold Env.kindOf; rw [hx]; rfl
  have ky : (env.kindOf y == some .local) = true := by unfold Env.kindOf; rw [hy]; rfl
  have hb' : env.blockKind = .function := by unfold Env.blockKind; rw [hk]; rfl
  have nd : [x, y].eraseDups = [x, y] := by
    rw [List.eraseDups_cons]
    simp [Ne.symm hxy, List.eraseDups_cons]
  unfold swappedStores
  simp only [List.length_cons, List.length_nil, hb', List.any_cons, List.any_nil, List.head?_cons, Option.map_some, Option.getD_some, List.filterMap_cons, List.filterMap_nil, Expr.pos, kx, ky, hl, beq_self_eq_true, Bool.and_true, Bool.and_self, if_true, nd, List.all_cons, List.all_nil, hf, hc]
  refine (if_neg (by decide)).trans ((if_neg fun h => ?_).trans ((if_neg (by decide)).trans rfl))
  simp only [Bool.or_eq_true] at h
  rcases h with h | h | h
  · cases a <;> first | exact absurd h Bool.false_ne_true | exact absurd ha Bool.false_ne_true
  · cases b <;> first | exact absurd h Bool.false_ne_true | exact absurd hb Bool.false_ne_true
  · exact absurd h Bool.false_ne_true
theorem sw3 {env : Env} {x y z : Str} {a b c : Expr} {px py pz pt p2 : Pos} {k k2 : Nat} (hx : env.scope.names.lookup x = some .local) (hy : env.scope.names.lookup y = some .local) (hz : env.scope.names.lookup z = some .local) (hl : (py.line == px.line) = true) (hl2 : (pz.line == px.line) = true) (hxy : x ≠ y) (hxz : x ≠ z) (hyz : y ≠ z) (ha : nst a = true) (hb : nst b = true) (hc' : nst c = true)
    (hf : (foldedForSure 8 a && (foldedForSure 8 b && foldedForSure 8 c)) = false) (hc : (constantsAlone 8 a && (constantsAlone 8 b && constantsAlone 8 c)) = false) (hk : env.scope.kind = .function) : swappedStores [.Tuple [.Name x px, .Name y py, .Name z pz] k pt] (.Tuple [a, b, c] k2 p2) env = pure (some [x, y, z]) := by
  have kx : (env.kindOf x == some .local) = true := by unfold Env.kindOf; rw [hx]; rfl
  have ky : (env.kindOf y == some .local) = true := by unfold Env.kindOf; rw [hy]; rfl
  have kz : (env.kindOf z == some .local) = true := by unfold Env.kindOf; rw [hz]; rfl
  have hb' : env.blockKind = .function := by unfold Env.blockKind; rw [hk]; rfl
  have nd : [x, y, z].eraseDups = [x, y, z] := by
    rw [List.eraseDups_cons]
    simp [Ne.symm hxy, Ne.symm hxz, List.eraseDups_cons, Ne.symm hyz]
  unfold swappedStores
  simp only [List.length_cons, List.length_nil, hb', List.any_cons, List.any_nil, List.head?_cons, Option.map_some, Option.getD_some, List.filterMap_cons, List.filterMap_nil, Expr.pos, kx, ky, kz, hl, hl2, beq_self_eq_true, Bool.and_true, Bool.and_self, if_true, nd, List.all_cons, List.all_nil, hf, hc]
  refine (if_neg (by decide)).trans ((if_neg fun h => ?_).trans ((if_neg (by decide)).trans rfl))
  simp only [Bool.or_eq_true] at h
  rcases h with h | h | h | h
  · cases a <;> first | exact absurd h Bool.false_ne_true | exact absurd ha Bool.false_ne_true
  · cases b <;> first | exact absurd h Bool.false_ne_true | exact absurd hb Bool.false_ne_true
  · cases c <;> first | exact absurd h Bool.false_ne_true | exact absurd hc' Bool.false_ne_true
  · exact absurd h Bool.false_ne_true

/-- no comprehension -/
def nlc : Expr → Bool
  | .ListComp .. => false
  | .SetComp .. => false
  | .DictComp .. => false
  | _ => true
theorem swaps_of {e : Expr} {t : Option Expr} {l : Nat} {env : Env} (h : nlc e = true) : swapsWith e t l env = pure false := by
  cases e <;> first | rfl | exact nomatch (show false = true from h)
/-- no tuple display -/
def ntup : Expr → Bool
  | .Tuple .. => false
  | _ => true
theorem stores_of {t e : Expr} {env : Env} (h : ntup e = true) : swappedStores [t] e env = pure none := by
  cases e <;> first | exact nomatch (show false = true from h) | (cases t <;> rfl)
theorem stores_name {x : Str} {p : Pos} {e : Expr} {env : Env} : swappedStores [.Name x p] e env = pure none := by
  cases e <;> rfl

/-- what is wanted behind -/
structure Cov (X : Cx) (F : Addr → Prop) (K : Dn) (S0 : Sto) (H0 : Hp) (D : Ends) : Prop where
  nx : ∀ env S σ H, K.nx env S → RelS X.K F S H → Rl X.K F S H env σ → Keep X.K S0 H0 S H → D.nx σ H
  rt : ∀ d S v H, K.rt d S → RelS X.K F S H → Rep X.K F S H v d → Keep X.K S0 H0 S H → D.rt v H
  bk : ∀ env S σ H, K.bk env S → RelS X.K F S H → Rl X.K F S H env σ → Keep X.K S0 H0 S H → D.bk σ H
  ct : ∀ env S σ H, K.ct env S → RelS X.K F S H → Rl X.K F S H env σ → Keep X.K S0 H0 S H → D.ct σ H
  ex : ∃ W : WX, L2N.Takes X W ∧ ∀ n env S σ H C, K.ex n .non env S → clsAt X.K n = some C → RelS X.K F S H → Rl X.K F S H env σ → Keep X.K S0 H0 S H → W (.ref C) none σ H
theorem Cov.exF {X : Cx} {F : Addr → Prop} {K : Dn} {S0 S1 : Sto} {H0 H1 : Hp} {D : Ends} (C : Cov X F K S0 H0 D) (k : Keep X.K S0 H0 S1 H1) : ∃ W : WX, L2N.Takes X W ∧ ∀ n env S σ H C, K.ex n .non env S → clsAt X.K n = some C → RelS X.K F S H → Rl X.K F S H env σ → Keep X.K S1 H1 S H → W (.ref C) none σ H := by
  obtain ⟨W, tk, h⟩ := C.ex
  exact ⟨W, tk, fun n env S σ H C x c R L k' => h n env S σ H C x c R L (k.trans k')⟩
theorem Cov.from {X : Cx} {F : Addr → Prop} {K : Dn} {S0 S1 : Sto} {H0 H1 : Hp} {D : Ends} (C : Cov X F K S0 H0 D) (k : Keep X.K S0 H0 S1 H1) : Cov X F K S1 H1 D :=
  ⟨fun env S σ H q R L k' => C.nx env S σ H q R L (k.trans k'), fun d S v H q R r k' => C.rt d S v H q R r (k.trans k'), fun env S σ H q R L k' => C.bk env S σ H q R L (k.trans k'), fun env S σ H q R L k' => C.ct env S σ H q R L (k.trans k'), C.exF k⟩
section
variable (X : Cx) (cs : CS)
def psx (st : Stmt) : TS := fun D σ H => ∃ t, PS X st t ∧ t D σ H
def pssx (st : List Stmt) : TS := fun D σ H => ∃ t, PSs X st t ∧ t D σ H
def SndS (ir : Stm) (st : Stmt) : Prop := ∀ (F : Addr → Prop) (K : Dn) (env : En) (S : Sto) (σ : L2.St) (H : Hp) (D : Ends), RelS X.K F S H → Rl X.K F S H env σ → Cov X F K S H D → wS cs EX0 ir K env S → psx X st D σ H
def SndSs (ir : List Stm) (st : List Stmt) : Prop := ∀ (F : Addr → Prop) (K : Dn) (env : En) (S : Sto) (σ : L2.St) (H : Hp) (D : Ends), RelS X.K F S H → Rl X.K F S H env σ → Cov X F K S H D → wSs cs EX0 ir K env S → pssx X st D σ H
end
section
variable {X : Cx} {c : Ctx} {cs : CS}
theorem ps_x {st : Stmt} : PS X st (psx X st) := ⟨fun _ _ _ _ _ I h => h.choose_spec.1.run _ _ _ _ _ I h.choose_spec.2⟩
theorem pss_x {st : List Stmt} : PSs X st (pssx X st) := ⟨fun _ _ _ _ _ I h => h.choose_spec.1.run _ _ _ _ _ I h.choose_spec.2⟩
theorem psxx {st : Stmt} {t : TS} {D : Ends} {σ : L2.St} {H : Hp} (h : PS X st t) (q : t D σ H) : psx X st D σ H := ⟨t, h, q⟩
theorem pssxx {st : List Stmt} {t : TS} {D : Ends} {σ : L2.St} {H : Hp} (h : PSs X st t) (q : t D σ H) : pssx X st D σ H := ⟨t, h, q⟩
theorem sSs_nil : SndSs X cs [] [] := fun F K env S σ H D R L C h => pssxx pss_nil (C.nx env S σ H (by rw [wSs_nil] at h; exact h) R L Keep.refl)
theorem sSs_cons {s : Stm} {r : List Stm} {st : Stmt} {rest : List Stmt} (h1 : SndS X cs s st) (h2 : SndSs X cs r rest) : SndSs X cs (s :: r) (st :: rest) := by
  intro F K env S σ H D R L C h
  rw [wSs_cons] at h
  refine pssxx (pss_cons ps_x pss_x) ?_
  exact h1 F { nx := wSs cs EX0 r K, rt := K.rt, bk := K.bk, ct := K.ct, ex := K.ex } env S σ H { D with nx := pssx X rest D } R L ⟨fun env2 S2 σ2 H2 q R2 L2 k => h2 F K env2 S2 σ2 H2 D R2 L2 (C.from k) q, C.rt, C.bk, C.ct, C.ex⟩ h
theorem sS_expr {e : E} {x : Expr} {pos : Pos} (hn : nlc x = true) (he : SndE X cs e x) : SndS X cs (.expr e) (.Expr x pos) := by
  intro F K env S σ H D R L C h
  refine psxx (ps_expr pe_x (swaps_of hn)) ?_
  exact wpx_mono (he F env S σ H _ R L h) fun v H1 ⟨d, S1, R1, r1, k1, h1⟩ => C.nx env S1 σ H1 h1 R1 (k1.env L) k1
theorem sS_ret {e : E} {x : Expr} {pos : Pos} (he : SndE X cs e x) : SndS X cs (.ret e) (.Return (some x) pos) := by
  intro F K env S σ H D R L C h
  refine psxx (ps_ret pe_x) ?_
  exact wpx_mono (he F env S σ H _ R L h) fun v H1 ⟨d, S1, R1, r1, k1, h1⟩ => C.rt d S1 v H1 h1 R1 r1 k1
theorem sS_retN {pos : Pos} : SndS X cs .retN (.Return none pos) := fun F K env S σ H D R L C h => psxx ps_retN (C.rt .non S .non H h R .non Keep.refl)
theorem sS_pass {pos : Pos} : SndS X cs .pass (.Pass pos) := fun F K env S σ H D R L C h => psxx ps_pass (C.nx env S σ H h R L Keep.refl)
theorem sS_brk {pos : Pos} : SndS X cs .brk (.Break pos) := fun F K env S σ H D R L C h => psxx ps_break (C.bk env S σ H h R L Keep.refl)
theorem sS_cont {pos : Pos} : SndS X cs .cont (.Continue pos) := fun F K env S σ H D R L C h => psxx ps_continue (C.ct env S σ H h R L Keep.refl)
theorem sS_never {st : Stmt} : SndS X cs .never st := fun F K env S σ H D R L C h => h.elim
theorem sole_of {t e : Expr} {l : Nat} {env : Env} (h : nlc e = true) : swapsWithSole [t] e l env = pure false := swaps_of h
theorem asg_one {t : Expr} {env : Env} (h : nst t = true) : (assignEach [t] env).map (·.2) = [assign t env] := asg_cons (es := []) h
/-- t = e, e no comprehension; no display of a tuple for a tuple -/
theorem sw_cell {x : Expr} {py : Pos} {y : Str} {l : Nat} {env : Env} (hy : env.scope.names.lookup y = some .cell) : swapsWithSole [.Name y py] x l env = pure false := by
  have e : env.kindOf y = some .cell := hy
  show swapsWith x (some (.Name y py)) l env = pure false
  have z : (NameKind.cell == NameKind.local) = false := rfl
  cases x <;> first | rfl | simp [swapsWith, e, z]
theorem sS_asg {t : T} {e : E} {tg x : Expr} {pos : Pos} (hn : ∀ l, swapsWithSole [tg] x l X.env = pure false) (hs : nst tg = true) (ht : swappedStores [tg] x X.env = pure none) (hg : SndJ X t tg) (he : SndE X cs e x) : SndS X cs (.asg t e) (.Assign [tg] x pos) := by
  intro F K env S σ H D R L C h
  refine psxx (ps_asg pe_x pg_x (hn _) ht (asg_one hs)) ?_
  refine wpx_mono (he F env S σ H _ R L h) fun v H1 ⟨d, S1, R1, r1, k1, h1⟩ => ?_
  obtain ⟨e2, ea, q⟩ := wOpt_in h1
  exact wpg_mono (hg F env e2 S1 σ H1 v d R1 (k1.env L) r1 ea) fun σ2 H2 ⟨e1, L2, _⟩ => by
    subst e1
    exact C.nx e2 S1 σ2 _ q R1 L2 k1
theorem sS_par (O : COk X c cs) {i j : Nat} {a b : E} {x y : Str} {ea eb : Expr} {px py pt p2 pos : Pos} {k k2 : Nat} (hi : c.N[i]? = some x) (hj : c.N[j]? = some y) (hx : c.sc.names.lookup x = some .local) (hy : c.sc.names.lookup y = some .local) (hl : (py.line == px.line) = true) (hxy : x ≠ y) (na : nst ea = true) (nb : nst eb = true)
    (hf : (foldedForSure 8 ea && foldedForSure 8 eb) = false) (hc : (constantsAlone 8 ea && constantsAlone 8 eb) = false) (hk : c.sc.kind = .function) (ha : SndE X cs a ea) (hb : SndE X cs b eb) : SndS X cs (.par i j a b) (.Assign [.Tuple [.Name x px, .Name y py] k pt] (.Tuple [ea, eb] k2 p2) pos) := by
  intro F K env S σ H D R L C h
  rw [← O.sc] at hx hy hk
  rw [← O.N] at hi hj
  have hij : i ≠ j := fun z => hxy (by rw [z, hj] at hi; exact (Option.some.inj hi).symm)
  refine psxx (ps_par O.calm O.nd hi hj hij hx hy (pa_cons pe_x (pa_cons pe_x pa_nil (star_cons nb)) (star_cons na)) (sw2 hx hy hl hxy na nb hf hc hk)) ?_
  refine wpx_mono (ha F env S σ H _ R L h) fun v H1 ⟨d, S1, R1, r1, k1, h1⟩ => ?_
  refine wpx_mono (hb F env S1 σ H1 _ R1 (k1.env L) h1) fun w H2 ⟨d2, S2, R2, r2, k2, h2⟩ => ?_
  exact ⟨v, w, rfl, C.nx _ S2 _ H2 h2 R2 ((((k1.trans k2).env L).set i (k2 _ _ r1)).set j r2) (k1.trans k2)⟩
theorem sS_par3 (O : COk X c cs) {i j l : Nat} {a b d : E} {x y z : Str} {ea eb ed : Expr} {px py pz pt p2 pos : Pos} {k k2 : Nat} (hi : c.N[i]? = some x) (hj : c.N[j]? = some y) (hm : c.N[l]? = some z) (hx : c.sc.names.lookup x = some .local) (hy : c.sc.names.lookup y = some .local) (hz : c.sc.names.lookup z = some .local) (hl : (py.line == px.line) = true) (hl2 : (pz.line == px.line) = true) (hxy : x ≠ y) (hxz : x ≠ z) (hyz : y ≠ z) (na : nst ea = true) (nb : nst eb = true) (nd : nst ed = true)
    (hf : (foldedForSure 8 ea && (foldedForSure 8 eb && foldedForSure 8 ed)) = false) (hc : (constantsAlone 8 ea && (constantsAlone 8 eb && constantsAlone 8 ed)) = false) (hk : c.sc.kind = .function) (ha : SndE X cs a ea) (hb : SndE X cs b eb) (hd : SndE X cs d ed) : SndS X cs (.par3 i j l a b d) (.Assign [.Tuple [.Name x px, .Name y py, .Name z pz] k pt] (.Tuple [ea, eb, ed] k2 p2) pos) := by
  intro F K env S σ H D R L C h
  rw [← O.sc] at hx hy hz hk
  rw [← O.N] at hi hj hm
  have hij : i ≠ j := fun z => hxy (by rw [z, hj] at hi; exact (Option.some.inj hi).symm)
  have hil : i ≠ l := fun z => hxz (by rw [z, hm] at hi; exact (Option.some.inj hi).symm)
  have hjl : j ≠ l := fun z => hyz (by rw [z, hm] at hj; exact (Option.some.inj hj).symm)
  refine psxx (ps_par3 O.calm O.nd hi hj hm hij hil hjl hx hy hz (pa_cons pe_x (pa_cons pe_x (pa_cons pe_x pa_nil (star_cons nd)) (star_cons nb)) (star_cons na)) (sw3 hx hy hz hl hl2 hxy hxz hyz na nb nd hf hc hk)) ?_
  refine wpx_mono (ha F env S σ H _ R L h) fun v H1 ⟨d, S1, R1, r1, k1, h1⟩ => ?_
  refine wpx_mono (hb F env S1 σ H1 _ R1 (k1.env L) h1) fun w H2 ⟨d2, S2, R2, r2, k2, h2⟩ => ?_
  refine wpx_mono (hd F env S2 σ H2 _ R2 ((k1.trans k2).env L) h2) fun w3 H3 ⟨d3, S3, R3, r3, k3, h3⟩ => ?_
  exact ⟨v, w, w3, rfl, C.nx _ S3 _ H3 h3 R3 ((((((k1.trans k2).trans k3).env L).set i ((k2.trans k3) _ _ r1)).set j (k3 _ _ r2)).set l r3) ((k1.trans k2).trans k3)⟩
theorem sS_setIx {o i e : E} {x y z : Expr} {p pos : Pos} (hn : nlc z = true) (hy : nsl y = true) (ho : SndE X cs o x) (hi : SndE X cs i y) (he : SndE X cs e z) (hz : ntup z = true ∨ True) : SndS X cs (.setIx o i e) (.Assign [.Subscript x y p] z pos) := by
  intro F K env S σ H D R L C h
  have hw : swappedStores [.Subscript x y p] z X.env = pure none := by cases z <;> rfl
  refine psxx (ps_asg pe_x (pg_sub pe_x pe_x set_list (by
    intro v
    cases y <;> first | rfl | exact nomatch (show false = true from hy))) (sole_of hn) hw (asg_one rfl)) ?_
  refine wpx_mono (he F env S σ H _ R L h) fun v H1 ⟨d, S1, R1, r1, k1, h1⟩ => ?_
  refine wpx_mono (ho F env S1 σ H1 _ R1 (k1.env L) h1) fun w H2 ⟨d2, S2, R2, r2, k2, h2⟩ => ?_
  refine wpx_mono (hi F env S2 σ H2 _ R2 ((k1.trans k2).env L) h2) fun j H3 ⟨d3, S3, R3, r3, k3, h3⟩ => ?_
  have q := set_s R3 (k3 _ _ r2) r3 ((k2.trans k3) _ _ r1) h3
  obtain ⟨a, xs, kk, jj, e1, e2, e3, e4, S4, R4, k4, q⟩ := q
  exact ⟨a, xs, kk, jj, e1, e2, e3, e4, C.nx env S4 σ _ q R4 ((((k1.trans k2).trans k3).trans k4).env L) (((k1.trans k2).trans k3).trans k4)⟩
theorem lc_mono {tg iter : Expr} {g : TG} {tt : TT} {te : TE} {vs : List Nat} {σ : L2.St} {H : Hp} {Q Q' : VK} (m : ∀ v H', Q v H' → Q' v H') (h : tLc (wpi X tg iter) g tt te vs σ H Q) : tLc (wpi X tg iter) g tt te vs σ H Q' := by
  refine wpi_mono h fun J H1 q => fun D hD => ?_
  obtain ⟨W, h0, turn⟩ := q D hD
  exact ⟨W, h0, fun i n H2 w => (turn i n H2 w).imp (fun z => ⟨z.1, m _ _ z.2⟩) id⟩
/-- name = [..] -/
theorem sS_setLc (O : COk X c cs) {i : Nat} {y : Str} {py : Pos} {m : Bool} {el : E} {t : T} {it : I} {own : List Nat} {cnd : Option E} {elt tg iter : Expr} {ifs : List Expr} {scope : Scope} {pos spos : Pos} {ownN : List (Str × Nat)} (hN : c.N[i]? = some y) (hyl : c.sc.names.lookup y = some .local)
    (hline : (py.line == pos.line) = true) (hany : (scope.names.any fun (n, k) => n == y && (k == .local || k == .cell)) = false) (hown : ownN.map (·.2) = own) (hf : nset iter = true)
    (hb : blkC c.N c.sc scope ownN = true) (ht : ∀ i ∈ tIds t, i ∈ own) (hi : SndI X cs it tg iter) (hg : ∀ {X' : Cx}, X'.K = X.K → COk X' (c.blk scope) cs → SndG X' t tg) (he : ∀ {X' : Cx}, X'.K = X.K → COk X' (c.blk scope) cs → SndE X' cs el elt)
    (hc : (cnd = none ∧ ifs = []) ∨ ∃ ci ce, cnd = some ci ∧ ifs = [ce] ∧ ∀ {X' : Cx}, X'.K = X.K → COk X' (c.blk scope) cs → SndT X' cs ci ce) (hk : X.env.scope.kind = .function) :
    SndS X cs (.asg (.nm i) (.lc m el t it cnd own)) (.Assign [.Name y py] (.ListComp elt [⟨tg, iter, ifs, 0⟩] scope pos) spos) := by
  intro F K env S σ H D R L C h
  have h : wE cs EX0 (.lc m el t it cnd own) env S fun d S1 => K.nx (env.set i (some d)) S1 := by
    exact (by
      have h2 : wE cs EX0 (.lc m el t it cnd own) env S (fun x S1 => wOpt (asgO S1 (.nm i) x env) fun e2 => K.nx e2 S1) := h
      have e : (fun (x : Z.D) (S1 : Sto) => wOpt (asgO S1 (.nm i) x env) fun e2 => K.nx e2 S1) = fun d S1 => K.nx (env.set i (some d)) S1 := by
        funext d S1
        show wOpt (some (env.set i (some d))) _ = _
        unfold wOpt
        rfl
      rw [e] at h2
      exact h2)
  obtain ⟨g, tt, te, h1, h2, h3, q⟩ := lc_read (pos := pos) O hown hf hb ht hi hg he hc F env S σ H _ R L h
  have hyl' : X.env.scope.names.lookup y = some .local := by rw [O.sc]; exact hyl
  refine psxx (ps_setLc O.calm O.nd (by rw [O.N]; exact hN) hyl' (sw_true hk hyl' hline hany) pi_x (blkOk_by (by rw [O.N, O.sc]; exact hb)) h1 h2 h3 (folded_of hf)) ?_
  -- the reading's end
  have fin : ∀ v H', PD X.K F S H (fun d S1 => K.nx (env.set i (some d)) S1) v H' → gName i v σ H' D.nx := fun v H' ⟨d, S1, R1, r1, k1, q1⟩ => C.nx _ S1 _ H' q1 R1 ((k1.env L).set i r1) k1
  exact lc_mono fin q
theorem aug_s {op : Operator} {v u : V} {d e : Z.D} {F : Addr → Prop} {S : Sto} {H : Hp} {Q : QK} (R : RelS X.K F S H) (rx : Rep X.K F S H v d) (ry : Rep X.K F S H u e) (h : wAug op d e S Q) : opx X (inplaceOp op) v u H (PD X.K F S H Q) := by
  unfold wAug at h
  split at h
  · cases rx; cases ry; exact opr iop_add ⟨_, _, rfl, rfl, PD.same R (.int _) h⟩
  · cases rx; cases ry; exact opr iop_sub ⟨_, _, rfl, rfl, PD.same R (.int _) h⟩
  · cases rx; cases ry; exact opr iop_mul ⟨_, _, rfl, rfl, h.1.imp wide64 wide64, PD.same R (.int _) h.2⟩
  · have SZ := sz
    cases rx; cases ry; exact opr iop_add_str ⟨_, _, rfl, rfl, by omega, PD.same R (.str _) h.2⟩
  · exact h.elim
theorem pip_x {op : Operator} : PIp X op (fun x y H Q => opx X (inplaceOp op) x y H Q) := fun _ _ _ _ _ _ _ _ _ I a b ⟨_, h, q⟩ => h _ _ _ _ _ _ _ _ _ I a b q
theorem sS_aug (O : COk X c cs) {i : Nat} {x : Str} {op : Operator} {e : E} {y : Expr} {p pos : Pos} (hN : c.N[i]? = some x) (hl : c.loc x = true) (ho : c.ok x = true) (he : SndE X cs e y) : SndS X cs (.aug i op e) (.AugAssign (.Name x p) op y pos) := by
  intro F K env S σ H D R L C h
  refine psxx (ps_aug (i := i) O.nd (by rw [O.N]; exact hN) (O.loc hl) pe_x pip_x (O.fn _ ho)) ?_
  have h2 : wVar (env[i]?) S (fun x S0 => wE cs EX0 e env S0 fun y S1 => wAug op x y S1 fun z S2 => K.nx (env.set i (some z)) S2) := h
  cases q : env[i]? with
  | none => rw [q] at h2; exact h2.elim
  | some o =>
    rw [q] at h2
    cases o with
    | none => exact h2.elim
    | some d =>
      obtain ⟨v, e1, r⟩ := L.at_ i d q
      refine ⟨v, e1, ?_⟩
      refine wpx_mono (he F env S σ H _ R L h2) fun u H1 ⟨d1, S1, R1, r1, k1, h1⟩ => ?_
      refine opx_mono (aug_s R1 (k1 _ _ r) r1 h1) fun w H2 ⟨d2, S2, R2, r2, k2, q2⟩ => ?_
      exact C.nx _ S2 _ H2 q2 R2 (((k1.trans k2).env L).set i r2) (k1.trans k2)
theorem sS_if {k : E} {a b : List Stm} {x : Expr} {y z : List Stmt} {pos : Pos} (hk : SndT X cs k x) (ha : SndSs X cs a y) (hb : SndSs X cs b z) : SndS X cs (.ifS k a b) (.If x y z pos) := by
  intro F K env S σ H D R L C h
  refine psxx (ps_if pt_x pss_x pss_x) ?_
  refine wpt_mono (hk F env S σ H _ R L h) fun b H1 ⟨S1, R1, k1, h1⟩ => ?_
  rcases wIf_in h1 with ⟨rfl, q⟩ | ⟨rfl, q⟩
  · rw [if_pos rfl]
    exact ha F K env S1 σ H1 D R1 (k1.env L) (C.from k1) q
  · rw [if_neg Bool.false_ne_true]
    exact hb F K env S1 σ H1 D R1 (k1.env L) (C.from k1) q
/-- a try that runs through -/
theorem takes_no {X : Cx} : L2N.Takes X fun _ _ _ _ => False := fun u s' ⟨_, _, _, _, _, _, _, _, _, _, _, _, _, _, _, _, z⟩ => z.elim
theorem sS_try (O : COk X c cs) {b : List Stm} {body : List Stmt} {h0 : ExceptHandler} {hs : List ExceptHandler} {pos : Pos} (hb : SndSs X.nox cs b body) : SndS X cs (.tryS b) (.Try body (h0 :: hs) [] [] pos) := by
  intro F K env S σ H D R L C h
  refine psxx (ps_try_thru (X := X) (t := pssx X.nox body) (u := tNext) pss_x pss_nil) ?_
  have h2 : wSs cs EX0 b { nx := K.nx, rt := K.rt, bk := K.bk, ct := K.ct } env S := h
  exact hb F { nx := K.nx, rt := K.rt, bk := K.bk, ct := K.ct } env S σ H _ R L ⟨C.nx, C.rt, C.bk, C.ct, _, takes_no, fun _ _ _ _ _ _ z => (show False from z).elim⟩ h2
/-- .. where no exception is wanted -/
theorem COk.nox (O : COk X c cs) : COk X.nox c cs := { O with pass := PassesOwn.never }
theorem passes (O : COk X c cs) : PassesOwn (model X.prog X.w) X.A X.env X.xe := O.pass
theorem for_out {stay : Sto → Prop} {asg : Z.D → En → Option En} {body : Dn → En → Sto → Prop} {K : Dn} {d : Z.D} {ds : List Z.D} {env : En} {S : Sto} (h : wFor stay asg body K (d :: ds) env S) :
    stay S ∧ ∃ e2, asg d env = some e2 ∧ body { nx := wFor stay asg body K ds, rt := K.rt, bk := K.nx, ct := wFor stay asg body K ds, ex := K.ex } e2 S := by
  have e : ∀ ds, wFor stay asg body K ds = wFor0 stay asg body K ds := fun ds => by
    funext env S
    unfold wFor
    rfl
  rw [e] at h
  rw [e]
  exact ⟨h.1, wOpt_in h.2⟩
theorem for_end {stay : Sto → Prop} {asg : Z.D → En → Option En} {body : Dn → En → Sto → Prop} {K : Dn} {env : En} {S : Sto} (h : wFor stay asg body K [] env S) : stay S ∧ K.nx env S := by
  unfold wFor at h
  exact h
theorem sS_for (O : COk X c cs) {t : T} {it : I} {b : List Stm} {tg iter : Expr} {body : List Stmt} {pos : Pos} (hf : nset iter = true) (hi : SndI X cs it tg iter) (hg : SndG X t tg) (hb : SndSs X cs b body) : SndS X cs (.forS t it b) (.For tg iter body [] pos) := by
  intro F K env S σ H D R L C h
  refine psxx (ps_for (passes O) O.calm pi_x pg_x pss_x (folded_of hf)) ?_
  refine wpi_mono (hi F env S σ H _ R L h) fun J H1 ⟨items, stay, S1, R1, k1, ok, q⟩ => ?_
  have ok2 := ok.2 F fun _ _ r => r
  refine ⟨fun i n σ2 H2 => i + n = items.length ∧ ∃ env2 S2, RelS X.K F S2 H2 ∧ Keep X.K S1 H1 S2 H2 ∧ Rl X.K F S2 H2 env2 σ2 ∧ wFor stay (asgT t) (wSs cs EX0 b) K (items.drop i) env2 S2, ⟨items.length, by omega, env, S1, R1, Keep.refl, k1.env L, q⟩, ?_⟩
  rintro i n σ2 H2 ⟨hn, env2, S2, R2, k2, L2', q⟩
  by_cases hlt : i < items.length
  · obtain ⟨d, ed⟩ : ∃ d, items[i]? = some d := ⟨items[i], List.getElem?_eq_getElem hlt⟩
    have edrop : items.drop i = d :: items.drop (i + 1) := by
      rw [List.drop_eq_getElem_cons hlt]
      have := List.getElem?_eq_getElem hlt
      rw [ed] at this
      rw [← Option.some.inj this]
    rw [edrop] at q
    obtain ⟨st, e2, ea, q⟩ := for_out q
    obtain ⟨go, _⟩ := ok2 S2 H2 R2 k2 st
    obtain ⟨go, yl⟩ := go i d ed
    refine .inr ⟨go, fun σ' H' => ∃ env2 S2, RelS X.K F S2 H' ∧ Keep X.K S1 H1 S2 H' ∧ Rl X.K F S2 H' env2 σ' ∧ wFor stay (asgT t) (wSs cs EX0 b) K (items.drop (i + 1)) env2 S2, fun σ' H' w => ⟨n - 1, by omega, by omega, w⟩, fun x H3 y => ?_⟩
    obtain ⟨R3, k3, r3⟩ := yl x H3 y
    refine wpg_mono (hg F env2 e2 S2 σ2 H3 x d R3 (k3.env L2') r3 ea) fun σ4 H4 ⟨e4, L4, _⟩ => ?_
    subst e4
    have kk := k2.trans k3
    refine hb F { nx := wFor stay (asgT t) (wSs cs EX0 b) K (items.drop (i + 1)), rt := K.rt, bk := K.nx, ct := wFor stay (asgT t) (wSs cs EX0 b) K (items.drop (i + 1)), ex := K.ex } e2 S2 σ4 _ _ R3 L4 ⟨fun e S σ H q R L k => ⟨e, S, R, kk.trans k, L, q⟩, fun d S v H q R r k => C.rt d S v H q R r (k1.trans (kk.trans k)), fun e S σ H q R L k => C.nx e S σ H q R L (k1.trans (kk.trans k)), fun e S σ H q R L k => ⟨e, S, R, kk.trans k, L, q⟩, C.exF (k1.trans kk)⟩ q
  · have ei : i = items.length := by omega
    subst ei
    rw [List.drop_length] at q
    obtain ⟨st, q⟩ := for_end q
    exact .inl ⟨(ok2 S2 H2 R2 k2 st).2, C.nx env2 S2 σ2 H2 q R2 L2' (k1.trans k2)⟩
theorem sS_while (O : COk X c cs) {k : E} {b : List Stm} {x : Expr} {body : List Stmt} {pos : Pos} (hk : SndT X cs k x) (hb : SndSs X cs b body) : SndS X cs (.whileS k b) (.While x body [] pos) := by
  intro F K env S σ H D R L C h
  refine psxx (ps_while (passes O) pt_x pss_x) ?_
  have h2 : wWhile (wT cs EX0 k) (wSs cs EX0 b) K env S := h
  unfold wWhile at h2
  obtain ⟨W, ⟨m0, w0⟩, turn⟩ := h2
  refine ⟨fun m σ2 H2 => ∃ env2 S2, RelS X.K F S2 H2 ∧ Keep X.K S H S2 H2 ∧ Rl X.K F S2 H2 env2 σ2 ∧ W m env2 S2, ⟨m0, env, S, R, Keep.refl, L, w0⟩, ?_⟩
  rintro m σ2 H2 ⟨env2, S2, R2, k2, L2', w⟩
  refine wpt_mono (hk F env2 S2 σ2 H2 _ R2 L2' (turn m env2 S2 w)) fun b H3 ⟨S3, R3, k3, q⟩ => ?_
  have kk := k2.trans k3
  rcases wIf_in q with ⟨rfl, q2⟩ | ⟨rfl, q2⟩
  · rw [if_pos rfl]
    refine ⟨fun σ' H' => ∃ m', m' < m ∧ ∃ env2 S2, RelS X.K F S2 H' ∧ Keep X.K S H S2 H' ∧ Rl X.K F S2 H' env2 σ' ∧ W m' env2 S2, fun σ' H' w => w, ?_⟩
    exact hb F { nx := fun e s => ∃ m', m' < m ∧ W m' e s, rt := K.rt, bk := K.nx, ct := fun e s => ∃ m', m' < m ∧ W m' e s, ex := K.ex } env2 S3 σ2 H3 _ R3 (k3.env L2') ⟨fun e S σ H ⟨m', hm, q⟩ R L k => ⟨m', hm, e, S, R, kk.trans k, L, q⟩, fun d S v H q R r k => C.rt d S v H q R r (kk.trans k), fun e S σ H q R L k => C.nx e S σ H q R L (kk.trans k), fun e S σ H ⟨m', hm, q⟩ R L k => ⟨m', hm, e, S, R, kk.trans k, L, q⟩, C.exF kk⟩ q2
  · rw [if_neg Bool.false_ne_true]
    exact C.nx env2 S3 σ2 H3 q2 R3 (k3.env L2') kk
end
end Z
set_option Elab.async false
set_option linter.all false
set_option maxRecDepth 100000
set_option maxHeartbeats 4000000
/-! Z75: what the trees say holds of the model: stores to attributes and dicts, o[i] op= e. -/
namespace Z
open PySem PySem.Spec PyProof.Rows L2
section
variable {X : Cx} {c : Ctx} {cs : CS}
theorem sS_setFld (O : COk X c cs) {n f : Str} {o e : E} {x y : Expr} {p pos : Pos} (hf : c.flds.contains (n, f) = true) (hn : nlc y = true) (ho : SndE X cs o x) (he : SndE X cs e y) : SndS X cs (.setFld n f o e) (.Assign [.Attribute x f p] y pos) := by
  intro F K env S σ H D R L C h
  obtain ⟨A, e0, cl, na⟩ := O.flds n f hf
  refine psxx (ps_fld pe_x pe_x (swaps_of hn)) ?_
  refine wpx_mono (he F env S σ H _ R L h) fun v H1 ⟨d, S1, R1, r1, k1, h1⟩ => ?_
  refine wpx_mono (ho F env S1 σ H1 _ R1 (k1.env L) h1) fun w H2 ⟨d2, S2, R2, r2, k2, h2⟩ => ?_
  cases d2 with
  | ref a =>
    obtain ⟨fs, e1, hl, q⟩ := wOpt_in (show wOpt (insAt S2 a n) _ from h2)
    have e1 := of_insAt e1
    cases r2
    obtain ⟨A', dx, gs, e3, e4, rf⟩ := R2.at_ a _ e1
    rw [e0] at e3
    cases e3
    have k3 : Keep X.K S2 H2 (supd S2 a (.ins n (putD f d fs))) (upd H2 a (.ins A dx (putF f v gs))) := keepMut R2 e1
    refine ⟨a, A, dx, gs, rfl, e4, cl, na, by rw [rf.length]; exact hl, ?_⟩
    exact C.nx env _ σ _ q (R2.putM e1 k3 ⟨A, dx, _, e0, upd_same, k3.flds (rf.put (k2 _ _ r1))⟩) (((k1.trans k2).trans k3).env L) ((k1.trans k2).trans k3)
  | _ => exact h2.elim
theorem sS_setKey (O : COk X c cs) {o k e : E} {x y z : Expr} {p pos : Pos} (hn : nlc z = true) (ho : SndE X cs o x) (hk : SndE X cs k y) (he : SndE X cs e z) : SndS X cs (.setKey o k e) (.Assign [.Subscript x y p] z pos) := by
  intro F K env S σ H D R L C h
  have hu : X.A.units + 1 < cLine := Nat.lt_of_le_of_lt (by omega) O.hu
  refine psxx (ps_dput hu pe_x pe_x pe_x (swaps_of hn)) ?_
  refine wpx_mono (he F env S σ H _ R L h) fun v H1 ⟨d, S1, R1, r1, k1, h1⟩ => ?_
  refine wpx_mono (ho F env S1 σ H1 _ R1 (k1.env L) h1) fun w H2 ⟨d2, S2, R2, r2, k2, h2⟩ => ?_
  refine wpx_mono (hk F env S2 σ H2 _ R2 ((k1.trans k2).env L) h2) fun j H3 ⟨d3, S3, R3, r3, k3, h3⟩ => ?_
  obtain ⟨a, kvs, rfl, e1, h4⟩ := wDcw_in h3
  obtain ⟨kk, e2, hl, q⟩ := wOpt_in h4
  cases r2
  obtain ⟨gs, e3, rk⟩ := R3.at_ a _ e1
  obtain rfl := key_rep r3 e2
  have SZ := sz
  have k4 : Keep X.K S3 H3 (supd S3 a (.dct (kvPut kvs kk d))) (upd H3 a (.dK (putK gs kk v))) := keepMut R3 e1
  have kk' := ((k1.trans k2).trans k3).trans k4
  exact ⟨a, _, rfl, DPut.k e3 (by rw [rk.length]; omega), C.nx env _ σ _ q (R3.putM e1 k4 ⟨_, upd_same, k4.keys (rk.put ((k2.trans k3) _ _ r1))⟩) (kk'.env L) kk'⟩
/-- no names among the targets: what is stored in order -/
theorem stores_sub {x1 y1 x2 y2 e : Expr} {p1 p2 pt : Pos} {k : Nat} {env : Env} : swappedStores [.Tuple [.Subscript x1 y1 p1, .Subscript x2 y2 p2] k pt] e env = pure none := by
  cases e
  case Tuple vs k2 p3 =>
    unfold swappedStores
    simp only
    split
    · rfl
    split
    · rfl
    split
    · rfl
    · rename_i no
      exact (no rfl).elim
  all_goals rfl
theorem sub_asg {x y : Expr} {p : Pos} {env : Env} (h : nsl y = true) : ∀ v, assign (.Subscript x y p) env v = (do
    let ov ← holding [v] (eval x env)
    let iv ← holding [v, ov] (eval y env)
    standAt p
    holding [v, ov, iv] (setItem ov iv v)
    release [v, ov, iv] []) := fun _ => by
  cases y <;> first | rfl | exact nomatch (show false = true from h)
theorem sS_setKey2 (O : COk X c cs) {o1 k1 o2 k2 e1 e2 : E} {x1 y1 x2 y2 z1 z2 : Expr} {p1 p2 p3 pt pos : Pos} {j1 j2 : Nat} (hn : nst (.Tuple [.Subscript x1 y1 p1, .Subscript x2 y2 p2] j1 pt) = true) (hs1 : nsl y1 = true) (hs2 : nsl y2 = true) (hA : SndA X cs [e1, e2] [z1, z2]) (ho1 : SndE X cs o1 x1) (hk1 : SndE X cs k1 y1) (ho2 : SndE X cs o2 x2) (hk2 : SndE X cs k2 y2) :
    SndS X cs (.setKey2 o1 k1 o2 k2 e1 e2) (.Assign [.Tuple [.Subscript x1 y1 p1, .Subscript x2 y2 p2] j1 pt] (.Tuple [z1, z2] j2 p3) pos) := by
  intro F K env S σ H D R L C h
  have hu : X.A.units + 1 < cLine := Nat.lt_of_le_of_lt (by omega) O.hu
  refine psxx (ps_asg (pe_tup pa_x) (pg_tup O.calm (pgs_cons (pg_sub pe_x pe_x (set_dict hu) (sub_asg hs1)) (pgs_cons (pg_sub pe_x pe_x (set_dict hu) (sub_asg hs2)) pgs_nil))) rfl stores_sub (asg_one hn)) ?_
  have h0 : wEs cs EX0 [e1, e2] env S (fun ds S2 => match ds with
    | [v, u] => wE cs EX0 o1 env S2 fun x S3 => wE cs EX0 k1 env S3 fun j S4 => wSetKey x j v S4 fun S5 => wE cs EX0 o2 env S5 fun y S6 => wE cs EX0 k2 env S6 fun i S7 => wSetKey y i u S7 fun S8 => K.nx env S8
    | _ => False) := h
  refine wpa_mono (hA F env S σ H _ R L h0) fun vs H1 ⟨⟨ds, S1, R1, r1, q1, h1⟩, el⟩ => ?_
  refine ⟨by rw [el]; exact small_len (by show 2 ≤ 1000; decide), fun p hp => ?_⟩
  have kp : Keep X.K S1 H1 S1 (upd H1 p (.tup vs)) := keepNew hp
  match vs, ds, r1, el, h1 with
  | [v, u], [dv, du], .cons rv (.cons ru .nil), _, h1 =>
    have R1' := R1.new (ho := .tup [v, u]) hp
    have SZ := sz
    refine ⟨p, [v, u], rfl, .inl (.inl upd_same), rfl, v, [u], rfl, ?_⟩
    refine wpx_mono (ho1 F env S1 σ _ _ R1' ((q1.trans kp).env L) h1) fun w H2 ⟨d2, S2, R2, r2, q2, h2⟩ => ?_
    refine wpx_mono (hk1 F env S2 σ H2 _ R2 (((q1.trans kp).trans q2).env L) h2) fun j H3 ⟨d3, S3, R3, r3, q3, h3⟩ => ?_
    obtain ⟨a, kvs, rfl, e1, h4⟩ := wDcw_in h3
    obtain ⟨kk, e2, hl, h5⟩ := wOpt_in h4
    cases r2
    obtain ⟨gs, e3, rk⟩ := R3.at_ a _ e1
    obtain rfl := key_rep r3 e2
    have q4 : Keep X.K S3 H3 (supd S3 a (.dct (kvPut kvs kk dv))) (upd H3 a (.dK (putK gs kk v))) := keepMut R3 e1
    have R4 := R3.putM e1 q4 ⟨_, upd_same, q4.keys (rk.put (((kp.trans q2).trans q3) _ _ rv))⟩
    have qq := (((q1.trans kp).trans q2).trans q3).trans q4
    have qu := (((kp.trans q2).trans q3).trans q4)
    refine ⟨a, _, rfl, DPut.k e3 (by rw [rk.length]; omega), u, [], rfl, ?_⟩
    refine wpx_mono (ho2 F env _ σ _ _ R4 (qq.env L) h5) fun w H5 ⟨d5, S5, R5, r5, q5, h6⟩ => ?_
    refine wpx_mono (hk2 F env S5 σ H5 _ R5 ((qq.trans q5).env L) h6) fun j H6 ⟨d6, S6, R6, r6, q6, h7⟩ => ?_
    obtain ⟨a2, kvs2, rfl, e1, h8⟩ := wDcw_in h7
    obtain ⟨kk2, e2, hl2, h9⟩ := wOpt_in h8
    cases r5
    obtain ⟨gs2, e3, rk2⟩ := R6.at_ a2 _ e1
    obtain rfl := key_rep r6 e2
    have q7 : Keep X.K S6 H6 (supd S6 a2 (.dct (kvPut kvs2 kk2 du))) (upd H6 a2 (.dK (putK gs2 kk2 u))) := keepMut R6 e1
    have qe := ((qq.trans q5).trans q6).trans q7
    refine ⟨a2, _, rfl, DPut.k e3 (by rw [rk2.length]; omega), rfl, ?_⟩
    exact C.nx env _ σ _ h9 (R6.putM e1 q7 ⟨_, upd_same, q7.keys (rk2.put (((qu.trans q5).trans q6) _ _ ru))⟩) (qe.env L) qe
theorem sS_setIx2 (O : COk X c cs) {o1 k1 o2 k2 e1 e2 : E} {x1 y1 x2 y2 z1 z2 : Expr} {p1 p2 p3 pt pos : Pos} {j1 j2 : Nat} (hn : nst (.Tuple [.Subscript x1 y1 p1, .Subscript x2 y2 p2] j1 pt) = true) (hs1 : nsl y1 = true) (hs2 : nsl y2 = true) (hA : SndA X cs [e1, e2] [z1, z2]) (ho1 : SndE X cs o1 x1) (hk1 : SndE X cs k1 y1) (ho2 : SndE X cs o2 x2) (hk2 : SndE X cs k2 y2) :
    SndS X cs (.setIx2 o1 k1 o2 k2 e1 e2) (.Assign [.Tuple [.Subscript x1 y1 p1, .Subscript x2 y2 p2] j1 pt] (.Tuple [z1, z2] j2 p3) pos) := by
  intro F K env S σ H D R L C h
  refine psxx (ps_asg (pe_tup pa_x) (pg_tup O.calm (pgs_cons (pg_sub pe_x pe_x set_list (sub_asg hs1)) (pgs_cons (pg_sub pe_x pe_x set_list (sub_asg hs2)) pgs_nil))) rfl stores_sub (asg_one hn)) ?_
  have h0 : wEs cs EX0 [e1, e2] env S (fun ds S2 => match ds with
    | [v, u] => wE cs EX0 o1 env S2 fun x S3 => wE cs EX0 k1 env S3 fun j S4 => wSetIx x j v S4 fun S5 => wE cs EX0 o2 env S5 fun y S6 => wE cs EX0 k2 env S6 fun i S7 => wSetIx y i u S7 fun S8 => K.nx env S8
    | _ => False) := h
  refine wpa_mono (hA F env S σ H _ R L h0) fun vs H1 ⟨⟨ds, S1, R1, r1, q1, h1⟩, el⟩ => ?_
  refine ⟨by rw [el]; exact small_len (by show 2 ≤ 1000; decide), fun p hp => ?_⟩
  have kp : Keep X.K S1 H1 S1 (upd H1 p (.tup vs)) := keepNew hp
  match vs, ds, r1, el, h1 with
  | [v, u], [dv, du], .cons rv (.cons ru .nil), _, h1 =>
    have R1' := R1.new (ho := .tup [v, u]) hp
    refine ⟨p, [v, u], rfl, .inl (.inl upd_same), rfl, v, [u], rfl, ?_⟩
    refine wpx_mono (ho1 F env S1 σ _ _ R1' ((q1.trans kp).env L) h1) fun w H2 ⟨d2, S2, R2, r2, q2, h2⟩ => ?_
    refine wpx_mono (hk1 F env S2 σ H2 _ R2 (((q1.trans kp).trans q2).env L) h2) fun j H3 ⟨d3, S3, R3, r3, q3, h3⟩ => ?_
    obtain ⟨a, xs, kk, jj, e1, e2, e3, e4, S4, R4, k4, h4⟩ := set_s R3 (q3 _ _ r2) r3 (((kp.trans q2).trans q3) _ _ rv) h3
    have qq := (((q1.trans kp).trans q2).trans q3).trans k4
    have qu := (((kp.trans q2).trans q3).trans k4)
    refine ⟨a, xs, kk, jj, e1, e2, e3, e4, u, [], rfl, ?_⟩
    refine wpx_mono (ho2 F env S4 σ _ _ R4 (qq.env L) h4) fun w H5 ⟨d5, S5, R5, r5, q5, h6⟩ => ?_
    refine wpx_mono (hk2 F env S5 σ H5 _ R5 ((qq.trans q5).env L) h6) fun j H6 ⟨d6, S6, R6, r6, q6, h7⟩ => ?_
    obtain ⟨a2, xs2, kk2, jj2, f1, f2, f3, f4, S7, R7, k7, h8⟩ := set_s R6 (q6 _ _ r5) r6 (((qu.trans q5).trans q6) _ _ ru) h7
    have qe := ((qq.trans q5).trans q6).trans k7
    exact ⟨a2, xs2, kk2, jj2, f1, f2, f3, f4, rfl, C.nx env S7 σ _ h8 R7 (qe.env L) qe⟩
theorem aug_of {y : Expr} (h : nsl y = true) : ∀ ov iv new : Value, augStore y ov iv new = (do holding [new, ov, iv] (setItem ov iv new); release [new, ov, iv] []; pure .next) := fun _ _ _ => by
  cases y <;> first | rfl | exact nomatch (show false = true from h)
theorem sS_augKey (O : COk X c cs) {o k e : E} {op : Operator} {x y z : Expr} {p pos : Pos} (hs : nsl y = true) (ho : SndE X cs o x) (hk : SndE X cs k y) (he : SndE X cs e z) : SndS X cs (.augKey o k op e) (.AugAssign (.Subscript x y p) op z pos) := by
  intro F K env S σ H D R L C h
  have hu : X.A.units + 1 < cLine := Nat.lt_of_le_of_lt (by omega) O.hu
  refine psxx (ps_daug hu pe_x pe_x pe_x (rd := fun x y H Q => opx X (inplaceOp op) x y H Q) (fun pins s σ H x y u v Q I a b q => pip_x pins s σ H x y u v Q I a b q) (aug_of hs)) ?_
  refine wpx_mono (ho F env S σ H _ R L h) fun v H1 ⟨d1, S1, R1, r1, k1, h1⟩ => ?_
  refine wpx_mono (hk F env S1 σ H1 _ R1 (k1.env L) h1) fun u H2 ⟨d2, S2, R2, r2, k2, h2⟩ => ?_
  obtain ⟨a, kvs, rfl, e1, h3⟩ := wDct_in h2
  obtain ⟨kk, e2, h4⟩ := wOpt_in h3
  obtain ⟨z, e4, q⟩ := wOpt_in h4
  cases r1
  obtain ⟨gs, e3, rk⟩ := dct_rd R2 e1
  obtain rfl := key_rep r2 e2
  obtain ⟨w, e5, rw'⟩ := (RepK.get rk).1 z e4
  refine ⟨a, w, rfl, by have := dgetR (k := kk) e3; rw [e5] at this; exact this, ?_⟩
  refine wpx_mono (he F env S2 σ H2 _ R2 ((k1.trans k2).env L) q) fun v3 H3 ⟨d3, S3, R3, r3, k3, h3⟩ => ?_
  refine opx_mono (aug_s R3 (k3 _ _ rw') r3 h3) fun v4 H4 ⟨d4, S4, R4, r4, k4, h4⟩ => ?_
  obtain ⟨a', kvs, e0, e1, h4⟩ := wDcw_in h4
  cases e0
  obtain ⟨k', e2', hl, q⟩ := wOpt_in h4
  rw [e2] at e2'
  cases e2'
  obtain ⟨gs, e3, rk⟩ := R4.at_ a _ e1
  have SZ := sz
  have k5 : Keep X.K S4 H4 (supd S4 a (.dct (kvPut kvs kk d4))) (upd H4 a (.dK (putK gs kk v4))) := keepMut R4 e1
  have kk' := (((k1.trans k2).trans k3).trans k4).trans k5
  exact ⟨_, DPut.k e3 (by rw [rk.length]; omega), C.nx env _ σ _ q (R4.putM e1 k5 ⟨_, upd_same, k5.keys (rk.put r4)⟩) (kk'.env L) kk'⟩
/-- l[i], by values -/
def rGetL : V → V → Hp → VK → Prop := fun o i H Q => ∃ p xs k x, o = .ref p ∧ i = .int k ∧ H p = some (.lst xs) ∧ 0 ≤ k ∧ xs[k.toNat]? = some x ∧ Q x H
theorem get_list : PGet X rGetL := by
  intro pins s σ H o i ov iv Q I ro ri h
  obtain ⟨p, xs, k, x, rfl, rfl, hp, h0, hx, q⟩ := h
  cases ro
  obtain ⟨t, rfl⟩ := ri
  obtain ⟨its, r, pl, hz⟩ := I.list (.inl (.inl hp))
  obtain ⟨u, hu, ru⟩ := r.get hx
  have lim := sz
  have hk : k.toNat < xs.length := (List.getElem?_eq_some_iff.mp hx).1
  exact wpAny_getItem_list pl.isList h0 (by omega) (by simpa using hu) ⟨x, H, I, ru, q⟩
theorem wGetL_in {x i : D} {S : Sto} {Q : QK} (h : wGetL x i S Q) : ∃ a k xs d, x = .ref a ∧ i = .int k ∧ S a = some (.lst xs) ∧ 0 ≤ k ∧ xs[k.toNat]? = some d ∧ Q d S := by
  unfold wGetL at h
  split at h
  · obtain ⟨xs, e1, h0, h3⟩ := wOpt_in h
    obtain ⟨dx, e2, q⟩ := wOpt_in h3
    exact ⟨_, _, xs, dx, rfl, rfl, of_lstAt e1, h0, e2, q⟩
  · exact h.elim
theorem sS_augIx (O : COk X c cs) {o i e : E} {op : Operator} {x y z : Expr} {p pos : Pos} (hs : nsl y = true) (ho : SndE X cs o x) (hi : SndE X cs i y) (he : SndE X cs e z) : SndS X cs (.augIx o i op e) (.AugAssign (.Subscript x y p) op z pos) := by
  intro F K env S σ H D R L C h
  refine psxx (ps_augS pe_x pe_x get_list pe_x pip_x set_list (aug_of hs)) ?_
  refine wpx_mono (ho F env S σ H _ R L h) fun v H1 ⟨d1, S1, R1, r1, k1, h1⟩ => ?_
  refine wpx_mono (hi F env S1 σ H1 _ R1 (k1.env L) h1) fun u H2 ⟨d2, S2, R2, r2, k2, h2⟩ => ?_
  obtain ⟨a, k, xs, dx, rfl, rfl, e1, h0, e2, q⟩ := wGetL_in h2
  cases r1
  cases r2
  obtain ⟨ys, e3, rl⟩ := R2.at_ a _ e1
  obtain ⟨w, e4, rw'⟩ := rl.get e2
  refine ⟨a, ys, k, w, rfl, rfl, e3, h0, e4, ?_⟩
  refine wpx_mono (he F env S2 σ H2 _ R2 ((k1.trans k2).env L) q) fun v3 H3 ⟨d3, S3, R3, r3, k3, h3⟩ => ?_
  refine opx_mono (aug_s R3 (k3 _ _ rw') r3 h3) fun v4 H4 ⟨d4, S4, R4, r4, k4, h4⟩ => ?_
  have q := set_s R4 (.ref a) (.int k) r4 h4
  obtain ⟨a', xs', kk, jj, e5, e6, e7, e8, S5, R5, k5, q⟩ := q
  have kk' := (((k1.trans k2).trans k3).trans k4).trans k5
  exact ⟨a', xs', kk, jj, e5, e6, e7, e8, C.nx env S5 σ _ q R5 (kk'.env L) kk'⟩
end
end Z
set_option Elab.async false
set_option linter.all false
set_option maxRecDepth 100000
set_option maxHeartbeats 4000000
/-! Z77: what the trees say holds of the model: dicts whose keys are tuples, however deep; dicts while they are walked. -/
namespace Z
open PySem PySem.Spec PyProof.Rows L2

/-! ### keys, by what stands in the heap -/
mutual
inductive NKv (K : PySem.W.Frag) (H : Hp) : V → NK → Prop
  | num (i : Int) : NKv K H (.int i) (.num i)
  | tup {a : Addr} {xs : List V} {ks : List NK} : SqT K H a xs → NKvs K H xs ks → NKv K H (.ref a) (.tup ks)
inductive NKvs (K : PySem.W.Frag) (H : Hp) : List V → List NK → Prop
  | nil : NKvs K H [] []
  | cons {v : V} {vs : List V} {k : NK} {ks : List NK} : NKv K H v k → NKvs K H vs ks → NKvs K H (v :: vs) (k :: ks)
end
section
variable {K : PySem.W.Frag} {F : Addr → Prop} {S : Sto} {H : Hp}
mutual
theorem rep_nk : ∀ (k : NK) (v : V), Rep K F S H v (nkD k) → nkPl k = true → NKv K H v k
  | .num i, v, r, _ => by
    cases (show Rep K F S H v (.int i) from r)
    exact .num i
  | .tup ks, v, r, h => by
    cases (show Rep K F S H v (.tup (nkDs ks)) from r) with
    | tup hs rl => exact .tup hs.sq (rep_nks ks _ rl h)
  | .none, _, _, h => nomatch (show false = true from h)
  | .text _, _, _, h => nomatch (show false = true from h)
theorem rep_nks : ∀ (ks : List NK) (vs : List V), RepL K F S H vs (nkDs ks) → nkPls ks = true → NKvs K H vs ks
  | [], vs, r, _ => by
    cases (show RepL K F S H vs [] from r)
    exact .nil
  | k :: ks, vs, r, h => by
    have h2 : (nkPl k && nkPls ks) = true := h
    rw [Bool.and_eq_true] at h2
    cases (show RepL K F S H vs (nkD k :: nkDs ks) from r) with
    | cons r1 r2 => exact .cons (rep_nk k _ r1 h2.1) (rep_nks ks _ r2 h2.2)
end
end
theorem nkOk_pl {k : NK} (h : nkOk k = true) : nkPl k = true ∧ k.depth ≤ 8 := by
  cases k with
  | tup ks =>
    have h2 : (nkPls ks && decide ((NestedKey.tup ks).depth ≤ 8)) = true := h
    rw [Bool.and_eq_true] at h2
    exact ⟨h2.1, of_decide_eq_true h2.2⟩
  | _ => exact nomatch (show false = true from h)
section
variable {X : Cx} {pins : List (Addr × Obj)} {σ : L2.St} {H : Hp} {s : Shared}
mutual
theorem nk_is (I : Inv X pins σ H s) : ∀ (k : NK) (v : V) (u : Value), NKv X.K H v k → RelV v u → NestedIs s.heap k u
  | .num i, _, u, r, ru => by
    cases r
    obtain ⟨t, rfl⟩ := (show ∃ t, u = Value.int i t from ru)
    exact .int i t
  | .tup ks, _, u, r, ru => by
    cases r with
    | @tup a xs _ hs rs =>
      obtain rfl : u = Value.ref a := ru
      obtain ⟨its, rv, ⟨o, h1, h2, n, h3⟩, _⟩ := I.tuple hs
      exact .tup h1 h2 h3 (by simpa using nks_is I ks xs its rs rv)
  | .none, _, _, r, _ => by cases r
  | .text _, _, _, r, _ => by cases r
theorem nks_is (I : Inv X pins σ H s) : ∀ (ks : List NK) (vs : List V) (us : List Value), NKvs X.K H vs ks → Vals vs us → NestedAll s.heap ks us
  | [], _, us, r, rv => by
    cases r
    cases rv
    exact .nil
  | k :: ks, _, us, r, rv => by
    cases r with
    | cons r1 r2 => cases rv with
      | cons q1 q2 => exact .cons (nk_is I k _ _ r1 q1) (nks_is I ks _ _ r2 q2)
end
/-- what is seen of a dict with such keys -/
def KeysN (K : PySem.W.Frag) (H : Hp) (gs : List (NK × Addr × V)) : Prop := ∀ p ∈ gs, nkOk p.1 = true ∧ NKv K H (.ref p.2.1) p.1
abbrev PX (gs : List (NK × Addr × V)) (xs : List (NK × Addr × Value)) : Prop := Paired (fun (p : NK × Addr × V) (q : NK × Addr × Value) => p.1 = q.1 ∧ p.2.1 = q.2.1 ∧ RelV p.2.2 q.2.2) gs xs
theorem px_mem {gs : List (NK × Addr × V)} {xs : List (NK × Addr × Value)} (r : PX gs xs) : ∀ q ∈ xs, ∃ p ∈ gs, p.1 = q.1 ∧ p.2.1 = q.2.1 ∧ RelV p.2.2 q.2.2 := by
  induction r with
  | nil => intro q h; exact nomatch h
  | @cons p q ps qs h t ih =>
    intro z hz
    rcases List.mem_cons.mp hz with rfl | hz
    · exact ⟨p, List.mem_cons_self .., h⟩
    · obtain ⟨p', h1, h2⟩ := ih z hz
      exact ⟨p', List.mem_cons_of_mem _ h1, h2⟩
/-- the room for a key's == -/
abbrev RoomN (A : Around) : Prop := A.units + 9 < cLine
theorem dn_at {P : Program} {w : World} {h : Heap} {a : Addr} {gs : List (NK × Addr × V)} (x : ObjOk P w H h a (dnO a gs)) (hk : ∀ p ∈ gs, nkOk p.1 = true ∧ NestedIs h p.1 (.ref p.2.1)) :
    (gs.length ≤ sizeLine ∧ (a == sysModules) = false) ∧ ∃ xs, PX gs xs ∧ h.DictOfH (nestedKind P w) a xs := by
  obtain ⟨⟨z, w2, xs, r, nd, o, es, ep, h1, h2, h3, h4⟩, _⟩ := x
  refine ⟨z, xs, r, o, es, ep, h1, h2, h3, ?_, fun q hq => ?_, nd⟩
  · rw [h4]
    refine List.map_congr_left fun q hq => ?_
    obtain ⟨p, hp, e1, _⟩ := px_mem r q hq
    show (⟨q.1.hash w2, _, _⟩ : DictEntry) = ⟨q.1.hash w, _, _⟩
    rw [hash_any w2 w q.1 (by rw [← e1]; exact (nkOk_pl (hk p hp).1).1)]
  · obtain ⟨p, hp, e1, e2, _⟩ := px_mem r q hq
    rw [← e1, ← e2]
    exact ⟨(hk p hp).2, (nkOk_pl (hk p hp).1).2⟩
/-- .. and made -/
theorem dn_mk {P : Program} {w : World} {h : Heap} {a : Addr} {gs : List (NK × Addr × V)} {xs : List (NK × Addr × Value)} (z : gs.length ≤ sizeLine) (hs : (a == sysModules) = false) (r : PX gs xs) (d : h.DictOfH (nestedKind P w) a xs) : ObjOk P w H h a (dnO a gs) := by
  obtain ⟨o, es, ep, h1, h2, h3, h4, _, nd⟩ := d
  refine ⟨⟨⟨z, hs⟩, w, xs, r, nd, o, es, ep, h1, h2, h3, h4⟩, ⟨o, h1⟩, fun g1 g2 ⟨z', w2, xs, r, nd, o, es, ep, h1, h2, h3, h4⟩ k => ⟨z', w2, xs, r, nd, o, es, ep, k o h1, h2, h3, h4⟩⟩
/-- such a dict is no code object -/
theorem dn_nc {P : Program} {w : World} {h : Heap} {a : Addr} {gs : List (NK × Addr × V)} (x : ObjOk P w H h a (dnO a gs)) : ∀ q, dnO a gs ≠ LamX.CodeO a q := fun q e => by
  have x2 := x
  rw [e] at x2
  obtain ⟨⟨oc, vs, t, g1, g2, _⟩, _⟩ := x2
  obtain ⟨⟨_, _, _, _, _, o, es, ep, h1, _, h3, _⟩, _⟩ := x
  rw [g1] at h1
  cases h1
  rw [g2] at h3
  cases h3
/-- what it holds at a key -/
def valN (gs : List (NK × Addr × V)) (k : NK) : Option V := (gs.find? fun p => decide (p.1 = k)).map fun p => p.2.2
theorem px_at {gs : List (NK × Addr × V)} {xs : List (NK × Addr × Value)} (r : PX gs xs) (k : NK) : RelO (valN gs k) ((atKey xs k).map (·.2)) := by
  induction r with
  | nil => exact True.intro
  | @cons p q ps qs h t ih =>
    obtain ⟨e1, e2, e3⟩ := h
    unfold valN atKey at ih ⊢
    rw [List.find?_cons, List.find?_cons, e1]
    by_cases hk : q.1 = k
    · rw [decide_eq_true hk]
      exact e3
    · rw [decide_eq_false hk]
      exact ih
def NGet (K : PySem.W.Frag) (H : Hp) (a : Addr) (y : V) (o : Option V) : Prop := ∃ gs k, Rd H a (dnO a gs) ∧ KeysN K H gs ∧ (NKv K H y k ∧ nkOk k = true) ∧ o = valN gs k
theorem nk_ref {K : PySem.W.Frag} {y : V} {k : NK} (h : NKv K H y k) (o : nkOk k = true) : ∃ b, y = .ref b := by
  cases h with
  | num i => exact nomatch (show false = true from o)
  | tup hs _ => exact ⟨_, rfl⟩
/-- what is read of it, at the library's level -/
theorem ng_at (I : Inv X pins σ H s) {a : Addr} {y : V} {o : Option V} {u : Value} (g : NGet X.K H a y o) (ry : RelV y u) :
    (a == sysModules) = false ∧ ∃ b k xs, u = .ref b ∧ s.heap.DictOfH (nestedKind X.prog X.w) a xs ∧ (nestedKind X.prog X.w).is s.heap k b ∧ RelO o ((atKey xs k).map (·.2)) := by
  obtain ⟨gs, k, e, hk, ⟨hy, hn⟩, rfl⟩ := g
  obtain ⟨b, rfl⟩ := nk_ref hy hn
  obtain rfl : u = Value.ref b := ry
  obtain ⟨z, xs, r, d⟩ := dn_at (e.ok I.hok) fun p hp => ⟨(hk p hp).1, nk_is I _ _ _ (hk p hp).2 (show RelV (.ref p.2.1) (.ref p.2.1) from rfl)⟩
  exact ⟨z.2, b, k, xs, rfl, d, ⟨nk_is I _ _ _ hy (show RelV (.ref b) (.ref b) from rfl), (nkOk_pl hn).2⟩, px_at r k⟩
theorem n_getItem {a : Addr} {y v : V} {u : Value} {A : Around} {E : Value → Shared → Prop} {Q : Value → Shared → Prop} (hu : RoomN A) (I : Inv X pins σ H s) (g : NGet X.K H a y (some v)) (ry : RelV y u) (h : ∀ w' s', Inv X pins σ H s' → RelV v w' → Q w' s') :
    wpAny (model X.prog X.w) A (getItem (.ref a) u) Q E s := by
  obtain ⟨_, b, k, xs, rfl, d, hk, ro⟩ := ng_at I g ry
  obtain ⟨w', hw, rw'⟩ := ro.some_of
  obtain ⟨p, hp, rfl⟩ := Option.map_eq_some_iff.mp hw
  exact wpAny_getItem_heap (show A.in1.units + 8 < cLine by rw [Around.in1_units]; omega) hk d hp (h _ _ (I.tok _) rw')
theorem n_in {a : Addr} {y : V} {o : Option V} {u : Value} {A : Around} {E : Value → Shared → Prop} {Q : Value → Shared → Prop} (hu : RoomN A) (I : Inv X pins σ H s) (g : NGet X.K H a y o) (ry : RelV y u) (h : ∀ s', Inv X pins σ H s' → Q (.bool o.isSome) s') :
    wpAny (model X.prog X.w) A (compareOp .In u (.ref a)) Q E s := by
  obtain ⟨hs, b, k, xs, rfl, d, hk, ro⟩ := ng_at I g ry
  refine wpAny_in_heap (show A.in1.units + 8 < cLine by rw [Around.in1_units]; omega) hk hs d ?_
  have q := ro.isSome_eq
  rw [Option.isSome_map] at q
  rw [← q]
  exact h _ (I.tok _)
theorem n_notIn {a : Addr} {y : V} {o : Option V} {u : Value} {A : Around} {E : Value → Shared → Prop} {Q : Value → Shared → Prop} (hu : RoomN A) (I : Inv X pins σ H s) (g : NGet X.K H a y o) (ry : RelV y u) (h : ∀ s', Inv X pins σ H s' → Q (.bool (!o.isSome)) s') :
    wpAny (model X.prog X.w) A (compareOp .NotIn u (.ref a)) Q E s := by
  obtain ⟨hs, b, k, xs, rfl, d, hk, ro⟩ := ng_at I g ry
  refine wpAny_notIn_heap (show A.in1.units + 8 < cLine by rw [Around.in1_units]; omega) hk hs d ?_
  have q := ro.isSome_eq
  rw [Option.isSome_map] at q
  rw [← q]
  exact h _ (I.tok _)
theorem n_get2 {a : Addr} {y dv : V} {o : Option V} {u r : Value} {A : Around} {E : Value → Shared → Prop} {Q : Value → Shared → Prop} (hu : RoomN A) (I : Inv X pins σ H s) (g : NGet X.K H a y o) (ry : RelV y u) (rd : RelV dv r) (h : ∀ w' s', Inv X pins σ H s' → RelV (o.getD dv) w' → Q w' s') :
    wpAny (model X.prog X.w) A (PySem.call (.builtin "dict.get") [.ref a, u, r]) Q E s := by
  obtain ⟨hs, b, k, xs, rfl, d, hk, ro⟩ := ng_at I g ry
  exact call_meetsIn PySem.F.slot_dict_get d.typeIs PySem.F.entry_dict_get (PySem.F.args_dict_get_3 _ _ _) (meetsH_dict_get_default (nestedKind X.prog X.w) a b hs r) ⟨(show A.in1.units + 8 < cLine by rw [Around.in1_units]; omega), k, xs, hk, d, h _ _ (I.tok _) (ro.getD rd)⟩
/-- with a pair more, or another value -/
def putN (gs : List (NK × Addr × V)) (k : NK) (b : Addr) (v : V) : List (NK × Addr × V) := if gs.any (fun p => decide (p.1 = k)) then gs.map (fun p => if p.1 = k then (p.1, p.2.1, v) else p) else gs ++ [(k, b, v)]
theorem any_find {α : Type} {f : α → Bool} : ∀ {l : List α}, l.any f = (l.find? f).isSome
  | [] => rfl
  | x :: l => by
    rw [List.any_cons, List.find?_cons]
    cases h : f x with
    | true => rfl
    | false => exact any_find
theorem px_any {gs : List (NK × Addr × V)} {xs : List (NK × Addr × Value)} (r : PX gs xs) (k : NK) : (gs.any fun p => decide (p.1 = k)) = (atKey xs k).isSome := by
  have e := (px_at r k).isSome_eq
  rw [Option.isSome_map] at e
  rw [← e]
  unfold valN
  rw [Option.isSome_map, any_find]
theorem px_put {gs : List (NK × Addr × V)} {xs : List (NK × Addr × Value)} (r : PX gs xs) (k : NK) (b : Addr) {v : V} {u : Value} (rv : RelV v u) : PX (putN gs k b v) (storedH xs k b u) := by
  unfold putN storedH
  rw [px_any r]
  split
  · rename_i hc
    clear hc
    induction r with
    | nil => exact .nil
    | @cons p q ps qs h t ih =>
      rw [List.map_cons, List.map_cons]
      refine .cons ?_ ih
      obtain ⟨e1, e2, e3⟩ := h
      unfold putAt
      by_cases z : q.1 = k
      · rw [if_pos z, if_pos (e1.trans z)]
        exact ⟨e1, e2, rv⟩
      · rw [if_neg z, if_neg (fun y => z (e1.symm.trans y))]
        exact ⟨e1, e2, e3⟩
  · rename_i hc
    clear hc
    induction r with
    | nil => exact .cons ⟨rfl, rfl, rv⟩ .nil
    | cons h t ih => exact .cons h ih
theorem putN_len {gs : List (NK × Addr × V)} {k : NK} {b : Addr} {v : V} : (putN gs k b v).length ≤ gs.length + 1 := by
  unfold putN
  split
  · rw [List.length_map]; omega
  · rw [List.length_append, List.length_singleton]; omega
def NPut (K : PySem.W.Frag) (H : Hp) (a : Addr) (y v : V) (Q : Hp → Prop) : Prop := ∃ gs k b, H a = some (dnO a gs) ∧ KeysN K H gs ∧ (NKv K H y k ∧ nkOk k = true) ∧ y = .ref b ∧ gs.length < sizeLine ∧
  ((∀ q, dnO a (putN gs k b v) ≠ LamX.CodeO a q) → Q (upd H a (dnO a (putN gs k b v))))
theorem n_setItem {a : Addr} {y v : V} {u r : Value} {A : Around} {E : Value → Shared → Prop} {Q : Unit → Shared → Prop} {R : Hp → Prop} (hu : RoomN A) (I : Inv X pins σ H s) (g : NPut X.K H a y v R) (ry : RelV y u) (rv : RelV v r) (h : ∀ H' s', Inv X pins σ H' s' → R H' → Q () s') :
    wpAny (model X.prog X.w) A (setItem (.ref a) u r) Q E s := by
  obtain ⟨gs, k, b, e, hk, ⟨hy, hn⟩, rfl, hl, q⟩ := g
  obtain rfl : u = Value.ref b := ry
  obtain ⟨z, xs, rx, d⟩ := dn_at (I.hok a _ e) fun p hp => ⟨(hk p hp).1, nk_is I _ _ _ (hk p hp).2 (show RelV (.ref p.2.1) (.ref p.2.1) from rfl)⟩
  have hz : xs.length ≤ sizeLine := by rw [← Paired.length rx]; exact z.1
  refine wpAny_setItem_heap (knd := nestedKind X.prog X.w) (k := k) (hsz := hz) (show A.in1.units + 8 < cLine by rw [Around.in1_units]; omega) ⟨nk_is I _ _ _ hy (show RelV (.ref b) (.ref b) from rfl), (nkOk_pl hn).2⟩ d fun h' d' hs => ?_
  have new : ObjOk X.prog X.w (upd H a (dnO a (putN gs k b v))) h' a (dnO a (putN gs k b v)) := dn_mk (by have := putN_len (gs := gs) (k := k) (b := b) (v := v); omega) z.2 (px_put rx k b rv) d'
  have he : ∃ q, h'.get? a = some q := let ⟨q, _, _, hq, _⟩ := d'; ⟨q, hq⟩
  exact h _ _ (d_write I (by rw [e]; exact True.intro) hs he new) (q (dn_nc new))
end

/-! ### readings -/
section
variable {X : Cx}
theorem pe_getN {o i : Expr} {pos : Pos} (hu : RoomN X.A) (hs : NoSl i) : PE X (.Subscript o i pos) fun σ H Q => wpx X o σ H fun x H1 => wpx X i σ H1 fun y H2 => ∃ a v, x = .ref a ∧ NGet X.K H2 a y (some v) ∧ Q v H2 :=
  ⟨fun pins s σ H Q I h => subD_of PySem.F.slot_dict_getitem.lookup hs (thn (pe_x.run pins s σ H _ I h) fun u s1 ⟨x, H1, I1, rx, q⟩ => thn (pe_x.run pins s1 σ H1 _ I1 q) fun iv s2 ⟨y, H2, I2, ry, a, v, ex, g, q2⟩ => by
    subst ex
    obtain rfl : u = Value.ref a := rx
    have hT := (let ⟨_, _, _, _, _, d, _⟩ := ng_at I2 g ry; d.typeIs : s2.TypeIs (.ref a) "dict")
    exact ⟨hT, n_getItem hu I2 g ry fun w' s3 I3 rw' => ⟨v, H2, I3, rw', q2⟩⟩)⟩
theorem pc_inN {o i : Expr} (n : Bool) (hu : RoomN X.A) : PC X (if n then .NotIn else .In) i o fun σ H Q => wpx X i σ H fun y H1 => wpx X o σ H1 fun x H2 => ∃ a r, x = .ref a ∧ NGet X.K H2 a y r ∧ Q (.bl (if n then !r.isSome else r.isSome)) H2 :=
  ⟨fun pins s σ H Q I h => thn (pe_x.run pins s σ H _ I h) fun iv s1 ⟨y, H1, I1, ry, q⟩ => thn (pe_x.run pins s1 σ H1 _ I1 q) fun u s2 ⟨x, H2, I2, rx, a, r, ex, g, q2⟩ => by
    subst ex
    obtain rfl : u = Value.ref a := rx
    cases n with
    | false => exact n_in hu I2 g ry fun s3 I3 => ⟨.bl r.isSome, H2, I3, rfl, q2⟩
    | true => exact n_notIn hu I2 g ry fun s3 I3 => ⟨.bl (!r.isSome), H2, I3, rfl, q2⟩⟩
/-- a dict with such keys stands at a -/
def IsN (K : PySem.W.Frag) (H : Hp) (a : Addr) : Prop := ∃ gs, Rd H a (dnO a gs) ∧ KeysN K H gs
theorem isN_at {pins : List (Addr × Obj)} {σ : L2.St} {H : Hp} {s : Shared} {a : Addr} (I : Inv X pins σ H s) (h : IsN X.K H a) : s.TypeIs (.ref a) "dict" ∧ ∀ b, Value.ref a = .ref b → ∃ ob, s.heap.get? b = some ob ∧ ob.dict = none := by
  obtain ⟨gs, e, hk⟩ := h
  obtain ⟨_, xs, _, d⟩ := dn_at (e.ok I.hok) fun p hp => ⟨(hk p hp).1, nk_is I _ _ _ (hk p hp).2 (show RelV (.ref p.2.1) (.ref p.2.1) from rfl)⟩
  refine ⟨d.typeIs, fun b e => ?_⟩
  cases e
  obtain ⟨o, _, _, h1, h2, _⟩ := d
  exact ⟨o, h1, h2.2.1⟩
theorem pe_getOrN {o e f : Expr} {ap cp : Pos} (hu : RoomN X.A) (m : M2 X o "get" ap e f cp) : PE X (.Call (.Attribute o "get" ap) [e, f] [] cp) fun σ H Q => wpx X o σ H fun x H1 => ∃ a, x = .ref a ∧ IsN X.K H1 a ∧
    wpx X e σ H1 fun y H2 => wpx X f σ H2 fun z H3 => ∃ r, NGet X.K H3 a y r ∧ Q (r.getD z) H3 :=
  ⟨fun pins s σ H Q I h => wpAny_Call_method m.base m.few m.line PySem.F.plainAttrs_dict PySem.F.slot_dict_get PySem.F.type_dict_get (thn (pe_x.run pins s σ H _ I h) fun u s1 ⟨x, H1, I1, rx, a, ex, d, q⟩ => by
    subst ex
    obtain rfl : u = Value.ref a := rx
    refine ⟨(isN_at I1 d).1, (isN_at I1 d).2, ?_⟩
    rw [m.trees]
    refine Calls.callWith_builtin rfl (Calls.evalArgs_plain (Calls.spliced_cons (thn (pe_x.run pins s1 σ H1 _ I1 q) fun iv s2 ⟨y, H2, I2, ry, q2⟩ => Calls.spliced_cons (thn (pe_x.run pins s2 σ H2 _ I2 q2) fun fv s3 ⟨z, H3, I3, rz, r, g, q3⟩ => Calls.spliced_nil ?_))))
    exact n_get2 hu I3 g ry rz fun w' s4 I4 rw' => ⟨_, H3, I4, rw', q3⟩)⟩
theorem ps_putN {o i e : Expr} {pos pos2 : Pos} (hu : RoomN X.A) (hs : swapsWith e (some (.Subscript o i pos2)) pos.line X.env = pure false) : PS X (.Assign [.Subscript o i pos2] e pos) fun D σ H =>
    wpx X e σ H fun v H1 => wpx X o σ H1 fun x H2 => wpx X i σ H2 fun y H3 => ∃ a, x = .ref a ∧ NPut X.K H3 a y v fun H4 => D.nx σ H4 :=
  ⟨fun pins s σ H D I h => wpAny_Assign_Subscript (thn (pe_x.run pins s σ H _ I h) fun r s1 ⟨v, H1, I1, rv, q⟩ => thn (pe_x.run pins s1 σ H1 _ I1 q) fun u s2 ⟨x, H2, I2, rx, q2⟩ => thn (pe_x.run pins s2 σ H2 _ I2 q2) fun iv s3 ⟨y, H3, I3, ry, a, ex, g⟩ => by
    subst ex
    obtain rfl : u = Value.ref a := rx
    exact n_setItem hu I3 g ry rv fun H4 s4 I4 q3 => ⟨σ, H4, I4, q3⟩) hs⟩
/-- {} for such keys -/
theorem pe_newN {pos : Pos} : PE X (.Dict [] [] pos) fun _ H Q => ∀ p, H p = none → (∀ q, dnO p [] ≠ LamX.CodeO p q) → Q (.ref p) (upd H p (dnO p [])) :=
  ⟨fun pins s σ H Q I h => by
    have new : ObjOk X.prog X.w (upd H s.heap.objs.size (dnO s.heap.objs.size [])) (s.heap.push { cls := .type "dict", data := .dict #[] }) s.heap.objs.size (dnO s.heap.objs.size []) :=
      dn_mk (Nat.zero_le _) (beq_eq_false_iff_ne.mpr (Ne.symm (Nat.ne_of_lt I.big))) (xs := []) .nil (Heap.DictOfH.new s.heap)
    exact wpAny_Dict_empty ⟨.ref s.heap.objs.size, _, I.laid (t' := s.toks) (fun _ _ q => Heap.get?_push_of_some _ q) (Nat.le_refl _) new, rfl, h _ (I.hok.fresh (Nat.le_refl _)) (dn_nc new)⟩⟩
/-- {k: v} -/
theorem pe_oneN {k v : Expr} {pos : Pos} (hu : RoomN X.A) : PE X (.Dict [some k] [v] pos) fun σ H Q => ∀ p, H p = none → (∀ q, dnO p [] ≠ LamX.CodeO p q) → wpx X k σ (upd H p (dnO p [])) fun y H1 => wpx X v σ H1 fun z H2 =>
    H2 p = some (dnO p []) ∧ ∃ kk b, (NKv X.K H2 y kk ∧ nkOk kk = true) ∧ y = .ref b ∧ ((∀ q, dnO p [(kk, b, z)] ≠ LamX.CodeO p q) → Q (.ref p) (upd H2 p (dnO p [(kk, b, z)]))) := by
  refine ⟨fun pins s σ H Q I h => ?_⟩
  have new : ObjOk X.prog X.w (upd H s.heap.objs.size (dnO s.heap.objs.size [])) (s.heap.push { cls := .type "dict", data := .dict #[] }) s.heap.objs.size (dnO s.heap.objs.size []) :=
    dn_mk (Nat.zero_le _) (beq_eq_false_iff_ne.mpr (Ne.symm (Nat.ne_of_lt I.big))) (xs := []) .nil (Heap.DictOfH.new s.heap)
  have I0 := I.laid (t' := s.toks) (fun _ _ q => Heap.get?_push_of_some _ q) (Nat.le_refl _) new
  have q0 := h _ (I.hok.fresh (Nat.le_refl _)) (dn_nc new)
  rw [arm_eval_Dict, zip_pairTrees [some k] [v] X.env pos rfl rfl, dictDisplay_pairs (pairTrees [some k] [v] X.env pos) (fun z => nomatch z) (by show 1 < 17; decide)]
  refine wpAny_bind (wpAny_standAt (wpAny_bind (wpAny_subDictH (knd := nestedKind X.prog X.w) (Q := fun d s' => wpAny (model X.prog X.w) X.A (pure (Value.ref d)) _ _ s') (show X.A.units + 8 < cLine by omega) (by show 1 ≤ 15; decide) ?_)))
  refine pairTrees_cons_walk (thn (pe_x.run pins _ σ _ _ I0 q0) fun u s1 ⟨y, H1, I1, ry, q1⟩ => thn (pe_x.run pins s1 σ H1 _ I1 q1) fun w s2 ⟨z, H2, I2, rz, e, kk, b, ⟨hy, hn⟩, ey, q2⟩ => pairTrees_nil_walk ?_)
  subst ey
  obtain rfl : u = Value.ref b := ry
  obtain ⟨zz, xs, rx, d⟩ := dn_at (I2.hok _ _ e) (fun p hp => nomatch hp)
  cases rx
  refine ⟨[(kk, b, w)], ⟨rfl, rfl, ⟨nk_is I2 _ _ _ hy (show RelV (.ref b) (.ref b) from rfl), (nkOk_pl hn).2⟩, True.intro⟩, d, fun h' tk d' hs => wpAny_pure ?_⟩
  have new2 : ObjOk X.prog X.w (upd H2 s.heap.objs.size (dnO s.heap.objs.size [(kk, b, z)])) h' s.heap.objs.size (dnO s.heap.objs.size [(kk, b, z)]) :=
    dn_mk (by have := sz; show 1 ≤ _; omega) zz.2 (.cons ⟨rfl, rfl, rz⟩ .nil) d'
  exact ⟨.ref s.heap.objs.size, _, d_write I2 (by rw [e]; exact True.intro) hs (let ⟨q, _, _, hq, _⟩ := d'; ⟨q, hq⟩) new2, rfl, q2 (dn_nc new2)⟩
end
end Z
set_option Elab.async false
set_option linter.all false
set_option maxRecDepth 100000
set_option maxHeartbeats 4000000
/-! Z78: what the trees say holds of the model: dicts walked, whatever their keys. -/
namespace Z
open PySem PySem.Spec PyProof.Rows L2

/-- a dict's entries, as values -/
structure DEnt (h : Heap) (a : Addr) (ps : List (V × V)) : Prop where
  no : (a == sysModules) = false
  len : ps.length ≤ sizeLine
  ex : ∃ es ep, h.DictRaw a es ep ∧ es.size = ps.length ∧ ∀ (i : Nat) (hi : i < es.size), ∃ p, ps[i]? = some p ∧ RelV p.1 es[i].key ∧ RelV p.2 es[i].val
theorem paired_at {α β : Type} {R : α → β → Prop} {l : List α} {m : List β} (r : Paired R l m) : ∀ {i : Nat} {y : β}, m[i]? = some y → ∃ x, l[i]? = some x ∧ R x y := by
  induction r with
  | nil => intro i y h; rw [List.getElem?_nil] at h; cases h
  | @cons x y xs ys h t ih =>
    intro i z hz
    cases i with
    | zero => exact ⟨x, rfl, by rw [List.getElem?_cons_zero] at hz; cases hz; exact h⟩
    | succ i => rw [List.getElem?_cons_succ] at hz; obtain ⟨x', e1, e2⟩ := ih hz; exact ⟨x', by rw [List.getElem?_cons_succ]; exact e1, e2⟩
theorem ent_dn {P : Program} {w : World} {H : Hp} {h : Heap} {a : Addr} {gs : List (NK × Addr × V)} (x : ObjOk P w H h a (dnO a gs)) : DEnt h a (gs.map fun p => (V.ref p.2.1, p.2.2)) := by
  obtain ⟨⟨⟨z, hs⟩, w2, xs, r, nd, o, es, ep, h1, h2, h3, h4⟩, _⟩ := x
  have hl : es.size = xs.length := by rw [← Array.length_toList, h4, List.length_map]
  refine ⟨hs, by rw [List.length_map]; exact z, es, ep, ⟨o, h1, h2, h3⟩, by rw [hl, List.length_map, Paired.length r], fun i hi => ?_⟩
  have e1 : es.toList[i]? = some es[i] := by rw [Array.getElem?_toList]; exact Array.getElem?_eq_getElem hi
  rw [h4, List.getElem?_map] at e1
  obtain ⟨q, e2, e3⟩ := Option.map_eq_some_iff.mp e1
  obtain ⟨p, e4, e5, e6, e7⟩ := paired_at r e2
  refine ⟨(V.ref p.2.1, p.2.2), by rw [List.getElem?_map, e4]; rfl, ?_, ?_⟩
  · rw [← e3, ← e6]
    exact (show RelV (.ref p.2.1) (.ref p.2.1) from rfl)
  · rw [← e3]
    exact e7
theorem ent_dk {P : Program} {w : World} {H : Hp} {h : Heap} {a : Addr} {gs : List (Key × V)} (x : ObjOk P w H h a (.dK gs)) : DEnt h a (gs.map fun p => (kV p.1, p.2)) := by
  obtain ⟨z, hs, vs, kv, d⟩ := x
  obtain ⟨es, ep, hr, hz, he⟩ := d.raw
  have hl : gs.length = vs.length := Paired.length kv
  refine ⟨hs, by rw [List.length_map]; exact z, es, ep, hr, by rw [hz, List.length_map, hl], fun i hi => ?_⟩
  obtain ⟨⟨k, v⟩, e1⟩ : ∃ q, vs[i]? = some q := ⟨_, List.getElem?_eq_getElem (by rw [← hz]; exact hi)⟩
  obtain ⟨e2, e3⟩ := he i hi k v e1
  obtain ⟨p, e4, e5, e6⟩ := paired_at kv e1
  refine ⟨(kV p.1, p.2), by rw [List.getElem?_map, e4]; rfl, ?_, ?_⟩
  · rw [show p.1 = k from e5]
    exact relV_key e2
  · rw [e3]
    exact e6
/-- what is told of the locked thing u at d, turn by turn -/
def ItD (d : Addr) (ob : Obj) (u : HO) (it : Bool) (ps : List (V × V)) : It :=
  ⟨fun i H => H d = some (.frz ob u) ∧ i < ps.length,
   fun i H x H' => ∃ p, ps[i]? = some p ∧ match it with
    | false => H' = H ∧ x = p.1
    | true => ∃ T, x = .ref T ∧ H T = none ∧ H' = upd H T (.tup [p.1, p.2]),
   fun i H => H d = some (.frz ob u) ∧ i = ps.length⟩
/-- u's entries are ps, wherever it stands -/
def EntU (u : HO) (d : Addr) (ps : List (V × V)) : Prop := ∀ (P : Program) (w : World) (H : Hp) (h : Heap), ObjOk P w H h d u → DEnt h d ps
theorem lk_ent {X : Cx} {pins : List (Addr × Obj)} {σ : L2.St} {H : Hp} {s : Shared} {d : Addr} {ob : Obj} {u : HO} {ps : List (V × V)} (I : Inv X pins σ H s) (hu : EntU u d ps) (e : H d = some (.frz ob u)) : s.heap.get? d = some ob ∧ DEnt s.heap d ps := by
  obtain ⟨h1, h2⟩ := (show ObjOk X.prog X.w H s.heap d (.frz ob u) from I.hok d _ e)
  exact ⟨h1, hu _ _ _ _ h2⟩
theorem raw_one {h : Heap} {d : Addr} {ob : Obj} {es es2 : Array DictEntry} {ep ep2 : Nat} (g : h.get? d = some ob) (hd : ob.data = .dict es2 ep2) (r : h.DictRaw d es ep) : es = es2 ∧ ep = ep2 := by
  obtain ⟨o, h1, _, h3⟩ := r
  rw [g] at h1
  cases h1
  rw [hd] at h3
  cases h3
  exact ⟨rfl, rfl⟩
section
variable {P : Program} {w : World} {K : PySem.W.Frag} {d it : Addr} {ob : Obj} {u : HO} {ps : List (V × V)} {es : Array DictEntry} {ep : Nat}
theorem turn_dk {tg : Expr} (hne : d ≠ it) (hu : EntU u d ps) (hd : ob.data = .dict es ep) : Turn P w K tg (ItD d ob u false ps) [it] it fun i h => h.IsKeyIter it d i es.size ep where
  mem := List.mem_cons_self ..
  obj := fun i h st b hb => by
    obtain rfl := List.mem_singleton.mp hb
    obtain ⟨o, e, _, dd⟩ := st
    exact ⟨o, e, fun v z => by rw [dd] at z; cases z⟩
  keep := fun i h h' st k => st.at fun o e => k it (List.mem_cons_self ..) o e
  item := fun X p1 p2 p3 hc i pins s σ H E I hf st go => by
    subst p1 p2 p3
    obtain ⟨g1, D⟩ := lk_ent I hu go.1
    obtain ⟨es', ep', hr, hz, he⟩ := D.ex
    obtain ⟨rfl, rfl⟩ := raw_one g1 hd hr
    have hi : i < es'.size := by rw [hz]; exact go.2
    obtain ⟨p, e1, e2, _⟩ := he i hi
    obtain ⟨f0, f1, f2, f3, f4, f5⟩ := hf it (List.mem_cons_self ..)
    refine (Walks.rawKeys (A := X.A) (I.ok.hd hc) it d hne es' ep').item i s _ _ hi ⟨st, hr⟩ fun v h' tk ⟨_, hv⟩ st' hk => ⟨v, rfl, ?_⟩
    have I1 : Inv X pins σ H { s with heap := h', toks := tk } := I.turned (t' := tk) (fun b o hb e => hk b o (fun z => hb (List.mem_singleton.mp z)) e) f0 f1 f3 f4 f5
    obtain ⟨o, e, c, dd⟩ := id st'.1
    exact go_of (s := { s with heap := h', toks := tk }) e c dd (by decide) ⟨p.1, H, I1, by rw [hv]; exact e2, ⟨p, e1, rfl, rfl⟩, st'.1, fun b hb => (hf b hb).1⟩
  done := fun X p1 p2 p3 hc i pins s σ H E I hf st go => by
    subst p1 p2 p3
    obtain ⟨g1, D⟩ := lk_ent I hu go.1
    obtain ⟨es', ep', hr, hz, he⟩ := D.ex
    obtain ⟨rfl, rfl⟩ := raw_one g1 hd hr
    obtain ⟨f0, f1, f2, f3, f4, f5⟩ := hf it (List.mem_cons_self ..)
    have ei : i = es'.size := by rw [hz]; exact go.2
    subst ei
    exact (Walks.rawKeys (A := X.A) (I.ok.hd hc) it d hne es' ep').done s _ _ ⟨st, hr⟩ fun h' tk hk => ⟨rfl, I.turned (t' := tk) (fun b o hb e => hk b o (fun z => hb (List.mem_singleton.mp z)) e) f0 f1 f3 f4 f5⟩
  self := fun A i s Q E st h => wpAny_pyIter_keyiter st h
theorem turn_di {elts : List Expr} {kk : Nat} {tpos : Pos} (hne : d ≠ it) (hu : EntU u d ps) (hd : ob.data = .dict es ep) : Turn P w K (.Tuple elts kk tpos) (ItD d ob u true ps) [it] it fun i h => ∃ ok ov, IsItemIter h it d i es.size ep ok ov := by
  refine turn_by (fun _ z => z) (List.mem_cons_self ..) (fun i h st b hb => ?_) (fun i h h' st k => let ⟨ok, ov, e⟩ := st; ⟨ok, ov, k it (List.mem_cons_self ..) _ e⟩) (fun A i s Q E ⟨_, _, e⟩ q => wpAny_pyIter_itemiter e q) ?_
  · obtain rfl := List.mem_singleton.mp hb
    obtain ⟨ok, ov, e⟩ := st
    exact ⟨_, e, fun v z => nomatch z⟩
  · intro X p1 p2 p3 hc i pins s σ H I st alt
    subst p1 p2 p3
    have e0 : H d = some (.frz ob u) := alt.elim (fun z => z.1) fun z => z.1
    obtain ⟨g1, D⟩ := lk_ent I hu e0
    obtain ⟨es', ep', hr, hz, he⟩ := D.ex
    obtain ⟨rfl, rfl⟩ := raw_one g1 hd hr
    refine ⟨_, _, _, _, _, WalksT.rawItems (A := X.A) (I.ok.hd hc) it d hne es' ep', ⟨st, hr⟩, fun h z => z.1, fun go => by rw [hz]; exact go.2, fun go => by rw [hz]; exact go.2, fun us ⟨hi, e2⟩ => ?_⟩
    obtain ⟨p, e1, r1, r2⟩ := he i hi
    subst e2
    exact ⟨[p.1, p.2], .cons r1 (.cons r2 .nil), (by rw [sz]; decide : 2 ≤ sizeLine), fun T hT => ⟨p, e1, T, rfl, hT, rfl⟩⟩
end
section
variable {X : Cx} {tg e : Expr}
/-- for k in d, d locked -/
theorem pi_dk : PI X tg e fun σ H R => wpx X e σ H fun x H1 => ∃ d ob u ps, x = .ref d ∧ H1 d = some (.frz ob u) ∧ EntU u d ps ∧ (ps.length ≤ sizeLine → R (ItD d ob u false ps) H1) :=
  ⟨fun pins s σ H R I h => thn (pe_x.run pins s σ H _ I h) fun v s1 ⟨x, H1, I1, rx, d, ob, u, ps, ex, hd, hu, q⟩ => by
    subst ex
    obtain rfl : v = Value.ref d := rx
    obtain ⟨g1, D⟩ := lk_ent I1 hu hd
    obtain ⟨es, ep, ⟨o, g2, g3, g4⟩, hz, he⟩ := D.ex
    rw [g1] at g2
    cases g2
    exact iter_keys D.no g1 g3 g4 (pi_one (tk := s1.toks) I1 _ (turn_dk (Nat.ne_of_lt (Heap.lt_size g1)) hu g4) ⟨_, Heap.get?_push_size _ rfl, rfl, rfl⟩ (q D.len))⟩
/-- for k, v in d.items(), d locked -/
theorem pi_di {elts : List Expr} {kk : Nat} {tpos apos cpos : Pos} (hbase : attributeBase e "items" X.env (eval e X.env) = eval e X.env) (hline : (apos.endLine == cpos.line) = true) : PI X (.Tuple elts kk tpos) (.Call (.Attribute e "items" apos) [] [] cpos) fun σ H R =>
    wpx X e σ H fun x H1 => ∃ d ob u ps, x = .ref d ∧ H1 d = some (.frz ob u) ∧ EntU u d ps ∧ (ps.length ≤ sizeLine → R (ItD d ob u true ps) H1) := by
  refine ⟨fun pins s σ H R I h => wpAny_Call_method (T := "dict") (id := "dict.items") hbase rfl hline F.plainAttrs_dict F.slot_dict_items F.type_dict_items (thn (pe_x.run pins s σ H _ I h) fun v s1 ⟨x, H1, I1, rx, d, ob, u, ps, ex, hd, hu, q⟩ => ?_)⟩
  subst ex
  obtain rfl : v = Value.ref d := rx
  obtain ⟨g1, D⟩ := lk_ent I1 hu hd
  obtain ⟨es, ep, hr, hz, he⟩ := D.ex
  obtain ⟨o, g2, g3, g4⟩ := id hr
  rw [g1] at g2
  cases g2
  have lt := Heap.lt_size g1
  refine ⟨hr.typeIs, fun b z => by cases z; exact ⟨_, g1, g3.2.1⟩, ?_⟩
  have I2 : Inv X pins σ H1 { s1 with heap := s1.heap.push { cls := .type "dict_items", data := .fields #[.ref d] } } := I1.kept (t' := s1.toks) fun b ob q => Heap.get?_push_of_some _ q
  have fin : wpAny (model X.prog X.w) X.A (pyIter (.ref s1.heap.objs.size)) (PIE X pins σ (.Tuple elts kk tpos) R) X.xe { s1 with heap := s1.heap.push { cls := .type "dict_items", data := .fields #[.ref d] } } :=
    wpAny_pyIter_items_raw (d := d) ⟨_, Heap.get?_push_size _ rfl, rfl, rfl⟩ (hr.at fun o z => Heap.get?_push_of_some _ z) (pi_one (tk := s1.toks) I2 _ (turn_di (Nat.ne_of_lt (by rw [Heap.size_push]; exact Nat.lt_succ_of_lt lt)) hu g4) ⟨.none, .none, Heap.get?_push_size _ rfl⟩ (q D.len))
  show wpAny _ _ (callWith cpos (.builtin "dict.items") [.ref d] [] []) _ X.xe s1
  exact method_meetsIn F.slot_dict_items F.entry_dict_items rfl (PySem.evalArgs_none ⟨rfl, hr.typeIs, F.args_dict_items_1 _, _, meets_dict_items_raw d D.no, ⟨⟨es, ep, hr⟩, fin⟩⟩)
end
/-! ### the parts said of expressions and statements -/
section
variable {X : Cx} {c : Ctx} {cs : CS}
theorem COk.roomN (O : COk X c cs) : RoomN X.A := by have := O.hu; show _ < _; omega
theorem RepN.keys {F : Addr → Prop} {S : Sto} {H : Hp} {gs : List (NK × Addr × V)} {kvs : List (NK × D)} (r : RepN X.K F S H gs kvs) : KeysN X.K H gs := by
  unfold RepN at r
  induction r with
  | nil => intro p hp; exact nomatch hp
  | @cons p q ps qs h t ih =>
    intro z hz
    rcases List.mem_cons.mp hz with rfl | hz
    · exact ⟨h.1.2, rep_nk _ _ h.2.1 (nkOk_pl h.1.2).1⟩
    · exact ih z hz
theorem RepN.get {F : Addr → Prop} {S : Sto} {H : Hp} {gs : List (NK × Addr × V)} {kvs : List (NK × D)} (r : RepN X.K F S H gs kvs) (k : NK) : (∀ d, gGet kvs k = some d → ∃ v, valN gs k = some v ∧ Rep X.K F S H v d) ∧ (gGet kvs k = none → valN gs k = none) := by
  unfold RepN at r
  induction r with
  | nil => exact ⟨fun d e => (nomatch (show none = some d from e)), fun _ => rfl⟩
  | @cons p q ps qs h t ih =>
    unfold gGet valN at ih ⊢
    rw [List.find?_cons, List.find?_cons, h.1.1]
    by_cases hk : q.1 = k
    · rw [decide_eq_true hk]
      exact ⟨fun d e => by cases (show some q.2 = some d from e); exact ⟨p.2.2, rfl, h.2.2⟩, fun e => (nomatch (show some q.2 = none from e))⟩
    · rw [decide_eq_false hk]
      exact ih
theorem RepN.put {F : Addr → Prop} {S : Sto} {H : Hp} {gs : List (NK × Addr × V)} {kvs : List (NK × D)} (r : RepN X.K F S H gs kvs) {k : NK} {b : Addr} {v : V} {d : D} (hk : nkOk k = true) (rb : Rep X.K F S H (.ref b) (nkD k)) (rv : Rep X.K F S H v d) : RepN X.K F S H (putN gs k b v) (gPut kvs k d) := by
  have ea : (gs.any fun p => decide (p.1 = k)) = kvs.any fun p => decide (p.1 = k) := by
    unfold RepN at r
    induction r with
    | nil => rfl
    | cons h t ih => rw [List.any_cons, List.any_cons, ih, h.1.1]
  unfold putN gPut
  rw [ea]
  split
  · rename_i hc
    clear hc ea
    unfold RepN at r ⊢
    induction r with
    | nil => exact .nil
    | @cons p q ps qs h t ih =>
      rw [List.map_cons, List.map_cons]
      refine .cons ?_ ih
      by_cases z : q.1 = k
      · rw [if_pos z, if_pos (h.1.1.trans z)]
        exact ⟨h.1, h.2.1, rv⟩
      · rw [if_neg z, if_neg fun y => z (h.1.1.symm.trans y)]
        exact h
  · rename_i hc
    clear hc ea
    unfold RepN at r ⊢
    induction r with
    | nil => exact .cons ⟨⟨rfl, hk⟩, rb, rv⟩ .nil
    | cons h t ih => exact .cons h ih
theorem RepN.length {F : Addr → Prop} {S : Sto} {H : Hp} {gs : List (NK × Addr × V)} {kvs : List (NK × D)} (r : RepN X.K F S H gs kvs) : gs.length = kvs.length := Paired.length r
theorem wDcn_in {x : D} {S : Sto} {P : Addr → List (NK × D) → Prop} (h : wDcn x S P) : ∃ a kvs, x = .ref a ∧ dcnAt S a = some kvs ∧ P a kvs := by
  cases x with
  | ref a =>
    obtain ⟨kvs, e, p⟩ := wOpt_in (show wOpt (dcnAt S a) _ from h)
    exact ⟨a, kvs, rfl, e, p⟩
  | _ => exact h.elim
theorem wDnw_in {x : D} {S : Sto} {P : Addr → List (NK × D) → Prop} (h : wDnw x S P) : ∃ a kvs, x = .ref a ∧ S a = some (.dcn kvs) ∧ P a kvs := by
  cases x with
  | ref a =>
    obtain ⟨kvs, e, p⟩ := wOpt_in (show wOpt (dcnW S a) _ from h)
    exact ⟨a, kvs, rfl, of_dcnW e, p⟩
  | _ => exact h.elim
theorem dcn_rd {F : Addr → Prop} {S : Sto} {H : Hp} {a : Addr} {kvs : List (NK × D)} (R : RelS X.K F S H) (h : dcnAt S a = some kvs) : ∃ gs, Rd H a (dnO a gs) ∧ RepN X.K F S H gs kvs := by
  rcases of_dcnAt h with e | e
  · obtain ⟨gs, e3, _, rk⟩ := R.at_ a _ e
    exact ⟨gs, .inl e3, rk⟩
  · obtain ⟨ob, gs, e3, rk⟩ := R.at_ a _ e
    exact ⟨gs, .inr ⟨ob, e3⟩, rk⟩
/-- a key's value -/
theorem nget_of {F : Addr → Prop} {S : Sto} {H : Hp} {a : Addr} {y : V} {d : D} {k : NK} {kvs : List (NK × D)} (R : RelS X.K F S H) (h : dcnAt S a = some kvs) (ry : Rep X.K F S H y d) (ek : keyT d = some k) :
    ∃ o, NGet X.K H a y o ∧ o.isSome = (gGet kvs k).isSome ∧ (∀ z, gGet kvs k = some z → ∃ v, o = some v ∧ Rep X.K F S H v z) ∧ (gGet kvs k = none → o = none) := by
  obtain ⟨gs, e, rk⟩ := dcn_rd R h
  obtain ⟨rfl, hk⟩ := keyT_in ek
  obtain ⟨g1, g2⟩ := rk.get k
  refine ⟨valN gs k, ⟨gs, k, e, rk.keys, ⟨rep_nk _ _ ry (nkOk_pl hk).1, hk⟩, rfl⟩, ?_, fun z hz => g1 z hz, g2⟩
  cases hz : gGet kvs k with
  | none => rw [g2 hz]; rfl
  | some z => obtain ⟨v, hv, _⟩ := g1 z hz; rw [hv]; rfl
theorem sE_getN (O : COk X c cs) {d k : E} {x y : Expr} {pos : Pos} (hs : nsl y = true) (hd : SndE X cs d x) (hk : SndE X cs k y) : SndE X cs (.getN d k) (.Subscript x y pos) := by
  intro F env S σ H Q R L h
  refine pex (pe_getN O.roomN (noSl_of hs)) ?_
  refine wpx_mono (hd F env S σ H _ R L h) fun v H1 ⟨d1, S1, R1, r1, k1, h1⟩ => ?_
  refine wpx_mono (hk F env S1 σ H1 _ R1 (k1.env L) h1) fun u H2 ⟨d2, S2, R2, r2, k2, h2⟩ => ?_
  obtain ⟨a, kvs, rfl, e1, h3⟩ := wDcn_in h2
  obtain ⟨kk, e2, h4⟩ := wOpt_in h3
  obtain ⟨z, e4, q⟩ := wOpt_in h4
  cases r1
  obtain ⟨o, g, _, g1, _⟩ := nget_of R2 e1 r2 e2
  obtain ⟨w, rfl, rw'⟩ := g1 z e4
  exact ⟨a, w, rfl, g, PD.of (k1.trans k2) (PD.same R2 rw' q)⟩
theorem sE_inN (O : COk X c cs) {n : Bool} {k d : E} {x y : Expr} {pos : Pos} (hm : nset y = true) (hk : SndE X cs k x) (hd : SndE X cs d y) : SndE X cs (.inN n k d) (.Compare x [if n then .NotIn else .In] [y] pos) := by
  intro F env S σ H Q R L h
  refine pex (pe_cmp (pc_inN n O.roomN) (mark_of hm)) ?_
  refine wpx_mono (hk F env S σ H _ R L h) fun v H1 ⟨d1, S1, R1, r1, k1, h1⟩ => ?_
  refine wpx_mono (hd F env S1 σ H1 _ R1 (k1.env L) h1) fun u H2 ⟨d2, S2, R2, r2, k2, h2⟩ => ?_
  obtain ⟨a, kvs, rfl, e1, h3⟩ := wDcn_in h2
  obtain ⟨kk, e2, q⟩ := wOpt_in h3
  cases r2
  obtain ⟨o, g, g0, _⟩ := nget_of R2 e1 (k2 _ _ r1) e2
  refine ⟨a, o, rfl, g, ?_⟩
  rw [g0]
  exact PD.of (k1.trans k2) (PD.same R2 (.bl _) q)
theorem sT_inN (O : COk X c cs) {n : Bool} {k d : E} {x y : Expr} {pos : Pos} (hm : nset y = true) (hk : SndE X cs k x) (hd : SndE X cs d y) : SndT X cs (.inN n k d) (.Compare x [if n then .NotIn else .In] [y] pos) := by
  intro F env S σ H Q R L h
  refine ptx (pt_cmp (pc_inN n O.roomN) (mark_of hm)) ?_
  refine wpx_mono (hk F env S σ H _ R L h) fun v H1 ⟨d1, S1, R1, r1, k1, h1⟩ => ?_
  refine wpx_mono (hd F env S1 σ H1 _ R1 (k1.env L) h1) fun u H2 ⟨d2, S2, R2, r2, k2, h2⟩ => ?_
  obtain ⟨a, kvs, rfl, e1, h3⟩ := wDcn_in h2
  obtain ⟨kk, e2, q⟩ := wOpt_in h3
  cases r2
  obtain ⟨o, g, g0, _⟩ := nget_of R2 e1 (k2 _ _ r1) e2
  refine ⟨a, o, rfl, g, _, rfl, S2, R2, k1.trans k2, ?_⟩
  rw [g0]
  obtain ⟨b, e4, q⟩ := wOpt_in q
  cases (show some _ = some b from e4)
  exact q
theorem sE_getOrN (O : COk X c cs) {d k z : E} {x y w : Expr} {ap cp : Pos} (hc : ncl x = true) (hn : nst y = true) (hn2 : nst w = true) (hl : (ap.endLine == cp.line) = true) (hd : SndE X cs d x) (hk : SndE X cs k y) (hz : SndE X cs z w) :
    SndE X cs (.getOrN d k z) (.Call (.Attribute x "get" ap) [y, w] [] cp) := by
  intro F env S σ H Q R L h
  have hs : nsts [y, w] = true := by show (nst y && (nst w && true)) = true; rw [hn, hn2]; rfl
  have m2 : M2 X x "get" ap y w cp := ⟨base_of hc, few hs (by show 2 + 0 + 0 < 30; decide), hl, by rw [star_cons hn, star_cons hn2]; rfl⟩
  refine pex (pe_getOrN O.roomN m2) ?_
  refine wpx_mono (hd F env S σ H _ R L h) fun v H1 ⟨d1, S1, R1, r1, k1, h1⟩ => ?_
  obtain ⟨a, kvs, rfl, e1, h1⟩ := wDcn_in h1
  cases r1
  obtain ⟨gs, e3, rk⟩ := dcn_rd R1 e1
  refine ⟨a, rfl, ⟨gs, e3, rk.keys⟩, ?_⟩
  refine wpx_mono (hk F env S1 σ H1 _ R1 (k1.env L) h1) fun u H2 ⟨d2, S2, R2, r2, k2, h2⟩ => ?_
  refine wpx_mono (hz F env S2 σ H2 _ R2 ((k1.trans k2).env L) h2) fun u3 H3 ⟨d3, S3, R3, r3, k3, h3⟩ => ?_
  obtain ⟨a', kvs, e0, e1, h3⟩ := wDcn_in h3
  cases e0
  obtain ⟨kk, e2, q⟩ := wOpt_in h3
  obtain ⟨o, g, _, g1, g2⟩ := nget_of R3 e1 (k3 _ _ r2) e2
  refine ⟨o, g, PD.of ((k1.trans k2).trans k3) ?_⟩
  cases e5 : gGet kvs kk with
  | none =>
    rw [g2 e5]
    rw [e5] at q
    exact PD.same R3 r3 q
  | some z =>
    obtain ⟨w, rfl, rw'⟩ := g1 z e5
    rw [e5] at q
    exact PD.same R3 rw' q
/-- a subscript's value is stored as it comes -/
theorem swaps_sub {e o i : Expr} {p : Pos} {l : Nat} {env : Env} : swapsWith e (some (.Subscript o i p)) l env = pure false := by
  cases e <;> rfl
theorem sS_setKeyN (O : COk X c cs) {o k e : E} {x y z : Expr} {p pos : Pos} (ho : SndE X cs o x) (hk : SndE X cs k y) (he : SndE X cs e z) : SndS X cs (.setKeyN o k e) (.Assign [.Subscript x y p] z pos) := by
  intro F K env S σ H D R L C h
  refine psxx (ps_putN O.roomN swaps_sub) ?_
  refine wpx_mono (he F env S σ H _ R L h) fun v H1 ⟨d, S1, R1, r1, k1, h1⟩ => ?_
  refine wpx_mono (ho F env S1 σ H1 _ R1 (k1.env L) h1) fun w H2 ⟨d2, S2, R2, r2, k2, h2⟩ => ?_
  refine wpx_mono (hk F env S2 σ H2 _ R2 ((k1.trans k2).env L) h2) fun j H3 ⟨d3, S3, R3, r3, k3, h3⟩ => ?_
  obtain ⟨a, kvs, rfl, e1, h4⟩ := wDnw_in h3
  obtain ⟨kk, e2, hl, q⟩ := wOpt_in h4
  cases r2
  obtain ⟨gs, e3, nc, rk⟩ := R3.at_ a _ e1
  obtain ⟨rfl, hok⟩ := keyT_in e2
  have SZ := sz
  have nk := rep_nk _ _ r3 (nkOk_pl hok).1
  obtain ⟨b, rfl⟩ := nk_ref nk hok
  refine ⟨a, rfl, gs, kk, b, e3, rk.keys, ⟨nk, hok⟩, rfl, by rw [rk.length]; omega, fun nc2 => ?_⟩
  have k4 : Keep X.K S3 H3 (supd S3 a (.dcn (gPut kvs kk d))) (upd H3 a (dnO a (putN gs kk b v))) := keepMut R3 e1
  have kk' := ((k1.trans k2).trans k3).trans k4
  exact C.nx env _ σ _ q (R3.putM e1 k4 ⟨_, upd_same, fun q => by rw [upd_same]; exact fun z => nc2 q (Option.some.inj z), k4.keysN (rk.put hok r3 ((k2.trans k3) _ _ r1))⟩) (kk'.env L) kk'
theorem sE_dict0N {pos : Pos} : SndE X cs .dict0N (.Dict [] [] pos) := by
  intro F env S σ H Q R L h
  refine pex pe_newN fun p hp nc => ?_
  have k0 : Keep X.K S H (supd S p (.dcn [])) (upd H p (dnO p [])) := keepNewM hp
  exact ⟨.ref p, _, R.putN hp k0 (o := .dcn []) ⟨[], upd_same, fun q => by rw [upd_same]; exact fun z => nc q (Option.some.inj z), .nil⟩, .ref p, k0, h p (R.none hp)⟩
theorem sE_dct1N (O : COk X c cs) {k v : E} {x y : Expr} {pos : Pos} (hk : SndE X cs k x) (hv : SndE X cs v y) : SndE X cs (.dct1N k v) (.Dict [some x] [y] pos) := by
  intro F env S σ H Q R L h
  refine pex (pe_oneN O.roomN) fun p hp nc => ?_
  have k0 : Keep X.K S H (supd S p (.dcn [])) (upd H p (dnO p [])) := keepNewM hp
  have R0 := R.putN hp k0 (o := .dcn []) ⟨[], upd_same, fun q => by rw [upd_same]; exact fun z => nc q (Option.some.inj z), .nil⟩
  refine wpx_mono (hk F env _ σ _ _ R0 (k0.env L) (h p (R.none hp))) fun u H1 ⟨d, S1, R1, r1, k1, h1⟩ => ?_
  refine wpx_mono (hv F env S1 σ H1 _ R1 ((k0.trans k1).env L) h1) fun w H2 ⟨e, S2, R2, r2, k2, h2⟩ => ?_
  obtain ⟨kk, e1, e2, q⟩ := wOpt_in h2
  obtain ⟨gs, e3, nc2, rk⟩ := R2.at_ p _ e2
  cases rk
  obtain ⟨rfl, hok⟩ := keyT_in e1
  have r1' := k2 _ _ r1
  have nk := rep_nk _ _ r1' (nkOk_pl hok).1
  obtain ⟨b, rfl⟩ := nk_ref nk hok
  refine ⟨e3, kk, b, ⟨nk, hok⟩, rfl, fun nc3 => ?_⟩
  have k3 : Keep X.K S2 H2 (supd S2 p (.dcn [(kk, e)])) (upd H2 p (dnO p [(kk, b, w)])) := keepMut R2 e2
  exact ⟨.ref p, _, R2.putM e2 k3 ⟨[(kk, b, w)], upd_same, fun q => by rw [upd_same]; exact fun z => nc3 q (Option.some.inj z), .cons ⟨⟨rfl, hok⟩, k3 _ _ r1', k3 _ _ r2⟩ .nil⟩, .ref p, ((k0.trans k1).trans k2).trans k3, q⟩
/-! ### dicts locked while a statement, an expression runs -/
/-- a place changed that is no list and no tuple -/
theorem KeepW.at_ {S : Sto} {H : Hp} {a : Addr} {o : SO} {v u : HO} (e : H a = some v) (h1 : ∀ xs, v ≠ .tup xs) (h2 : ∀ xs, v ≠ .lst xs) (h3 : ∀ ob w, seqO w = true → v ≠ .frz ob w) : KeepW S H (supd S a o) (upd H a u) where
  tup := fun b xs eb => by rw [upd_ne fun z => by subst z; rw [e] at eb; exact h1 _ (Option.some.inj eb)]; exact eb
  frz := fun b ob w q eb => by rw [upd_ne fun z => by subst z; rw [e] at eb; exact h3 _ _ q (Option.some.inj eb)]; exact eb
  lst := fun b xs eb n => by
    have hb : b ≠ a := fun z => by subst z; rw [e] at eb; exact h2 _ (Option.some.inj eb)
    exact ⟨by rw [upd_ne hb]; exact eb, by rw [supd_ne hb]; exact n⟩
  frl := fun b ob xs eb n => by
    have hb : b ≠ a := fun z => by subst z; rw [e] at eb; exact h3 _ _ rfl (Option.some.inj eb)
    rw [supd_ne hb]
    exact n
/-- a dict's lock: the heap within, and behind -/
structure LockOk (X : Cx) (F : Addr → Prop) (S : Sto) (H : Hp) (a : Addr) (o l : SO) (u : HO) (ob : Obj) : Prop where
  rel : RelS X.K F (supd S a l) (upd H a (.frz ob u))
  keep : Keep X.K S H (supd S a l) (upd H a (.frz ob u))
  back : ∀ S2 H2, RelS X.K F S2 H2 → Keep X.K (supd S a l) (upd H a (.frz ob u)) S2 H2 → S2 a = some l → H2 a = some (.frz ob u) ∧ RelS X.K F (supd S2 a o) (upd H2 a u) ∧ Keep X.K S H (supd S2 a o) (upd H2 a u) ∧ ∀ v d, Rep X.K F S2 H2 v d → Rep X.K F (supd S2 a o) (upd H2 a u) v d
theorem lock_ok {F : Addr → Prop} {S : Sto} {H : Hp} {a : Addr} {o l : SO} {u : HO} (R : RelS X.K F S H) (hs : S a = some o) (hf : o.lk = false) (e : H a = some u) (n1 : ∀ xs, u ≠ .tup xs) (n2 : ∀ xs, u ≠ .lst xs) (n3 : ∀ ob w, u ≠ .frz ob w) (n4 : notTbl u = true) (ob : Obj)
    (h1 : RO X.K F (supd S a l) (upd H a (.frz ob u)) a l) (h2 : ∀ S2 H2, RelS X.K F S2 H2 → S2 a = some l → H2 a = some (.frz ob u) → (∀ v d, Rep X.K F S2 H2 v d → Rep X.K F (supd S2 a o) (upd H2 a u) v d) → RO X.K F (supd S2 a o) (upd H2 a u) a o) : LockOk X F S H a o l u ob := by
  have k1 : Keep X.K S H (supd S a l) (upd H a (.frz ob u)) := keepMut R hs rfl hf
  refine ⟨R.putM hs k1 h1, k1, fun S2 H2 R2 k2 hs2 => ?_⟩
  have e2 : H2 a = some (.frz ob u) := k2.frz a ob u upd_same
  have kw : KeepW S2 H2 (supd S2 a o) (upd H2 a u) := .at_ e2 (fun _ z => nomatch z) (fun _ z => nomatch z) fun ob' w q z => by
    cases z
    cases u with
    | lst xs => exact n2 xs rfl
    | tup xs => exact n1 xs rfl
    | _ => cases q
  have mp : ∀ v d, Rep X.K F S2 H2 v d → Rep X.K F (supd S2 a o) (upd H2 a u) v d := keepGo kw
  have nb : ∀ b, b ≠ a → upd H2 a u b = H2 b := fun b hb => upd_ne hb
  have kk := k1.trans k2
  have R3 : RelS X.K F (supd S2 a o) (upd H2 a u) := by
    refine ⟨fun b x eb => ?_, fun b f => ?_, R2.tab.setN (R2.pl hs2).1 (R2.pl hs2).2⟩
    · by_cases hb : b = a
      · subst hb
        rw [supd_same] at eb
        cases eb
        exact h2 S2 H2 R2 hs2 e2 mp
      · rw [supd_ne hb] at eb
        exact RO.map mp (upd_ne hb) (R2.at_ b x eb)
    · have hb : b ≠ a := fun z => R2.nh hs2 (by rw [← z]; exact f)
      obtain ⟨⟨xs, q⟩, n⟩ := R2.hid b f
      exact ⟨⟨xs, by rw [upd_ne hb]; exact q⟩, by rw [supd_ne hb]; exact n⟩
  refine ⟨e2, R3, ⟨fun b xs eb => ?_, fun b ob' w eb => ?_, fun b xs eb n => ?_, fun b w n eb t => ?_, fun b w eb t => ?_⟩, mp⟩
  · rw [upd_ne fun z => by subst z; rw [e] at eb; exact n1 _ (Option.some.inj eb)]
    exact kk.tup b xs eb
  · rw [upd_ne fun z => by subst z; rw [e] at eb; exact n3 _ _ (Option.some.inj eb)]
    exact kk.frz b ob' w eb
  · rw [upd_ne fun z => by subst z; rw [e] at eb; exact n2 _ (Option.some.inj eb)]
    exact kk.lst b xs eb n
  · rw [supd_ne fun z => by subst z; rw [hs] at n; cases n]
    exact kk.sto b w n eb t
  · obtain ⟨v, ev, tv⟩ := kk.dom b w eb t
    exact upd_dom ev tv n4
theorem Rl.mp {F : Addr → Prop} {S S' : Sto} {H H' : Hp} (h : ∀ v d, Rep X.K F S H v d → Rep X.K F S' H' v d) {env : En} {σ : L2.St} (r : Rl X.K F S H env σ) : Rl X.K F S' H' env σ := r.map h
theorem lock_in {F : Addr → Prop} {S : Sto} {H : Hp} {a : Addr} {o l : SO} (R : RelS X.K F S H) (hs : S a = some o) (hl : lockO o = some l) : ∃ u, H a = some u ∧ Mut (some u) ∧ ∀ ob, LockOk X F S H a o l u ob := by
  cases o with
  | dct kvs =>
    cases (show some (SO.dlk kvs) = some l from hl)
    obtain ⟨gs, e, rk⟩ := R.at_ a _ hs
    refine ⟨.dK gs, e, True.intro, fun ob => lock_ok R hs rfl e (fun _ z => nomatch z) (fun _ z => nomatch z) (fun _ _ z => nomatch z) rfl ob ?_ fun S2 H2 R2 hs2 e2 mp => ?_⟩
    · have k1 : Keep X.K S H (supd S a (.dlk kvs)) (upd H a (.frz ob (.dK gs))) := keepMut R hs
      exact ⟨ob, gs, upd_same, k1.keys rk⟩
    · obtain ⟨ob2, gs2, e3, rk2⟩ := R2.at_ a _ hs2
      rw [e2] at e3
      cases e3
      exact ⟨gs, upd_same, rk2.map mp⟩
  | dcn kvs =>
    cases (show some (SO.dcl kvs) = some l from hl)
    obtain ⟨gs, e, nc, rk⟩ := R.at_ a _ hs
    refine ⟨dnO a gs, e, True.intro, fun ob => lock_ok R hs rfl e (fun _ z => nomatch z) (fun _ z => nomatch z) (fun _ _ z => nomatch z) rfl ob ?_ fun S2 H2 R2 hs2 e2 mp => ?_⟩
    · have k1 : Keep X.K S H (supd S a (.dcl kvs)) (upd H a (.frz ob (dnO a gs))) := keepMut R hs
      exact ⟨ob, gs, upd_same, k1.keysN rk⟩
    · obtain ⟨ob2, gs2, e3, rk2⟩ := R2.at_ a _ hs2
      rw [e2] at e3
      have e4 : dnO a gs = dnO a gs2 := (HO.frz.inj (Option.some.inj e3)).2
      refine ⟨gs2, by rw [e4]; exact upd_same, fun q => by rw [upd_same]; exact fun z => nc q (by rw [e]; exact z), rk2.map mp⟩
  | _ => exact nomatch (show none = some l from hl)
theorem sE_lockE {e : E} {x : Expr} (he : SndE X cs e x) : SndE X cs (.lockE e) x := by
  intro F env S σ H Q R L h
  obtain ⟨a, o, l, ⟨hs, hl⟩, h⟩ := h
  obtain ⟨u, eu, mu, lk⟩ := lock_in R hs hl
  refine pex (pe_lock pe_x) ⟨a, u, eu, mu, fun ob => ?_⟩
  obtain ⟨R1, k1, back⟩ := lk ob
  refine wpx_mono (he F env _ σ _ _ R1 (k1.env L) h) fun v H2 ⟨d, S2, R2, r2, k2, hs2, q⟩ => ?_
  obtain ⟨e2, R3, k3, mp⟩ := back S2 H2 R2 k2 hs2
  exact ⟨e2, d, _, R3, mp _ _ r2, k3, q⟩
theorem sS_lockS {s : Stm} {st : Stmt} (hs' : SndS X cs s st) : SndS X cs (.lockS s) st := by
  intro F K env S σ H D R L C h
  obtain ⟨a, o, l, ⟨hs, hl⟩, h⟩ := h
  obtain ⟨u, eu, mu, lk⟩ := lock_in R hs hl
  refine psxx (ps_lock ps_x) ⟨a, u, eu, mu, fun ob => ?_⟩
  obtain ⟨R1, k1, back⟩ := lk ob
  refine hs' F (unlk a l o K) env _ σ _ _ R1 (k1.env L) ⟨fun e S2 σ2 H2 ⟨z, q⟩ R2 L2 k2 => ?_, fun d S2 v H2 ⟨z, q⟩ R2 r2 k2 => ?_, fun e S2 σ2 H2 ⟨z, q⟩ R2 L2 k2 => ?_, fun e S2 σ2 H2 ⟨z, q⟩ R2 L2 k2 => ?_, _, takes_no, fun _ _ _ _ _ _ z => (show False from z).elim⟩ h
  · obtain ⟨e2, R3, k3, mp⟩ := back S2 H2 R2 k2 z
    exact ⟨e2, C.nx e _ σ2 _ q R3 (L2.map mp) k3⟩
  · obtain ⟨e2, R3, k3, mp⟩ := back S2 H2 R2 k2 z
    exact ⟨e2, C.rt d _ v _ q R3 (mp _ _ r2) k3⟩
  · obtain ⟨e2, R3, k3, mp⟩ := back S2 H2 R2 k2 z
    exact ⟨e2, C.bk e _ σ2 _ q R3 (L2.map mp) k3⟩
  · obtain ⟨e2, R3, k3, mp⟩ := back S2 H2 R2 k2 z
    exact ⟨e2, C.ct e _ σ2 _ q R3 (L2.map mp) k3⟩
/-- the locked thing's pairs -/
theorem lkAt_in {F : Addr → Prop} {S : Sto} {H : Hp} {a : Addr} {kvs : List (D × D)} (R : RelS X.K F S H) (h : lkAt S a = some kvs) : ∃ ob u ps, H a = some (.frz ob u) ∧ EntU u a ps ∧ ps.length = kvs.length ∧
    ∀ (i : Nat) (q : D × D), kvs[i]? = some q → ∃ p, ps[i]? = some p ∧ Rep X.K F S H p.1 q.1 ∧ Rep X.K F S H p.2 q.2 := by
  unfold lkAt at h
  split at h
  · rename_i m e
    cases h
    obtain ⟨ob, gs, e2, rk⟩ := R.at_ a _ e
    refine ⟨ob, .dK gs, gs.map fun p => (kV p.1, p.2), e2, fun P w H h x => ent_dk x, by rw [List.length_map, List.length_map]; exact Paired.length rk, fun i q hq => ?_⟩
    rw [List.getElem?_map] at hq
    obtain ⟨q0, h0, rfl⟩ := Option.map_eq_some_iff.mp hq
    obtain ⟨p, h1, h2, h3⟩ := paired_at rk h0
    refine ⟨(kV p.1, p.2), by rw [List.getElem?_map, h1]; rfl, ?_, h3⟩
    obtain ⟨k, d⟩ := q0
    rw [show p.1 = k from h2]
    cases k with
    | inl i => exact .int i
    | inr x => exact .str x
  · rename_i m e
    cases h
    obtain ⟨ob, gs, e2, rk⟩ := R.at_ a _ e
    refine ⟨ob, dnO a gs, gs.map fun p => (V.ref p.2.1, p.2.2), e2, fun P w H h x => ent_dn x, by rw [List.length_map, List.length_map]; exact Paired.length rk, fun i q hq => ?_⟩
    rw [List.getElem?_map] at hq
    obtain ⟨q0, h0, rfl⟩ := Option.map_eq_some_iff.mp hq
    obtain ⟨p, h1, h2, h3, h4⟩ := paired_at rk h0
    refine ⟨(V.ref p.2.1, p.2.2), by rw [List.getElem?_map, h1]; rfl, ?_, h4⟩
    show Rep X.K F S H (.ref p.2.1) (nkD q0.1)
    rw [← h2.1]
    exact h3
  · cases h
theorem itOk_dk {F : Addr → Prop} {S : Sto} {H : Hp} {a : Addr} {ob : Obj} {u : HO} {ps : List (V × V)} {kvs : List (D × D)} (w : Dw) (e : H a = some (.frz ob u)) (hz : ps.length ≤ sizeLine) (hl : ps.length = kvs.length)
    (hp : ∀ (i : Nat) (q : D × D), kvs[i]? = some q → ∃ p, ps[i]? = some p ∧ Rep X.K F S H p.1 q.1 ∧ Rep X.K F S H p.2 q.2) : ItOk X.K F S H (ItD a ob u (match w with | .keys => false | .items => true) ps) (w.its kvs) noStay := by
  have el : (w.its kvs).length = kvs.length := by cases w <;> exact List.length_map _
  refine ⟨by rw [el, ← hl]; exact hz, fun F' hF S2 H2 R2 k2 _ => ⟨fun i d hd => ?_, k2.frz a ob u e, by rw [el, hl]⟩⟩
  have hi : i < kvs.length := by rw [← el]; exact (List.getElem?_eq_some_iff.mp hd).1
  obtain ⟨q, hq⟩ : ∃ q, kvs[i]? = some q := ⟨_, List.getElem?_eq_getElem hi⟩
  obtain ⟨p, h1, h2, h3⟩ := hp i q hq
  refine ⟨⟨k2.frz a ob u e, by rw [hl]; exact hi⟩, fun x H3 ⟨p', h4, y⟩ => ?_⟩
  rw [h1] at h4
  cases h4
  have r1 := k2 _ _ (hF _ _ h2)
  have r2 := k2 _ _ (hF _ _ h3)
  cases w with
  | keys =>
    obtain ⟨rfl, rfl⟩ := y
    have : d = q.1 := by
      have e2 : (kvs.map fun p => p.1)[i]? = some d := hd
      rw [List.getElem?_map, hq] at e2
      exact (Option.some.inj e2).symm
    subst this
    exact ⟨R2, Keep.refl, r1⟩
  | items =>
    obtain ⟨T, rfl, hT, rfl⟩ := y
    have : d = .tup [q.1, q.2] := by
      have e2 : (kvs.map fun p => D.tup [p.1, p.2])[i]? = some d := hd
      rw [List.getElem?_map, hq] at e2
      exact (Option.some.inj e2).symm
    subst this
    exact pair_yld R2 hT r1 r2
theorem sI_dk {d : E} {x tg : Expr} (hd : SndE X cs d x) : SndI X cs (.dwk .keys d) tg x := by
  intro F env S σ H R RS L h
  refine pix pi_dk (wpx_inv (hd F env S σ H _ RS L h) fun v H1 bd ⟨d1, S1, R1, r1, k1, h1⟩ => ?_)
  cases r1 with
  | ref a =>
    obtain ⟨kvs, e1, q⟩ := wOpt_in (show wOpt (lkAt S1 a) _ from h1)
    obtain ⟨ob, u, ps, e2, eu, hl, hp⟩ := lkAt_in R1 e1
    exact ⟨a, ob, u, ps, rfl, e2, eu, fun hz => ⟨_, _, S1, R1, k1, itOk_dk .keys e2 hz hl hp, q⟩⟩
  | _ => exact h1.elim
theorem sI_di {d : E} {x : Expr} {elts : List Expr} {kk : Nat} {tp ap cp : Pos} (hc : ncl x = true) (hl : (ap.endLine == cp.line) = true) (hd : SndE X cs d x) : SndI X cs (.dwk .items d) (.Tuple elts kk tp) (.Call (.Attribute x "items" ap) [] [] cp) := by
  intro F env S σ H R RS L h
  refine pix (pi_di (base_of hc) hl) (wpx_inv (hd F env S σ H _ RS L h) fun v H1 bd ⟨d1, S1, R1, r1, k1, h1⟩ => ?_)
  cases r1 with
  | ref a =>
    obtain ⟨kvs, e1, q⟩ := wOpt_in (show wOpt (lkAt S1 a) _ from h1)
    obtain ⟨ob, u, ps, e2, eu, hl, hp⟩ := lkAt_in R1 e1
    exact ⟨a, ob, u, ps, rfl, e2, eu, fun hz => ⟨_, _, S1, R1, k1, itOk_dk .items e2 hz hl hp, q⟩⟩
  | _ => exact h1.elim
end
end Z
set_option Elab.async false
set_option linter.all false
set_option maxRecDepth 100000
set_option maxHeartbeats 4000000
/-! Z79: what the trees say holds of the model: zip of lists and tuples in any mix, of three; sorted data; lists turned about. -/
namespace Z
open PySem PySem.Spec PyProof.Rows L2

/-! ### zip, of two and of three -/
def ItZ2 (K : PySem.W.Frag) (a b : Addr) (ta tb : Bool) : It where
  go := fun i H => ∃ xs ys, SqA K H a xs ta ∧ SqA K H b ys tb ∧ i < min xs.length ys.length
  stop := fun i H => ∃ xs ys, SqA K H a xs ta ∧ SqA K H b ys tb ∧ i = min xs.length ys.length
  yld := fun i H v H' => ∃ T x y, (v = .ref T ∧ H T = none ∧ H' = upd H T (.tup [x, y])) ∧ (∀ xs, SqA K H a xs ta → xs[i]? = some x) ∧ ∀ ys, SqA K H b ys tb → ys[i]? = some y
def ItZ3 (K : PySem.W.Frag) (a b c : Addr) (ta tb tc : Bool) : It where
  go := fun i H => ∃ xs ys zs, (SqA K H a xs ta ∧ SqA K H b ys tb ∧ SqA K H c zs tc) ∧ i < min (min xs.length ys.length) zs.length
  stop := fun i H => ∃ xs ys zs, (SqA K H a xs ta ∧ SqA K H b ys tb ∧ SqA K H c zs tc) ∧ i = min (min xs.length ys.length) zs.length
  yld := fun i H v H' => ∃ T x y z, (v = .ref T ∧ H T = none ∧ H' = upd H T (.tup [x, y, z])) ∧ (∀ xs, SqA K H a xs ta → xs[i]? = some x) ∧ (∀ ys, SqA K H b ys tb → ys[i]? = some y) ∧ ∀ zs, SqA K H c zs tc → zs[i]? = some z
/-- an item of a sequence, in the heap and told -/
theorem vals_at {xs : List V} {its : List Value} {i : Nat} {u : Value} (r : Vals xs its) (h : its.toArray[i]? = some u) : ∃ x, xs[i]? = some x ∧ RelV x u := by
  have h2 : its[i]? = some u := by simpa using h
  have hi : i < xs.length := by rw [r.length]; exact (List.getElem?_eq_some_iff.mp h2).1
  have hx : xs[i]? = some xs[i] := List.getElem?_eq_getElem hi
  obtain ⟨u', hu, ru⟩ := r.get hx
  rw [h2] at hu
  cases hu
  exact ⟨_, hx, ru⟩
section
variable {P : Program} {w : World} {K : PySem.W.Frag} {elts : List Expr} {kk : Nat} {tpos : Pos}
theorem turn_z2 {N : Nat} {a b : Addr} (ta tb : Bool) (ha : a < N) (hb : b < N) : Turn P w K (.Tuple elts kk tpos) (ItZ2 K a b ta tb) [N + 4, N + 2, N + 3, N, N + 1] (N + 4)
    fun i h => IsZip h (N + 4) (N + 2) (N + 3) .none ∧ IsTupOf2 h (N + 2) (.ref N) (.ref (N + 1)) ∧ (∃ u v, IsTupOf2 h (N + 3) u v) ∧ AtA h N a i ta ∧ AtA h (N + 1) b i tb := by
  have D := zip_sep2 (N := N) (fp1 := [a]) (fp2 := [b]) (fun x hx => by rw [List.mem_singleton.mp hx]; exact ha) fun x hx => by rw [List.mem_singleton.mp hx]; exact hb
  refine turn_by (wr := [N + 4, N + 3, N, N + 1]) (fun x hx => ?_) (List.mem_cons_self ..) (fun i h ⟨hz, hI, ⟨u, v, hO⟩, h1, h2⟩ x hx => ?_) (fun i h h' ⟨hz, hI, ⟨u, v, hO⟩, h1, h2⟩ k => ⟨k _ (by simp) _ hz, k _ (by simp) _ hI, ⟨u, v, k _ (by simp) _ hO⟩, atA_keep (k _ (by simp)) h1, atA_keep (k _ (by simp)) h2⟩)
    (fun A i s Q E ⟨hz, _⟩ q => wpAny_pyIter_zip hz q) ?_
  · simp only [List.mem_cons, List.not_mem_nil, or_false] at hx ⊢
    rcases hx with h | h | h | h
    · exact .inl h
    · exact .inr (.inr (.inl h))
    · exact .inr (.inr (.inr (.inl h)))
    · exact .inr (.inr (.inr (.inr h)))
  · simp only [List.mem_cons, List.not_mem_nil, or_false] at hx
    rcases hx with rfl | rfl | rfl | rfl | rfl
    · exact ⟨_, hz, fun v z => nomatch z⟩
    · exact ⟨_, hI, fun v z => nomatch z⟩
    · exact ⟨_, hO, fun v z => nomatch z⟩
    · exact atA_obj h1
    · exact atA_obj h2
  · intro X p1 p2 p3 hc i pins s σ H I ⟨hz, hI, hO, h1, h2⟩ alt
    subst p3
    obtain ⟨xs, ys, hx, hy, hlt⟩ : ∃ xs ys, SqA X.K H a xs ta ∧ SqA X.K H b ys tb ∧ ((ItZ2 X.K a b ta tb).go i H → i < min xs.length ys.length) ∧ ((ItZ2 X.K a b ta tb).stop i H → i = min xs.length ys.length) := by
      rcases alt with ⟨xs, ys, hx, hy, h⟩ | ⟨xs, ys, hx, hy, h⟩
      · exact ⟨xs, ys, hx, hy, fun _ => h, fun ⟨xs', ys', hx', hy', h'⟩ => by rw [h', sqA_inj I hx' hx, sqA_inj I hy' hy]⟩
      · exact ⟨xs, ys, hx, hy, fun ⟨xs', ys', hx', hy', h'⟩ => by rw [sqA_inj I hx hx', sqA_inj I hy hy']; exact h', fun _ => h⟩
    obtain ⟨its, rv, sa, _⟩ := sqA_its I hx
    obtain ⟨jts, rw', sb, _⟩ := sqA_its I hy
    have W := WalksT.zipD2 (prog := X.prog) (w := X.w) (A := X.A) D (drwA (A := X.A.in1) (I.ok.hd hc) ta (it := N) (Nat.ne_of_lt ha) its.toArray) (drwA (A := X.A.in1) (I.ok.hd hc) tb (it := N + 1) (Nat.ne_of_lt (Nat.lt_succ_of_lt hb)) jts.toArray)
    subst p1 p2
    have l1 : its.toArray.size = xs.length := by rw [List.size_toArray]; exact rv.length.symm
    have l2 : jts.toArray.size = ys.length := by rw [List.size_toArray]; exact rw'.length.symm
    refine ⟨_, _, _, _, _, W, ⟨hz, hI, hO, ⟨h1, sa⟩, ⟨h2, sb⟩⟩, fun h z => ⟨z.1, z.2.1, z.2.2.1, z.2.2.2.1.1, z.2.2.2.2.1⟩, fun g => by rw [l1, l2]; exact hlt.1 g, fun g => by rw [l1, l2]; exact hlt.2 g, fun us ⟨u1, u2, g1, g2, e2⟩ => ?_⟩
    subst e2
    obtain ⟨x, ex, rx⟩ := vals_at rv g1
    obtain ⟨y, ey, ry⟩ := vals_at rw' g2
    exact ⟨[x, y], .cons rx (.cons ry .nil), (by rw [sz]; decide : 2 ≤ sizeLine), fun T hT => ⟨T, x, y, ⟨rfl, hT, rfl⟩, fun zs hzs => by rw [sqA_inj I hzs hx]; exact ex, fun zs hzs => by rw [sqA_inj I hzs hy]; exact ey⟩⟩
theorem turn_z3 {N : Nat} {a b c : Addr} (ta tb tc : Bool) (ha : a < N) (hb : b < N) (hcc : c < N) : Turn P w K (.Tuple elts kk tpos) (ItZ3 K a b c ta tb tc) [N + 5, N + 3, N + 4, N, N + 1, N + 2] (N + 5)
    fun i h => IsZip h (N + 5) (N + 3) (N + 4) .none ∧ IsTupOf3 h (N + 3) (.ref N) (.ref (N + 1)) (.ref (N + 2)) ∧ (∃ u v x, IsTupOf3 h (N + 4) u v x) ∧ AtA h N a i ta ∧ AtA h (N + 1) b i tb ∧ AtA h (N + 2) c i tc := by
  have D := zip_sep3 (N := N) (fp1 := [a]) (fp2 := [b]) (fp3 := [c]) (fun x hx => by rw [List.mem_singleton.mp hx]; exact ha) (fun x hx => by rw [List.mem_singleton.mp hx]; exact hb) fun x hx => by rw [List.mem_singleton.mp hx]; exact hcc
  refine turn_by (wr := [N + 5, N + 4, N, N + 1, N + 2]) (fun x hx => ?_) (List.mem_cons_self ..) (fun i h ⟨hz, hI, ⟨u, v, x3, hO⟩, h1, h2, h3⟩ x hx => ?_) (fun i h h' ⟨hz, hI, ⟨u, v, x3, hO⟩, h1, h2, h3⟩ k => ⟨k _ (by simp) _ hz, k _ (by simp) _ hI, ⟨u, v, x3, k _ (by simp) _ hO⟩, atA_keep (k _ (by simp)) h1, atA_keep (k _ (by simp)) h2, atA_keep (k _ (by simp)) h3⟩)
    (fun A i s Q E ⟨hz, _⟩ q => wpAny_pyIter_zip hz q) ?_
  · simp only [List.mem_cons, List.not_mem_nil, or_false] at hx ⊢
    rcases hx with h | h | h | h | h
    · exact .inl h
    · exact .inr (.inr (.inl h))
    · exact .inr (.inr (.inr (.inl h)))
    · exact .inr (.inr (.inr (.inr (.inl h))))
    · exact .inr (.inr (.inr (.inr (.inr h))))
  · simp only [List.mem_cons, List.not_mem_nil, or_false] at hx
    rcases hx with rfl | rfl | rfl | rfl | rfl | rfl
    · exact ⟨_, hz, fun v z => nomatch z⟩
    · exact ⟨_, hI, fun v z => nomatch z⟩
    · exact ⟨_, hO, fun v z => nomatch z⟩
    · exact atA_obj h1
    · exact atA_obj h2
    · exact atA_obj h3
  · intro X p1 p2 p3 hc i pins s σ H I ⟨hz, hI, hO, h1, h2, h3⟩ alt
    subst p3
    obtain ⟨xs, ys, zs, hx, hy, hzz, hlt⟩ : ∃ xs ys zs, SqA X.K H a xs ta ∧ SqA X.K H b ys tb ∧ SqA X.K H c zs tc ∧ ((ItZ3 X.K a b c ta tb tc).go i H → i < min (min xs.length ys.length) zs.length) ∧ ((ItZ3 X.K a b c ta tb tc).stop i H → i = min (min xs.length ys.length) zs.length) := by
      rcases alt with ⟨xs, ys, zs, ⟨hx, hy, hzz⟩, h⟩ | ⟨xs, ys, zs, ⟨hx, hy, hzz⟩, h⟩
      · exact ⟨xs, ys, zs, hx, hy, hzz, fun _ => h, fun ⟨xs', ys', zs', ⟨hx', hy', hz'⟩, h'⟩ => by rw [h', sqA_inj I hx' hx, sqA_inj I hy' hy, sqA_inj I hz' hzz]⟩
      · exact ⟨xs, ys, zs, hx, hy, hzz, fun ⟨xs', ys', zs', ⟨hx', hy', hz'⟩, h'⟩ => by rw [sqA_inj I hx hx', sqA_inj I hy hy', sqA_inj I hzz hz']; exact h', fun _ => h⟩
    obtain ⟨its, rv, sa, _⟩ := sqA_its I hx
    obtain ⟨jts, rw', sb, _⟩ := sqA_its I hy
    obtain ⟨kts, rz, sc, _⟩ := sqA_its I hzz
    have W := WalksT.zipD3 (prog := X.prog) (w := X.w) (A := X.A) D (drwA (A := X.A.in1) (I.ok.hd hc) ta (it := N) (Nat.ne_of_lt ha) its.toArray) (drwA (A := X.A.in1) (I.ok.hd hc) tb (it := N + 1) (Nat.ne_of_lt (Nat.lt_succ_of_lt hb)) jts.toArray) (drwA (A := X.A.in1) (I.ok.hd hc) tc (it := N + 2) (Nat.ne_of_lt (Nat.lt_succ_of_lt (Nat.lt_succ_of_lt hcc))) kts.toArray)
    subst p1 p2
    have l1 : its.toArray.size = xs.length := by rw [List.size_toArray]; exact rv.length.symm
    have l2 : jts.toArray.size = ys.length := by rw [List.size_toArray]; exact rw'.length.symm
    have l3 : kts.toArray.size = zs.length := by rw [List.size_toArray]; exact rz.length.symm
    refine ⟨_, _, _, _, _, W, ⟨hz, hI, hO, ⟨h1, sa⟩, ⟨h2, sb⟩, ⟨h3, sc⟩⟩, fun h z => ⟨z.1, z.2.1, z.2.2.1, z.2.2.2.1.1, z.2.2.2.2.1.1, z.2.2.2.2.2.1⟩, fun g => by rw [l1, l2, l3]; exact hlt.1 g, fun g => by rw [l1, l2, l3]; exact hlt.2 g, fun us ⟨u1, u2, u3, g1, g2, g3, e2⟩ => ?_⟩
    subst e2
    obtain ⟨x, ex, rx⟩ := vals_at rv g1
    obtain ⟨y, ey, ry⟩ := vals_at rw' g2
    obtain ⟨z, ez, rz'⟩ := vals_at rz g3
    exact ⟨[x, y, z], .cons rx (.cons ry (.cons rz' .nil)), (by rw [sz]; decide : 3 ≤ sizeLine), fun T hT => ⟨T, x, y, z, ⟨rfl, hT, rfl⟩, fun zs hzs => by rw [sqA_inj I hzs hx]; exact ex, fun zs hzs => by rw [sqA_inj I hzs hy]; exact ey, fun zs hzs => by rw [sqA_inj I hzs hzz]; exact ez⟩⟩
end
section
variable {X : Cx} {elts : List Expr} {kk : Nat} {tpos p pos : Pos}
theorem pi_z2 {e f : Expr} (hg : Gl X "zip") (hm : X.mg "zip" = none) (hn : nst e = true) (hn2 : nst f = true) : PI X (.Tuple elts kk tpos) (.Call (.Name "zip" p) [e, f] [] pos) fun σ H R => wpx X e σ H fun v H1 => wpx X f σ H1 fun u H2 =>
    ∃ a b xs ys ta tb, (v = .ref a ∧ u = .ref b) ∧ SqA X.K H2 a xs ta ∧ SqA X.K H2 b ys tb ∧ R (ItZ2 X.K a b ta tb) H2 := by
  have h2 : nsts [f] = true := by show (nst f && true) = true; rw [hn2]; rfl
  refine ⟨fun pins s σ H R I h => ?_⟩
  have hw : wpa X [e, f] σ H fun vs H2 => ∃ v u, vs = [v, u] ∧ ∃ a b xs ys ta tb, (v = .ref a ∧ u = .ref b) ∧ SqA X.K H2 a xs ta ∧ SqA X.K H2 b ys tb ∧ R (ItZ2 X.K a b ta tb) H2 := by
    refine pax (pa_cons pe_x (pa_cons pe_x pa_nil (star_cons hn2)) (star_cons hn)) ?_
    refine wpx_mono h fun v H1 q => ?_
    exact wpx_mono q fun u H2 q => ⟨v, u, rfl, q⟩
  refine Call_ (ld_blt I hg hm boot_zip (PyProof.Rows.callWith_type1 (thn (pa_x.run pos pins s σ H _ I hw) fun us s1 ⟨vs, H1, J, rv, q⟩ => ?_) (star_cons hn) (star_any h2)))
  · obtain ⟨_, _, rfl, a, b, xs, ys, ta, tb, ⟨rfl, rfl⟩, hx, hy, r⟩ := q
    cases rv with
    | cons r1 rv =>
     cases rv with
     | cons r2 rv =>
      cases rv
      obtain rfl := (show _ = Value.ref a from r1)
      obtain rfl := (show _ = Value.ref b from r2)
      obtain ⟨its, _, sa, la⟩ := sqA_its J hx
      obtain ⟨jts, _, sb, lb⟩ := sqA_its J hy
      refine zip_begins2 (begA ta a its.toArray) (begA tb b jts.toArray) sa sb fun h' hz hI hO g1 g2 hs k => wpAny_pyIter_zip hz ⟨_, _, _, _, H1, rfl, J.kept (t' := s1.toks) k, turn_z2 (N := s1.heap.objs.size) ta tb la lb, ⟨hz, hI, ⟨_, _, hO⟩, atA_new g1, atA_new g2⟩, fun b hb => ?_, r⟩
      have old : s1.heap.objs.size ≤ b := by
        simp only [List.mem_cons, List.not_mem_nil, or_false] at hb
        rcases hb with rfl | rfl | rfl | rfl | rfl
        · exact Nat.le_add_right _ _
        · exact Nat.le_add_right _ _
        · exact Nat.le_add_right _ _
        · exact Nat.le_refl _
        · exact Nat.le_add_right _ _
      exact J.fpOk old (J.hok.fresh old)
theorem pi_z3 {e f g : Expr} (hg : Gl X "zip") (hm : X.mg "zip" = none) (hn : nst e = true) (hn2 : nst f = true) (hn3 : nst g = true) : PI X (.Tuple elts kk tpos) (.Call (.Name "zip" p) [e, f, g] [] pos) fun σ H R => wpx X e σ H fun v H1 => wpx X f σ H1 fun u H2 => wpx X g σ H2 fun t H3 =>
    ∃ a b c xs ys zs ta tb tc, (v = .ref a ∧ u = .ref b ∧ t = .ref c) ∧ (SqA X.K H3 a xs ta ∧ SqA X.K H3 b ys tb ∧ SqA X.K H3 c zs tc) ∧ R (ItZ3 X.K a b c ta tb tc) H3 := by
  have h2 : nsts [f, g] = true := by show (nst f && (nst g && true)) = true; rw [hn2, hn3]; rfl
  refine ⟨fun pins s σ H R I h => ?_⟩
  have hw : wpa X [e, f, g] σ H fun vs H3 => ∃ v u t, vs = [v, u, t] ∧ ∃ a b c xs ys zs ta tb tc, (v = .ref a ∧ u = .ref b ∧ t = .ref c) ∧ (SqA X.K H3 a xs ta ∧ SqA X.K H3 b ys tb ∧ SqA X.K H3 c zs tc) ∧ R (ItZ3 X.K a b c ta tb tc) H3 := by
    refine pax (pa_cons pe_x (pa_cons pe_x (pa_cons pe_x pa_nil (star_cons hn3)) (star_cons hn2)) (star_cons hn)) ?_
    refine wpx_mono h fun v H1 q => ?_
    refine wpx_mono q fun u H2 q => ?_
    exact wpx_mono q fun t H3 q => ⟨v, u, t, rfl, q⟩
  refine Call_ (ld_blt I hg hm boot_zip (PyProof.Rows.callWith_type1 (thn (pa_x.run pos pins s σ H _ I hw) fun us s1 ⟨vs, H1, J, rv, q⟩ => ?_) (star_cons hn) (star_any h2)))
  · obtain ⟨_, _, _, rfl, a, b, c, xs, ys, zs, ta, tb, tc, ⟨rfl, rfl, rfl⟩, ⟨hx, hy, hzz⟩, r⟩ := q
    cases rv with
    | cons r1 rv =>
     cases rv with
     | cons r2 rv =>
      cases rv with
      | cons r3 rv =>
      cases rv
      obtain rfl := (show _ = Value.ref a from r1)
      obtain rfl := (show _ = Value.ref b from r2)
      obtain rfl := (show _ = Value.ref c from r3)
      obtain ⟨its, _, sa, la⟩ := sqA_its J hx
      obtain ⟨jts, _, sb, lb⟩ := sqA_its J hy
      obtain ⟨kts, _, sc, lc⟩ := sqA_its J hzz
      refine zip_begins3 (begA ta a its.toArray) (begA tb b jts.toArray) (begA tc c kts.toArray) sa sb sc fun h' hz hI hO g1 g2 g3 hs k => wpAny_pyIter_zip hz ⟨_, _, _, _, H1, rfl, J.kept (t' := s1.toks) k, turn_z3 (N := s1.heap.objs.size) ta tb tc la lb lc, ⟨hz, hI, ⟨_, _, _, hO⟩, atA_new g1, atA_new g2, atA_new g3⟩, fun b hb => ?_, r⟩
      have old : s1.heap.objs.size ≤ b := by
        simp only [List.mem_cons, List.not_mem_nil, or_false] at hb
        rcases hb with rfl | rfl | rfl | rfl | rfl | rfl
        · exact Nat.le_add_right _ _
        · exact Nat.le_add_right _ _
        · exact Nat.le_add_right _ _
        · exact Nat.le_refl _
        · exact Nat.le_add_right _ _
        · exact Nat.le_add_right _ _
      exact J.fpOk old (J.hok.fresh old)
end
section
variable {X : Cx} {c : Ctx} {cs : CS}
/-- a sequence, list or tuple, now and later -/
theorem seqA_later {F : Addr → Prop} {S : Sto} {H : Hp} {v : V} {d : D} {ds : List D} (R : RelS X.K F S H) (r : Rep X.K F S H v d) (e : seqD d S = some ds) : ∃ a vs t, v = .ref a ∧ SqA X.K H a vs t ∧ RepL X.K F S H vs ds ∧
    ∀ (F' : Addr → Prop), (∀ v d, Rep X.K F S H v d → Rep X.K F' S H v d) → ∀ S2 H2, RelS X.K F' S2 H2 → Keep X.K S H S2 H2 → stayOf d ds S2 → ∃ ys, SqA X.K H2 a ys t ∧ RepL X.K F' S2 H2 ys ds := by
  rcases seq_case e with z | z
  · subst z
    cases r with
    | @tup b vs _ hs rl => exact ⟨b, vs, true, rfl, hs.sq, rl, fun F' hF S2 H2 R2 k2 _ => tup_later (hF _ _ (.tup hs rl)) k2⟩
  · obtain ⟨b, vs, rfl, hs, rl⟩ := lsr_rep R r z
    exact ⟨b, vs, false, rfl, hs, rl, fun F' hF S2 H2 R2 k2 st => lst_later rfl (hF _ _ r) z R2 k2 st⟩
theorem sqA_len {H : Hp} {a : Addr} {vs : List V} {t : Bool} (bd : Bd X H) (h : SqA X.K H a vs t) : vs.length ≤ sizeLine := bd a vs (match t, h with
  | true, h => .inr h
  | false, h => .inl h)
theorem sI_zipX (O : COk X c cs) {a b : E} {x y : Expr} {elts : List Expr} {kk : Nat} {tp p pos : Pos} (hg : c.gl "zip" = true) (hn : nst x = true) (hn2 : nst y = true) (ha : SndE X cs a x) (hb : SndE X cs b y) :
    SndI X cs (.zipX a b) (.Tuple elts kk tp) (.Call (.Name "zip" p) [x, y] [] pos) := by
  intro F env S σ H R RS L h
  refine pix (pi_z2 (O.gl hg) (O.blt "zip" (by decide +kernel)) hn hn2) ?_
  refine wpx_mono (ha F env S σ H _ RS L h) fun v H1 ⟨d, S1, R1, r1, k1, h1⟩ => ?_
  refine wpx_inv (hb F env S1 σ H1 _ R1 (k1.env L) h1) fun v2 H2 bd ⟨e, S2, R2, r2, k2, h2⟩ => ?_
  obtain ⟨xs, e1, h2⟩ := wOpt_in h2
  obtain ⟨ys, e2, q⟩ := wOpt_in h2
  obtain ⟨a1, vs, ta, rfl, hs, rl, la⟩ := seqA_later R2 (k2 _ _ r1) e1
  obtain ⟨a2, ws, tb, rfl, hs2, rl2, lb⟩ := seqA_later R2 r2 e2
  have hz := sqA_len bd hs
  refine ⟨a1, a2, vs, ws, ta, tb, ⟨rfl, rfl⟩, hs, hs2, _, _, S2, R2, k1.trans k2, ⟨by rw [List.length_zipWith, ← rl.length]; exact Nat.le_trans (Nat.min_le_left _ _) hz, fun F' hF S3 H3 R3 k3 st => ?_⟩, q⟩
  obtain ⟨ps, hp, rp⟩ := la F' hF S3 H3 R3 k3 st.1
  obtain ⟨qs, hq, rq⟩ := lb F' hF S3 H3 R3 k3 st.2
  refine ⟨fun i z ez => ?_, ⟨ps, qs, hp, hq, by rw [List.length_zipWith, rp.length, rq.length]⟩⟩
  obtain ⟨p, q, e5, e6, rfl⟩ := zip_at ez
  obtain ⟨w, ew, rw'⟩ := rp.get e5
  obtain ⟨w2, ew2, rw2⟩ := rq.get e6
  refine ⟨⟨ps, qs, hp, hq, by have := (List.getElem?_eq_some_iff.mp ew).1; have := (List.getElem?_eq_some_iff.mp ew2).1; omega⟩, fun x H4 ⟨T, x1, x2, ⟨y1, y2, y3⟩, y4, y5⟩ => ?_⟩
  subst y1 y3
  have f1 := y4 _ hp
  have f2 := y5 _ hq
  rw [ew] at f1
  rw [ew2] at f2
  cases f1
  cases f2
  exact pair_yld R3 y2 rw' rw2
theorem zip3_at {xs ys zs : List D} {i : Nat} {d : D} (h : (List.zipWith (fun p qr => D.tup (p :: qr)) xs (List.zipWith (fun q r => [q, r]) ys zs))[i]? = some d) : ∃ p q r, xs[i]? = some p ∧ ys[i]? = some q ∧ zs[i]? = some r ∧ d = .tup [p, q, r] := by
  rw [List.getElem?_zipWith, List.getElem?_zipWith] at h
  cases e1 : xs[i]? with
  | none => rw [e1] at h; cases h
  | some p =>
    cases e2 : ys[i]? with
    | none => rw [e1, e2] at h; cases h
    | some q =>
      cases e3 : zs[i]? with
      | none => rw [e1, e2, e3] at h; cases h
      | some r => rw [e1, e2, e3] at h; cases h; exact ⟨p, q, r, rfl, rfl, rfl, rfl⟩
theorem sI_zip3 (O : COk X c cs) {a b g : E} {x y z : Expr} {elts : List Expr} {kk : Nat} {tp p pos : Pos} (hg : c.gl "zip" = true) (hn : nst x = true) (hn2 : nst y = true) (hn3 : nst z = true) (ha : SndE X cs a x) (hb : SndE X cs b y) (hc : SndE X cs g z) :
    SndI X cs (.zip3 a b g) (.Tuple elts kk tp) (.Call (.Name "zip" p) [x, y, z] [] pos) := by
  intro F env S σ H R RS L h
  refine pix (pi_z3 (O.gl hg) (O.blt "zip" (by decide +kernel)) hn hn2 hn3) ?_
  refine wpx_mono (ha F env S σ H _ RS L h) fun v H1 ⟨d, S1, R1, r1, k1, h1⟩ => ?_
  refine wpx_mono (hb F env S1 σ H1 _ R1 (k1.env L) h1) fun v2 H2 ⟨e, S2, R2, r2, k2, h2⟩ => ?_
  refine wpx_inv (hc F env S2 σ H2 _ R2 ((k1.trans k2).env L) h2) fun v3 H3 bd ⟨f, S3, R3, r3, k3, h3⟩ => ?_
  obtain ⟨xs, e1, h3⟩ := wOpt_in h3
  obtain ⟨ys, e2, h3⟩ := wOpt_in h3
  obtain ⟨zs, e3, q⟩ := wOpt_in h3
  obtain ⟨a1, vs, ta, rfl, hs, rl, la⟩ := seqA_later R3 (k3 _ _ (k2 _ _ r1)) e1
  obtain ⟨a2, ws, tb, rfl, hs2, rl2, lb⟩ := seqA_later R3 (k3 _ _ r2) e2
  obtain ⟨a3, us, tc, rfl, hs3, rl3, lc⟩ := seqA_later R3 r3 e3
  have hz := sqA_len bd hs
  refine ⟨a1, a2, a3, vs, ws, us, ta, tb, tc, ⟨rfl, rfl, rfl⟩, ⟨hs, hs2, hs3⟩, _, _, S3, R3, (k1.trans k2).trans k3, ⟨by rw [List.length_zipWith, ← rl.length]; exact Nat.le_trans (Nat.min_le_left _ _) hz, fun F' hF S4 H4 R4 k4 st => ?_⟩, q⟩
  obtain ⟨ps, hp, rp⟩ := la F' hF S4 H4 R4 k4 st.1
  obtain ⟨qs, hq, rq⟩ := lb F' hF S4 H4 R4 k4 st.2.1
  obtain ⟨rs, hr, rr⟩ := lc F' hF S4 H4 R4 k4 st.2.2
  refine ⟨fun i z ez => ?_, ⟨ps, qs, rs, ⟨hp, hq, hr⟩, by rw [List.length_zipWith, List.length_zipWith, rp.length, rq.length, rr.length]; omega⟩⟩
  obtain ⟨p, q, r, e5, e6, e7, rfl⟩ := zip3_at ez
  obtain ⟨w, ew, rw'⟩ := rp.get e5
  obtain ⟨w2, ew2, rw2⟩ := rq.get e6
  obtain ⟨w3, ew3, rw3⟩ := rr.get e7
  refine ⟨⟨ps, qs, rs, ⟨hp, hq, hr⟩, by have := (List.getElem?_eq_some_iff.mp ew).1; have := (List.getElem?_eq_some_iff.mp ew2).1; have := (List.getElem?_eq_some_iff.mp ew3).1; omega⟩, fun x H5 ⟨T, x1, x2, x3, ⟨y1, y2, y3⟩, y4, y5, y6⟩ => ?_⟩
  subst y1 y3
  have f1 := y4 _ hp
  have f2 := y5 _ hq
  have f3 := y6 _ hr
  rw [ew] at f1
  rw [ew2] at f2
  rw [ew3] at f3
  cases f1
  cases f2
  cases f3
  have k : Keep X.K S4 H4 S4 (upd H4 T (.tup [w, w2, w3])) := keepNew y2
  exact ⟨R4.new y2, k, .tup (.inl ⟨.inl upd_same, R4.nhid y2⟩) (.cons (k _ _ rw') (.cons (k _ _ rw2) (.cons (k _ _ rw3) .nil)))⟩
end
end Z
set_option Elab.async false
set_option linter.all false
set_option maxRecDepth 100000
set_option maxHeartbeats 4000000
/-! Z795: what the trees say holds of the model: sorted data, of any number; d.pop(k); a tuple turned about. -/
namespace Z
open PySem PySem.Spec PyProof.Rows L2
section
variable {X : Cx}
theorem each_rel : ∀ {xs : List V} {es : List PyData} {its : List Value}, xs.length = es.length → Vals xs its → PySem.W.EachIs (fun u (b : V × PyData) => RelV b.1 u) its (xs.zip es)
  | [], [], _, _, .nil => .nil
  | x :: xs, e :: es, _, hl, .cons r t => .cons r (each_rel (Nat.succ.inj hl) t)
theorem each_reads {h : Heap} : ∀ {xs : List V} {es : List PyData} {its : List Value} {as : List Addr}, xs.length = es.length → ReadsAll h its es as → PySem.W.EachIs (fun u (b : V × PyData) => ∃ as, Reads h u b.2 as) its (xs.zip es)
  | [], [], _, _, _, .nil => .nil
  | x :: xs, e :: es, _, _, hl, .cons r t => .cons ⟨_, r⟩ (each_reads (Nat.succ.inj hl) t)
theorem each_back {R : Value → V × PyData → Prop} (hR : ∀ u b, R u b → RelV b.1 u) : ∀ {us : List Value} {bs : List (V × PyData)}, PySem.W.EachIs R us bs → Vals (bs.map Prod.fst) us
  | _, _, .nil => .nil
  | _, _, .cons r t => .cons (hR _ _ r) (each_back hR t)
theorem zip_snd : ∀ {xs : List V} {es : List PyData}, xs.length = es.length → (xs.zip es).map Prod.snd = es
  | [], [], _ => rfl
  | x :: xs, e :: es, h => by rw [List.zip_cons_cons, List.map_cons, zip_snd (Nat.succ.inj h)]
theorem dpAll_len {K : PySem.W.Frag} {H : Hp} : ∀ {xs : List V} {es : List PyData}, DpAll K H xs es → xs.length = es.length
  | _, _, .nil => rfl
  | _, _, .cons _ t => congrArg Nat.succ (dpAll_len t)
def rSortDt (K : PySem.W.Frag) : List V → Hp → VK → Prop := fun vs H Q => ∃ (a : Addr) (xs : List V) (es : List PyData), vs = [V.ref a] ∧ SqL K H a xs ∧ DpAll K H xs es ∧ (PySem.W.AllAlike es ∧ (∀ d, d ∈ es → ∃ x r, d = PyData.tuple (x :: r)) ∧ PyData.depthAll es ≤ 60) ∧
  ∀ (zs : List (V × PyData)) (p : Addr), zs.Perm (xs.zip es) → zs.Pairwise (fun b c => PySem.W.dataLt c.2 b.2 = false) → H p = none → Q (.ref p) (upd H p (.lst (zs.map Prod.fst)))
theorem depth_mem {d : PyData} : ∀ {es : List PyData}, d ∈ es → d.depth ≤ PyData.depthAll es
  | e :: es, h => by
    show d.depth ≤ max e.depth (PyData.depthAll es)
    rcases List.mem_cons.mp h with rfl | h
    · exact Nat.le_max_left _ _
    · exact Nat.le_trans (depth_mem h) (Nat.le_max_right _ _)
theorem cr_sortDt (hu : X.A.units + 70 < cLine) : CallR X (.builtin "sorted") (rSortDt X.K) := by
  intro pins s σ H vs us Q I r ⟨a, xs, es, e0, hs, dps, ⟨al, tu, dp⟩, q⟩
  subst e0
  obtain ⟨its, rv, hl, hz⟩ := I.list hs
  rw [Vals.ref1 r]
  obtain ⟨as, ra⟩ := Dp.readsAll I _ _ _ dps rv
  have le := dpAll_len dps
  have em := zip_snd le
  refine PySem.W.sorted_data (bs := xs.zip es) (enc := Prod.snd) (R := fun u b => RelV b.1 u) hl.isList (each_rel le rv) (each_reads le ra) (by rw [em]; exact al) (.inl (by rw [em]; exact tu)) (by rw [List.length_zip, le, Nat.min_self, ← le]; exact hz)
    (fun b hb => by
      have h1 : b.2 ∈ es := by rw [← em]; exact List.mem_map.mpr ⟨b, hb, rfl⟩
      have h2 := depth_mem h1
      omega) fun out hlen eo => ?_
  obtain ⟨ep, he'⟩ := PyProof.Rows.sortedAll_at s.heap its out.toArray
  have pm : ((xs.zip es).mergeSort (PySem.W.dataLe false Prod.snd)).Perm (xs.zip es) := List.mergeSort_perm _ _
  have pw : ((xs.zip es).mergeSort (PySem.W.dataLe false Prod.snd)).Pairwise (fun b c => PySem.W.dataLt c.2 b.2 = false) :=
    (PySem.W.sort_pairwise (PySem.W.sortLe_total _ false _) (xs.zip es)).imp fun {b c} h => by
      have h2 : (!PySem.W.dataLt c.2 b.2) = true := h
      cases z : PySem.W.dataLt c.2 b.2 with
      | false => rfl
      | true => rw [z] at h2; cases h2
  have vb := each_back (fun _ _ h => h) eo
  have hn : (((xs.zip es).mergeSort (PySem.W.dataLe false Prod.snd)).map Prod.fst).length ≤ sizeLine := by rw [List.length_map, pm.length_eq, List.length_zip, le, Nat.min_self, ← le]; exact hz
  exact ⟨.ref _, upd H (s.heap.objs.size + 1) (.lst _), I.laid (t' := s.toks) (fun _ _ => PyProof.Rows.sortedAll_old) (Nat.le_succ _) ⟨hn, out, ep, vb, he'⟩, rfl, q _ _ pm pw (I.hok.fresh (Nat.le_succ _))⟩
end
section
variable {X : Cx} {c : Ctx} {cs : CS}
theorem pairs_zip {F : Addr → Prop} {S : Sto} {H : Hp} : ∀ {vs : List V} {xs : List D}, RepL X.K F S H vs xs → ∃ ps : List (V × D), ps.map Prod.fst = vs ∧ ps.map Prod.snd = xs ∧ ∀ p ∈ ps, Rep X.K F S H p.1 p.2
  | _, _, .nil => ⟨[], rfl, rfl, fun _ h => nomatch h⟩
  | _, _, .cons (v := v) (d := d) r t => by
    obtain ⟨ps, h1, h2, h3⟩ := pairs_zip t
    exact ⟨(v, d) :: ps, by rw [List.map_cons, h1], by rw [List.map_cons, h2], fun p hp => by
      rcases List.mem_cons.mp hp with rfl | hp
      · exact r
      · exact h3 p hp⟩
theorem rep_of_pairs {F : Addr → Prop} {S : Sto} {H : Hp} : ∀ {ps : List (V × D)}, (∀ p ∈ ps, Rep X.K F S H p.1 p.2) → RepL X.K F S H (ps.map Prod.fst) (ps.map Prod.snd)
  | [], _ => .nil
  | p :: ps, h => .cons (h p (List.mem_cons_self ..)) (rep_of_pairs fun q hq => h q (List.mem_cons_of_mem _ hq))
/-- data that came out in some order, with what stands for them -/
theorem perm_pairs : ∀ (ps : List (V × D)), ((ps.map Prod.fst).zip (D.pys (ps.map Prod.snd))) = ps.map fun p => (p.1, p.2.py)
  | [] => rfl
  | p :: ps => by
    show (p.1, p.2.py) :: _ = _
    rw [List.map_cons]
    exact congrArg _ (perm_pairs ps)
theorem perm_map_inv {α β : Type} (f : α → β) : ∀ {l : List β} {m : List α}, l.Perm (m.map f) → ∃ n : List α, n.Perm m ∧ n.map f = l := by
  intro l m p
  generalize e : m.map f = k at p
  induction p generalizing m with
  | nil =>
    cases m with
    | nil => exact ⟨[], List.Perm.nil, rfl⟩
    | cons => cases e
  | @cons x l1 l2 p ih =>
    cases m with
    | nil => cases e
    | cons a m =>
      cases e
      obtain ⟨n, h1, h2⟩ := ih rfl
      exact ⟨a :: n, h1.cons a, by rw [List.map_cons, h2]⟩
  | swap x y l =>
    match m, e with
    | a :: b :: m, e => cases e; exact ⟨b :: a :: m, .swap .., rfl⟩
  | @trans l1 l2 l3 p1 p2 ih1 ih2 =>
    obtain ⟨n, h1, h2⟩ := ih2 e
    obtain ⟨n2, h3, h4⟩ := ih1 h2
    exact ⟨n2, h3.trans h1, h4⟩
theorem sort_read {F : Addr → Prop} {m : Bool} {S : Sto} {H : Hp} {Q : QK} {a : Addr} {vs : List V} {xs : List D} (hu : X.A.units + 70 < cLine) (R : RelS X.K F S H) (hs : SqL X.K H a vs) (rl : RepL X.K F S H vs xs) (h : wSortD m xs S Q) : clx X (.builtin "sorted") [.ref a] H (PD X.K F S H Q) := by
  obtain ⟨⟨⟨pu, al⟩, ⟨tu, dp⟩, _⟩, q⟩ := h
  obtain ⟨ps, e1, e2, hp⟩ := pairs_zip rl
  refine clr (cr_sortDt hu) ⟨a, vs, D.pys xs, rfl, hs, rep_dps _ _ rl pu, ⟨al, tu, dp⟩, fun zs p h1 h2 hn => ?_⟩
  rw [← e1, ← e2, perm_pairs] at h1
  obtain ⟨n, h3, h4⟩ := perm_map_inv (fun p : V × D => (p.1, p.2.py)) h1
  subst h4
  rw [List.map_map, show (Prod.fst ∘ fun p : V × D => (p.1, p.2.py)) = Prod.fst from rfl]
  refine PD.lst R hn (rep_of_pairs fun p hp' => hp p (h3.mem_iff.mp hp')) (q (n.map Prod.snd) (by rw [← e2]; exact h3.map _) ?_)
  unfold OrdD
  rw [List.pairwise_map] at h2 ⊢
  exact h2
theorem sE_sortD (O : COk X c cs) {m : Bool} {a : E} {x : Expr} {p pos : Pos} (hg : c.gl "sorted" = true) (hn : nst x = true) (ha : SndE X cs a x) : SndE X cs (.sortD m a) (.Call (.Name "sorted" p) [x] [] pos) := by
  intro F env S σ H Q R L h
  refine pex (pe_callB (cl_x (f := .builtin "sorted")) (O.gl hg) (O.blt "sorted" (by decide +kernel)) (by decide +kernel) (pa_cons pe_x pa_nil (star_cons hn)) (by decide +kernel) (by decide +kernel) (star_cons hn) rfl) ?_
  refine wpx_mono (ha F env S σ H _ R L h) fun v H1 ⟨d1, S1, R1, r1, k1, h1⟩ => ?_
  obtain ⟨xs, e1, q⟩ := wOpt_in h1
  obtain ⟨l, ws, rfl, hs, rl⟩ := lsr_rep R1 r1 e1
  exact clx_mono (sort_read (Nat.lt_of_le_of_lt (by omega) O.hu) R1 hs rl q) fun v H' z => PD.of k1 z
theorem RepK.drop {F : Addr → Prop} {S : Sto} {H : Hp} {gs : List (Key × V)} {kvs : List (Key × D)} (kk : Key) (rk : RepK X.K F S H gs kvs) : RepK X.K F S H (dropK gs kk) (kvDel kvs kk) := by
  unfold RepK at rk ⊢
  induction rk with
  | nil => exact .nil
  | @cons p q ps qs h t ih =>
    unfold dropK kvDel at ih ⊢
    rw [List.filter_cons, List.filter_cons, h.1]
    by_cases hz : q.1 = kk
    · simp only [hz, decide_true, Bool.not_true, Bool.false_eq_true, if_false, ne_eq, not_true_eq_false, decide_false]
      exact ih
    · simp only [hz, decide_false, Bool.not_false, if_true, ne_eq, not_false_eq_true, decide_true]
      exact .cons h ih
theorem sE_dpop (O : COk X c cs) {d k : E} {x y : Expr} {ap cp : Pos} (hc : ncl x = true) (hn : nst y = true) (hl : (ap.endLine == cp.line) = true) (hd : SndE X cs d x) (hk : SndE X cs k y) : SndE X cs (.dpop d k) (.Call (.Attribute x "pop" ap) [y] [] cp) := by
  intro F env S σ H Q R L h
  have hs : nsts [y] = true := by show (nst y && true) = true; rw [hn]; rfl
  have m1 : M1 X x "pop" ap y cp := ⟨base_of hc, few hs (by show 1 + 0 + 0 < 30; decide), hl, by rw [star_cons hn]; rfl⟩
  refine pex (pe_dpop1 pe_x pe_x m1) ?_
  refine wpx_mono (hd F env S σ H _ R L h) fun v H1 ⟨d1, S1, R1, r1, k1, h1⟩ => ?_
  obtain ⟨a, kvs, rfl, e1, h1⟩ := wDct_in h1
  cases r1
  obtain ⟨gs, e3, rk⟩ := dct_rd R1 e1
  refine ⟨a, rfl, .inl ⟨gs, e3⟩, ?_⟩
  refine wpx_mono (hk F env S1 σ H1 _ R1 (k1.env L) h1) fun u H2 ⟨d2, S2, R2, r2, k2, h2⟩ => ?_
  obtain ⟨a', kvs, e0, e1, h3⟩ := wDcw_in h2
  cases e0
  obtain ⟨kk, e2, h4⟩ := wOpt_in h3
  obtain ⟨z, e4, q⟩ := wOpt_in h4
  obtain ⟨gs, e3, rk⟩ := R2.at_ a _ e1
  obtain rfl := key_rep r2 e2
  obtain ⟨w, e5, rw'⟩ := (RepK.get rk).1 z e4
  have k3 : Keep X.K S2 H2 (supd S2 a (.dct (kvDel kvs kk))) (upd H2 a (.dK (dropK gs kk))) := keepMut R2 e1
  have rd := RepK.drop kk rk
  exact ⟨gs, kk, w, e3, rfl, e5, PD.of ((k1.trans k2).trans k3) (PD.same (R2.putM e1 k3 ⟨_, upd_same, k3.keys rd⟩) (k3 _ _ rw') q)⟩
end
end Z
set_option Elab.async false
set_option linter.all false
set_option maxRecDepth 100000
set_option maxHeartbeats 4000000
/-! Z796: what the trees say holds of the model: a tuple of whole numbers sorted; a tuple shown. -/
namespace Z
open PySem PySem.Spec PyProof.Rows L2
namespace SRT
section
variable {prog : Program} {w : World} {A : Around} {E : Value → Shared → Prop} {s : Shared}
theorem tuple_sorted {t : Addr} {items : Array Value} {ns : List Int} {Q : Value → Shared → Prop} (ht : IsTup s.heap t items) (hz : items.size ≤ sizeLine) (hi : IntsAre items.toList ns)
   (q : ∀ (h1 h' : Heap) (d : Addr) (out : Array Value) (ns' : List Int) (c : Nat), Grown s.heap h1 → Grown h1 h' → h1.objs.size ≤ d → h'.get? d = some (seqObj "list" out c) → IntsAre out.toList ns' → ns'.Perm ns → ns'.Pairwise (· ≤ ·) → Q (.ref d) { s with heap := h' }) :
   wpAny (model prog w) A (PySem.call (.builtin "sorted") [.ref t]) Q E s := by
  obtain ⟨o, ho, hc, n, hd⟩ := ht
  have sz : items.toList.length ≤ sizeLine := by rw [Array.length_toList]; exact hz
  apply call_function_entry_kw kind_sorted plain_sorted entry_sorted (args_sorted1 _)
  -- what is in the tuple stands in a list of its own, wherever that lies; that list is put in order
  have inOrder : ∀ h1 : Heap, Grown s.heap h1 → ∀ E2 : Value → Shared → Prop, wpAny (model prog w) A.in1 (newList items.toList >>= fun l => holding [l] (PySem.call (.builtin "list.sort") [l] []) >>= fun _ => ret l)
      (fun f s' => ∃ v, f = .done (.ret v) ∧ Q v s') E2 { s with heap := h1 } := fun h1 g E2 => by
    have mine : (h1.push (seqObj "list" items.toList.toArray 0)).get? h1.objs.size = some (seqObj "list" items.toList.toArray 0) := Heap.get?_push_size _ rfl
    refine wpAny_bind (wpAny_newList (wpAny_bind (wpAny_holding (wpAny_call_entry_kw slot_list_sort ⟨_, mine, rfl⟩ entry_list_sort (list_sort_treeAny (s := { s with heap := h1.push (seqObj "list" items.toList.toArray 0) }) mine hi sz fun out ns' i1 i2 i3 => ?_) (args_list_sort _)))) sz)
    obtain ⟨c, there⟩ := sortedHeap_at (out := out) mine
    refine ⟨_, rfl, wpAny_pure ⟨_, rfl, q _ _ _ _ _ c g (fun b u e => ?_) (Nat.le_refl _) there i1 i2 i3⟩⟩
    have lt := Heap.lt_size e
    have lt2 : b < (h1.push (seqObj "list" items.toList.toArray 0)).objs.size := Nat.lt_of_lt_of_le lt (by rw [Heap.size_push]; exact Nat.le_succ _)
    rw [sortedHeap_old (Nat.ne_of_lt lt) lt2]
    exact Heap.get?_push_of_some _ e
  exact wpAny_bind (m := checkCount "sorted" 1 1 _) (wpAny_pure (wpAny_bind (wpAny_collect_seq t (.inr rfl) ho hc hd (fun h1 g => inOrder h1 g _) hz)))
end
end SRT
section
variable {X : Cx} {c : Ctx} {cs : CS}
def rSrtT (K : PySem.W.Frag) : List V → Hp → VK → Prop := fun xs H Q => ∃ (a : Addr) (ns : List Int), xs = [.ref a] ∧ SqT K H a (ns.map V.int) ∧ ∀ (zs : List Int) (p : Addr), zs.Perm ns → zs.Pairwise (· ≤ ·) → H p = none → Q (.ref p) (upd H p (.lst (zs.map V.int)))
theorem ints_vals : ∀ {us : List Value} {ns : List Int}, IntsAre us ns → Vals (ns.map V.int) us
  | [], _, h => by cases h; exact .nil
  | u :: us, _, h => by
    cases h with
    | cons n k t => exact .cons ⟨k, rfl⟩ (ints_vals t)
theorem cr_srtT : CallR X (.builtin "sorted") (rSrtT X.K) := by
  rintro pins s σ H xs us Q I r ⟨a, ns, rfl, hs, q⟩
  obtain ⟨its, rv, ht, hz⟩ := I.tuple hs
  rw [Vals.ref1 r]
  have nz : its.length ≤ sizeLine := by rw [← rv.length]; exact hz
  refine SRT.tuple_sorted ht (by rw [List.size_toArray]; exact nz) (its_ints rv) fun h1 h' d out ns' ep g0 g le there i1 i2 i3 => ?_
  have len : (ns'.map V.int).length ≤ sizeLine := by rw [List.length_map, i2.length_eq, ← List.length_map (f := V.int)]; exact hz
  have I := I.kept (t' := s.toks) g0
  exact ⟨.ref d, upd H d (.lst (ns'.map V.int)), I.laid (t' := s.toks) g le ⟨len, out.toList, ep, ints_vals i1, there⟩, rfl, q ns' d i2 i3 (I.hok.fresh le)⟩
theorem sE_srtT (O : COk X c cs) {m : Bool} {a : E} {x : Expr} {p pos : Pos} (hg : c.gl "sorted" = true) (hn : nst x = true) (ha : SndE X cs a x) : SndE X cs (.srtT m a) (.Call (.Name "sorted" p) [x] [] pos) := by
  intro F env S σ H Q R L h
  refine pex (pe_callB cr_srtT (O.gl hg) (O.blt "sorted" (by decide +kernel)) (by decide +kernel) (pa_cons pe_x pa_nil (star_cons hn)) (by decide +kernel) (by decide +kernel) (star_cons hn) rfl) ?_
  refine wpx_mono (ha F env S σ H _ R L h) fun v H1 ⟨d1, S1, R1, r1, k1, h1⟩ => ?_
  cases r1 with
  | tup hs rl =>
    obtain ⟨ns, e1, q⟩ := wOpt_in h1
    obtain rfl := rep_ints rl e1
    exact ⟨_, ns, rfl, hs.sq, fun zs b p1 p2 hb => PD.of k1 (PD.lst R1 hb (rep_mapI zs) (q zs p1 p2))⟩
  | _ => exact h1.elim
end
/-! ### repr(t) -/
mutual
theorem py_nodict : ∀ d : D, d.py.hasDict = false
  | .non => rfl
  | .bl _ => rfl
  | .int _ => rfl
  | .str _ => rfl
  | .lsk _ => rfl
  | .ref _ => rfl
  | .ty _ => rfl
  | .tup xs => by
    show PyData.hasDict (.tuple (D.pys xs)) = false
    rw [PyData.hasDict]
    exact pys_nodict xs
  | .lst xs => by
    show PyData.hasDict (.list (D.pys xs)) = false
    rw [PyData.hasDict]
    exact pys_nodict xs
theorem pys_nodict : ∀ ds : List D, PyData.hasDictAll (D.pys ds) = false
  | [] => by rw [show D.pys [] = [] from rfl, PyData.hasDictAll]
  | d :: ds => by
    show PyData.hasDictAll (d.py :: D.pys ds) = false
    rw [PyData.hasDictAll, py_nodict d, pys_nodict ds]
    rfl
end
section
variable {X : Cx} {c : Ctx} {cs : CS}
def rShow (K : PySem.W.Frag) : List V → Hp → VK → Prop := fun vs H Q => ∃ (a : Addr) (d : PyData), vs = [.ref a] ∧ Dp K H (.ref a) d ∧ (d.hasDict = false ∧ d.showable = true ∧ d.depth ≤ 60 ∧ d.shown.length ≤ 16777216) ∧ Q (.str d.shown) H
theorem cr_show (hg : X.A.guards = some []) (hu : X.A.units + 70 < cLine) : CallR X (.builtin "repr") (rShow X.K) := by
  rintro pins s σ H vs us Q I rv ⟨a, d, rfl, dp, ⟨nd, sh, dep, len⟩, q⟩
  rw [Vals.ref1 rv]
  obtain ⟨as, rd⟩ := Dp.reads I d _ _ dp (show RelV (.ref a) (.ref a) from rfl)
  exact repr_of_reads' rd sh (fun z => by rw [nd] at z; cases z) hg (by omega) (fun _ _ e => e) (fun h' u tk keep => ⟨.str d.shown, H, I.kept (t' := tk) keep, ⟨u, rfl⟩, q⟩) len
theorem sE_repr (O : COk X c cs) {a : E} {x : Expr} {p pos : Pos} (hg : c.gl "repr" = true) (hn : nst x = true) (hr : c.rp = true) (ha : SndE X cs a x) : SndE X cs (.repr a) (.Call (.Name "repr" p) [x] [] pos) := by
  intro F env S σ H Q R L h
  refine pex (pe_callB (cr_show (O.gd hr) O.hu) (O.gl hg) (O.blt "repr" (by decide +kernel)) (by decide +kernel) (pa_cons pe_x pa_nil (star_cons hn)) (by decide +kernel) (by decide +kernel) (star_cons hn) rfl) ?_
  refine wpx_mono (ha F env S σ H _ R L h) fun v H1 ⟨d1, S1, R1, r1, k1, h1⟩ => ?_
  match d1, r1, h1 with
  | .tup xs, r1, ⟨⟨pu, sh, dep, len⟩, q⟩ =>
    have dp := rep_dp _ _ r1 pu
    cases r1 with
    | tup hs rl => exact ⟨_, _, rfl, dp, ⟨py_nodict _, sh, dep, len⟩, PD.of k1 (PD.same R1 (.str _) q)⟩
  | .non, _, h1 => exact h1.elim
  | .bl _, _, h1 => exact h1.elim
  | .int _, _, h1 => exact h1.elim
  | .str _, _, h1 => exact h1.elim
  | .lst _, _, h1 => exact h1.elim
  | .lsk _, _, h1 => exact h1.elim
  | .ref _, _, h1 => exact h1.elim
  | .ty _, _, h1 => exact h1.elim
end
end Z
set_option Elab.async false
set_option linter.all false
set_option maxRecDepth 100000
set_option maxHeartbeats 4000000
/-! Z797: what the trees say holds of the model: dict(xs), xs a list of pairs whose keys are tuples. -/
namespace Z
open PySem PySem.Spec PyProof.Rows L2
section
variable {X : Cx} {pins : List (Addr × Obj)} {σ : L2.St} {H : Hp} {s : Shared}
/-- one pair behind the other -/
def putsN (gs g0 : List (NK × Addr × V)) : List (NK × Addr × V) := gs.foldl (fun acc g => putN acc g.1 g.2.1 g.2.2) g0
theorem putsN_len : ∀ (gs g0 : List (NK × Addr × V)), (putsN gs g0).length ≤ g0.length + gs.length
  | [], g0 => Nat.le_refl _
  | g :: gs, g0 => by
    have h1 := putsN_len gs (putN g0 g.1 g.2.1 g.2.2)
    have h2 := putN_len (gs := g0) (k := g.1) (b := g.2.1) (v := g.2.2)
    show (putsN gs (putN g0 g.1 g.2.1 g.2.2)).length ≤ _
    rw [List.length_cons]
    omega
theorem px_puts : ∀ {gs : List (NK × Addr × V)} {xs : List (NK × Addr × Value)}, PX gs xs → ∀ {g0 : List (NK × Addr × V)} {x0 : List (NK × Addr × Value)}, PX g0 x0 → PX (putsN gs g0) (storedAllH x0 xs)
  | _, _, .nil, _, _, r0 => r0
  | _, _, .cons (a := p) (b := q) h t, _, _, r0 => by
    obtain ⟨k, b, v⟩ := p
    obtain ⟨k2, b2, u⟩ := q
    obtain ⟨rfl, rfl, rv⟩ := h
    exact px_puts t (px_put r0 k b rv)
abbrev PairT (K : PySem.W.Frag) (H : Hp) (ps : List Addr) (gs : List (NK × Addr × V)) : Prop := Paired (fun p (g : NK × Addr × V) => SqT K H p [.ref g.2.1, g.2.2]) ps gs
theorem pairs_seen (I : Inv X pins σ H s) : ∀ {ps : List Addr} {gs : List (NK × Addr × V)}, PairT X.K H ps gs → ∃ xs, PX gs xs ∧ Paired (fun p (x : NK × Addr × Value) => PairAt s.heap p (.ref x.2.1) x.2.2) ps xs
  | _, _, .nil => ⟨[], .nil, .nil⟩
  | _, _, .cons (b := g) h t => by
    obtain ⟨xs, r1, r2⟩ := pairs_seen I t
    obtain ⟨its, rv, ht, _⟩ := I.tuple h
    cases rv with
    | cons a1 a2 => cases a2 with
      | @cons v u _ _ a3 a4 =>
        cases a4
        cases a1
        exact ⟨(g.1, g.2.1, u) :: xs, .cons ⟨rfl, rfl, a3⟩ r1, .cons (.inl ht) r2⟩
theorem paired_ix {α β : Type} {R : α → β → Prop} {xs : List α} {ys : List β} (r : Paired R xs ys) : xs.length = ys.length ∧ ∀ (j : Nat) (y : β), ys[j]? = some y → ∃ x, xs[j]? = some x ∧ R x y := by
  induction r with
  | nil => exact ⟨rfl, fun j y e => by simp at e⟩
  | @cons a b as bs h t ih =>
    refine ⟨by rw [List.length_cons, List.length_cons, ih.1], fun j y e => ?_⟩
    cases j with
    | zero => cases (show some b = some y from e); exact ⟨a, rfl, h⟩
    | succ j => exact ih.2 j y e
def rDctN (K : PySem.W.Frag) : List V → Hp → VK → Prop := fun vs H Q => ∃ (a : Addr) (ps : List Addr) (gs : List (NK × Addr × V)), vs = [.ref a] ∧ SqL K H a (ps.map V.ref) ∧ PairT K H ps gs ∧ KeysN K H gs ∧
  ∀ p, H p = none → (∀ q, dnO p (putsN gs []) ≠ LamX.CodeO p q) → Q (.ref p) (upd H p (dnO p (putsN gs [])))
theorem cr_dctN (hc : X.calm = true) (hu : X.A.units + 70 < cLine) : CallR X (.type "dict") (rDctN X.K) := by
  rintro pins s σ H vs us Q I r ⟨a, ps, gs, rfl, hs, hp, kn, q⟩
  obtain ⟨its, rv, pl, hz⟩ := I.list hs
  rw [Vals.ref1 r]
  obtain rfl := refs_at rv
  obtain ⟨xs, rx, rp⟩ := pairs_seen I hp
  obtain ⟨len, at_⟩ := paired_ix rp
  have lx : gs.length = xs.length := Paired.length rx
  rw [List.length_map] at hz
  obtain ⟨o, n, ho, hcl, hdi, hda⟩ := pl
  have items : PairItems s.heap (ps.map Value.ref).toArray (fun j => ps.getD j 0) (xs.map fun x => (Value.ref x.2.1, x.2.2)) := by
    refine ⟨by rw [List.size_toArray, List.length_map, List.length_map, len], fun j k v e => ?_⟩
    rw [List.getElem?_map] at e
    obtain ⟨x, hx, e2⟩ := Option.map_eq_some_iff.mp e
    obtain ⟨p, hp, pa⟩ := at_ j x hx
    cases e2
    have ep : ps.getD j 0 = p := by rw [List.getD_eq_getElem?_getD, hp]; rfl
    simp only [ep]
    refine ⟨?_, pa⟩
    rw [List.getElem?_toArray, List.getElem?_map, hp]
    rfl
  have seen : ∀ x ∈ xs, nkOk x.1 = true ∧ NestedIs s.heap x.1 (.ref x.2.1) := fun x hx => by
    obtain ⟨g, hg, e1, e2, _⟩ := px_mem rx x hx
    obtain ⟨g1, g2⟩ := kn g hg
    rw [← e1, ← e2]
    exact ⟨g1, nk_is I _ _ _ g2 (show RelV (.ref g.2.1) (.ref g.2.1) from rfl)⟩
  refine call_dict_pairsH (knd := nestedKind X.prog X.w) (ps := xs) (PairArg.list a (ps.map Value.ref).toArray (fun j => ps.getD j 0) (xs.map fun x => (Value.ref x.2.1, x.2.2))) (I.ok.hd hc)
    (show X.A.in1.in1.units + 8 < cLine by rw [Around.in1_units, Around.in1_units]; omega) ⟨⟨o, n, ho, hcl, hdi, hda⟩, items⟩ ⟨by rw [List.length_map], fun i key v e => ?_⟩ (fun h' hk x hx => ?_) (by rw [List.length_map, ← len]; exact hz) fun h' tk d k => ?_
  · rw [PairRel, List.getElem?_map] at e
    obtain ⟨x, hx, e2⟩ := Option.map_eq_some_iff.mp e
    cases e2
    exact ⟨x.1, x.2.1, hx, rfl⟩
  · obtain ⟨x1, x2⟩ := seen x hx
    exact ⟨x2.at (fun b u vs n e _ => hk b u (Nat.ne_of_lt (Heap.lt_size e)) (by simp) e), (nkOk_pl x1).2⟩
  · have new : ObjOk X.prog X.w (upd H s.heap.objs.size (dnO s.heap.objs.size (putsN gs []))) h' s.heap.objs.size (dnO s.heap.objs.size (putsN gs [])) :=
      dn_mk (Nat.le_trans (putsN_len gs []) (by rw [List.length_nil, Nat.zero_add, lx, ← len]; exact hz)) (beq_eq_false_iff_ne.mpr (Ne.symm (Nat.ne_of_lt I.big))) (px_puts rx .nil) d
    exact ⟨.ref s.heap.objs.size, _, I.laid (t' := tk) (fun b u e => k b u (by simp) e) (Nat.le_refl _) new, rfl, q _ (I.hok.fresh (Nat.le_refl _)) (dn_nc new)⟩
end
section
variable {X : Cx} {c : Ctx} {cs : CS}
theorem nk_ref' {F : Addr → Prop} {S : Sto} {H : Hp} {v : V} {k : NK} (r : Rep X.K F S H v (nkD k)) (o : nkOk k = true) : ∃ b, v = .ref b := nk_ref (rep_nk _ _ r (nkOk_pl o).1) o
theorem pairN_in {d : D} {p : NK × D} (h : pairN d = some p) : d = .tup [nkD p.1, p.2] ∧ nkOk p.1 = true := by
  unfold pairN at h
  split at h
  · obtain ⟨kk, e, rfl⟩ := Option.map_eq_some_iff.mp h
    obtain ⟨rfl, o⟩ := keyT_in e
    exact ⟨rfl, o⟩
  · cases h
theorem pairsN_rep {F : Addr → Prop} {S : Sto} {H : Hp} : ∀ (xs : List D) {vs : List V} {kvs : List (NK × D)}, RepL X.K F S H vs xs → pairsN xs = some kvs → ∃ ps gs, vs = ps.map V.ref ∧ PairT X.K H ps gs ∧ RepN X.K F S H gs kvs := by
  intro xs
  induction xs with
  | nil =>
    intro vs kvs r e
    cases r
    cases (show some [] = some kvs from e)
    exact ⟨[], [], rfl, .nil, .nil⟩
  | cons d ds ih =>
    intro vs kvs r e
    cases r with
    | cons r rs =>
      obtain ⟨p, ep, e2⟩ := Option.bind_eq_some_iff.mp (show (pairN d).bind _ = some kvs from e)
      obtain ⟨rest, er, rfl⟩ := Option.map_eq_some_iff.mp e2
      obtain ⟨rfl, o⟩ := pairN_in ep
      obtain ⟨a, us, rfl, hs, rl⟩ := tup_in r
      obtain ⟨u, w, rfl, ru, rw'⟩ := two_in rl
      obtain ⟨b, rfl⟩ := nk_ref' ru o
      obtain ⟨ps, gs, rfl, pp, rg⟩ := ih rs er
      exact ⟨a :: ps, (p.1, b, w) :: gs, rfl, .cons hs pp, .cons ⟨⟨rfl, o⟩, ru, rw'⟩ rg⟩
theorem RepN.puts {F : Addr → Prop} {S : Sto} {H : Hp} : ∀ {gs : List (NK × Addr × V)} {kvs : List (NK × D)}, RepN X.K F S H gs kvs → ∀ {g0 : List (NK × Addr × V)} {k0 : List (NK × D)}, RepN X.K F S H g0 k0 → RepN X.K F S H (putsN gs g0) (kvs.foldl (fun acc p => gPut acc p.1 p.2) k0)
  | _, _, .nil, _, _, r0 => r0
  | _, _, .cons (a := p) (b := q) h t, _, _, r0 => by
    obtain ⟨k, b, v⟩ := p
    obtain ⟨k2, d⟩ := q
    obtain ⟨⟨rfl, o⟩, rb, rv⟩ := h
    exact RepN.puts t (RepN.put r0 o rb rv)
theorem sE_dctPN (O : COk X c cs) {a : E} {x : Expr} {p pos : Pos} (hg : c.gl "dict" = true) (hn : nst x = true) (ha : SndE X cs a x) : SndE X cs (.dctPN a) (.Call (.Name "dict" p) [x] [] pos) := by
  intro F env S σ H Q R L h
  refine pex (pe_callTy (cr_dctN O.calm O.hu) (O.gl hg) (O.blt "dict" (by decide +kernel)) (by decide +kernel) (pa_cons pe_x pa_nil (star_cons hn)) (by decide +kernel) (by decide +kernel) (star_cons hn) rfl) ?_
  refine wpx_mono (ha F env S σ H _ R L h) fun v H1 ⟨d1, S1, R1, r1, k1, h1⟩ => ?_
  obtain ⟨xs, e1, h2⟩ := wOpt_in h1
  obtain ⟨kvs, e2, q⟩ := wOpt_in h2
  obtain ⟨l, ys, rfl, hs, rl⟩ := lsr_rep R1 r1 e1
  obtain ⟨ps, gs, rfl, pp, rg⟩ := pairsN_rep _ rl e2
  refine ⟨l, ps, gs, rfl, hs, pp, rg.keys, fun b hb nc => ?_⟩
  have k0 : Keep X.K S1 H1 (supd S1 b (.dcn (gPuts kvs))) (upd H1 b (dnO b (putsN gs []))) := keepNewM hb
  exact ⟨.ref b, _, R1.putN hb k0 (o := .dcn (gPuts kvs)) ⟨_, upd_same, fun q => by rw [upd_same]; exact fun z => nc q (Option.some.inj z), RepN.map (fun _ _ z => k0 _ _ z) (RepN.puts rg .nil)⟩, .ref b, k1.trans k0, q b (R1.none hb)⟩
end
end Z
set_option Elab.async false
set_option linter.all false
set_option maxRecDepth 100000
set_option maxHeartbeats 4000000
/-! Z798: what the trees say holds of the model: joined texts, upper, dict(). -/
namespace Z
open PySem PySem.Spec PyProof.Rows L2
section
variable {X : Cx} {c : Ctx} {cs : CS}
theorem sE_join {s a : E} {x y : Expr} {ap cp : Pos} (hc : ncl x = true) (hn : nst y = true) (hl : (ap.endLine == cp.line) = true) (hs : SndE X cs s x) (ha : SndE X cs a y) : SndE X cs (.join s a) (.Call (.Attribute x "join" ap) [y] [] cp) := by
  intro F env S σ H Q R L h
  refine pex (pe_join pe_x pe_x (star_cons hn) (base_of hc) hl) ?_
  refine wpx_mono (hs F env S σ H _ R L h) fun v H1 ⟨d1, S1, R1, r1, k1, h1⟩ => ?_
  cases r1 with
  | str t =>
    refine ⟨⟨t, rfl⟩, ?_⟩
    refine wpx_mono (ha F env S1 σ H1 _ R1 (k1.env L) h1) fun w H2 ⟨d2, S2, R2, r2, k2, h2⟩ => ?_
    obtain ⟨ys, e1, h3⟩ := wOpt_in h2
    obtain ⟨ts, e2, le, q⟩ := wOpt_in h3
    obtain ⟨p, vs, rfl, hp, rl⟩ := seq_rep R2 r2 e1
    obtain rfl := rep_strs rl e2
    exact ⟨t, p, ts, rfl, rfl, hp, le, PD.of (k1.trans k2) (PD.same R2 (.str _) q)⟩
  | _ => exact h1.elim
theorem sE_upper {a : E} {x : Expr} {ap cp : Pos} (hc : ncl x = true) (hl : (ap.endLine == cp.line) = true) (ha : SndE X cs a x) : SndE X cs (.upper a) (.Call (.Attribute x "upper" ap) [] [] cp) := by
  intro F env S σ H Q R L h
  refine pex (pe_upper pe_x (base_of hc) hl) ?_
  refine wpx_mono (ha F env S σ H _ R L h) fun v H1 ⟨d1, S1, R1, r1, k1, h1⟩ => ?_
  cases r1 with
  | str t => exact ⟨⟨t, rfl⟩, t, rfl, rfl, h1.1, PD.of k1 (PD.same R1 (.str _) h1.2)⟩
  | _ => exact h1.elim
theorem cr_dict0 : CallR X (.type "dict") (fun xs H Q => xs = [] ∧ ∀ p, H p = none → (∀ q, dnO p [] ≠ LamX.CodeO p q) → Q (.ref p) (upd H p (dnO p []))) := by
  rintro pins s σ H xs us Q I r ⟨rfl, q⟩
  cases r
  have new : ObjOk X.prog X.w (upd H s.heap.objs.size (dnO s.heap.objs.size [])) (s.heap.push { cls := .type "dict", data := .dict #[] }) s.heap.objs.size (dnO s.heap.objs.size []) :=
    dn_mk (Nat.zero_le _) (beq_eq_false_iff_ne.mpr (Ne.symm (Nat.ne_of_lt I.big))) (xs := []) .nil (Heap.DictOfH.new s.heap)
  refine FK.call_dict0 ?_
  exact ⟨.ref s.heap.objs.size, _, I.laid (t' := s.toks) (fun _ _ q => Heap.get?_push_of_some _ q) (Nat.le_refl _) new, rfl, q _ (I.hok.fresh (Nat.le_refl _)) (dn_nc new)⟩
/-- dict() told as a dict of plain keys -/
theorem cr_dict0K : CallR X (.type "dict") (fun xs H Q => xs = [] ∧ ∀ p, H p = none → Q (.ref p) (upd H p (.dK []))) := by
  rintro pins s σ H xs us Q I r ⟨rfl, q⟩
  cases r
  have made := dk_empty (P := X.prog) (w := X.w) (H := upd H s.heap.objs.size (.dK [])) s.heap I.big
  have put := I.laid (t' := s.toks) (fun _ _ g => Heap.get?_push_of_some _ g) (Nat.le_refl _) made
  have told := q _ (I.hok.fresh (Nat.le_refl _))
  refine FK.call_dict0 ?_
  exact ⟨.ref s.heap.objs.size, _, put, rfl, told⟩
theorem sE_dict0K (O : COk X c cs) {p pos : Pos} (hg : c.gl "dict" = true) : SndE X cs .dict0 (.Call (.Name "dict" p) [] [] pos) := by
  intro F env S σ H Q R L h
  refine pex (pe_callTy0 cr_dict0K (O.gl hg) (O.blt "dict" (by decide +kernel)) (by decide +kernel)) ?_
  refine ⟨rfl, fun p hp => ?_⟩
  have k0 : Keep X.K S H (supd S p (.dct [])) (upd H p (.dK [])) := keepNewM hp
  exact ⟨.ref p, _, R.putN hp k0 ⟨[], upd_same, .nil⟩, .ref p, k0, h p (R.none hp)⟩
theorem sE_dict0C (O : COk X c cs) {p pos : Pos} (hg : c.gl "dict" = true) : SndE X cs .dict0N (.Call (.Name "dict" p) [] [] pos) := by
  intro F env S σ H Q R L h
  refine pex (pe_callTy0 cr_dict0 (O.gl hg) (O.blt "dict" (by decide +kernel)) (by decide +kernel)) ?_
  refine ⟨rfl, fun p hp nc => ?_⟩
  have k0 : Keep X.K S H (supd S p (.dcn [])) (upd H p (dnO p [])) := keepNewM hp
  exact ⟨.ref p, _, R.putN hp k0 (o := .dcn []) ⟨[], upd_same, fun q => by rw [upd_same]; exact fun z => nc q (Option.some.inj z), .nil⟩, .ref p, k0, h p (R.none hp)⟩
end
end Z
set_option Elab.async false
set_option linter.all false
set_option maxRecDepth 100000
set_option maxHeartbeats 4000000
/-! list(reversed(a list)): walked step by step by the library's walker. -/
namespace Z
open PySem PySem.Spec PyProof.Rows L2
namespace DL
section
variable {prog : Program} {w : World} {A : Around} {s : Shared} {R : Result → Shared → Prop} {E : Value → Shared → Prop}
/-- nothing but the new list and the walker differs -/
def OnlyTwo (h h' : Heap) (S it : Addr) : Prop := ∀ b o, b ≠ S → b ≠ it → h.get? b = some o → h'.get? b = some o
/-- what walks down a list -/
structure Down (h : Heap) (it l : Addr) (items : Array Value) : Prop where
  st : h.IsRevIter it l ((items.size : Int) - 1)
  ls : h.IsList l items
  ne : l ≠ it
theorem Down.kept {h h' : Heap} {it l : Addr} {items : Array Value} (d : Down h it l items) (k : ∀ b o, (b = it ∨ b = l) → h.get? b = some o → h'.get? b = some o) : Down h' it l items :=
  ⟨d.st.at fun o e => k _ _ (.inl rfl) e, (by obtain ⟨o, e, r⟩ := d.ls; exact ⟨o, k _ _ (.inr rfl) e, r⟩), d.ne⟩
theorem hint_rev {it l : Addr} {items : Array Value} {Q : Bool → Shared → Prop} (d : Down s.heap it l items) (q : Q false s) : wpAny (model prog w) A (Builtin.List.listLengthHint (.ref it)) Q E s := by
  have t := d.st.typeIs
  have f1 := RT.nolen_lri
  have f2 := RT.hint_lri
  have f3 : splitId "list_reverseiterator.__length_hint__" = some ("list_reverseiterator", "__length_hint__") := by decide +kernel
  have f4 : isSubtype (.type "list_reverseiterator") (.type "list_reverseiterator") = pure true := by rw [isSubtype_type]; kernel_rfl
  generalize hid : ("list_reverseiterator.__length_hint__" : String) = i0 at f2 f3
  unfold Builtin.List.listLengthHint
  wp_walk
  rw [f3]
  subst hid
  wp_walk
  assumption
theorem init_rev {it l S : Addr} {items : Array Value} {P : PySem.Fin → Shared → Prop} {F : Value → Shared → Prop} (goes : ∀ k t, k.quiet = true → codeAny (model prog w) A k R t → P (.again k) t) (calm : A.handled = none) (d : Down s.heap it l items) (many : items.size ≤ sizeLine) (nS : S ≠ it ∧ S ≠ l) (hS : s.heap.get? S = some { cls := .type "list", data := .seq #[] })
    (q : ∀ h' tk acc n, OnlyTwo s.heap h' S it → h'.get? S = some { cls := .type "list", dict := none, data := .seq acc n, slots := #[] } → ItemsOf (fun i v => items[items.size - 1 - i]? = some v) acc items.size → R (.ok (.ret .none)) { s with heap := h', toks := tk }) :
    wpAny (model prog w) A.in1 (Builtin.«list.__init__» ⟨[.ref S, .ref it], []⟩) P F s := by
  have t := d.st.typeIs
  have same : (Builtin.List.listSameRef (.ref S) (.ref it) || Value.type "list_reverseiterator" == Value.type "list" || Value.type "list_reverseiterator" == Value.type "tuple") = false := by simp [Builtin.List.listSameRef, nS.1]
  have others : ∀ b o, b ≠ S → s.heap.get? b = some o → (s.heap.update S (Obj.mapSeq fun _ => (#[] : Array Value))).get? b = some o := fun b o n e => by rw [← e]; exact Heap.get?_update_other _ _ (fun z => n z.symm)
  have d2 : Down (s.heap.update S (Obj.mapSeq fun _ => (#[] : Array Value))) it l items := d.kept fun b o hb e => others b o (hb.elim (fun z y => nS.1 (y.symm.trans z)) fun z y => nS.2 (y.symm.trans z)) e
  have t2 : ({ s with heap := s.heap.update S (Obj.mapSeq fun _ => (#[] : Array Value)) } : Shared).TypeIs (.ref it) "list_reverseiterator" := d2.st.typeIs
  unfold Builtin.«list.__init__» Builtin.List.listItems Builtin.List.listUpdate Builtin.List.listExtendWith
  wp_walk using wpAny_pyIter_revIter d2.st, hint_rev d2
  -- the loop takes them one by one
  have walk := (Walks.listRev (prog := prog) (w := w) (A := A.in1) calm it l d.ne items).toS
  have made := Heap.get?_update_self (Obj.mapSeq fun _ => (#[] : Array Value)) hS rfl
  have apart : S ∉ [it, l] := fun z => by
    rcases List.mem_cons.mp z with z | z
    · exact nS.1 z
    · exact nS.2 (List.mem_singleton.mp z)
  apply goes
  · exact plainId_quiet PySem.F.plain_extend_loop _
  · apply codeAny_extend_loopS walk many S apart .none items.size 0 (acc := #[])
    · rfl
    · exact Nat.zero_le _
    · exact ⟨Nat.zero_le _, by rw [show ((items.size : Int) - 1 - ((0 : Nat) : Int)) = (items.size : Int) - 1 by omega]; exact d2.st, d2.ls⟩
    · exact made
    · exact ItemsOf.nil _
    · intro s2 acc n moved there all
      rw [Moved.eq_with moved]
      refine q _ _ acc n (fun b o nb ni e => ?_) there all
      refine moved.heap b o (fun z => ?_) (others b o nb e)
      rcases List.mem_cons.mp z with z | z
      · exact nb z
      · exact ni (List.mem_singleton.mp z)
/-- list(..) of it -/
theorem call_down {it l : Addr} {items : Array Value} {Q : Value → Shared → Prop} (calm : A.handled = none) (d : Down s.heap it l items) (many : items.size ≤ sizeLine)
    (q : ∀ h' tk acc n, (∀ b o, b ≠ it → s.heap.get? b = some o → h'.get? b = some o) → h'.get? s.heap.objs.size = some { cls := .type "list", dict := none, data := .seq acc n, slots := #[] } → ItemsOf (fun i v => items[items.size - 1 - i]? = some v) acc items.size → Q (.ref s.heap.objs.size) { s with heap := h', toks := tk }) :
    wpAny (model prog w) A (PySem.call (.type "list") [.ref it]) Q E s := by
  have old : ∀ b o, s.heap.get? b = some o → b ≠ s.heap.objs.size := fun b o e => Nat.ne_of_lt (Heap.lt_size e)
  have stays : ∀ b o, s.heap.get? b = some o → (s.heap.push { cls := .type "list", data := .seq #[] }).get? b = some o := fun b o e => Heap.get?_push_of_some _ e
  have far : s.heap.objs.size ≠ it ∧ s.heap.objs.size ≠ l := by
    obtain ⟨o1, e1, _⟩ := d.st
    obtain ⟨o2, e2, _⟩ := d.ls
    exact ⟨(old _ _ e1).symm, (old _ _ e2).symm⟩
  have d2 : Down (s.heap.push { cls := .type "list", data := .seq #[] }) it l items := d.kept fun b o _ e => stays b o e
  have fresh : (s.heap.push { cls := .type "list", data := .seq #[] }).get? s.heap.objs.size = some { cls := .type "list", data := .seq #[] } := Heap.get?_push_size _ rfl
  apply callType_codes (Q₁ := fun obj s₁ => obj = .ref s.heap.objs.size ∧ s₁ = { s with heap := s.heap.push { cls := .type "list", data := .seq #[] } }) F.called_list (F.typeCall_list_1 _) F.entry_list_init (code_list_new _ ⟨rfl, rfl⟩)
  rintro obj s1 ⟨rfl, rfl⟩
  refine ⟨⟨_, fresh, rfl⟩, F.args_list_init_2 _ _, ?_⟩
  apply init_rev (A := A.in1) (fun k t a b => ⟨a, b⟩) calm d2 many far fresh
  intro h' tk acc n two there all
  exact ⟨rfl, q h' tk acc n (fun b o nb e => two b o (old b o e) nb (stays b o e)) there all⟩
end
section
variable {X : Cx} {c : Ctx} {cs : CS} {pins : List (Addr × Obj)} {σ : L2.St} {H : Hp} {s : Shared} {E : Value → Shared → Prop}
/-- a walker down a tracked list, itself not tracked -/
structure Tracks (X : Cx) (pins : List (Addr × Obj)) (σ : L2.St) (H : Hp) (s : Shared) (it l : Addr) (xs : List V) (its : List Value) : Prop where
  inv : Inv X pins σ H s
  down : Down s.heap it l its.toArray
  loose : FpOk X pins H it
  vals : Vals xs its
  many : xs.length ≤ sizeLine
theorem rev_begun {l : Addr} {xs : List V} {Q : Value → Shared → Prop} (I : Inv X pins σ H s) (hl : SqL X.K H l xs) (q : ∀ s2 it its, Tracks X pins σ H s2 it l xs its → Q (.ref it) s2) : wpAny (model X.prog X.w) X.A (PySem.call (.type "reversed") [.ref l]) Q E s := by
  obtain ⟨its, vals, there, many⟩ := I.list hl
  have seen := there.isList
  apply call_reversed_list seen
  apply q
  refine ⟨I.kept (t' := s.toks) fun b o e => Heap.get?_push_of_some _ e, ⟨⟨_, Heap.get?_push_size _ rfl, rfl, rfl⟩, seen.push _, ?_⟩, I.fpOk (Nat.le_refl _) (I.hok.fresh (Nat.le_refl _)), vals, many⟩
  obtain ⟨o, e, _⟩ := seen
  exact Nat.ne_of_lt (Heap.lt_size e)
theorem rev_ended {it l : Addr} {xs : List V} {its : List Value} {Q : Value → Shared → Prop} (calm : X.A.handled = none) (T : Tracks X pins σ H s it l xs its)
    (q : ∀ s2 p, H p = none → Inv X pins σ (upd H p (.lst xs.reverse)) s2 → Q (.ref p) s2) : wpAny (model X.prog X.w) X.A (PySem.call (.type "list") [.ref it]) Q E s := by
  have size : its.toArray.size = xs.length := by rw [List.size_toArray, ← T.vals.length]
  apply call_down calm T.down (by rw [size]; exact T.many)
  intro h' tk acc n others there all
  have free := T.inv.hok.fresh (Nat.le_refl s.heap.objs.size)
  apply q _ _ free
  apply T.inv.turnedNew (t' := tk) (ch := [it]) _ _ (Nat.le_refl _)
  · exact ⟨by rw [List.length_reverse]; exact T.many, acc.toList, n, RT.vals_rev T.vals all, there⟩
  · intro b o nb e
    exact others b o (fun z => nb (by rw [z]; exact List.mem_cons_self ..)) e
  · intro b hb
    rw [List.mem_singleton.mp hb]
    exact T.loose
/-- of a list's place: its items, and what a new list of them, the last first, brings -/
def DownOf (K : PySem.W.Frag) (Q : VK) (l : Addr) (H1 : Hp) : Prop := ∃ xs : List V, SqL K H1 l xs ∧ ∀ p, H1 p = none → Q (.ref p) (upd H1 p (.lst xs.reverse))
def tDownL (K : PySem.W.Frag) (te : TE) : TE := fun σ H Q => te σ H fun v H1 => ∃ l, v = .ref l ∧ DownOf K Q l H1
theorem pe_downL {e : Expr} {te : TE} {p p2 pos pos2 : Pos} (calm : X.calm = true) (g1 : Gl X "list") (m1 : X.mg "list" = none) (g2 : Gl X "reversed") (m2 : X.mg "reversed" = none) (he : PE X e te)
    (st : starEach [e] X.env = (false, eval e X.env) :: starEach [] X.env) :
    PE X (.Call (.Name "list" p) [.Call (.Name "reversed" p2) [e] [] pos2] [] pos) (tDownL X.K te) := by
  constructor
  intro pins s σ H Q I h
  have st2 : starEach [.Call (.Name "reversed" p2) [e] [] pos2] X.env = (false, eval (.Call (.Name "reversed" p2) [e] [] pos2) X.env) :: starEach [] X.env := rfl
  refine Call_ ?_ rfl
  apply ld_blt I g1 m1 (show bootBuiltins "list" = some (.type "list") by decide +kernel)
  apply PyProof.Rows.callWith_type1 (he := st2) (hplain := rfl)
  apply args_cons (he := st2)
  refine Call_ ?_ rfl
  apply ld_blt I g2 m2 PyProof.Rows.boot_reversed
  apply PyProof.Rows.callWith_type1 (he := st) (hplain := rfl)
  apply args_cons (he := st)
  apply thn (he.run pins s σ H _ I h)
  rintro u s1 ⟨v, H1, J, rv, l, rfl, xs, seen, q⟩
  obtain rfl : u = Value.ref l := rv
  apply args_nil
  apply rev_begun J seen
  intro s2 it its T
  apply args_nil
  apply rev_ended (T.inv.ok.hd calm) T
  intro s3 p free made
  exact ⟨.ref p, _, made, rfl, q p free⟩
end
end DL
open DL
section
variable {X : Cx} {c : Ctx} {cs : CS}
theorem sE_rvl (O : COk X c cs) {m : Bool} {a : E} {x : Expr} {p p2 pos pos2 : Pos} (h1 : c.gl "list" = true) (h2 : c.gl "reversed" = true) (hn : nst x = true) (ha : SndE X cs a x) : SndE X cs (.rvl m a) (.Call (.Name "list" p) [.Call (.Name "reversed" p2) [x] [] pos2] [] pos) := by
  intro F env S σ H Q R L h
  refine pex (pe_downL O.calm (O.gl h1) (O.blt "list" (by decide +kernel)) (O.gl h2) (O.blt "reversed" (by decide +kernel)) pe_x (star_cons hn)) ?_
  refine wpx_mono (ha F env S σ H _ R L h) fun v H1 ⟨d, S1, R1, r1, k1, w⟩ => ?_
  obtain ⟨ds, e1, q⟩ := wOpt_in w
  obtain ⟨l, xs, rfl, seen, rl⟩ := lsr_rep R1 r1 e1
  exact ⟨l, rfl, xs, seen, fun p hp => PD.of k1 (PD.lst R1 hp rl.reverse q)⟩
end
end Z
set_option Elab.async false
set_option linter.all false
set_option maxRecDepth 100000
set_option maxHeartbeats 4000000
/-! Z7995: what the trees say holds of the model: list(d), len(d) of a dict with nested keys. -/
namespace Z
open PySem PySem.Spec PyProof.Rows L2
section
variable {X : Cx} {c : Ctx} {cs : CS}
/-- the addresses of a dict's keys, in order -/
abbrev keyRefs (gs : List (NK × Addr × V)) : List V := gs.map fun g => V.ref g.2.1
theorem keys_reps {K : PySem.W.Frag} {F : Addr → Prop} {S : Sto} {H : Hp} {gs : List (NK × Addr × V)} {kvs : List (NK × D)} (r : RepN K F S H gs kvs) : RepL K F S H (keyRefs gs) (kvs.map fun p => nkD p.1) := by
  induction r with
  | nil => exact .nil
  | cons h t ih => exact .cons (by have e := h.1.1; have r := h.2.1; rw [e] at r; exact r) ih
/-- a dict as values, seen at its address -/
theorem ent_at {pins : List (Addr × Obj)} {σ : L2.St} {H : Hp} {s : Shared} {d : Addr} {gs : List (NK × Addr × V)} (I : Inv X pins σ H s) (h : Rd H d (dnO d gs)) : DEnt s.heap d (gs.map fun p => (V.ref p.2.1, p.2.2)) := ent_dn (h.ok I.hok)
theorem cr_listN (calm : X.calm = true) : CallR X (.type "list") fun xs H Q => ∃ d gs, xs = [V.ref d] ∧ Rd H d (dnO d gs) ∧ ∀ p, H p = none → Q (.ref p) (upd H p (.lst (keyRefs gs))) := by
  rintro pins s σ H xs us Q I r ⟨d, gs, rfl, hd, q⟩
  obtain ⟨u, rfl, rx⟩ := r.one
  obtain rfl : u = Value.ref d := rx
  obtain ⟨no, few, es, ep, raw, size, ent⟩ := ent_at I hd
  have size2 : es.size = gs.length := by rw [size, List.length_map]
  apply PySem.W.kdl_call (KdlSrc.rawDict no) (I.ok.hd calm) raw (by rw [size]; exact few)
  intro h' tk acc n keep there all
  have len : acc.toList.length = gs.length := by rw [Array.length_toList, all.1, size2]
  have vals : Vals (keyRefs gs) acc.toList := vals_of_at (by rw [List.length_map, len]) fun j x v hx hv => by
    obtain ⟨hi, rfl⟩ := all.2 j v (by rw [← Array.getElem?_toList]; exact hv)
    obtain ⟨p, e1, e2, _⟩ := ent j hi
    rw [List.getElem?_map] at e1 hx
    obtain ⟨g, e3, e4⟩ := Option.map_eq_some_iff.mp e1
    rw [e3] at hx
    cases hx
    rw [← e4] at e2
    exact e2
  have room : (keyRefs gs).length ≤ sizeLine := by rw [List.length_map, ← size2, size]; exact few
  exact ⟨.ref s.heap.objs.size, _, I.laid (t' := tk) (o := .lst (keyRefs gs)) keep (Nat.le_refl _) (show ObjOk X.prog X.w _ _ _ (.lst (keyRefs gs)) from ⟨room, acc.toList, n, vals, there⟩), rfl, q _ (I.hok.fresh (Nat.le_refl _))⟩
theorem cr_lenN : CallR X (.builtin "len") fun xs H Q => ∃ d gs, xs = [V.ref d] ∧ Rd H d (dnO d gs) ∧ KeysN X.K H gs ∧ Q (.int (gs.length : Nat)) H := by
  rintro pins s σ H xs us Q I r ⟨d, gs, rfl, hd, keys, q⟩
  obtain ⟨u, rfl, rx⟩ := r.one
  obtain rfl : u = Value.ref d := rx
  obtain ⟨⟨few, no⟩, xs, px, dict⟩ := dn_at (hd.ok I.hok) fun p hp => ⟨(keys p hp).1, nk_is I _ _ _ (keys p hp).2 rfl⟩
  have len : gs.length = xs.length := Paired.length px
  have SZ := sz
  apply call_len_dictH no dict (by rw [← len]; omega)
  rw [← len]
  exact ⟨.int (gs.length : Nat), H, I.kept (t' := s.toks + 1 + 1) fun _ _ e => e, ⟨_, rfl⟩, q⟩
theorem sE_dkeysN (O : COk X c cs) {m : Bool} {d : E} {x : Expr} {p pos : Pos} (hg : c.gl "list" = true) (hn : nst x = true) (hd : SndE X cs d x) : SndE X cs (.dkeysN m d) (.Call (.Name "list" p) [x] [] pos) := by
  intro F env S σ H Q R L h
  refine pex (pe_callTy (cr_listN O.calm) (O.gl hg) (O.blt "list" (by decide +kernel)) (by decide +kernel) (pa_cons pe_x pa_nil (star_cons hn)) (by decide +kernel) (by decide +kernel) (star_cons hn) rfl) ?_
  refine wpx_mono (hd F env S σ H _ R L h) fun v H1 ⟨d1, S1, R1, r1, k1, h1⟩ => ?_
  obtain ⟨a, kvs, rfl, e1, q⟩ := wDcn_in h1
  cases r1
  obtain ⟨gs, g, rk⟩ := dcn_rd R1 e1
  exact ⟨a, gs, rfl, g, fun b hb => PD.of k1 (PD.lst R1 hb (keys_reps rk) q)⟩
theorem sE_lenN (O : COk X c cs) {d : E} {x : Expr} {p pos : Pos} (hg : c.gl "len" = true) (hn : nst x = true) (hd : SndE X cs d x) : SndE X cs (.lenD true d) (.Call (.Name "len" p) [x] [] pos) := by
  intro F env S σ H Q R L h
  refine pex (pe_callB cr_lenN (O.gl hg) (O.blt "len" (by decide +kernel)) (by decide +kernel) (pa_cons pe_x pa_nil (star_cons hn)) (by decide +kernel) (by decide +kernel) (star_cons hn) rfl) ?_
  refine wpx_mono (hd F env S σ H _ R L h) fun v H1 ⟨d1, S1, R1, r1, k1, h1⟩ => ?_
  obtain ⟨a, kvs, rfl, e1, q⟩ := wDcn_in h1
  cases r1
  obtain ⟨gs, g, rk⟩ := dcn_rd R1 e1
  refine ⟨a, gs, rfl, g, rk.keys, PD.of k1 (PD.same R1 (.int _) ?_)⟩
  rw [Paired.length rk]
  exact q
end
end Z
set_option Elab.async false
set_option linter.all false
set_option maxRecDepth 100000
set_option maxHeartbeats 4000000
/-! Z7997: what the tree says holds of the model: sorted(d) of a dict with nested keys. -/
namespace Z
open PySem PySem.Spec PyProof.Rows L2
section
variable {prog : Program} {w : World} {A : Around} {E : Value → Shared → Prop} {s : Shared} {T : String} {r d : Addr} {n : Nat} {P : Nat → Value → Prop} {OK : Heap → Prop} {Q : Value → Shared → Prop}
theorem call_sortedN (K : PySem.W.KdlSrc prog w T r d n P OK) (calm : A.handled = none) (ok : OK s.heap) (few : n ≤ sizeLine)
    (q : ∀ (h' : Heap) tk (acc : Array Value), (∀ b o, s.heap.get? b = some o → h'.get? b = some o) → PySem.ItemsOf P acc n → wpAny (model prog w) A.in1 (PySem.call (.builtin "list.sort") [.ref h'.objs.size]) (fun _ s' => Q (.ref h'.objs.size) s') E { s with heap := h'.push { cls := .type "list", data := .seq acc }, toks := tk }) :
    wpAny (model prog w) A (PySem.call (.builtin "sorted") [.ref r]) Q E s := by
  apply PySem.Calls.call_function_entry kind_sorted plain_sorted entry_sorted (args_sorted1 _)
  unfold Builtin.«sorted»
  have taken : ∀ R : List Value → Shared → Prop, _ → wpAny (model prog w) A.in1 (collect (.ref r)) R E s := fun R => PySem.W.kdu_collect (A := A.in1) (R := R) K calm ok few
  generalize hm : collect (.ref r) = m at taken
  rw [show ((⟨[.ref r], []⟩ : Args).pos.headD .none) = .ref r from rfl, hm]
  wp_walk
  apply taken
  intro h' tk acc keep all
  have few2 : acc.toList.length ≤ sizeLine := by rw [Array.length_toList, all.1]; exact few
  have here := q h' tk acc keep all
  apply wpAny_bind
  apply wpAny_newList _ few2
  apply wpAny_bind
  apply wpAny_holding
  apply wpAny_mono here
  · intro v s2 done
    wp_walk
    exact ⟨_, rfl, done⟩
  · exact fun _ _ z => z
end
section
variable {X : Cx} {c : Ctx} {cs : CS}
theorem each_apart {h h2 : Heap} {D : Addr} (free : h.get? D = none) (k : ∀ b o, h.get? b = some o → h2.get? b = some o) {us : List Value} {bs : List (V × PyData)} (e : PySem.W.EachIs (fun u (b : V × PyData) => ∃ as, Reads h u b.2 as) us bs) : PySem.W.EachIs (fun u (b : V × PyData) => ∃ as, Reads h2 u b.2 as ∧ D ∉ as) us bs :=
  e.mono fun u b ⟨as, r⟩ => ⟨as, PyProof.Rows.Reads.keeps k r, fun z => by
    obtain ⟨o, ho⟩ := PyProof.On.reads_mem_get r D z
    rw [free] at ho
    cases ho⟩
theorem cr_sortN (calm : X.calm = true) (hu : X.A.units + 70 < cLine) : CallR X (.builtin "sorted") fun xs H Q => ∃ d gs es, xs = [V.ref d] ∧ Rd H d (dnO d gs) ∧ DpAll X.K H (keyRefs gs) es ∧ (PySem.W.AllAlike es ∧ (∀ d, d ∈ es → ∃ x r, d = PyData.tuple (x :: r)) ∧ PyData.depthAll es ≤ 60) ∧
    ∀ (zs : List (V × PyData)) (p : Addr), zs.Perm ((keyRefs gs).zip es) → zs.Pairwise (fun b c => PySem.W.dataLt c.2 b.2 = false) → H p = none → Q (.ref p) (upd H p (.lst (zs.map Prod.fst))) := by
  rintro pins s σ H xs us Q I r ⟨d, gs, ks, rfl, hd, dps, ⟨al, tu, dp⟩, q⟩
  obtain ⟨u, rfl, rx⟩ := r.one
  obtain rfl : u = Value.ref d := rx
  obtain ⟨no, few, es, ep, raw, size, ent⟩ := ent_at I hd
  have size2 : es.size = gs.length := by rw [size, List.length_map]
  have many : gs.length ≤ sizeLine := by rw [← size2, size]; exact few
  apply call_sortedN (KdlSrc.rawDict no) (I.ok.hd calm) raw (by rw [size2]; exact many)
  intro h' tk acc keep all
  have len : acc.toList.length = gs.length := by rw [Array.length_toList, all.1, size2]
  have vals : Vals (keyRefs gs) acc.toList := vals_of_at (by rw [List.length_map, len]) fun j x v hx hv => by
    obtain ⟨hi, rfl⟩ := all.2 j v (by rw [← Array.getElem?_toList]; exact hv)
    obtain ⟨p, e1, e2, _⟩ := ent j hi
    rw [List.getElem?_map] at e1 hx
    obtain ⟨g, e3, e4⟩ := Option.map_eq_some_iff.mp e1
    rw [e3] at hx
    cases hx
    rw [← e4] at e2
    exact e2
  have J : Inv X pins σ H { s with heap := h', toks := tk } := I.kept keep
  obtain ⟨as, reads⟩ := Dp.readsAll J _ _ _ dps vals
  have le := dpAll_len dps
  have em := zip_snd le
  have lz : ((keyRefs gs).zip ks).length = gs.length := by rw [List.length_zip, ← le, Nat.min_self, List.length_map]
  have free : h'.get? h'.objs.size = none := by
    cases e : h'.get? h'.objs.size with
    | none => rfl
    | some o => exact absurd (Heap.lt_size e) (Nat.lt_irrefl _)
  have there : (h'.push { cls := .type "list", data := .seq acc }).get? h'.objs.size = some (seqObj "list" acc.toList.toArray 0) := Heap.get?_push_size _ rfl
  apply PySem.W.list_sort_data (bs := (keyRefs gs).zip ks) (enc := Prod.snd) (R := fun u b => RelV b.1 u) there (each_rel le vals) (each_apart free (fun b o e => Heap.get?_push_of_some _ e) (each_reads le reads))
  · rw [em]; exact al
  · rw [em]; exact .inl tu
  · rw [lz]; exact many
  · intro b hb
    have h1 : b.2 ∈ ks := by rw [← em]; exact List.mem_map.mpr ⟨b, hb, rfl⟩
    have h2 := depth_mem h1
    show X.A.units + 1 + 1 + b.2.depth < cLine
    omega
  intro out hlen eo
  obtain ⟨e2, last⟩ := sortedHeap_at (out := List.toArray out) (vs := acc.toList) there
  have pm : (((keyRefs gs).zip ks).mergeSort (PySem.W.dataLe false Prod.snd)).Perm ((keyRefs gs).zip ks) := List.mergeSort_perm _ _
  have pw : (((keyRefs gs).zip ks).mergeSort (PySem.W.dataLe false Prod.snd)).Pairwise (fun b c => PySem.W.dataLt c.2 b.2 = false) :=
    (PySem.W.sort_pairwise (PySem.W.sortLe_total _ false _) ((keyRefs gs).zip ks)).imp fun {b c} h => by
      have h2 : (!PySem.W.dataLt c.2 b.2) = true := h
      cases z : PySem.W.dataLt c.2 b.2 with
      | false => rfl
      | true => rw [z] at h2; cases h2
  have vb := each_back (fun _ _ h => h) eo
  have room : ((((keyRefs gs).zip ks).mergeSort (PySem.W.dataLe false Prod.snd)).map Prod.fst).length ≤ sizeLine := by rw [List.length_map, pm.length_eq, lz]; exact many
  have bare : H h'.objs.size = none := J.hok.fresh (Nat.le_refl _)
  exact ⟨.ref _, upd H h'.objs.size (.lst _), J.laid (t' := tk) (fun b o e => by
    have lo : b < h'.objs.size := Heap.lt_size e
    rw [sortedHeap_old (Nat.ne_of_lt lo) (Nat.lt_of_lt_of_le lo (by rw [size_push']; exact Nat.le_succ _))]
    exact Heap.get?_push_of_some _ e) (Nat.le_refl _) ⟨room, out, e2, vb, last⟩, rfl, q _ _ pm pw bare⟩
theorem sE_srtN (O : COk X c cs) {m : Bool} {d : E} {x : Expr} {p pos : Pos} (hg : c.gl "sorted" = true) (hn : nst x = true) (hd : SndE X cs d x) : SndE X cs (.srtN m d) (.Call (.Name "sorted" p) [x] [] pos) := by
  intro F env S σ H Q R L h
  refine pex (pe_callB (cr_sortN O.calm (Nat.lt_of_le_of_lt (by omega) O.hu)) (O.gl hg) (O.blt "sorted" (by decide +kernel)) (by decide +kernel) (pa_cons pe_x pa_nil (star_cons hn)) (by decide +kernel) (by decide +kernel) (star_cons hn) rfl) ?_
  refine wpx_mono (hd F env S σ H _ R L h) fun v H1 ⟨d1, S1, R1, r1, k1, h1⟩ => ?_
  obtain ⟨a, kvs, rfl, e1, q⟩ := wDcn_in h1
  cases r1
  obtain ⟨gs, g, rk⟩ := dcn_rd R1 e1
  obtain ⟨⟨⟨pu, al⟩, ⟨tu, dp⟩, _⟩, q⟩ := q
  have rl := keys_reps rk
  obtain ⟨ps, e3, e4, hp⟩ := pairs_zip rl
  refine ⟨a, gs, D.pys (kvs.map fun p : NK × D => nkD p.1), rfl, g, rep_dps _ _ rl pu, ⟨al, tu, dp⟩, fun zs b h1 h2 hb => ?_⟩
  rw [← e3, ← e4, perm_pairs] at h1
  obtain ⟨n, h3, h4⟩ := perm_map_inv (fun p : V × D => (p.1, p.2.py)) h1
  subst h4
  rw [List.map_map, show (Prod.fst ∘ fun p : V × D => (p.1, p.2.py)) = Prod.fst from rfl]
  refine PD.of k1 (PD.lst R1 hb (rep_of_pairs fun p hp' => hp p (h3.mem_iff.mp hp')) (q (n.map Prod.snd) (by rw [← e4]; exact h3.map _) ?_))
  unfold OrdD
  rw [List.pairwise_map] at h2 ⊢
  exact h2
end
end Z
set_option Elab.async false
set_option linter.all false
set_option maxRecDepth 100000
set_option maxHeartbeats 4000000
/-! text in a tuple of things of any kind; a list of such == a list of texts -/
namespace Z
open PySem PySem.Spec PyProof.Rows L2
namespace TX
section
variable {prog : Program} {w : World} {A : Around} {s : Shared} {E : Value → Shared → Prop}
/-- a dict is asked whether it is a text: it declines -/
theorem dict_asked {l : Addr} {b : Str} {u : Tok} : Meets (Builtin.«dict.__eq__» ⟨[.ref l, .str b u], []⟩) (fun _ R s => s.TypeIs (.ref l) "dict" ∧ R (.ok (.ret .notImplemented)) s) := by
  have f1 : isSubtype (.type "str") (.type "dict") = pure false := by rw [isSubtype_type]; kernel_rfl
  refine .of_wp fun prog w A R s ⟨t, r⟩ => ?_
  wp_walk
  exact ⟨_, rfl, r⟩
/-- a text is asked whether it is a dict: it declines -/
theorem text_asked {l : Addr} {b : Str} {u : Tok} : Meets (Builtin.«str.__eq__» ⟨[.str b u, .ref l], []⟩) (fun _ R s => (∃ o, s.heap.get? l = some o ∧ o.cls = .type "dict" ∧ ∃ es ep, o.data = .dict es ep) ∧ R (.ok (.ret .notImplemented)) s) := by
  have f1 : isSubtype (.type "dict") (.type "str") = pure false := by rw [isSubtype_type]; kernel_rfl
  refine .of_wp fun prog w A R s ⟨⟨o, ho, hc, es, ep, hd⟩, r⟩ => ?_
  have t : s.TypeIs (.ref l) "dict" := ⟨o, ho, hc⟩
  wp_walk using wpAny_load ho
  rw [hd]
  wp_walk
  exact ⟨_, rfl, r⟩
/-- a dict is no text -/
theorem dict_text {l : Addr} {b : Str} {u : Tok} (ho : ∃ o, s.heap.get? l = some o ∧ o.cls = .type "dict" ∧ ∃ es ep, o.data = .dict es ep) (hu : A.units < cLine) : SeqAt.EqAt A s (.ref l) (.str b u) false := by
  intro prog w E Q q
  obtain ⟨o, h1, h2, _⟩ := id ho
  have t : s.TypeIs (.ref l) "dict" := ⟨o, h1, h2⟩
  have n1 : isSubtype (.type "str") (.type "dict") = pure false := by rw [isSubtype_type]; kernel_rfl
  have left : ∀ P : Value → Shared → Prop, P .notImplemented s → wpAny (model prog w) A (PySem.call (.builtin "dict.__eq__") [.ref l, .str b u]) P E s := fun P p => call_meets F.slot_dict_eq t F.entry_dict_eq (F.args_dict_eq_2 _ _) dict_asked ⟨t, p⟩
  have right : ∀ P : Value → Shared → Prop, P .notImplemented s → wpAny (model prog w) A (PySem.call (.builtin "str.__eq__") [.str b u, .ref l]) P E s := fun P p => call_meets F.slot_str_eq_refl (typeIs_str s b u) F.entry_str_eq (F.args_str_eq_2 _ _) text_asked ⟨ho, p⟩
  have apart : ∀ P : Bool → Shared → Prop, P false s → wpAny (model prog w) A (isSame (.ref l) (.str b u)) P E s := fun P p => by
    unfold isSame
    wp_walk
    exact p
  have both : ∀ P : Value → Shared → Prop, P (.bool false) s → wpAny (model prog w) A (richCompare .Eq (.ref l) (.str b u)) P E s := fun P p => SeqAt.rc_eq_decline_or t (typeIs_str s b u) rfl n1 F.slot_dict_eq F.slot_str_eq_refl left right apart (.inr hu) p
  unfold eqBool
  wp_walk using both
  exact q
/-- the texts that a thing is -/
def isT (b : Str) : V → Bool
  | .str t => t == b
  | _ => false
def isTV (b : Str) : Value → Bool
  | .str t _ => t == b
  | _ => false
/-- a thing whose kind is known -/
inductive Kin (K : PySem.W.Frag) (H : Hp) : V → Prop
  | non : Kin K H .non
  | bl (b : Bool) : Kin K H (.bl b)
  | int (i : Int) : Kin K H (.int i)
  | str (t : Str) : Kin K H (.str t)
  | tup {a : Addr} {xs : List V} : SqT K H a xs → Kin K H (.ref a)
  | lst {a : Addr} {xs : List V} : SqL K H a xs → Kin K H (.ref a)
  | dct {a : Addr} {kvs : List (Key × V)} : H a = some (.dK kvs) → Kin K H (.ref a)
theorem isT_V {b : Str} {z : V} {v : Value} (r : RelV z v) : isTV b v = isT b z := by
  cases z <;> first | (cases r; rfl) | (obtain ⟨t, rfl⟩ := r; rfl)
end
section
variable {X : Cx} {pins : List (Addr × Obj)} {σ : L2.St} {H : Hp} {s : Shared}
theorem kin_text (I : Inv X pins σ H s) {A : Around} {b : Str} {u : Tok} {z : V} {v : Value} (k : Kin X.K H z) (r : RelV z v) (hu : A.units < cLine) : SeqAt.EqAt A s v (.str b u) (isT b z) := by
  cases k with
  | non => cases r; exact SeqAt.EqAt.none_str b u
  | bl c => cases r; exact SeqAt.EqAt.bool_str c b u
  | int i => obtain ⟨t, rfl⟩ := r; exact SeqAt.EqAt.int_str i _ b u
  | str t => obtain ⟨t2, rfl⟩ := r; exact SeqAt.EqAt.str_str t _ b u
  | tup h =>
    cases r
    obtain ⟨its, _, ⟨o, e1, e2, n, e3⟩, _⟩ := I.tuple h
    exact SeqAt.EqAt.tuple_str b u ⟨o, e1, e2, n, e3⟩ hu
  | lst h =>
    cases r
    obtain ⟨its, _, ⟨o, n, e1, e2, _, e3⟩, _⟩ := I.list h
    exact SeqAt.EqAt.list_str b u ⟨o, e1, e2, n, e3⟩ hu
  | dct h =>
    cases r
    obtain ⟨_, _, vs, _, p⟩ := (show ObjOk X.prog X.w H s.heap _ (.dK _) from I.hok _ _ h)
    obtain ⟨o, es, ep, e1, e2, e3, _⟩ := p
    exact dict_text ⟨o, e1, e2.1, es, ep, e3⟩ hu
theorem vals_mem {zs : List V} {its : List Value} (r : Vals zs its) : ∀ y ∈ its, ∃ z ∈ zs, RelV z y := by
  induction r with
  | nil => intro y h; cases h
  | @cons a b as bs h _ ih =>
    intro y hy
    rcases List.mem_cons.mp hy with rfl | hy
    · exact ⟨a, List.mem_cons_self .., h⟩
    · obtain ⟨z, h1, h2⟩ := ih y hy
      exact ⟨z, List.mem_cons_of_mem _ h1, h2⟩
theorem vals_any {b : Str} {zs : List V} {its : List Value} (r : Vals zs its) : its.any (isTV b) = zs.any (isT b) := by
  induction r with
  | nil => rfl
  | cons h _ ih => rw [List.any_cons, List.any_cons, ih, isT_V h]
end
/-- text in tuple -/
theorem op_inM {X : Cx} (hu : X.A.units + 65 < cLine) : OpR X (compareOp .In) (fun x y H Q => ∃ b a zs, x = .str b ∧ y = .ref a ∧ SqT X.K H a zs ∧ (∀ z ∈ zs, Kin X.K H z) ∧ Q (.bl (zs.any (isT b))) H) := by
  intro pins s σ H x y v u Q I rx ry ⟨b, a, zs, e1, e2, hs, kn, q⟩
  subst e1 e2
  obtain ⟨t, rfl⟩ := rx
  cases ry
  obtain ⟨its, rv, ⟨o, ho, hc, n, hd⟩, _⟩ := I.tuple hs
  refine SeqAt.in_tupleAt (items := its.toArray) (isTV b) ⟨o, ho, hc, n, hd⟩ (fun y hy => ?_) ?_
  · obtain ⟨z, hz, rz⟩ := vals_mem rv y (by simpa using hy)
    rw [isT_V rz]
    exact kin_text I (kn z hz) rz (by show X.A.units + 1 < cLine; omega)
  · rw [List.any_toArray, vals_any rv]
    exact ⟨.bl _, H, I, rfl, q⟩
/-- the texts of a list, one by one -/
def eqTx : List V → List Str → Bool
  | [], [] => true
  | z :: zs, b :: bs => isT b z && eqTx zs bs
  | _, _ => false
def eAt (its : List Value) (bs : List Str) (j : Nat) : Bool := match its[j]?, bs[j]? with
  | some v, some b => isTV b v
  | _, _ => false
theorem eq_range {zs : List V} {its : List Value} (rv : Vals zs its) : ∀ {bs : List Str}, zs.length = bs.length → eqTx zs bs = (List.range its.length).all (eAt its bs) := by
  induction rv with
  | nil =>
    intro bs l
    cases bs with
    | nil => rfl
    | cons b bs => cases l
  | @cons a v as vs h _ ih =>
    intro bs l
    cases bs with
    | nil => cases l
    | cons b bs =>
      rw [List.length_cons, List.range_succ_eq_map, List.all_cons, List.all_map, show eqTx (a :: as) (b :: bs) = (isT b a && eqTx as bs) from rfl, ih (Nat.succ.inj l), ← isT_V h]
      rfl
theorem eq_len : ∀ {zs : List V} {bs : List Str}, zs.length ≠ bs.length → eqTx zs bs = false
  | [], [], h => (h rfl).elim
  | [], _ :: _, _ => rfl
  | _ :: _, [], _ => rfl
  | z :: zs, b :: bs, h => by
    show (isT b z && eqTx zs bs) = false
    rw [eq_len (zs := zs) (bs := bs) (fun e => h (by rw [List.length_cons, List.length_cons, e])), Bool.and_false]
theorem texts_at : ∀ {bs : List Str} {its : List Value}, Vals (bs.map .str) its → ∀ (j : Nat) v, its[j]? = some v → ∃ b t, bs[j]? = some b ∧ v = .str b t
  | [], _, r, j, v, e => by cases r; cases e
  | b :: bs, _, r, j, v, e => by
    cases r with
    | cons h t =>
      cases j with
      | zero =>
        obtain ⟨k, rfl⟩ := h
        injection e with e
        exact ⟨b, k, rfl, e.symm⟩
      | succ j => exact texts_at t j v e
theorem vals_len {zs : List V} {its : List Value} (r : Vals zs its) : its.length = zs.length := by
  induction r <;> simp_all
theorem vals_at {zs : List V} {its : List Value} (r : Vals zs its) : ∀ (j : Nat) v, its[j]? = some v → ∃ z ∈ zs, RelV z v := fun j v e => vals_mem r v (List.mem_of_getElem? e)
/-- list == list of texts -/
theorem op_eqM {X : Cx} (hu : X.A.units + 65 < cLine) : OpR X (compareOp .Eq) (fun x y H Q => ∃ a zs c bs, x = .ref a ∧ y = .ref c ∧ SqL X.K H a zs ∧ SqL X.K H c (bs.map .str) ∧ (∀ z ∈ zs, Kin X.K H z) ∧ Q (.bl (eqTx zs bs)) H) := by
  intro pins s σ H x y v u Q I rx ry ⟨a, zs, c, bs, e1, e2, hs, hb, kn, q⟩
  subst e1 e2
  cases rx
  cases ry
  obtain ⟨its, rv, ⟨o, n, ho, hc, _, hd⟩, _⟩ := I.list hs
  obtain ⟨its2, rv2, ⟨o2, n2, ho2, hc2, _, hd2⟩, _⟩ := I.list hb
  have l2 := vals_len rv2
  rw [List.length_map] at l2
  have l1 := vals_len rv
  have hl : s.heap.IsList a its.toArray := ⟨o, ho, hc, n, hd⟩
  have hr : s.heap.IsList c its2.toArray := ⟨o2, ho2, hc2, n2, hd2⟩
  by_cases sz : zs.length = bs.length
  · refine SeqAt.eq_listAt (e := eAt its bs) hl hr (by rw [List.size_toArray, List.size_toArray]; omega) (by omega) (fun j h1 h2 => ?_) ?_
    · have g1 : its[j]? = some (its.toArray[j]) := by simp
      have g2 : its2[j]? = some (its2.toArray[j]) := by simp
      obtain ⟨z, hz, rz⟩ := vals_at rv j _ g1
      obtain ⟨b, t, eb, ev⟩ := texts_at rv2 j _ g2
      rw [ev, show eAt its bs j = isT b z by unfold eAt; rw [g1, eb]; exact isT_V rz]
      exact kin_text I (kn z hz) rz (by show X.A.units + 1 < cLine; omega)
    · rw [List.size_toArray, ← eq_range rv sz]
      exact ⟨.bl _, H, I, rfl, q⟩
  · refine SeqAt.eq_list_lengthsAt hl hr (by rw [List.size_toArray, List.size_toArray]; simp; omega) (by omega) ?_
    rw [eq_len sz] at q
    exact ⟨.bl _, H, I, rfl, q⟩
end TX
section
variable {X : Cx} {F : Addr → Prop} {S : Sto} {H : Hp} {Q : QK}
theorem kin_of {v : V} {d : D} (R : RelS X.K F S H) (r : Rep X.K F S H v d) (k : kn1 S d) : TX.Kin X.K H v := by
  cases r with
  | non => exact .non
  | bl b => exact .bl b
  | int i => exact .int i
  | str x => exact .str x
  | fn _ => exact k.elim
  | ref a =>
    obtain ⟨kvs, e⟩ := k
    obtain ⟨gs, g, _⟩ := R.at_ a _ e
    exact .dct g
  | tup hs _ => exact .tup hs.sq
  | lst h _ _ _ => exact .lst (SqL.of h)
  | lsk _ _ => exact k.elim
theorem isT_D {b : Str} {v : V} {d : D} (r : Rep X.K F S H v d) : TX.isT b v = isS b d := by cases r <;> rfl
theorem any_D {b : Str} : ∀ {vs : List V} {ds : List D}, RepL X.K F S H vs ds → vs.any (TX.isT b) = ds.any (isS b)
  | _, _, .nil => rfl
  | _, _, .cons r t => by rw [List.any_cons, List.any_cons, isT_D r, any_D t]
theorem eq_D : ∀ {vs : List V} {ds : List D} {bs : List Str}, RepL X.K F S H vs ds → TX.eqTx vs bs = eqSt ds bs
  | _, _, [], .nil => rfl
  | _, _, _ :: _, .nil => rfl
  | _, _, [], .cons r t => rfl
  | _, _, b :: bs, .cons r t => by
    show (TX.isT b _ && TX.eqTx _ bs) = (isS b _ && eqSt _ bs)
    rw [isT_D r, eq_D t]
theorem kin_all (R : RelS X.K F S H) : ∀ {vs : List V} {ds : List D}, RepL X.K F S H vs ds → (∀ d ∈ ds, kn1 S d) → ∀ v ∈ vs, TX.Kin X.K H v
  | _, _, .nil, _, v, hv => by cases hv
  | _, _, .cons r t, k, v, hv => by
    rcases List.mem_cons.mp hv with rfl | hv
    · exact kin_of R r (k _ (List.mem_cons_self ..))
    · exact kin_all R t (fun d hd => k d (List.mem_cons_of_mem _ hd)) v hv
theorem inM_s {v u : V} {d e : D} (hu : X.A.units + 65 < cLine) (R : RelS X.K F S H) (rx : Rep X.K F S H v d) (ry : Rep X.K F S H u e) (h : wInM d e S Q) : opx X (compareOp .In) v u H (PD X.K F S H Q) := by
  unfold wInM at h
  split at h
  · cases rx
    cases ry with
    | tup hs rl => exact opr (TX.op_inM hu) ⟨_, _, _, rfl, rfl, hs.sq, kin_all R rl h.1, PD.same R (.bl _) (by rw [any_D rl]; exact h.2)⟩
  · exact h.elim
theorem eqM_s {v u : V} {d e : D} (hu : X.A.units + 65 < cLine) (R : RelS X.K F S H) (rx : Rep X.K F S H v d) (ry : Rep X.K F S H u e) (h : wEqM d e S Q) : opx X (compareOp .Eq) v u H (PD X.K F S H Q) := by
  unfold wEqM at h
  split at h
  · obtain ⟨bs, e1, k, q⟩ := wOpt_in h
    cases rx with
    | lst ha _ _ ra =>
      cases ry with
      | lst hb _ _ rb =>
        have eb := rep_strs rb e1
        subst eb
        exact opr (TX.op_eqM hu) ⟨_, _, _, bs, rfl, rfl, SqL.of ha, SqL.of hb, kin_all R ra k, PD.same R (.bl _) (by rw [eq_D ra]; exact q)⟩
  · exact h.elim
end
section
variable {X : Cx} {cs : CS} {c : Ctx}
theorem sE_inM (O : COk X c cs) {a b : E} {x y : Expr} {pos : Pos} (hm : nset y = true) (ha : SndE X cs a x) (hb : SndE X cs b y) : SndE X cs (.inM a b) (.Compare x [.In] [y] pos) := by
  intro F env S σ H Q R L h
  refine pex (pe_cmpR op_x pe_x pe_x (mark_of hm)) ?_
  refine wpx_mono (ha F env S σ H _ R L h) fun v H1 ⟨d, S1, R1, r1, k1, h1⟩ => ?_
  refine wpx_mono (hb F env S1 σ H1 _ R1 (k1.env L) h1) fun u H2 ⟨e, S2, R2, r2, k2, h2⟩ => ?_
  exact opx_mono (inM_s (by have := O.hu; omega) R2 (k2 _ _ r1) r2 h2) fun w H3 q => q.of (k1.trans k2)
theorem sE_eqM (O : COk X c cs) {a b : E} {x y : Expr} {pos : Pos} (hm : nset y = true) (ha : SndE X cs a x) (hb : SndE X cs b y) : SndE X cs (.eqM a b) (.Compare x [.Eq] [y] pos) := by
  intro F env S σ H Q R L h
  refine pex (pe_cmpR op_x pe_x pe_x (mark_of hm)) ?_
  refine wpx_mono (ha F env S σ H _ R L h) fun v H1 ⟨d, S1, R1, r1, k1, h1⟩ => ?_
  refine wpx_mono (hb F env S1 σ H1 _ R1 (k1.env L) h1) fun u H2 ⟨e, S2, R2, r2, k2, h2⟩ => ?_
  exact opx_mono (eqM_s (by have := O.hu; omega) R2 (k2 _ _ r1) r2 h2) fun w H3 q => q.of (k1.trans k2)
theorem sT_inM (O : COk X c cs) {a b : E} {x y : Expr} {pos : Pos} (hm : nset y = true) (ha : SndE X cs a x) (hb : SndE X cs b y) : SndT X cs (.inM a b) (.Compare x [.In] [y] pos) := by
  intro F env S σ H Q R L h
  refine ptx (pt_cmpR op_x pe_x pe_x (mark_of hm)) ?_
  refine wpx_mono (ha F env S σ H _ R L h) fun v H1 ⟨d, S1, R1, r1, k1, h1⟩ => ?_
  refine wpx_mono (hb F env S1 σ H1 _ R1 (k1.env L) h1) fun u H2 ⟨e, S2, R2, r2, k2, h2⟩ => ?_
  refine opx_mono (inM_s (by have := O.hu; omega) R2 (k2 _ _ r1) r2 h2) fun w H3 ⟨f, S3, R3, r3, k3, h3⟩ => ?_
  obtain ⟨b, rfl, q⟩ := wB_in h3
  cases r3
  exact ⟨b, rfl, S3, R3, (k1.trans k2).trans k3, q⟩
end
end Z
set_option Elab.async false
set_option linter.all false
set_option maxRecDepth 100000
set_option maxHeartbeats 4000000
/-! Z7999: what the trees say holds of the model: texts cut, read as numbers, looked at sign by sign. -/
namespace Z
open PySem PySem.Spec PyProof.Rows L2
section
variable {X : Cx} {c : Ctx} {cs : CS}
theorem rep_texts {F : Addr → Prop} {S : Sto} {H : Hp} : ∀ ts : List Str, RepL X.K F S H (ts.map V.str) (ts.map D.str)
  | [] => .nil
  | t :: ts => .cons (.str t) (rep_texts ts)
theorem sE_splt {m : Bool} {a b : E} {x y : Expr} {ap cp : Pos} (hc : ncl x = true) (hn : nst y = true) (hl : (ap.endLine == cp.line) = true) (ha : SndE X cs a x) (hb : SndE X cs b y) : SndE X cs (.splt m a b) (.Call (.Attribute x "split" ap) [y] [] cp) := by
  intro F env S σ H Q R L h
  refine pex (pe_split pe_x pe_x (star_cons hn) (base_of hc) hl) ?_
  refine wpx_mono (ha F env S σ H _ R L h) fun v H1 ⟨d1, S1, R1, r1, k1, h1⟩ => ?_
  cases r1 with
  | str t =>
    refine ⟨⟨t, rfl⟩, ?_⟩
    refine wpx_mono (hb F env S1 σ H1 _ R1 (k1.env L) h1) fun w H2 ⟨d2, S2, R2, r2, k2, h2⟩ => ?_
    cases r2 with
    | str u =>
      obtain ⟨⟨u0, tl⟩, q⟩ := h2
      exact ⟨t, u, rfl, rfl, beq_eq_false_iff_ne.mpr u0, tl, fun p hp => PD.of (k1.trans k2) (PD.lst R2 hp (rep_texts _) q)⟩
    | _ => exact h2.elim
  | _ => exact h1.elim
theorem sE_intT (O : COk X c cs) {a : E} {x : Expr} {p pos : Pos} (hg : c.gl "int" = true) (hn : nst x = true) (ha : SndE X cs a x) : SndE X cs (.intT a) (.Call (.Name "int" p) [x] [] pos) := by
  intro F env S σ H Q R L h
  refine pex (pe_callTy call_int_str (O.gl hg) (O.blt "int" (by decide +kernel)) (by decide +kernel) (pa_cons pe_x pa_nil (star_cons hn)) (he := star_cons hn)) ?_
  refine wpx_mono (ha F env S σ H _ R L h) fun v H1 ⟨d1, S1, R1, r1, k1, h1⟩ => ?_
  cases r1 with
  | str t =>
    obtain ⟨n, e, tl, q⟩ := wOpt_in h1
    exact ⟨t, n, rfl, e, tl, PD.of k1 (PD.same R1 (.int _) q)⟩
  | _ => exact h1.elim
theorem sE_lenT (O : COk X c cs) {a : E} {x : Expr} {p pos : Pos} (hg : c.gl "len" = true) (hn : nst x = true) (ha : SndE X cs a x) : SndE X cs (.lenT a) (.Call (.Name "len" p) [x] [] pos) := by
  intro F env S σ H Q R L h
  refine pex (pe_callB call_len_str (O.gl hg) (O.blt "len" (by decide +kernel)) (by decide +kernel) (pa_cons pe_x pa_nil (star_cons hn)) (he := star_cons hn)) ?_
  refine wpx_mono (ha F env S σ H _ R L h) fun v H1 ⟨d1, S1, R1, r1, k1, h1⟩ => ?_
  cases r1 with
  | str t => exact ⟨t, rfl, h1.1, PD.of k1 (PD.same R1 (.int _) h1.2)⟩
  | _ => exact h1.elim
theorem sE_ixT {a : E} {k : Nat} {x : Expr} {n : Nat} {p2 pos : Pos} (ha : SndE X cs a x) : SndE X cs (.ixT a k) (.Subscript x (.Constant (.int (k : Int)) n p2) pos) := by
  intro F env S σ H Q R L h
  refine pex (pe_ix ix_str pe_x pe_int (fun _ _ => rfl)) ?_
  refine wpx_mono (ha F env S σ H _ R L h) fun v H1 ⟨d1, S1, R1, r1, k1, h1⟩ => ?_
  cases r1 with
  | str t =>
    obtain ⟨s, e, tl, q⟩ := wOpt_in h1
    exact ⟨t, k, s, rfl, rfl, tl, atI_nat e, PD.of k1 (PD.same R1 (.str _) q)⟩
  | _ => exact h1.elim
theorem sE_sgn {n : Bool} {a b : E} {x y : Expr} {o : CmpOp} {pos : Pos} (ho : o = if n then .NotIn else .In) (hm : nset y = true) (ha : SndE X cs a x) (hb : SndE X cs b y) : SndE X cs (.sgn n a b) (.Compare x [o] [y] pos) := by
  intro F env S σ H Q R L h
  refine pex (pe_cmpR op_x pe_x pe_x (mark_of hm)) ?_
  refine wpx_mono (ha F env S σ H _ R L h) fun v H1 ⟨d1, S1, R1, r1, k1, h1⟩ => ?_
  cases r1 with
  | str t =>
    refine wpx_mono (hb F env S1 σ H1 _ R1 (k1.env L) h1) fun w H2 ⟨d2, S2, R2, r2, k2, h2⟩ => ?_
    cases r2 with
    | str z =>
      obtain ⟨k, rfl, q⟩ := h2
      subst ho
      cases n with
      | true => exact opr op_notIn_sign ⟨k, z, rfl, rfl, PD.of (k1.trans k2) (PD.same R2 (.bl _) q)⟩
      | false => exact opr op_in_sign ⟨k, z, rfl, rfl, PD.of (k1.trans k2) (PD.same R2 (.bl _) q)⟩
    | _ => exact h2.elim
  | _ => exact h1.elim
theorem sI_chars {a : E} {x tg : Expr} (ha : SndE X cs a x) : SndI X cs (.chars a) tg x := by
  intro F env S σ H R RS L h
  refine pix (pi_str pe_x) (wpx_mono (ha F env S σ H _ RS L h) fun v H1 ⟨d, S1, R1, r1, k1, h1⟩ => ?_)
  cases r1 with
  | str z =>
    obtain ⟨zl, q⟩ := h1
    have sl : (sgnsD z).length = z.cps.size := by unfold sgnsD; rw [List.length_map, Array.length_toList]
    refine ⟨z, rfl, _, _, S1, R1, k1, ⟨by rw [sl]; exact zl, fun F' hF S2 H2 R2 k2 st => ⟨fun i d ed => ?_, by rw [sl]; exact Nat.le_refl _⟩⟩, q⟩
    unfold sgnsD at ed
    rw [List.getElem?_map, Option.map_eq_some_iff] at ed
    obtain ⟨s, es, rfl⟩ := ed
    rw [Array.getElem?_toList] at es
    refine ⟨(Array.getElem?_eq_some_iff.mp es).1, fun y H3 ⟨e1, s2, e2, e3⟩ => ?_⟩
    subst e1 e3
    rw [es] at e2
    cases e2
    exact ⟨R2, Keep.refl, .str _⟩
  | _ => exact h1.elim
end
end Z
set_option Elab.async false
set_option linter.all false
set_option maxRecDepth 100000
set_option maxHeartbeats 4000000
/-! Z79995: what the trees say holds of the model: tables of the module, a def that a name holds, a text never or once. -/
namespace Z
open PySem PySem.Spec PyProof.Rows L2
section
variable {X : Cx} {c : Ctx} {cs : CS}
theorem sE_tab (O : COk X c cs) {x : Str} {kvs : List (Str × D)} {k : E} {y : Expr} {p pos : Pos} (hx : c.tabs.lookup x = some kvs) (hg : c.gl x = true) (hd : dbg x = false) (hk : SndE X cs k y) (hs : nsl y = true) : SndE X cs (.tab x kvs k) (.Subscript (.Name x p) y pos) := by
  intro F env S σ H Q R L h
  obtain ⟨a, es, n, hm, kd, _, vals⟩ := O.tabs x kvs hx
  refine pex (pe_ix ix_kdict (pe_glob (v := .ref a) (O.gl hg) hm rfl (dbg1 hd)) pe_x (plain_ix hs)) ?_
  refine wpx_mono (hk F env S σ H _ R L h) fun v H1 ⟨d1, S1, R1, r1, k1, h1⟩ => ?_
  cases r1 with
  | str z =>
    obtain ⟨d, e, q⟩ := wOpt_in h1
    obtain ⟨v, kv, rv⟩ := vals z d e
    exact ⟨a, z, v, rfl, rfl, kv, PD.of k1 (PD.same R1 (rv F S1 H1) q)⟩
  | _ => exact h1.elim
theorem sE_inTab (O : COk X c cs) {x : Str} {kvs : List (Str × D)} {k : E} {y : Expr} {p pos : Pos} (hx : c.tabs.lookup x = some kvs) (hg : c.gl x = true) (hd : dbg x = false) (hm : nset (.Name x p) = true) (hk : SndE X cs k y) : SndE X cs (.inTab x kvs k) (.Compare y [.In] [.Name x p] pos) := by
  intro F env S σ H Q R L h
  obtain ⟨a, es, n, hmg, kd, keys, _⟩ := O.tabs x kvs hx
  refine pex (pe_cmpR (op_in_kd kd) pe_x (pe_glob (v := .ref a) (O.gl hg) hmg rfl (dbg1 hd)) (mark_of hm)) ?_
  refine wpx_mono (hk F env S σ H _ R L h) fun v H1 ⟨d1, S1, R1, r1, k1, h1⟩ => ?_
  cases r1 with
  | str z =>
    obtain ⟨r, e1, e2⟩ := keys z
    refine ⟨z, r, rfl, rfl, e1, PD.of k1 (PD.same R1 (.bl _) ?_)⟩
    rw [e2]
    exact h1
  | _ => exact h1.elim
/-- n(..), where n holds such a def -/
theorem pe_atV {i : Nat} {f : Addr} {fd : FuncData} {ps : List Str} {sp : Sp} {x : Str} {p pos : Pos} {e : Expr} {es : List Expr} {t : TA} (F : FnAt X.prog X.w X.K X.mg X.base X.A f fd ps sp) (hb : Binds X.K fd ps []) (hN : X.N[i]? = some x) (hv : Vis X.env.scope x) (hk : PySem.W.keepIn X.K (.ref f) = true) (ha : PA X (e :: es) t)
   (hd : (x == ("__debug__" : Str)) = false) (hd2 : (x == ("__classdict__" : Str)) = false) (h1 : starEach (e :: es) X.env = (false, eval e X.env) :: starEach es X.env) (h2 : (backTo pos (starEach es X.env)).any (·.1) = false) : PE X (.Call (.Name x p) (e :: es) [] pos) (tCallL i f sp [] E0 t) := by
  constructor
  intro pins s σ H Q I ⟨hs, h⟩
  apply wpAny_Call_Name_kw
  apply thn ((pe_var (pos := p) hN hv hd hd2).run pins s σ H (fun v H1 => v = .ref f ∧ H1 = H) I ⟨.ref f, hs, rfl, rfl⟩)
  rintro u s1 ⟨v, H1, I1, r1, rfl, rfl⟩
  cases r1
  apply PySem.W.callWith_K (h₀ := X.base) I1.ok.mod.kin hk _ h1 h2
  apply thn (ha.run pos pins s1 σ _ _ I1 h)
  rintro us s2 ⟨vs, H2, I2, rv, q⟩
  rw [List.append_nil] at q
  exact ⟨I2.kIn, cr_at F hb pins s2 σ H2 vs us Q I2 rv q⟩
theorem sE_callV (O : COk X c cs) {i : Nat} {fs : List (Str × Nat)} {as : List E} {x : Str} {e : Expr} {es : List Expr} {p pos : Pos} (hf : (fs.all fun q => decide (c.fns.lookup q.1 = some q.2)) = true) (hN : c.N[i]? = some x) (hv : c.vis x = true) (hd : dbg x = false) (hns : nsts (e :: es) = true) (ha : SndA X cs as (e :: es)) :
    SndE X cs (.callV i fs as) (.Call (.Name x p) (e :: es) [] pos) := by
  intro F env S σ H Q R L h
  have h : wFnV (env[i]?) fs fun f => wEs cs EX0 as env S fun ds S1 => cs f ds S1 Q EX0 := h
  unfold wFnV at h
  split at h
  · rename_i n en
    obtain ⟨f, ef, h⟩ := wOpt_in h
    obtain ⟨v, e1, r⟩ := L.at_ i _ en
    cases r with
    | @fn _ fa hc =>
      have hfn : c.fns.lookup n = some f := of_decide_eq_true (List.all_eq_true.mp hf (n, f) (PySem.mem_of_lookup ef))
      obtain ⟨fb, fd, ps, G, hm, hk, hb⟩ := O.fns n f hfn
      have : fa = fb := by
        have := (O.mgk n fa hc).symm.trans hm
        cases this
        rfl
      subst this
      have h2 : (nst e && nsts es) = true := hns
      rw [Bool.and_eq_true] at h2
      exact pex (pe_atV (i := i) G hb (by rw [O.N]; exact hN) (O.vis hv) hk pa_x (dbg1 hd) (dbg2 hd) (star_cons h2.1) (star_any h2.2)) ⟨e1, wpa_mono (ha F env S σ H _ R L h) fun vs H1 q => call_fin q.1⟩
  · exact h.elim
/-- a text times 0, times 1 -/
theorem op_fewS : OpR X (binaryOp .Mult) (fun x y H Q => ∃ (z : Str) (k : Int), x = .str z ∧ y = .int k ∧ ((k = 0 ∧ Q (.str ⟨#[]⟩) H) ∨ (k = 1 ∧ Q (.str z) H))) := by
  rintro pins s σ H _ _ _ _ Q I rx ry ⟨z, k, rfl, rfl, h⟩
  obtain ⟨t, rfl⟩ := rx
  obtain ⟨t', rfl⟩ := ry
  rcases h with ⟨rfl, q⟩ | ⟨rfl, q⟩
  · exact PySem.P.mul_str_none (by decide) (by decide) ⟨.str ⟨#[]⟩, H, I.tok _, ⟨_, rfl⟩, q⟩
  · refine PySem.P.mul_str (by decide) (fun _ y => ?_) (fun _ y => ?_) ?_
    · exact absurd (show ((1 : Int) == 1 || z.length == 0) = true from rfl) (by rw [y]; exact Bool.false_ne_true)
    · exact absurd (show ((1 : Int) == 1 || z.length == 0) = true from rfl) (by rw [y]; exact Bool.false_ne_true)
    · rw [if_neg (by decide), if_pos (show ((1 : Int) == 1 || z.length == 0) = true from rfl)]
      exact ⟨.str z, H, I, ⟨_, rfl⟩, q⟩
theorem sE_few {a b : E} {x y : Expr} {pos : Pos} (ha : SndE X cs a x) (hb : SndE X cs b y) : SndE X cs (.few a b) (.BinOp x .Mult y pos) := by
  intro F env S σ H Q R L h
  refine pex (pe_op op_fewS pe_x pe_x) ?_
  refine wpx_mono (ha F env S σ H _ R L h) fun v H1 ⟨d1, S1, R1, r1, k1, h1⟩ => ?_
  cases r1 with
  | str t =>
    refine wpx_mono (hb F env S1 σ H1 _ R1 (k1.env L) h1) fun w H2 ⟨d2, S2, R2, r2, k2, h2⟩ => ?_
    cases r2 with
    | int i =>
      refine ⟨t, i, rfl, rfl, ?_⟩
      rcases h2 with ⟨e, q⟩ | ⟨e, q⟩
      · exact .inl ⟨e, PD.of (k1.trans k2) (PD.same R2 (.str _) q)⟩
      · exact .inr ⟨e, PD.of (k1.trans k2) (PD.same R2 (.str _) q)⟩
    | _ => exact h2.elim
  | _ => exact h1.elim
end
end Z
set_option Elab.async false
set_option linter.all false
set_option maxRecDepth 100000
set_option maxHeartbeats 4000000
/-! Z79997: calls that an exception may come of, raise, try with its clause. -/
namespace Z
open PySem PySem.Spec PyProof.Rows L2

section
variable {X : Cx} {c : Ctx} {cs : CS}
/-- what an exception of a call must lead to -/
def OutX (X : Cx) (F : Addr → Prop) (S : Sto) (H : Hp) (σ : L2.St) (E : EK) (W : WX) : Prop := ∀ n S' C H', E n .non S' → clsAt X.K n = some C → RelS X.K F S' H' → Keep X.K S H S' H' → W (.ref C) none σ H'
/-- a call's tree, its arguments and the expression -/
def SndR (X : Cx) (cs : CS) (r : Rc) (es : List E) (e : Expr) : Prop := ∀ (F : Addr → Prop) (env : En) (S : Sto) (σ : L2.St) (H : Hp) (Q : QK) (E : EK) (W : WX), L2N.Takes X W → RelS X.K F S H → Rl X.K F S H env σ → wR cs EX0 r es env S Q E → OutX X F S H σ E W → wpx X e σ H (PD X.K F S H Q)
theorem finX {F : Addr → Prop} {f : Nat} {S : Sto} {σ : L2.St} {H : Hp} {Q : QK} {E : EK} {W : WX} {vs : List V} {H1 : Hp} (o : OutX X F S H σ E W) (q : PL X.K F S H (fun ds S1 => cs f ds S1 Q E) vs H1) : liftX X.K (cs f) vs H1 (PD X.K F S H Q) (WE W σ) := by
  obtain ⟨ds, S1, R1, r1, k1, h1⟩ := q
  exact ⟨ds, S1, Q, E, F, R1, r1, h1, fun d S' v H' q R' r' k' => ⟨d, S', R', r', k1.trans k', q⟩, fun n S' C H' x e R' k' => o n S' C H' x e R' (k1.trans k')⟩
theorem sR_fn (O : COk X c cs) {f : Nat} {as : List E} {x : Str} {e : Expr} {es : List Expr} {p pos : Pos} (hf : c.xf.lookup x = some f) (hg : c.gl x = true) (hd : dbg x = false) (hns : nsts (e :: es) = true) (ha : SndA X cs as (e :: es)) :
    SndR X cs (.fn f) as (.Call (.Name x p) (e :: es) [] pos) := by
  intro F env S σ H Q E W tk R L h o
  obtain ⟨k, fa, fd, ps, G, hr, hm, hk, hb⟩ := O.xfn x f hf
  have h2 : (nst e && nsts es) = true := hns
  rw [Bool.and_eq_true] at h2
  exact pex (pe_callS G hr (O.gl hg) hm hk hb (fun σ => L2N.passAt tk σ) pa_x (dbg1 hd) (star_cons h2.1) (star_any h2.2)) (wpa_mono (ha F env S σ H _ R L h) fun vs H1 q => finX o q.1)
/-- o.m(e, ..): the callee's exception is told at the slots -/
theorem pe_mthX {C : Addr} {k : Nat} {f : Addr} {fd : FuncData} {ps : List Str} {sp : Sp} {E : L2.St → XK} {m : Str} {pos apos : Pos} {e o : Expr} {es : List Expr} {to : TE} {t : TA} {pl : Sem Bool} (ho : PE X o to) (cl : Cls X.K C) (me : Meth X.K C m f) (G : FnOk X.prog X.w X.K X.mg X.base (L2N.CX X.prog X.w) k f fd ps sp) (hr : Room k X.A)
    (hb : Binds X.K fd ps []) (hx : ∀ σ, PassesAt (L2N.CX X.prog X.w) X σ (E σ)) (ha : PA X (e :: es) t) (h1 : starEach (e :: es) X.env = (false, eval e X.env) :: starEach es X.env) (h2 : (backTo pos (starEach es X.env)).any (·.1) = false)
    (ht : eval (.Call (.Attribute o m apos) (e :: es) [] pos) X.env = (do
      let ov ← eval o X.env
      standAt apos.atName
      let (f, first) ← holding [ov] (getMethod ov m pl)
      callWith pos f first (backTo pos (starEach (e :: es) X.env)) (backToKw pos (keywordEach [] X.env)))) :
    PE X (.Call (.Attribute o m apos) (e :: es) [] pos) fun σ H Q => to σ H fun v H1 => ∃ a dx fs, v = .ref a ∧ H1 a = some (.ins C dx fs) ∧ fs.lookup m = none ∧ t σ H1 fun vs H2 => sp (v :: vs) H2 Q (E σ) := by
  constructor
  intro pins s σ H Q I h
  apply PySem.W.methodCall_KW (pl := pl) _ ht
  apply thn (ho.run pins s σ H _ I h)
  rintro u s1 ⟨v, H1, I1, rv, a, dx, fs, rfl, ea, l, q⟩
  cases rv
  apply getmeth_ok I1 ea cl me l
  apply PySem.W.callWith_K (first := [.ref a]) (h₀ := X.base) I1.ok.mod.kin me.kp _ h1 h2
  apply thn (ha.run pos pins s1 σ H1 _ I1 q)
  rintro us s2 ⟨vs, H2, I2, r, q2⟩
  exact ⟨I2.kIn, run_fnS (us := .ref a :: us) (vs := .ref a :: vs) G hr hb (hx σ) I2 (.cons rfl r) q2⟩
theorem sR_mth (O : COk X c cs) {n m : Str} {g : Nat} {o : E} {as : List E} {x e : Expr} {es : List Expr} {ap cp : Pos} (hm : c.mths.lookup (n, m) = some g) (hc : ncl x = true) (hs : nsts (e :: es) = true) (hl : (ap.endLine == cp.line) = true) (hn : (e :: es).length < 30) (ho : SndE X cs o x) (ha : SndA X cs as (e :: es)) :
    SndR X cs (.mth g n m o) as (.Call (.Attribute x m ap) (e :: es) [] cp) := by
  intro F env S σ H Q E W tk R L h out
  obtain ⟨C, k, f, fd, ps, e0, cl, me, F1, hr, hb⟩ := O.xmth n m g hm
  have h2 : (nst e && nsts es) = true := hs
  rw [Bool.and_eq_true] at h2
  refine pex (pe_mthX (pl := plainOf x X.env) pe_x cl me F1 hr hb (fun σ => L2N.passAt tk σ) pa_x (star_cons h2.1) (star_any h2.2) (meth_tree hc hs hl hn)) ?_
  refine wpx_mono (ho F env S σ H _ R L h) fun v H1 ⟨d, S1, R1, r1, k1, h1⟩ => ?_
  obtain ⟨a, dx, gs, rfl, rfl, e4, e5, p⟩ := wMth_in e0 R1 r1 h1
  refine ⟨a, dx, gs, rfl, e4, e5, ?_⟩
  refine wpa_mono (ha F env S1 σ H1 _ R1 (k1.env L) p) fun vs H2 ⟨⟨ds, S2, R2, r2, k2, q2⟩, _⟩ => ?_
  exact ⟨.ref a :: ds, S2, Q, E, F, R2, .cons (.ref a) r2, q2, fun d' S' v' H' q' R' r' k' => ⟨d', S', R', r', (k1.trans k2).trans k', q'⟩, fun n S' C H' x e R' k' => out n S' C H' x e R' ((k1.trans k2).trans k')⟩
/-- n(..), where n holds a def -/
theorem pe_cvX {i k : Nat} {f : Addr} {fd : FuncData} {ps : List Str} {sp : Sp} {E : L2.St → XK} {x : Str} {p pos : Pos} {e : Expr} {es : List Expr} {t : TA} (G : FnOk X.prog X.w X.K X.mg X.base (L2N.CX X.prog X.w) k f fd ps sp) (hr : Room k X.A) (hb : Binds X.K fd ps []) (hx : ∀ σ, PassesAt (L2N.CX X.prog X.w) X σ (E σ)) (hN : X.N[i]? = some x) (hv : Vis X.env.scope x) (hk : PySem.W.keepIn X.K (.ref f) = true) (ha : PA X (e :: es) t)
   (hd : (x == ("__debug__" : Str)) = false) (hd2 : (x == ("__classdict__" : Str)) = false) (h1 : starEach (e :: es) X.env = (false, eval e X.env) :: starEach es X.env) (h2 : (backTo pos (starEach es X.env)).any (·.1) = false) : PE X (.Call (.Name x p) (e :: es) [] pos) fun σ H Q => σ[i]? = some (some (.ref f)) ∧ t σ H fun vs H1 => sp vs H1 Q (E σ) := by
  constructor
  rintro pins s σ H Q I ⟨hs, h⟩
  apply wpAny_Call_Name_kw
  apply thn ((pe_var (pos := p) hN hv hd hd2).run pins s σ H (fun v H1 => v = .ref f ∧ H1 = H) I ⟨.ref f, hs, rfl, rfl⟩)
  rintro u s1 ⟨v, H1, I1, r1, rfl, rfl⟩
  cases r1
  apply PySem.W.callWith_K (h₀ := X.base) I1.ok.mod.kin hk _ h1 h2
  apply thn (ha.run pos pins s1 σ _ _ I1 h)
  rintro us s2 ⟨vs, H2, I2, rv, q⟩
  exact ⟨I2.kIn, run_fnS G hr hb (hx σ) I2 rv q⟩
theorem sR_cv (O : COk X c cs) {i : Nat} {fs : List (Str × Nat)} {as : List E} {x : Str} {e : Expr} {es : List Expr} {p pos : Pos} (hf : (fs.all fun q => decide (c.xf.lookup q.1 = some q.2)) = true) (hN : c.N[i]? = some x) (hv : c.vis x = true) (hd : dbg x = false) (hns : nsts (e :: es) = true) (ha : SndA X cs as (e :: es)) :
    SndR X cs (.cv i fs) as (.Call (.Name x p) (e :: es) [] pos) := by
  intro F env S σ H Q E W tk R L h out
  have h : wFnV (env[i]?) fs fun f => wEs cs EX0 as env S fun ds S1 => cs f ds S1 Q E := h
  unfold wFnV at h
  split at h
  · rename_i n en
    obtain ⟨f, ef, h⟩ := wOpt_in h
    obtain ⟨v, e1, r⟩ := L.at_ i _ en
    cases r with
    | @fn _ fa hc =>
      have hfn : c.xf.lookup n = some f := of_decide_eq_true (List.all_eq_true.mp hf (n, f) (PySem.mem_of_lookup ef))
      obtain ⟨k, fb, fd, ps, G, hr, hm, hk, hb⟩ := O.xfn n f hfn
      have : fa = fb := by
        have := (O.mgk n fa hc).symm.trans hm
        cases this
        rfl
      subst this
      have h2 : (nst e && nsts es) = true := hns
      rw [Bool.and_eq_true] at h2
      exact pex (pe_cvX (i := i) G hr hb (fun σ => L2N.passAt tk σ) (by rw [O.N]; exact hN) (O.vis hv) hk pa_x (dbg1 hd) (dbg2 hd) (star_cons h2.1) (star_any h2.2)) ⟨e1, wpa_mono (ha F env S σ H _ R L h) fun vs H1 q => finX out q.1⟩
  · exact h.elim
/-! ### the statements -/
theorem sS_exprX {r : Rc} {es : List E} {x : Expr} {pos : Pos} (hn : nlc x = true) (he : SndR X cs r es x) : SndS X cs (.exprX r es) (.Expr x pos) := by
  intro F K env S σ H D R L C h
  obtain ⟨W, tk, hw⟩ := C.ex
  refine psxx (ps_expr pe_x (swaps_of hn)) ?_
  exact wpx_mono (he F env S σ H _ _ W tk R L h fun n S' C' H' x e R' k' => hw n env S' σ H' C' x e R' (k'.env L) k') fun v H1 ⟨d, S1, R1, r1, k1, h1⟩ => C.nx env S1 σ H1 h1 R1 (k1.env L) k1
theorem sS_retX {r : Rc} {es : List E} {x : Expr} {pos : Pos} (he : SndR X cs r es x) : SndS X cs (.retX r es) (.Return (some x) pos) := by
  intro F K env S σ H D R L C h
  obtain ⟨W, tk, hw⟩ := C.ex
  refine psxx (ps_ret pe_x) ?_
  exact wpx_mono (he F env S σ H _ _ W tk R L h fun n S' C' H' x e R' k' => hw n env S' σ H' C' x e R' (k'.env L) k') fun v H1 ⟨d, S1, R1, r1, k1, h1⟩ => C.rt d S1 v H1 h1 R1 r1 k1
theorem sS_asgX {t : T} {r : Rc} {es : List E} {tg x : Expr} {pos : Pos} (hn : ∀ l, swapsWithSole [tg] x l X.env = pure false) (hs : nst tg = true) (ht : swappedStores [tg] x X.env = pure none) (hg : SndJ X t tg) (he : SndR X cs r es x) : SndS X cs (.asgX t r es) (.Assign [tg] x pos) := by
  intro F K env S σ H D R L C h
  obtain ⟨W, tk, hw⟩ := C.ex
  refine psxx (ps_asg pe_x pg_x (hn _) ht (asg_one hs)) ?_
  refine wpx_mono (he F env S σ H _ _ W tk R L h fun n S' C' H' x e R' k' => hw n env S' σ H' C' x e R' (k'.env L) k') fun v H1 ⟨d, S1, R1, r1, k1, h1⟩ => ?_
  obtain ⟨e2, ea, q⟩ := wOpt_in h1
  exact wpg_mono (hg F env e2 S1 σ H1 v d R1 (k1.env L) r1 ea) fun σ2 H2 ⟨e1, L2, _⟩ => by
    subst e1
    exact C.nx e2 S1 σ2 _ q R1 L2 k1

/-! ### raise X("..") -/
theorem ExCls.raises {X : Cx} {n : Str} (T : ExCls X.K X.mg n) {C : Addr} (e : clsAt X.K n = some C) : Raises X (.ref C) := by
  obtain ⟨D, e0, _, _, _, ec, ty⟩ := T.ex
  rw [e] at e0
  cases e0
  exact raises_own ec.hs ty
theorem sS_rs (O : COk X c cs) {n m : Str} {j : Nat} {p p2 pos pos2 : Pos} (hx : c.ex = true) (hn : exKn n = true) (hg : c.gl n = true) (hd : dbg n = false) : SndS X cs (.rs n m) (.Raise (some (.Call (.Name n p) [.Constant (.str m) j p2] [] pos)) none pos2) := by
  intro F K env S σ H D R L C h
  obtain ⟨W, tk, hw⟩ := C.ex
  have T := O.exc hx n hn
  obtain ⟨A, e0, mg, kp, q, ec, ty⟩ := T.ex
  refine psxx (L2N.ps_raise O.calm tk (L2N.pmk_own PySem.F.excBase_ValueError q mg kp (T.raises e0) (O.gl hg) (dbg1 hd))) ?_
  exact hw n env S σ H A h e0 R L Keep.refl
/-! ### a caught exception that stays -/
section
variable {B : Heap} {l : List Env} {a : Addr} {cls : Value} {pins : List (Addr × Obj)} {σ : L2.St} {H : Hp} {s s2 : Shared}
theorem fly_out (f : HandSPX.FlyingZ B l a (L2N.Zn cls none) s2.heap) : a ∉ frs l := fun hm => by
  obtain ⟨oe, vs, e1, _, e3⟩ := f.there
  obtain ⟨_, o, e2, no⟩ := f.2.2.1.mem hm
  rw [e1] at e2
  cases e2
  exact no vs e3
/-- it is new to the state that doesn't know it -/
theorem fly_new (f : HandSPX.FlyingZ B X.stack a (L2N.Zn cls none) s2.heap) (nb : ∀ b o, s.heap.get? b = some o → b ∉ frs X.stack → B.get? b = some o) : s.heap.get? a = none := by
  cases q : s.heap.get? a with
  | none => rfl
  | some o =>
    have := nb a o q (fly_out f)
    rw [f.2.1] at this
    cases this
theorem exZ_ok {P : Program} {w : World} (f : HandSPX.FlyingZ B l a (L2N.Zn cls none) s2.heap) : ObjOk P w H s2.heap a (exZ cls a) := by
  obtain ⟨oe, vs, e1, z, e3⟩ := f.there
  exact ⟨⟨oe, vs, e1, z.zc, e3⟩, ⟨oe, e1⟩, fun h1 h2 ⟨oe, vs, e, r⟩ k => ⟨oe, vs, k oe e, r⟩⟩
theorem exZ_nc (f : HandSPX.FlyingZ B l a (L2N.Zn cls none) s2.heap) (q : Str) : exZ cls a ≠ LamX.CodeO a q := fun z => by
  obtain ⟨k1, k2, k3, oe, vs, T, oT, ts, he, hz, hd, h1, hr⟩ := f
  have z2 := HO.ext.inj z
  have h := (congrFun z2 s2.heap).mp ⟨oe, vs, he, hz.zc, hd⟩
  obtain ⟨oc, ws, t, e, d, w1⟩ := h
  rw [he] at e
  cases e
  rw [hd] at d
  cases d
  rw [h1] at w1
  cases w1
/-- the state, the exception known to it -/
theorem adoptX (I : Inv X pins σ H s) (nb : ∀ b o, s.heap.get? b = some o → b ∉ frs X.stack → B.get? b = some o) (f : HandSPX.FlyingZ B X.stack a (L2N.Zn cls none) s2.heap) (up : s.heap.UpToSlots s2.heap) (na : H a = none) (os : s2.os = s.os) (ag : AllBare s2.gens) :
    Inv X pins σ (upd H a (exZ cls a)) s2 := by
  have new := fly_new f nb
  have ne : ∀ b o, s.heap.get? b = some o → b ≠ a := fun b o e z => by rw [z, new] at e; cases e
  have hk : ∀ b o, H b = some o → b ≠ a := fun b o e z => by rw [z, na] at e; cases e
  have fr : ∀ b, b ∈ frs X.stack → ∀ o, s.heap.get? b = some o → ∃ sl, s2.heap.get? b = some { o with slots := sl } := fun b hb o e => by
    obtain ⟨_, o2, e2, no⟩ := I.stack.mem hb
    rw [e] at e2
    cases e2
    exact up b o e no
  have here : ∀ b o, s.heap.get? b = some o → b ∉ frs X.stack → s2.heap.get? b = some o := fun b o e hb => f.1 b o (nb b o e hb)
  apply I.call' (ch := []) os _ _ ag (fun _ z => nomatch z)
  · constructor
    · exact fun b o e _ hb _ => here b o e hb
    · exact fun b o e _ hb _ => fr b hb o e
    · exact fun b o e n _ => by rw [upd_ne (ne b o e)]; exact n
    · intro b o e _
      by_cases hb : b ∈ frs X.stack
      · exact ⟨_, (fr b hb o e).choose_spec⟩
      · exact ⟨o, here b o e hb⟩
    · exact fun b xs e => by rw [upd_ne (hk b _ e)]; exact e
    · exact fun b o u e => by rw [upd_ne (hk b _ e)]; exact e
    · exact fun b ps e => ⟨#[], by rw [upd_ne (hk b _ e), e]; simp⟩
  · intro b o e
    by_cases hb : b = a
    · subst hb
      rw [upd_same] at e
      cases e
      exact exZ_ok f
    · rw [upd_ne hb] at e
      refine (I.inGround nb b o e).stay (fun c u _ q => f.1 c u q) (fun c q => ?_) fun c xs q => ?_
      · rw [upd_ne (hk c _ q)]
        exact q
      · rw [upd_ne (hk c _ q)]
        exact q
/-- in the clause's suite, and out of it -/
theorem suiteZ (I : Inv X pins σ H s) : Inv (X.suite a X.pn) pins σ H s := ⟨I.ok.suite _ _, I.os, I.bare, I.base, I.loc, I.cell, I.free, I.freeC, I.pin, I.hok, I.len⟩
theorem outZ (ok : X.Ok) (I : Inv (X.suite a X.pn) pins σ H s) : Inv X pins σ H s := ⟨ok, I.os, I.bare, I.base, I.loc, I.cell, I.free, I.freeC, I.pin, I.hok, I.len⟩
end
/-- what a clause that keeps its exception wishes of the body's exceptions -/
def wKeepX (K : PySem.W.Frag) (cv : Value) (i : Nat) (ts : Addr → Value → TS) (D : Ends) : WX := fun cls d σ H => PySem.W.exmOne K cls cv = some true ∧ d = none ∧
  ∀ a, H a = none → (∀ q, some (exZ cls a) ≠ some (LamX.CodeO a q)) → ts a cls { nx := fun σ' H' => D.nx (σ'.set i none) H', rt := D.rt, bk := fun σ' H' => D.bk (σ'.set i none) H', ct := fun σ' H' => D.ct (σ'.set i none) H' } (σ.set i (some (.ref a))) (upd H a (exZ cls a))
theorem ps_tryK {x n : Str} {cv : Value} {i : Nat} {body suite : List Stmt} {b₀ : Stmt} {np pos pos' : Pos} {tb : WX → TS} {ts : Addr → Value → TS} (hs : X.stack = X.env :: X.outer) (hf : X.env.frame = some X.env.locals) (hN : X.N.Nodup) (hi : X.N[i]? = some n) (hln : X.env.kindOf n = some .local) (hc : Names X x cv)
    (hb : ∀ (W : WX) (pn : List (Addr × Obj)) (xe : Value → Shared → Prop), L2N.Takes (X.tr pn xe) W → PassesOwn (model X.prog X.w) X.A X.env xe → PSs (X.tr pn xe) body (tb W))
    (hsu : ∀ (a : Addr) (cls : Value), PSs (X.suite a X.pn) (b₀ :: suite) (ts a cls)) :
    PS X (.Try body [.ExceptHandler (some (.Name x np)) (some n) (b₀ :: suite) pos'] [] [] pos) (fun D σ H => tb (wKeepX X.K cv i ts D) D σ H) := by
  constructor
  intro pins s σ H D I h
  have ok := I.ok
  have hfr : X.A.frames = some (X.env :: X.outer) := by rw [ok.frames, hs]
  let Hd : Value → Shared → Prop := fun e s3 => wpAny (model X.prog X.w) X.A (handleBy e X.env [.ExceptHandler (some (.Name x np)) (some n) (b₀ :: suite) pos']) (SP X pins D) X.xe s3
  let xe : Value → Shared → Prop := fun e s1 => wpAny (model X.prog X.w) X.A (noteFrame e X.env) (fun _ s2 => wpAny (model X.prog X.w) X.A (setFlight e none) (fun _ s3 => Hd e s3) X.xe s2) X.xe s1
  -- an exception of the body is taken
  have tk : L2N.Takes (X.tr (X.pn ++ pins) xe) (wKeepX X.K cv i ts D) := by
    rintro u s1 ⟨a, B, sI, pins', σ1, H1, cls, d, rfl, J', nb, up, sky, na, os, ag, hm, rfl, hq⟩
    have J : Inv X pins σ1 H1 sI := J'.ofTry ok
    have sky2 : Sky B (X.env :: X.outer) a (L2N.Zn cls none) X.env.locals s1.heap := by rw [← hs]; exact sky
    show wpAny (model X.prog X.w) X.A (noteFrame (.ref a) X.env) _ _ _
    apply L2N.Sky.land L2N.Zn.steady hfr hf sky2
    intro h3 f3 u3
    rw [← hs] at f3
    have A3 := adoptX (s2 := { s1 with heap := h3 }) J nb f3 (up.trans u3) na os ag
    show wpAny (model X.prog X.w) X.A (handleBy (.ref a) X.env [.ExceptHandler (some (.Name x np)) (some n) (b₀ :: suite) pos']) (SP X pins D) X.xe { s1 with heap := h3 }
    refine wpAny_handleBy_cons (codeAny_handlers_test ?_) (by intro q; cases q)
    have read : ∀ {Q : Value → Shared → Prop} {E : Value → Shared → Prop}, Q cv { s1 with heap := h3 } → wpAny (model X.prog X.w) (X.A.mark (some (.ref a))) (eval (.Name x np) X.env) Q E { s1 with heap := h3 } := fun {Q E} q => by
      obtain ⟨g, db, m | ⟨m, v, nn⟩⟩ := hc
      · exact ld_glob (X := X.suite a X.pn) (suiteZ A3) g m q db
      · exact ld_blt (X := X.suite a X.pn) (suiteZ A3) g m v q nn db
    obtain ⟨oe, vs, e3, z3, _⟩ := f3.there
    have LT : PySem.W.Looks (model X.prog X.w) h3 (typeOf (.ref a)) cls := fun A Q E s k q => wpAny_typeOf_ref (k _ _ e3) (by rw [z3.1]; exact q)
    apply read
    apply (PySem.W.exm_one (M := model X.prog X.w) A3.kIn LT hm).here
    apply codeAny_handlers_suite_as
    rw [hs] at f3
    apply HandSPX.lands_againZ f3
    intro h4 f4 u4
    rw [← hs] at f4
    have A4 := adoptX (s2 := { s1 with heap := h4 }) J nb f4 ((up.trans u3).trans u4) na os ag
    apply store_ok (X := X.suite a X.pn) (v := .ref a) (suiteZ A4) hN hi (.inl hln) rfl _ (.inr hln)
    intro s5 A5
    have go := (hsu a cls).run pins s5 _ _ _ A5 (hq a na fun q z => exZ_nc (s2 := { s1 with heap := h4 }) f4 q (Option.some.inj z))
    have gone : ∀ {σ6 : L2.St} {H6 : Hp} {s6 : Shared} {Q : Shared → Prop}, Inv (X.suite a X.pn) pins σ6 H6 s6 → (∀ s7, Inv X pins (σ6.set i none) H6 s7 → Q s7) →
        wpAny (model X.prog X.w) X.A (do bindName X.env n .none; unbindBehindTheSuite X.env n pos') (fun _ s7 => Q s7) X.xe s6 := fun A6 q => gone_ok (outZ ok A6) hN hi hln q
    apply wpAny_mono go _ (fun _ _ z => False.elim z)
    intro fl s6 r
    cases fl with
    | next => obtain ⟨σ6, H6, A6, q6⟩ := r; exact gone A6 fun s7 A7 => ⟨_, _, A7, q6⟩
    | brk => obtain ⟨σ6, H6, A6, q6⟩ := r; exact gone A6 fun s7 A7 => ⟨_, _, A7, q6⟩
    | cont => obtain ⟨σ6, H6, A6, q6⟩ := r; exact gone A6 fun s7 A7 => ⟨_, _, A7, q6⟩
    | ret u => obtain ⟨v6, σ6, H6, A6, r6, q6⟩ := r; exact gone A6 fun s7 A7 => ⟨_, _, _, A7, r6, q6⟩
  apply wpAny_Try_except
  apply wpAny_mono ((hb _ (X.pn ++ pins) xe tk PassesOwn.looking).run [] s σ H D (I.toTry _) h) _ (fun _ _ z => z)
  intro fl s1 r
  cases fl with
  | next => obtain ⟨σ1, H1, I1, q⟩ := r; exact wpAny_execs_nil ⟨σ1, H1, I1.ofTry ok, q⟩
  | brk => obtain ⟨σ1, H1, I1, q⟩ := r; exact ⟨σ1, H1, I1.ofTry ok, q⟩
  | cont => obtain ⟨σ1, H1, I1, q⟩ := r; exact ⟨σ1, H1, I1.ofTry ok, q⟩
  | ret u => obtain ⟨v, σ1, H1, I1, rv, q⟩ := r; exact ⟨v, σ1, H1, I1.ofTry ok, rv, q⟩
/-- what a body wants, an exception led to W -/
structure CovN (X : Cx) (F : Addr → Prop) (K : Dn) (S0 : Sto) (H0 : Hp) (D : Ends) (W : WX) : Prop where
  nx : ∀ env S σ H, K.nx env S → RelS X.K F S H → Rl X.K F S H env σ → Keep X.K S0 H0 S H → D.nx σ H
  rt : ∀ d S v H, K.rt d S → RelS X.K F S H → Rep X.K F S H v d → Keep X.K S0 H0 S H → D.rt v H
  bk : ∀ env S σ H, K.bk env S → RelS X.K F S H → Rl X.K F S H env σ → Keep X.K S0 H0 S H → D.bk σ H
  ct : ∀ env S σ H, K.ct env S → RelS X.K F S H → Rl X.K F S H env σ → Keep X.K S0 H0 S H → D.ct σ H
  ex : ∀ n env S σ H C, K.ex n .non env S → clsAt X.K n = some C → RelS X.K F S H → Rl X.K F S H env σ → Keep X.K S0 H0 S H → W (.ref C) none σ H
def tBody (X : Cx) (cs : CS) (b : List Stm) (W : WX) : TS := fun D σ H => ∃ (F : Addr → Prop) (K : Dn) (env : En) (S : Sto), RelS X.K F S H ∧ Rl X.K F S H env σ ∧ CovN X F K S H D W ∧ wSs cs EX0 b K env S
theorem tBody_ok (O : COk X c cs) {b : List Stm} {body : List Stmt} (hb : ∀ {X' : Cx}, X'.K = X.K → COk X' c cs → SndSs X' cs b body) (W : WX) (pn : List (Addr × Obj)) (xe : Value → Shared → Prop) (tk : L2N.Takes (X.tr pn xe) W) (pass : PassesOwn (model X.prog X.w) X.A X.env xe) : PSs (X.tr pn xe) body (tBody X cs b W) :=
  ⟨fun pins s σ H D I ⟨F, K, env, S, R, L, C, h⟩ => (pss_x (X := X.tr pn xe)).run _ _ _ _ _ I (hb (X' := X.tr pn xe) rfl { O with pass := pass } F K env S σ H D R L ⟨C.nx, C.rt, C.bk, C.ct, W, tk, C.ex⟩ h)⟩
/-- try: .. except c as n: y = n -/
theorem sS_tryX (O : COk X c cs) (hx : c.ex = true) {b : List Stm} {cn n y : Str} {i j : Nat} {body : List Stmt} {np py p2 pos2 pos pos' : Pos} (hc : cn ∈ exAll) (hg : c.gl cn = true) (hd : dbg cn = false) (hcm : c.cmp = none) (hi : c.N[i]? = some n) (hj : c.N[j]? = some y) (hln : c.sc.names.lookup n = some .local) (hly : c.sc.names.lookup y = some .local) (hdn : dbg n = false)
    (hb : ∀ {X' : Cx}, X'.K = X.K → COk X' c cs → SndSs X' cs b body) : SndS X cs (.tryX b cn i j) (.Try body [.ExceptHandler (some (.Name cn np)) (some n) [.Assign [.Name y py] (.Name n p2) pos2] pos'] [] [] pos) := by
  intro F K env S σ H D R L C h
  obtain ⟨A0, e00, mg0, kp0, -, -, -⟩ := (O.exc hx (Str.ofString "NoText") (by decide +kernel)).ex
  obtain ⟨B, eB, mgB, kpB, -, -⟩ := (O.exc hx (Str.ofString "NoText") (by decide +kernel)).exm A0 e00 cn hc
  have hN := O.N
  rw [← O.sc] at hln hly
  have hln2 : X.env.kindOf n = some .local := hln
  have nm : Names X cn (.ref B) := ⟨O.gl hg, dbg1 hd, .inl mgB⟩
  have hsu : ∀ (a : Addr) (cls : Value), PSs (X.suite a X.pn) [.Assign [.Name y py] (.Name n p2) pos2] (tSeq (tAsg (tVar i) (gName j)) tNext) := fun a cls =>
    pss_cons (ps_asg (pe_var (by rw [← hN] at hi; exact hi) (.inl hln) (dbg1 hdn) (dbg2 hdn)) (pg_name O.nd (by rw [← hN] at hj; exact hj) (.inl hly) (.inr hly)) (sole_of rfl) stores_name rfl) pss_nil
  refine psxx (ps_tryK (O.st hcm) (O.fr hcm) O.nd (by rw [← hN] at hi; exact hi) hln2 nm (tBody_ok O hb) hsu) ?_
  refine ⟨F, { nx := K.nx, rt := K.rt, bk := K.bk, ct := K.ct, ex := fun n _ e S1 => ((exKn n = true ∧ exSub n cn = true) ∧ i < e.length) ∧ ∀ a, S1 a = none → K.nx (((e.set i (some (.ref a))).set j (some (.ref a))).set i none) (supd S1 a (.exc n)) }, env, S, R, L, ⟨C.nx, C.rt, C.bk, C.ct, ?_⟩, h⟩
  rintro n2 e2 S2 σ2 H2 C2 ⟨⟨⟨kn, sub⟩, li⟩, hq⟩ ec R2 L2 k2
  obtain ⟨B2, eB2, _, _, ex2, _⟩ := (O.exc hx n2 kn).exm C2 ec cn hc
  rw [eB] at eB2
  cases eB2
  rw [sub] at ex2
  refine ⟨ex2, rfl, fun a na nc => ?_⟩
  have kN : Keep X.K S2 H2 (supd S2 a (.exc n2)) (upd H2 a (exZ (.ref C2) a)) := keepNewM na
  have RN : RelS X.K F (supd S2 a (.exc n2)) (upd H2 a (exZ (.ref C2) a)) := R2.putN na kN ⟨C2, ec, upd_same, fun q => by rw [upd_same]; exact nc q⟩
  have ra : Rep X.K F (supd S2 a (.exc n2)) (upd H2 a (exZ (.ref C2) a)) (.ref a) (.ref a) := .ref a
  have ls : i < σ2.length := by rw [← L2.len]; exact li
  exact ⟨.ref a, by rw [List.getElem?_set_self ls], C.nx _ _ _ _ (hq a (R2.none na)) RN ((((kN.env L2).set i ra).set j ra).forget i) (k2.trans kN)⟩
/-! ### isinstance(e, c) of None, of a caught exception -/
/-- None, or an exception of the class at C -/
inductive TyE (K : PySem.W.Frag) (H : Hp) : V → Value → Prop where
  | non : TyE K H .non (.type "NoneType")
  | exc {a C : Addr} (e : H a = some (exZ (.ref C) a)) (T : ExcC K C) : TyE K H (.ref a) (.ref C)
theorem kitE {pins : List (Addr × Obj)} {σ : L2.St} {H : Hp} {s : Shared} {x : V} {u t : Value} (I : Inv X pins σ H s) (r : RelV x u) (ty : TyE X.K H x t) : ∃ P : Heap → Prop, PySem.W.KitX X.K u t P ∧ P s.heap ∧ u ≠ .builtin "__main__.__loader__#opaque" := by
  cases ty with
  | non =>
    cases (show u = Value.none from r)
    exact ⟨_, PySem.W.kitx_none, True.intro, fun z => nomatch z⟩
  | @exc a C e T =>
    cases (show u = Value.ref a from r)
    obtain ⟨⟨oe, vs, g, z, d⟩, _⟩ := I.hok a _ e
    refine ⟨_, PySem.W.handS_kitx_exc (x := a) (ox := oe) T.hg T.hk T.hs T.hd T.ha T.hn T.ht T.hm, ?_, fun z => nomatch z⟩
    obtain ⟨oc, od, oda, osl⟩ := oe
    obtain ⟨z1, z2⟩ := z
    dsimp only at z1 z2 d
    subst z1 z2 d
    exact ⟨g, rfl, rfl, trivial⟩
theorem cr_exi1 : CallR X (.builtin "isinstance") fun xs H Q => ∃ (x c : V) (t u : Value) (b : Bool), xs = [x, c] ∧ ClsV c u ∧ TyE X.K H x t ∧ PySem.W.kitOne X.K t u = some b ∧ Q (.bl b) H := by
  rintro pins s σ H _ us Q I r ⟨x, c, t, u, b, rfl, k, ty, e, q⟩
  obtain ⟨u1, u2, rfl, r1, r2⟩ := vals2 r
  cases k.eq r2
  obtain ⟨P, Z, p, hx⟩ := kitE I r1 ty
  exact PySem.W.kia_one Z I.kIn p e hx fun tk => ⟨.bl b, H, I.tok tk, rfl, q⟩
theorem cr_exi2 : CallR X (.builtin "isinstance") fun xs H Q => ∃ (x : V) (tp : Addr) (cs : List V) (t : Value) (us : List Value) (b : Bool), xs = [x, .ref tp] ∧ H tp = some (.tup cs) ∧ Paired ClsV cs us ∧ TyE X.K H x t ∧ PySem.W.kitAny X.K t us = some b ∧ Q (.bl b) H := by
  rintro pins s σ H _ us Q I r ⟨x, tp, cs, t, ws, b, rfl, hT, k, ty, e, q⟩
  obtain ⟨u1, u2, rfl, r1, r2⟩ := vals2 r
  cases (show u2 = Value.ref tp from r2)
  obtain ⟨P, Z, p, hx⟩ := kitE I r1 ty
  obtain ⟨_, its, rv, o, h1, h2, n, h3⟩ := I.hok tp _ hT
  cases ClsV.all k rv
  obtain ⟨oc, od, dt, sl⟩ := o
  simp only at h2 h3
  subst h2 h3
  exact PySem.W.kia_tup Z I.kIn p h1 e hx fun tk => ⟨.bl b, H, I.tok tk, rfl, q⟩
/-- what an own class answers -/
theorem exi_ty (O : COk X c cs) (hx : c.ex = true) {F : Addr → Prop} {S : Sto} {H : Hp} {v : V} {d : Z.D} {o : Option Str} (R : RelS X.K F S H) (r : Rep X.K F S H v d) (h : excAt S d = some o) :
    ∃ t, TyE X.K H v t ∧ (∀ m ∈ exAll, ∀ D, clsAt X.K m = some D → PySem.W.kitOne X.K t (.ref D) = some (exiB [m] o)) ∧ (∀ n, o = some n → PySem.W.kitOne X.K t (.type "ValueError") = some true) := by
  cases d with
  | non =>
    cases (show some none = some o from h)
    cases r
    refine ⟨_, .non, fun m hm D e => (O.exc hx (Str.ofString "NoText") (by decide +kernel)).no m hm D e, fun n z => nomatch z⟩
  | ref a =>
    have h2 : (match S a with
      | some (.exc n) => if exKn n = true then some (some n) else none
      | _ => none) = some o := h
    split at h2
    · rename_i n e
      split at h2
      rotate_left
      · cases h2
      rename_i kn
      cases h2
      cases r
      obtain ⟨C, e0, e1, _⟩ := R.at_ a _ e
      have T := O.exc hx n kn
      obtain ⟨C2, f0, _, _, _, ec, _⟩ := T.ex
      rw [e0] at f0
      cases f0
      refine ⟨.ref C, .exc e1 ec, fun m hm D eD => ?_, fun n z => T.ve C e0⟩
      obtain ⟨D2, g0, _, _, _, g4⟩ := T.exm C e0 m hm
      rw [eD] at g0
      cases g0
      rw [g4]
      show some (exSub n m) = some (exSub n m || false)
      rw [Bool.or_false]
    · cases h2
  | _ => exact nomatch (show (none : Option (Option Str)) = some o from h)
theorem exCls_at (O : COk X c cs) (hx : c.ex = true) {m : Str} (hm : m ∈ exAll) : ∃ D, clsAt X.K m = some D ∧ X.mg m = some (.ref D) := by
  have T := O.exc hx (Str.ofString "NoText") (by decide +kernel)
  obtain ⟨C, e, _⟩ := T.ex
  obtain ⟨D, e1, e2, _⟩ := T.exm C e m hm
  exact ⟨D, e1, e2⟩
theorem sE_exi (O : COk X c cs) (hx : c.ex = true) {a : E} {x : Expr} {y : Str} {p p2 pos : Pos} (hy : y ∈ exAll) (hg : c.gl "isinstance" = true) (hg2 : c.gl y = true) (hd : dbg y = false) (hns : nst x = true) (ha : SndE X cs a x) :
    SndE X cs (.exi a [y]) (.Call (.Name "isinstance" p) [x, .Name y p2] [] pos) := by
  intro F env S σ H Q R L h
  have hm := O.blt "isinstance" (by decide +kernel)
  obtain ⟨D, eD, mD⟩ := exCls_at O hx hy
  refine pex (pe_callB cr_exi1 (O.gl hg) hm boot_isi (pa_cons pe_x (pa_cons (pe_glob (v := .ref D) (O.gl hg2) mD rfl (dbg1 hd)) pa_nil) (star_cons hns)) (by decide +kernel) (by decide +kernel) (star_cons hns) rfl) ?_
  refine wpx_mono (ha F env S σ H _ R L h) fun v H1 ⟨d, S1, R1, r1, k1, h1⟩ => ?_
  obtain ⟨o, e1, q⟩ := wOpt_in h1
  obtain ⟨t, ty, own, _⟩ := exi_ty O hx R1 r1 e1
  exact ⟨v, .ref D, t, _, _, rfl, .own D, ty, own y hy D eD, PD.of k1 (PD.same R1 (.bl _) q)⟩
theorem sE_exiV (O : COk X c cs) (hx : c.ex = true) {a : E} {x : Expr} {p p2 pos : Pos} (hg : c.gl "isinstance" = true) (hg2 : c.gl "ValueError" = true) (hns : nst x = true) (ha : SndE X cs a x) :
    SndE X cs (.exi a [Str.ofString "ValueError"]) (.Call (.Name "isinstance" p) [x, .Name "ValueError" p2] [] pos) := by
  intro F env S σ H Q R L h
  have hm := O.blt "isinstance" (by decide +kernel)
  refine pex (pe_callB cr_exi1 (O.gl hg) hm boot_isi (pa_cons pe_x (pa_cons (pe_bltn (v := .ty "ValueError") (O.gl hg2) (O.blt "ValueError" (by decide +kernel)) boot_ValueError rfl (by decide +kernel) (by decide +kernel)) pa_nil) (star_cons hns)) (by decide +kernel) (by decide +kernel) (star_cons hns) rfl) ?_
  refine wpx_mono (ha F env S σ H _ R L h) fun v H1 ⟨d, S1, R1, r1, k1, h1⟩ => ?_
  obtain ⟨o, e1, q⟩ := wOpt_in h1
  obtain ⟨t, ty, _, ve⟩ := exi_ty O hx R1 r1 e1
  refine ⟨v, .ty "ValueError", t, _, exiB [Str.ofString "ValueError"] o, rfl, .ty _, ty, ?_, PD.of k1 (PD.same R1 (.bl _) q)⟩
  cases o with
  | none =>
    cases ty with
    | non => exact kit_ty (by decide +kernel)
    | exc e T =>
      exfalso
      cases d with
      | non => cases r1
      | ref b =>
        have h2 : (match S1 b with
          | some (.exc n) => if exKn n = true then some (some n) else none
          | _ => none) = some none := e1
        split at h2
        · split at h2 <;> cases h2
        · cases h2
      | _ => exact nomatch (show (none : Option (Option Str)) = some none from e1)
  | some n =>
    rw [ve n rfl]
    show some true = some (exSub n (Str.ofString "ValueError") || false)
    have : exSub n (Str.ofString "ValueError") = true := by
      unfold exSub
      rw [decide_eq_true (rfl : Str.ofString "ValueError" = Str.ofString "ValueError"), Bool.or_true, Bool.or_true]
    rw [this]
    rfl
theorem kit_two {K : PySem.W.Frag} {t u v : Value} {a b : Bool} (h1 : PySem.W.kitOne K t u = some a) (h2 : PySem.W.kitOne K t v = some b) : PySem.W.kitAny K t [u, v] = some (a || b) := by
  refine kitAny_cons h1 (fun z => ?_) fun z => by rw [z]; rfl
  rw [z]
  refine kitAny_cons h2 (fun y => ?_) fun y => by rw [y]; rfl
  rw [y]
  rfl
theorem sE_exi2 (O : COk X c cs) (hx : c.ex = true) {a : E} {x : Expr} {y z : Str} {k : Nat} {p p2 p3 p4 pos : Pos} (hy : y ∈ exAll) (hz : z ∈ exAll) (hg : c.gl "isinstance" = true) (hg2 : c.gl y = true) (hg3 : c.gl z = true) (hd : dbg y = false) (hd2 : dbg z = false) (hns : nst x = true) (ha : SndE X cs a x) :
    SndE X cs (.exi a [y, z]) (.Call (.Name "isinstance" p) [x, .Tuple [.Name y p2, .Name z p3] k p4] [] pos) := by
  intro F env S σ H Q R L h
  have hm := O.blt "isinstance" (by decide +kernel)
  obtain ⟨D, eD, mD⟩ := exCls_at O hx hy
  obtain ⟨G, eG, mG⟩ := exCls_at O hx hz
  refine pex (pe_callB cr_exi2 (O.gl hg) hm boot_isi (pa_cons pe_x (pa_cons (pe_tup (pa_cons (pe_glob (v := .ref D) (O.gl hg2) mD rfl (dbg1 hd)) (pa_cons (pe_glob (v := .ref G) (O.gl hg3) mG rfl (dbg1 hd2)) pa_nil))) pa_nil) (star_cons hns)) (by decide +kernel) (by decide +kernel) (star_cons hns) rfl) ?_
  refine wpx_mono (ha F env S σ H _ R L h) fun v H1 ⟨d, S1, R1, r1, k1, h1⟩ => ?_
  obtain ⟨o, e1, q⟩ := wOpt_in h1
  obtain ⟨t, ty, own, _⟩ := exi_ty O hx R1 r1 e1
  refine ⟨by have := sz; show 2 ≤ sizeLine; omega, fun tp hn => ?_⟩
  have ty2 : TyE X.K (upd H1 tp (.tup [.ref D, .ref G])) v t := by
    cases ty with
    | non => exact .non
    | @exc b C e T => exact .exc (by rw [upd_ne (ne_of_none e hn)]; exact e) T
  refine ⟨v, tp, [.ref D, .ref G], t, [.ref D, .ref G], _, rfl, upd_same, .cons (.own D) (.cons (.own G) .nil), ty2, kit_two (own y hy D eD) (own z hz G eG), ?_⟩
  have e : exiB [y, z] o = (exiB [y] o || exiB [z] o) := by
    cases o with
    | none => rfl
    | some n => show (exSub n y || (exSub n z || false)) = ((exSub n y || false) || (exSub n z || false)); rw [Bool.or_false, Bool.or_false]
  rw [← e]
  exact PD.of (k1.trans (keepNew hn)) (PD.same (R1.new hn) (.bl _) q)
end
end Z
set_option Elab.async false
set_option linter.all false
set_option maxRecDepth 100000
set_option maxHeartbeats 4000000
/-! Z8: which tree is a body's, by a look; what the look gives. -/
namespace Z
open PySem PySem.Spec PyProof.Rows L2

mutual
def chkT (c : Ctx) : T → Expr → Bool
  | .nm i, e => match e with
    | .Name x _ => decide (c.N[i]? = some x) && c.loc x && c.ok x
    | _ => false
  | .tup ts, e => match e with
    | .Tuple es _ _ => nsts es && decide (ts.length = es.length) && chkTs c ts es
    | _ => false
def chkTs (c : Ctx) : List T → List Expr → Bool
  | [], es => match es with
    | [] => true
    | _ => false
  | t :: ts, es => match es with
    | e :: r => nst e && chkT c t e && chkTs c ts r
    | _ => false
end
def Ctx.own (c : Ctx) (own : List Nat) : List (Str × Nat) := own.map fun i => (c.N.getD i "", i)
def tabEq : List (Str × D) → List (Str × D) → Bool
  | [], [] => true
  | (k, d) :: r, (j, e) :: s => decide (k = j) && D.beq d e && tabEq r s
  | _, _ => false
mutual
/-- t: as a test -/
def chkE (c : Ctx) (t : Bool) : E → Expr → Bool
  | .var i, e => match e with
    | .Name x _ => decide (c.N[i]? = some x) && c.vis x && !dbg x
    | _ => false
  | .int i, e => match e with
    | .Constant (.int j) _ _ => !t && decide (i = j)
    | _ => false
  | .bl i, e => match e with
    | .Constant (.bool j) _ _ => decide (i = j)
    | _ => false
  | .non, e => match e with
    | .Constant .none _ _ => !t
    | _ => false
  | .str i, e => match e with
    | .Constant (.str j) _ _ => !t && decide (i = j)
    | _ => false
  | .cpow b k v, e => match e with
    | .BinOp (.Constant (.int b2) _ _) .Pow (.Constant (.int k2) _ _) _ => !t && decide (b2 = b) && decide (k2 = (k : Int)) && decide (b.natAbs < 2 ^ 64) && decide (k ≤ 1000000) && decide (b ^ k = v)
    | _ => false
  | .cpm b k c2 l v, e => match e with
    | .BinOp (.BinOp (.Constant (.int b2) _ _) .Pow (.Constant (.int k2) _ _) _) .Mult (.BinOp (.Constant (.int b3) _ _) .Pow (.Constant (.int k3) _ _) _) _ => !t && decide (b2 = b) && decide (k2 = (k : Int)) && decide (b3 = c2) && decide (k3 = (l : Int)) && decide (b.natAbs < 2 ^ 64) && decide (k ≤ 1000000) && decide (c2.natAbs < 2 ^ 64) && decide (l ≤ 1000000) && decide ((b ^ k).natAbs < 2 ^ 1024) && decide ((c2 ^ l).natAbs < 2 ^ 1024) && decide (b ^ k * c2 ^ l = v)
    | _ => false
  | .glob x d, e => match e with
    | .Name y _ => !t && decide (x = y) && (match c.consts.lookup x with
      | some d2 => D.beq d2 d
      | none => false) && c.gl x && !dbg x
    | _ => false
  | .dict0, e => match e with
    | .Dict [] [] _ => !t
    | .Call (.Name f _) [] [] _ => !t && decide (f = "dict") && c.gl f
    | _ => false
  | .lr1 _ a, e => match e with
    | .Call (.Name f _) [.Call (.Name g _) [x] [] _] [] _ => !t && decide (f = "list") && decide (g = "range") && c.gl f && c.gl g && nst x && chkE c false a x
    | _ => false
  | .lr2 _ a b, e => match e with
    | .Call (.Name f _) [.Call (.Name g _) [x, y] [] _] [] _ => !t && decide (f = "list") && decide (g = "range") && c.gl f && c.gl g && nst x && nst y && chkE c false a x && chkE c false b y
    | _ => false
  | .rev _ a, e => match e with
    | .Subscript x (.Slice none none (some (.UnaryOp .USub (.Constant (.int 1) _ _) _)) _) _ => !t && chkE c false a x
    | _ => false
  | .bin op a b, e => match e with
    | .BinOp x o y _ => !t && decide (op = o) && chkE c false a x && chkE c false b y
    | _ => false
  | .neg a, e => match e with
    | .UnaryOp .USub x _ => !t && chkE c false a x
    | _ => false
  | .not a, e => match e with
    | .UnaryOp .Not x _ => chkE c t a x
    | _ => false
  | .cmp op a b, e => match e with
    | .Compare x [o] [y] _ => decide (op = o) && nset y && chkE c false a x && chkE c false b y
    | _ => false
  | .cmp2 o1 o2 a b d, e => match e with
    | .Compare x [p1, p2] [y, z] _ => decide (o1 = p1) && decide (o2 = p2) && nset z && chkE c false a x && chkE c false b y && chkE c false d z
    | _ => false
  | .and a b, e => match e with
    | .BoolOp .And (x :: y :: []) pos => chkE c t a x && chkE c t b y
    | .BoolOp .And (x :: y :: z :: r) pos => chkE c t a x && chkE c t b (.BoolOp .And (y :: z :: r) pos)
    | _ => false
  | .or a b, e => match e with
    | .BoolOp .Or (x :: y :: []) pos => chkE c t a x && chkE c t b y
    | .BoolOp .Or (x :: y :: z :: r) pos => chkE c t a x && chkE c t b (.BoolOp .Or (y :: z :: r) pos)
    | _ => false
  | .ife k a b, e => match e with
    | .IfExp z x y _ => !t && chkE c true k z && chkE c false a x && chkE c false b y
    | _ => false
  | .tup es, e => match e with
    | .Tuple xs _ _ => !t && decide (es.length ≤ 1000) && nsts xs && chkEs c es xs
    | _ => false
  | .lst _ es, e => match e with
    | .List xs _ => !t && decide (es.length ≤ 1000) && nsts xs && chkEs c es xs
    | _ => false
  | .ix a b, e => match e with
    | .Subscript x y _ => nsl y && chkE c false a x && chkE c false b y
    | _ => false
  | .ixc a k, e => match e with
    | .Subscript x (.Constant (.int k2) _ _) _ => decide (k2 = (k : Int)) && chkE c false a x
    | _ => false
  | .sl _ a lo hi, e => match e with
    | .Subscript x (.Slice l u none _) _ => !t && chkE c false a x && chkO c lo l && chkO c hi u
    | _ => false
  | .call f es, e => match e with
    | .Call (.Name x _) xs [] _ => decide (c.fns.lookup x = some f) && c.gl x && !dbg x && nsts xs && chkEs c es xs
    | _ => false
  | .blt b es, e => match e with
    | .Call (.Name x _) (y :: ys) [] _ => decide (x = bltN b) && c.gl x && nsts (y :: ys) && chkEs c es (y :: ys)
    | _ => false
  | .exi a ns, e => match e with
    | .Call (.Name f _) [x, .Name y _] [] _ => decide (f = "isinstance") && c.ex && c.gl f && c.gl y && nst x && ((decide (ns = [y]) && exAll.contains y && !dbg y) || (decide (ns = [Str.ofString "ValueError"]) && decide (y = "ValueError"))) && chkE c false a x
    | .Call (.Name f _) [x, .Tuple [.Name y _, .Name z _] _ _] [] _ => decide (f = "isinstance") && c.ex && c.gl f && c.gl y && c.gl z && nst x && decide (ns = [y, z]) && exAll.contains y && exAll.contains z && !dbg y && !dbg z && chkE c false a x
    | _ => false
  | .isi a n, e => match e with
    | .Call (.Name f _) [x, .Name y _] [] _ => decide (f = "isinstance") && decide (y = clsN n) && isiT n && c.gl f && c.gl y && nst x && chkE c false a x
    | _ => false
  | .meth .append o [a], e => match e with
    | .Call (.Attribute x m ap) [y] [] cp => !t && decide (m = "append") && nst y && ncl x && (ap.endLine == cp.line) && chkE c false o x && chkE c false a y
    | _ => false
  | .meth .extend o [a], e => match e with
    | .Call (.Attribute x m ap) [y] [] cp => !t && decide (m = "extend") && nst y && ncl x && (ap.endLine == cp.line) && chkE c false o x && chkE c false a y
    | _ => false
  | .meth .pop o [], e => match e with
    | .Call (.Attribute x m ap) [] [] cp => !t && decide (m = "pop") && ncl x && (ap.endLine == cp.line) && chkE c false o x
    | _ => false
  | .meth .pop o [a], e => match e with
    | .Call (.Attribute x m ap) [y] [] cp => !t && decide (m = "pop") && nst y && ncl x && (ap.endLine == cp.line) && chkE c false o x && chkE c false a y
    | _ => false
  | .meth .insert o [a, b], e => match e with
    | .Call (.Attribute x m ap) [y, z] [] cp => !t && decide (m = "insert") && nst y && nst z && ncl x && (ap.endLine == cp.line) && chkE c false o x && chkE c false a y && chkE c false b z
    | _ => false
  | .meth _ _ _, _ => false
  | .lc _ el tg it cnd own, e => match e with
    | .ListComp elt [⟨t0, iter, ifs, as⟩] scope _ => !t && decide (as = 0) && nset iter && blkC c.N c.sc scope (c.own own) && (tIds tg).all (fun i => own.contains i) && chkI c it t0 iter && chkT (c.blk scope) tg t0 && chkE (c.blk scope) false el elt && chkC (c.blk scope) cnd ifs
    | _ => false
  | .fld n f o, e => match e with
    | .Attribute x g _ => decide (f = g) && c.flds.contains (n, f) && ncl x && chkE c false o x
    | _ => false
  | .mth g n m o es, e => match e with
    | .Call (.Attribute x m2 ap) xs [] cp => decide (m = m2) && decide (c.mths.lookup (n, m) = some g) && ncl x && (ap.endLine == cp.line) && nsts xs && decide (xs.length < 30) && chkE c false o x && chkEs c es xs
    | _ => false
  | .new g n es, e => match e with
    | .Call (.Name x _) (y :: ys) [] _ => !t && decide (x = n) && decide (c.clss.lookup n = some g) && c.gl n && !dbg n && nsts (y :: ys) && chkEs c es (y :: ys)
    | _ => false
  | .dct1 k v, e => match e with
    | .Dict [some x] [y] _ => !t && chkE c false k x && chkE c false v y
    | _ => false
  | .dctS ks es, e => match e with
    | .Dict xs ys _ => !t && xs.all (·.isSome) && decide (xs.length = ys.length) && !xs.isEmpty && decide (ks.length ≤ 15) && decide (xs.length ≤ 15) && chkDs c ks es xs ys
    | _ => false
  | .inD n k d, e => match e with
    | .Compare x [o] [y] _ => decide (o = if n then .NotIn else .In) && nset y && chkE c false k x && chkE c false d y
    | _ => false
  | .dkeys _ d, e => match e with
    | .Call (.Name f _) [x] [] _ => !t && decide (f = "list") && c.gl f && nst x && chkE c false d x
    | _ => false
  | .getD d k, e => match e with
    | .Subscript x y _ => !t && nsl y && chkE c false d x && chkE c false k y
    | _ => false
  | .getOr d k z, e => match e with
    | .Call (.Attribute x g ap) [y, w] [] cp => !t && decide (g = "get") && ncl x && nst y && nst w && (ap.endLine == cp.line) && chkE c false d x && chkE c false k y && chkE c false z w
    | _ => false
  | .sortK _ a i, e => match e with
    | .Call (.Name f _) [x] [⟨some kw, .Lambda params (.Tuple [.Subscript (.Name tn _) (.Name xn _) _, .Name xm _] _ _) scope _, _⟩] _ => !t && decide (f = "sorted") && decide (kw = "key") && decide (xm = xn) && c.lam && c.gl f && nst x && decide (c.N[i]? = some tn) && decide (c.sc.names.lookup tn = some .cell) && lamOk params scope tn xn && chkE c false a x
    | _ => false
  | .lset a, e => match e with
    | .Call (.Name f _) [.Call (.Name g _) [x] [] _] [] _ => !t && decide (f = "len") && decide (g = "set") && c.gl f && c.gl g && nst x && chkE c false a x
    | _ => false
  | .dctP a, e => match e with
    | .Call (.Name f _) [x] [] _ => !t && decide (f = "dict") && c.gl f && nst x && chkE c false a x
    | _ => false
  | .srtD _ a, e => match e with
    | .Call (.Name f _) [x] [] _ => !t && decide (f = "sorted") && c.gl f && nst x && chkE c false a x
    | _ => false
  | .cat _ a b, e => match e with
    | .BinOp x .Add y _ => !t && chkE c false a x && chkE c false b y
    | _ => false
  | .rep _ a b, e => match e with
    | .BinOp x .Mult y _ => !t && chkE c false a x && chkE c false b y
    | _ => false
  | .tr1 a, e => match e with
    | .Call (.Name f _) [.Call (.Name g _) [x] [] _] [] _ => !t && decide (f = "tuple") && decide (g = "range") && c.gl f && c.gl g && nst x && chkE c false a x
    | _ => false
  | .cnt a b, e => match e with
    | .Call (.Attribute x m ap) [y] [] cp => !t && decide (m = "count") && nst y && ncl x && (ap.endLine == cp.line) && chkE c false a x && chkE c false b y
    | _ => false
  | .join s a, e => match e with
    | .Call (.Attribute x g ap) [y] [] cp => !t && decide (g = "join") && ncl x && nst y && (ap.endLine == cp.line) && chkE c false s x && chkE c false a y
    | _ => false
  | .upper a, e => match e with
    | .Call (.Attribute x g ap) [] [] cp => !t && decide (g = "upper") && ncl x && (ap.endLine == cp.line) && chkE c false a x
    | _ => false
  | .splt _ a b, e => match e with
    | .Call (.Attribute x g ap) [y] [] cp => !t && decide (g = "split") && ncl x && nst y && (ap.endLine == cp.line) && chkE c false a x && chkE c false b y
    | _ => false
  | .intT a, e => match e with
    | .Call (.Name f _) [x] [] _ => !t && decide (f = "int") && c.gl f && nst x && chkE c false a x
    | _ => false
  | .lenT a, e => match e with
    | .Call (.Name f _) [x] [] _ => !t && decide (f = "len") && c.gl f && nst x && chkE c false a x
    | _ => false
  | .ixT a k, e => match e with
    | .Subscript x (.Constant (.int k2) _ _) _ => !t && decide (k2 = (k : Int)) && chkE c false a x
    | _ => false
  | .sgn n a b, e => match e with
    | .Compare x [o] [y] _ => !t && decide (o = if n then .NotIn else .In) && nset y && chkE c false a x && chkE c false b y
    | _ => false
  | .tab x kvs k, e => match e with
    | .Subscript (.Name y _) z _ => !t && decide (x = y) && nsl z && (match c.tabs.lookup x with
      | some kvs2 => tabEq kvs2 kvs
      | none => false) && c.gl x && !dbg x && chkE c false k z
    | _ => false
  | .inTab x kvs k, e => match e with
    | .Compare z [.In] [.Name y p] _ => !t && decide (x = y) && nset (.Name y p) && (match c.tabs.lookup x with
      | some kvs2 => tabEq kvs2 kvs
      | none => false) && c.gl x && !dbg x && chkE c false k z
    | _ => false
  | .callV i fs as, e => match e with
    | .Call (.Name x _) (y :: ys) [] _ => !t && (fs.all fun q => decide (c.fns.lookup q.1 = some q.2)) && decide (c.N[i]? = some x) && c.vis x && !dbg x && nsts (y :: ys) && chkEs c as (y :: ys)
    | _ => false
  | .few a b, e => match e with
    | .BinOp x .Mult y _ => !t && chkE c false a x && chkE c false b y
    | _ => false
  | .inM a b, e => match e with
    | .Compare x [.In] [y] _ => nset y && chkE c false a x && chkE c false b y
    | _ => false
  | .eqM a b, e => match e with
    | .Compare x [.Eq] [y] _ => !t && nset y && chkE c false a x && chkE c false b y
    | _ => false
  | .rvl _ a, e => match e with
    | .Call (.Name f _) [.Call (.Name g _) [x] [] _] [] _ => !t && decide (f = "list") && c.gl f && decide (g = "reversed") && c.gl g && nst x && chkE c false a x
    | _ => false
  | .repr a, e => match e with
    | .Call (.Name f _) [x] [] _ => !t && decide (f = "repr") && c.gl f && nst x && c.rp && chkE c false a x
    | _ => false
  | .rvt a, e => match e with
    | .Subscript x (.Slice none none (some (.UnaryOp .USub (.Constant (.int 1) _ _) _)) _) _ => !t && chkE c false a x
    | _ => false
  | .srtT _ a, e => match e with
    | .Call (.Name f _) [x] [] _ => !t && decide (f = "sorted") && c.gl f && nst x && chkE c false a x
    | _ => false
  | .dctPN a, e => match e with
    | .Call (.Name f _) [x] [] _ => !t && decide (f = "dict") && c.gl f && nst x && chkE c false a x
    | _ => false
  | .dkeysN _ d, e => match e with
    | .Call (.Name f _) [x] [] _ => !t && decide (f = "list") && c.gl f && nst x && chkE c false d x
    | _ => false
  | .srtN _ d, e => match e with
    | .Call (.Name f _) [x] [] _ => !t && decide (f = "sorted") && c.gl f && nst x && chkE c false d x
    | _ => false
  | .lenD n d, e => match e with
    | .Call (.Name f _) [x] [] _ => !t && n && decide (f = "len") && c.gl f && nst x && chkE c false d x
    | _ => false
  | .sortD _ a, e => match e with
    | .Call (.Name f _) [x] [] _ => !t && decide (f = "sorted") && c.gl f && nst x && chkE c false a x
    | _ => false
  | .dpop d k, e => match e with
    | .Call (.Attribute x g ap) [y] [] cp => !t && decide (g = "pop") && ncl x && nst y && (ap.endLine == cp.line) && chkE c false d x && chkE c false k y
    | _ => false
  | .dict0N, e => match e with
    | .Dict [] [] _ => !t
    | .Call (.Name f _) [] [] _ => !t && decide (f = "dict") && c.gl f
    | _ => false
  | .dct1N k v, e => match e with
    | .Dict [some x] [y] _ => !t && chkE c false k x && chkE c false v y
    | _ => false
  | .inN n k d, e => match e with
    | .Compare x [o] [y] _ => decide (o = if n then .NotIn else .In) && nset y && chkE c false k x && chkE c false d y
    | _ => false
  | .getN d k, e => match e with
    | .Subscript x y _ => !t && nsl y && chkE c false d x && chkE c false k y
    | _ => false
  | .getOrN d k z, e => match e with
    | .Call (.Attribute x g ap) [y, w] [] cp => !t && decide (g = "get") && ncl x && nst y && nst w && (ap.endLine == cp.line) && chkE c false d x && chkE c false k y && chkE c false z w
    | _ => false
  | .lockE a, e => !t && chkE c false a e
  | .frz a, e => !t && chkE c false a e
def chkEs (c : Ctx) : List E → List Expr → Bool
  | [], es => match es with
    | [] => true
    | _ => false
  | a :: as, es => match es with
    | x :: xs => nst x && chkE c false a x && chkEs c as xs
    | _ => false
/-- a display's pairs -/
def chkDs (c : Ctx) : List Str → List E → List (Option Expr) → List Expr → Bool
  | ks, [], xs, ys => match ks, xs, ys with
    | [], [], [] => true
    | _, _, _ => false
  | ks, a :: as, xs, ys => match ks, xs, ys with
    | k :: ks, some (.Constant (.str j) _ _) :: xs, y :: ys => decide (k = j) && chkE c false a y && chkDs c ks as xs ys
    | _, _, _ => false
def chkO (c : Ctx) : Option E → Option Expr → Bool
  | none, e => match e with
    | none => true
    | _ => false
  | some a, e => match e with
    | some x => chkE c false a x
    | _ => false
/-- a comprehension's tests -/
def chkC (c : Ctx) : Option E → List Expr → Bool
  | none, e => match e with
    | [] => true
    | _ => false
  | some a, e => match e with
    | [x] => chkE c true a x
    | _ => false
def chkI (c : Ctx) : I → Expr → Expr → Bool
  | .r1 a, _, e => match e with
    | .Call (.Name f _) [x] [] _ => decide (f = "range") && c.gl f && nst x && chkE c false a x
    | _ => false
  | .r2 a b, _, e => match e with
    | .Call (.Name f _) [x, y] [] _ => decide (f = "range") && c.gl f && nst x && nst y && chkE c false a x && chkE c false b y
    | _ => false
  | .seq a, _, e => chkE c false a e
  | .zip a b, tg, e => match tg, e with
    | .Tuple _ _ _, .Call (.Name f _) [x, y] [] _ => decide (f = "zip") && c.gl f && nst x && nst y && chkE c false a x && chkE c false b y
    | _, _ => false
  | .zipX a b, tg, e => match tg, e with
    | .Tuple _ _ _, .Call (.Name f _) [x, y] [] _ => decide (f = "zip") && c.gl f && nst x && nst y && chkE c false a x && chkE c false b y
    | _, _ => false
  | .zip3 a b d, tg, e => match tg, e with
    | .Tuple _ _ _, .Call (.Name f _) [x, y, z] [] _ => decide (f = "zip") && c.gl f && nst x && nst y && nst z && chkE c false a x && chkE c false b y && chkE c false d z
    | _, _ => false
  | .dwk w d, tg, e => match w with
    | .keys => chkE c false d e
    | .items => match tg, e with
      | .Tuple _ _ _, .Call (.Attribute x g ap) [] [] cp => decide (g = "items") && ncl x && (ap.endLine == cp.line) && chkE c false d x
      | _, _ => false
  | .chars a, _, e => chkE c false a e
  | .enum a, tg, e => match tg, e with
    | .Tuple _ _ _, .Call (.Name f _) [x] [] _ => decide (f = "enumerate") && c.gl f && nst x && chkE c false a x
    | _, _ => false
end

mutual
theorem beq_D : ∀ a b : D, D.beq a b = true → a = b
  | .non, b, h => by cases b <;> first | rfl | exact nomatch h
  | .bl x, b, h => by
    cases b with
    | bl y => have : (x == y) = true := h; rw [eq_of_beq this]
    | _ => exact nomatch h
  | .int x, b, h => by
    cases b with
    | int y => rw [of_decide_eq_true (show decide (x = y) = true from h)]
    | _ => exact nomatch h
  | .str x, b, h => by
    cases b with
    | str y => rw [of_decide_eq_true (show decide (x = y) = true from h)]
    | _ => exact nomatch h
  | .tup x, b, h => by
    cases b with
    | tup y => rw [beqs_D x y h]
    | _ => exact nomatch h
  | .lst _, b, h => by cases b <;> exact nomatch h
  | .lsk _, b, h => by cases b <;> exact nomatch h
  | .ref _, b, h => by cases b <;> exact nomatch h
  | .ty x, b, h => by
    cases b with
    | ty y => rw [of_decide_eq_true (show decide (x = y) = true from h)]
    | _ => exact nomatch h
theorem beqs_D : ∀ a b : List D, D.beqs a b = true → a = b
  | [], [], _ => rfl
  | [], _ :: _, h => nomatch h
  | _ :: _, [], h => nomatch h
  | x :: xs, y :: ys, h => by
    have h : (D.beq x y && D.beqs xs ys) = true := h
    rw [Bool.and_eq_true] at h
    rw [beq_D x y h.1, beqs_D xs ys h.2]
end
theorem tabEq_ok : ∀ {a b : List (Str × D)}, tabEq a b = true → a = b
  | [], [], _ => rfl
  | [], _ :: _, h => nomatch h
  | _ :: _, [], h => nomatch h
  | (k, d) :: r, (j, e) :: s, h => by
    have h : (decide (k = j) && D.beq d e && tabEq r s) = true := h
    simp only [Bool.and_eq_true, decide_eq_true_eq] at h
    rw [h.1.1, beq_D d e h.1.2, tabEq_ok h.2]
section
variable {cs : CS}
mutual
theorem sndG : ∀ (t : T) (tg : Expr) {X : Cx} {c : Ctx}, COk X c cs → chkT c t tg = true → SndG X t tg
  | .nm i, tg, X, c, O, h => by
    cases tg
    case Name x p =>
      have h : (decide (c.N[i]? = some x) && c.loc x && c.ok x) = true := h
      simp only [Bool.and_eq_true, decide_eq_true_eq] at h
      exact sG_name O h.1.1 h.1.2 h.2
    all_goals exact nomatch (show false = true from h)
  | .tup ts, tg, X, c, O, h => by
    cases tg
    case Tuple es k p =>
      have h : (nsts es && decide (ts.length = es.length) && chkTs c ts es) = true := h
      simp only [Bool.and_eq_true, decide_eq_true_eq] at h
      exact sG_tup O h.1.1 h.1.2 (sndGs ts es O h.2)
    all_goals exact nomatch (show false = true from h)
theorem sndGs : ∀ (ts : List T) (tgs : List Expr) {X : Cx} {c : Ctx}, COk X c cs → chkTs c ts tgs = true → SndGs X ts tgs
  | [], tgs, X, c, O, h => by
    cases tgs with
    | nil => exact sGs_nil
    | cons _ _ => exact nomatch (show false = true from h)
  | t :: ts, tgs, X, c, O, h => by
    cases tgs with
    | nil => exact nomatch (show false = true from h)
    | cons e r =>
      have h : (nst e && chkT c t e && chkTs c ts r) = true := h
      simp only [Bool.and_eq_true] at h
      exact sGs_cons h.1.1 (sndG t e O h.1.2) (sndGs ts r O h.2)
end
theorem sndJ : ∀ (t : T) (tg : Expr) {X : Cx} {c : Ctx}, COk X c cs → chkT c t tg = true → SndJ X t tg
  | .nm i, tg, X, c, O, h => sJ_name (sndG (.nm i) tg O h)
  | .tup ts, tg, X, c, O, h => by
    cases tg
    case Tuple es k p =>
      have h : (nsts es && decide (ts.length = es.length) && chkTs c ts es) = true := h
      simp only [Bool.and_eq_true, decide_eq_true_eq] at h
      exact sJ_tup O h.1.1 h.1.2 (sndGs ts es O h.2)
    all_goals exact nomatch (show false = true from h)
theorem isi_facts {n : String} (h : isiT n = true) : bootBuiltins (clsN n) = some (.type n) ∧ clsN n ∈ bltAll ∧ clsN n ≠ "__name__" ∧ (clsN n == ("__debug__" : Str)) = false := by
  have hn2 : n ∈ ["int", "bool", "str", "tuple", "list", "dict"] := List.contains_iff_mem.mp h
  simp only [List.mem_cons, List.not_mem_nil, or_false] at hn2
  rcases hn2 with rfl | rfl | rfl | rfl | rfl | rfl <;> exact ⟨by decide +kernel, by decide +kernel, by decide +kernel, by decide +kernel⟩
/-- both ways of an expression -/
def Snd (X : Cx) (cs : CS) (t : Bool) (ir : E) (e : Expr) : Prop := match t with
  | false => SndE X cs ir e
  | true => SndT X cs ir e
theorem wTru_bl {b : Bool} {S : Sto} {Q : Bool → Sto → Prop} (h : Q b S) : wTru (.bl b) S Q := by
  unfold wTru
  exact wOpt_s rfl h
theorem wTru_eq {b : Bool} {S : Sto} {Q : Bool → Sto → Prop} : wTru (.bl b) S Q = Q b S := by
  unfold wTru wOpt
  rfl
theorem wE_isi {a : E} {n : String} {env : En} {S : Sto} {Q : Bool → Sto → Prop} (h : wT cs EX0 (.isi a n) env S Q) : wE cs EX0 (.isi a n) env S fun z S1 => wTru z S1 Q := by
  have h2 : wE cs EX0 a env S fun x S1 => wOpt (tyD x S1) fun t => Q (isiD t n) S1 := h
  show wE cs EX0 a env S fun x S1 => wOpt (tyD x S1) fun t => wTru (.bl (isiD t n)) S1 Q
  have e : (fun (x : Z.D) (S1 : Sto) => wOpt (tyD x S1) fun t => wTru (.bl (isiD t n)) S1 Q) = fun x S1 => wOpt (tyD x S1) fun t => Q (isiD t n) S1 := by
    funext x S1
    congr
    funext t
    exact wTru_eq
  rw [e]
  exact h2
theorem wE_exi {a : E} {ns : List Str} {env : En} {S : Sto} {Q : Bool → Sto → Prop} (h : wT cs EX0 (.exi a ns) env S Q) : wE cs EX0 (.exi a ns) env S fun z S1 => wTru z S1 Q := by
  have h2 : wE cs EX0 a env S fun x S1 => wOpt (excAt S1 x) fun o => Q (exiB ns o) S1 := h
  show wE cs EX0 a env S fun x S1 => wOpt (excAt S1 x) fun o => wTru (.bl (exiB ns o)) S1 Q
  have e : (fun (x : Z.D) (S1 : Sto) => wOpt (excAt S1 x) fun o => wTru (.bl (exiB ns o)) S1 Q) = fun x S1 => wOpt (excAt S1 x) fun o => Q (exiB ns o) S1 := by
    funext x S1
    congr
    funext t
    exact wTru_eq
  rw [e]
  exact h2
theorem own_snd (c : Ctx) (own : List Nat) : (c.own own).map (·.2) = own := by
  unfold Ctx.own
  rw [List.map_map]
  exact List.map_id _
theorem own_all {t : T} {own : List Nat} (h : ((tIds t).all fun i => own.contains i) = true) : ∀ i ∈ tIds t, i ∈ own := fun i hi => List.contains_iff_mem.mp (List.all_eq_true.mp h i hi)
mutual
theorem snd : ∀ (ir : E) (e : Expr) {X : Cx} {c : Ctx} {t : Bool}, COk X c cs → chkE c t ir e = true → Snd X cs t ir e
  | .var i, e, X, c, t, O, h => by
    cases e
    case Name x p =>
      have h : (decide (c.N[i]? = some x) && c.vis x && !dbg x) = true := h
      simp only [Bool.and_eq_true, decide_eq_true_eq, Bool.not_eq_true'] at h
      have q := sE_var (cs := cs) (pos := p) O h.1.1 h.1.2 h.2
      cases t with
      | false => exact q
      | true => exact sT_val rfl (fun _ _ _ h => h) q
    all_goals exact nomatch (show false = true from h)
  | .int i, e, X, c, t, O, h => by
    cases e
    case Constant v k p =>
      cases v
      case int j =>
        have h : (!t && decide (i = j)) = true := h
        simp only [Bool.and_eq_true, decide_eq_true_eq, Bool.not_eq_true'] at h
        obtain ⟨rfl, rfl⟩ := h
        exact sE_int
      all_goals exact nomatch (show false = true from h)
    all_goals exact nomatch (show false = true from h)
  | .bl i, e, X, c, t, O, h => by
    cases e
    case Constant v k p =>
      cases v
      case bool j =>
        have h : decide (i = j) = true := h
        obtain rfl := of_decide_eq_true h
        cases t with
        | false => exact sE_bl
        | true => exact sT_val rfl (fun _ _ _ h => wTru_bl h) sE_bl
      all_goals exact nomatch (show false = true from h)
    all_goals exact nomatch (show false = true from h)
  | .non, e, X, c, t, O, h => by
    cases e
    case Constant v k p =>
      cases v
      case none =>
        have h : (!t) = true := h
        simp only [Bool.not_eq_true'] at h
        subst h
        exact sE_non
      all_goals exact nomatch (show false = true from h)
    all_goals exact nomatch (show false = true from h)
  | .str i, e, X, c, t, O, h => by
    cases e
    case Constant v k p =>
      cases v
      case str j =>
        have h : (!t && decide (i = j)) = true := h
        simp only [Bool.and_eq_true, decide_eq_true_eq, Bool.not_eq_true'] at h
        obtain ⟨rfl, rfl⟩ := h
        exact sE_str
      all_goals exact nomatch (show false = true from h)
    all_goals exact nomatch (show false = true from h)
  | .cpow b k v, e, X, c, t, O, h => by
    unfold chkE at h
    split at h
    · simp only [Bool.and_eq_true, decide_eq_true_eq, Bool.not_eq_true'] at h
      obtain ⟨⟨⟨⟨⟨rfl, rfl⟩, rfl⟩, h1⟩, h2⟩, h3⟩ := h
      exact sE_cpow h1 h2 h3
    · exact nomatch h
  | .cpm b k c2 l v, e, X, c, t, O, h => by
    unfold chkE at h
    split at h
    · simp only [Bool.and_eq_true, decide_eq_true_eq, Bool.not_eq_true'] at h
      obtain ⟨⟨⟨⟨⟨⟨⟨⟨⟨⟨⟨rfl, rfl⟩, rfl⟩, rfl⟩, rfl⟩, h1⟩, h2⟩, h3⟩, h4⟩, h5⟩, h6⟩, h7⟩ := h
      exact sE_cpm h1 h2 h3 h4 h5 h6 h7
    · exact nomatch h
  | .glob x d, e, X, c, t, O, h => by
    unfold chkE at h
    split at h
    · rename_i y p
      simp only [Bool.and_eq_true, decide_eq_true_eq, Bool.not_eq_true'] at h
      obtain ⟨⟨⟨⟨rfl, rfl⟩, h1⟩, h2⟩, h3⟩ := h
      split at h1
      · rename_i d2 e2
        rw [beq_D _ _ h1] at e2
        exact sE_glob O e2 h2 h3
      · cases h1
    · exact nomatch h
  | .dict0, e, X, c, t, O, h => by
    unfold chkE at h
    split at h
    · simp only [Bool.not_eq_true'] at h
      subst h
      exact sE_dict0
    · simp only [Bool.and_eq_true, decide_eq_true_eq, Bool.not_eq_true'] at h
      obtain ⟨⟨rfl, rfl⟩, h1⟩ := h
      exact sE_dict0K O h1
    · exact nomatch h
  | .lr1 m a, e, X, c, t, O, h => by
    unfold chkE at h
    split at h
    · simp only [Bool.and_eq_true, decide_eq_true_eq, Bool.not_eq_true'] at h
      obtain ⟨⟨⟨⟨⟨⟨rfl, rfl⟩, rfl⟩, h1⟩, h2⟩, h3⟩, h4⟩ := h
      exact sE_lr1 O h1 h2 h3 (snd a _ (t := false) O h4)
    · exact nomatch h
  | .lr2 m a b, e, X, c, t, O, h => by
    unfold chkE at h
    split at h
    · simp only [Bool.and_eq_true, decide_eq_true_eq, Bool.not_eq_true'] at h
      obtain ⟨⟨⟨⟨⟨⟨⟨⟨rfl, rfl⟩, rfl⟩, h1⟩, h2⟩, h3⟩, h4⟩, h5⟩, h6⟩ := h
      exact sE_lr2 O h1 h2 h3 h4 (snd a _ (t := false) O h5) (snd b _ (t := false) O h6)
    · exact nomatch h
  | .rev m a, e, X, c, t, O, h => by
    unfold chkE at h
    split at h
    · simp only [Bool.and_eq_true, Bool.not_eq_true'] at h
      obtain ⟨rfl, h1⟩ := h
      exact sE_rev (snd a _ (t := false) O h1)
    · exact nomatch h
  | .bin op a b, e, X, c, t, O, h => by
    cases e
    case BinOp x o y p =>
      have h : (!t && decide (op = o) && chkE c false a x && chkE c false b y) = true := h
      simp only [Bool.and_eq_true, decide_eq_true_eq, Bool.not_eq_true'] at h
      obtain ⟨⟨⟨rfl, rfl⟩, h1⟩, h2⟩ := h
      exact sE_bin O (snd a x (t := false) O h1) (snd b y (t := false) O h2)
    all_goals exact nomatch (show false = true from h)
  | .neg a, e, X, c, t, O, h => by
    unfold chkE at h
    split at h
    · simp only [Bool.and_eq_true, decide_eq_true_eq, Bool.not_eq_true'] at h
      obtain ⟨rfl, h1⟩ := h
      exact sE_neg (snd a _ (t := false) O h1)
    · exact nomatch h
  | .not a, e, X, c, t, O, h => by
    unfold chkE at h
    split at h
    · have q := snd a _ O h
      cases t with
      | false => exact sE_not q
      | true => exact sT_not q
    · exact nomatch h
  | .cmp op a b, e, X, c, t, O, h => by
    unfold chkE at h
    split at h
    · simp only [Bool.and_eq_true, decide_eq_true_eq, Bool.not_eq_true'] at h
      obtain ⟨⟨⟨rfl, h0⟩, h1⟩, h2⟩ := h
      cases t with
      | false => exact sE_cmp O (snd a _ (t := false) O h1) (snd b _ (t := false) O h2) h0
      | true => exact sT_cmp O (snd a _ (t := false) O h1) (snd b _ (t := false) O h2) h0
    · exact nomatch h
  | .cmp2 o1 o2 a b d, e, X, c, t, O, h => by
    unfold chkE at h
    split at h
    · simp only [Bool.and_eq_true, decide_eq_true_eq, Bool.not_eq_true'] at h
      obtain ⟨⟨⟨⟨⟨rfl, rfl⟩, h0⟩, h1⟩, h2⟩, h3⟩ := h
      cases t with
      | false => exact sE_cmp2 O (snd a _ (t := false) O h1) (snd b _ (t := false) O h2) (snd d _ (t := false) O h3) h0
      | true => exact sT_cmp2 O (snd a _ (t := false) O h1) (snd b _ (t := false) O h2) (snd d _ (t := false) O h3) h0
    · exact nomatch h
  | .and a b, e, X, c, t, O, h => by
    unfold chkE at h
    split at h
    · simp only [Bool.and_eq_true] at h
      have q1 := snd a _ O h.1
      have q2 := snd b _ O h.2
      cases t with
      | false => exact sE_and q1 (sE_one q2)
      | true => exact sT_and q1 (sT_one1 q2)
    · simp only [Bool.and_eq_true] at h
      have q1 := snd a _ O h.1
      have q2 := snd b _ O h.2
      cases t with
      | false => exact sE_and q1 q2
      | true => exact sT_and q1 q2
    · exact nomatch h
  | .or a b, e, X, c, t, O, h => by
    unfold chkE at h
    split at h
    · simp only [Bool.and_eq_true] at h
      have q1 := snd a _ O h.1
      have q2 := snd b _ O h.2
      cases t with
      | false => exact sE_or q1 (sE_one q2)
      | true => exact sT_or q1 (sT_one2 q2)
    · simp only [Bool.and_eq_true] at h
      have q1 := snd a _ O h.1
      have q2 := snd b _ O h.2
      cases t with
      | false => exact sE_or q1 q2
      | true => exact sT_or q1 q2
    · exact nomatch h
  | .ife k a b, e, X, c, t, O, h => by
    cases e
    case IfExp z x y p =>
      have h : (!t && chkE c true k z && chkE c false a x && chkE c false b y) = true := h
      simp only [Bool.and_eq_true, Bool.not_eq_true'] at h
      obtain ⟨⟨⟨rfl, h1⟩, h2⟩, h3⟩ := h
      exact sE_ife (snd k z (t := true) O h1) (snd a x (t := false) O h2) (snd b y (t := false) O h3)
    all_goals exact nomatch (show false = true from h)
  | .tup es, e, X, c, t, O, h => by
    cases e
    case Tuple xs k p =>
      have h : (!t && decide (es.length ≤ 1000) && nsts xs && chkEs c es xs) = true := h
      simp only [Bool.and_eq_true, decide_eq_true_eq, Bool.not_eq_true'] at h
      obtain ⟨⟨⟨rfl, h1⟩, h2⟩, h3⟩ := h
      exact sE_tup h1 (sndA es xs O h3)
    all_goals exact nomatch (show false = true from h)
  | .lst m es, e, X, c, t, O, h => by
    cases e
    case List xs p =>
      have h : (!t && decide (es.length ≤ 1000) && nsts xs && chkEs c es xs) = true := h
      simp only [Bool.and_eq_true, decide_eq_true_eq, Bool.not_eq_true'] at h
      obtain ⟨⟨⟨rfl, h1⟩, h2⟩, h3⟩ := h
      exact sE_lst h1 (sndA es xs O h3)
    all_goals exact nomatch (show false = true from h)
  | .ix a b, e, X, c, t, O, h => by
    cases e
    case Subscript x y p =>
      have h : (nsl y && chkE c false a x && chkE c false b y) = true := h
      simp only [Bool.and_eq_true] at h
      have q := sE_ix (pos := p) h.1.1 (snd a x (t := false) O h.1.2) (snd b y (t := false) O h.2)
      cases t with
      | false => exact q
      | true => exact sT_val rfl (fun _ _ _ h => h) q
    all_goals exact nomatch (show false = true from h)
  | .ixc a k, e, X, c, t, O, h => by
    unfold chkE at h
    split at h
    · rename_i x k2 n p2 p
      simp only [Bool.and_eq_true, decide_eq_true_eq] at h
      obtain ⟨rfl, h1⟩ := h
      have q := sE_ixc (k := k) (n := n) (p2 := p2) (pos := p) (snd a x (t := false) O h1)
      cases t with
      | false => exact q
      | true => exact sT_val rfl (fun _ _ _ h => h) q
    · exact nomatch h
  | .sl m a lo hi, e, X, c, t, O, h => by
    unfold chkE at h
    split at h
    · simp only [Bool.and_eq_true, Bool.not_eq_true'] at h
      obtain ⟨⟨⟨rfl, h1⟩, h2⟩, h3⟩ := h
      exact sE_sl (snd a _ (t := false) O h1) (sndO lo _ O h2) (sndO hi _ O h3)
    · exact nomatch h
  | .call f es, e, X, c, t, O, h => by
    unfold chkE at h
    split at h
    · rename_i x p xs pos
      simp only [Bool.and_eq_true, decide_eq_true_eq, Bool.not_eq_true'] at h
      obtain ⟨⟨⟨⟨h1, h2⟩, h3⟩, h4⟩, h5⟩ := h
      have q : SndE X cs (.call f es) (.Call (.Name x p) xs [] pos) := by
        cases xs with
        | nil =>
          cases es with
          | nil => exact sE_call0 O h1 h2 h3
          | cons _ _ => exact nomatch (show false = true from h5)
        | cons y ys => exact sE_call O h1 h2 h3 h4 (sndA es _ O h5)
      cases t with
      | false => exact q
      | true => exact sT_val rfl (fun _ _ _ h => h) q
    · exact nomatch h
  | .blt b es, e, X, c, t, O, h => by
    unfold chkE at h
    split at h
    · rename_i x p y ys pos
      simp only [Bool.and_eq_true, decide_eq_true_eq] at h
      obtain ⟨⟨⟨h1, h2⟩, h3⟩, h4⟩ := h
      have q := sE_blt (p := p) (pos := pos) O h1 h2 h3 (sndA es _ O h4)
      cases t with
      | false => exact q
      | true => exact sT_val rfl (fun _ _ _ h => h) q
    · exact nomatch h
  | .exi a ns, e, X, c, t, O, h => by
    unfold chkE at h
    split at h
    · simp only [Bool.and_eq_true, decide_eq_true_eq, Bool.or_eq_true, Bool.not_eq_true'] at h
      obtain ⟨⟨⟨⟨⟨⟨rfl, h1⟩, h2⟩, h3⟩, h4⟩, h5⟩, h6⟩ := h
      have A := snd a _ (t := false) O h6
      rcases h5 with ⟨⟨rfl, h7⟩, h8⟩ | ⟨rfl, rfl⟩
      · cases t with
        | false => exact sE_exi O h1 (List.contains_iff_mem.mp h7) h2 h3 h8 h4 A
        | true => exact sT_val rfl (fun _ _ _ h => wE_exi h) (sE_exi O h1 (List.contains_iff_mem.mp h7) h2 h3 h8 h4 A)
      · cases t with
        | false => exact sE_exiV O h1 h2 h3 h4 A
        | true => exact sT_val rfl (fun _ _ _ h => wE_exi h) (sE_exiV O h1 h2 h3 h4 A)
    · simp only [Bool.and_eq_true, decide_eq_true_eq, Bool.not_eq_true'] at h
      obtain ⟨⟨⟨⟨⟨⟨⟨⟨⟨⟨⟨rfl, h1⟩, h2⟩, h3⟩, h4⟩, h5⟩, rfl⟩, h7⟩, h8⟩, h9⟩, h10⟩, h6⟩ := h
      cases t with
      | false => exact sE_exi2 O h1 (List.contains_iff_mem.mp h7) (List.contains_iff_mem.mp h8) h2 h3 h4 h9 h10 h5 (snd a _ (t := false) O h6)
      | true => exact sT_val rfl (fun _ _ _ h => wE_exi h) (sE_exi2 O h1 (List.contains_iff_mem.mp h7) (List.contains_iff_mem.mp h8) h2 h3 h4 h9 h10 h5 (snd a _ (t := false) O h6))
    · exact nomatch h
  | .isi a n, e, X, c, t, O, h => by
    unfold chkE at h
    split at h
    · rename_i f p x y p2 pos
      simp only [Bool.and_eq_true, decide_eq_true_eq] at h
      obtain ⟨⟨⟨⟨⟨⟨rfl, rfl⟩, h1⟩, h2⟩, h3⟩, h4⟩, h5⟩ := h
      obtain ⟨f1, f2, f3, f4⟩ := isi_facts h1
      have q := sE_isi (p := p) (p2 := p2) (pos := pos) O rfl f1 f2 f3 f4 h1 h2 h3 h4 (snd a x (t := false) O h5)
      cases t with
      | false => exact q
      | true => exact sT_val rfl (fun _ _ _ h => wE_isi h) q
    · exact nomatch h
  | .meth m o as, e, X, c, t, O, h => by
    cases m with
    | insert =>
      cases as with
      | nil => exact nomatch (show false = true from h)
      | cons a r =>
        cases r with
        | nil => exact nomatch (show false = true from h)
        | cons b r =>
          cases r with
          | cons _ _ => exact nomatch (show false = true from h)
          | nil =>
            unfold chkE at h
            split at h
            · simp only [Bool.and_eq_true, decide_eq_true_eq, Bool.not_eq_true'] at h
              obtain ⟨⟨⟨⟨⟨⟨⟨⟨rfl, rfl⟩, h1⟩, h2⟩, h3⟩, h4⟩, h5⟩, h6⟩, h7⟩ := h
              exact sE_ins h1 h2 h3 h4 (snd o _ (t := false) O h5) (snd a _ (t := false) O h6) (snd b _ (t := false) O h7)
            · exact nomatch h
    | append =>
      cases as with
      | nil => exact nomatch (show false = true from h)
      | cons a r =>
        cases r with
        | cons _ _ => exact nomatch (show false = true from h)
        | nil =>
          unfold chkE at h
          split at h
          · simp only [Bool.and_eq_true, decide_eq_true_eq, Bool.not_eq_true'] at h
            obtain ⟨⟨⟨⟨⟨⟨rfl, rfl⟩, h1⟩, h2⟩, h3⟩, h4⟩, h5⟩ := h
            exact sE_app h1 h2 h3 (snd o _ (t := false) O h4) (snd a _ (t := false) O h5)
          · exact nomatch h
    | extend =>
      cases as with
      | nil => exact nomatch (show false = true from h)
      | cons a r =>
        cases r with
        | cons _ _ => exact nomatch (show false = true from h)
        | nil =>
          unfold chkE at h
          split at h
          · simp only [Bool.and_eq_true, decide_eq_true_eq, Bool.not_eq_true'] at h
            obtain ⟨⟨⟨⟨⟨⟨rfl, rfl⟩, h1⟩, h2⟩, h3⟩, h4⟩, h5⟩ := h
            exact sE_ext h1 h2 h3 (snd o _ (t := false) O h4) (snd a _ (t := false) O h5)
          · exact nomatch h
    | pop =>
      cases as with
      | cons a r =>
        cases r with
        | cons _ _ => exact nomatch (show false = true from h)
        | nil =>
          unfold chkE at h
          split at h
          · simp only [Bool.and_eq_true, decide_eq_true_eq, Bool.not_eq_true'] at h
            obtain ⟨⟨⟨⟨⟨⟨rfl, rfl⟩, h1⟩, h2⟩, h3⟩, h4⟩, h5⟩ := h
            exact sE_popAt h1 h2 h3 (snd o _ (t := false) O h4) (snd a _ (t := false) O h5)
          · exact nomatch h
      | nil =>
        unfold chkE at h
        split at h
        · simp only [Bool.and_eq_true, decide_eq_true_eq, Bool.not_eq_true'] at h
          obtain ⟨⟨⟨⟨rfl, rfl⟩, h1⟩, h2⟩, h4⟩ := h
          exact sE_pop h1 h2 (snd o _ (t := false) O h4)
        · exact nomatch h
  | .lc m el tg it cnd own, e, X, c, t, O, h => by
    unfold chkE at h
    split at h
    · simp only [Bool.and_eq_true, decide_eq_true_eq, Bool.not_eq_true'] at h
      obtain ⟨⟨⟨⟨⟨⟨⟨⟨rfl, rfl⟩, h1⟩, h2⟩, h3⟩, h4⟩, h5⟩, h6⟩, h7⟩ := h
      exact sE_lc O (own_snd c own) h1 h2 (own_all h3) (sndI it _ _ O h4) (fun {X'} _ O' => sndG tg _ O' h5) (fun {X'} _ O' => snd el _ (t := false) O' h6) (sndC cnd _ X.K h7)
    · exact nomatch h
  | .fld n f o, e, X, c, t, O, h => by
    unfold chkE at h
    split at h
    · simp only [Bool.and_eq_true, decide_eq_true_eq] at h
      obtain ⟨⟨⟨rfl, h1⟩, h2⟩, h3⟩ := h
      have q := sE_fld (pos := ‹_›) O h1 h2 (snd o _ (t := false) O h3)
      cases t with
      | false => exact q
      | true => exact sT_val rfl (fun _ _ _ h => h) q
    · exact nomatch h
  | .mth g n m o es, e, X, c, t, O, h => by
    unfold chkE at h
    split at h
    · rename_i x m2 ap xs cp
      simp only [Bool.and_eq_true, decide_eq_true_eq] at h
      obtain ⟨⟨⟨⟨⟨⟨⟨rfl, h1⟩, h2⟩, h3⟩, h4⟩, h5⟩, h6⟩, h7⟩ := h
      have q : SndE X cs (.mth g n m o es) (.Call (.Attribute x m ap) xs [] cp) := by
        cases xs with
        | nil =>
          cases es with
          | nil => exact sE_mth0 O h1 h2 h3 (snd o _ (t := false) O h6)
          | cons _ _ => exact nomatch h7
        | cons y ys => exact sE_mth O h1 h2 h4 h3 h5 (snd o _ (t := false) O h6) (sndA es _ O h7)
      cases t with
      | false => exact q
      | true => exact sT_val rfl (fun _ _ _ h => h) q
    · exact nomatch h
  | .new g n es, e, X, c, t, O, h => by
    unfold chkE at h
    split at h
    · simp only [Bool.and_eq_true, decide_eq_true_eq, Bool.not_eq_true'] at h
      obtain ⟨⟨⟨⟨⟨⟨rfl, rfl⟩, h1⟩, h2⟩, h3⟩, h4⟩, h5⟩ := h
      exact sE_new O h1 h2 h3 h4 (sndA es _ O h5)
    · exact nomatch h
  | .dct1 k v, e, X, c, t, O, h => by
    unfold chkE at h
    split at h
    · simp only [Bool.and_eq_true, Bool.not_eq_true'] at h
      obtain ⟨⟨rfl, h1⟩, h2⟩ := h
      exact sE_dct1 (snd k _ (t := false) O h1) (snd v _ (t := false) O h2)
    · exact nomatch h
  | .dctS ks es, e, X, c, t, O, h => by
    unfold chkE at h
    split at h
    · simp only [Bool.and_eq_true, decide_eq_true_eq, Bool.not_eq_true'] at h
      obtain ⟨⟨⟨⟨⟨⟨rfl, h1⟩, h2⟩, h3⟩, h4⟩, h5⟩, h6⟩ := h
      exact sE_dctS (sndDs es _ _ _ _ O h6) h1 h2 (fun z => by rw [z] at h3; exact nomatch h3) h4 h5
    · exact nomatch h
  | .inD n k d, e, X, c, t, O, h => by
    unfold chkE at h
    split at h
    · simp only [Bool.and_eq_true, decide_eq_true_eq] at h
      obtain ⟨⟨⟨rfl, h1⟩, h2⟩, h3⟩ := h
      cases t with
      | false => exact sE_inD O h1 (snd k _ (t := false) O h2) (snd d _ (t := false) O h3)
      | true => exact sT_inD O h1 (snd k _ (t := false) O h2) (snd d _ (t := false) O h3)
    · exact nomatch h
  | .dkeys m d, e, X, c, t, O, h => by
    unfold chkE at h
    split at h
    · simp only [Bool.and_eq_true, decide_eq_true_eq, Bool.not_eq_true'] at h
      obtain ⟨⟨⟨⟨rfl, rfl⟩, h1⟩, h2⟩, h3⟩ := h
      exact sE_dkeys O h1 h2 (snd d _ (t := false) O h3)
    · exact nomatch h
  | .getD d k, e, X, c, t, O, h => by
    unfold chkE at h
    split at h
    · simp only [Bool.and_eq_true, Bool.not_eq_true'] at h
      obtain ⟨⟨⟨rfl, h1⟩, h2⟩, h3⟩ := h
      exact sE_getD O h1 (snd d _ (t := false) O h2) (snd k _ (t := false) O h3)
    · exact nomatch h
  | .getOr d k z, e, X, c, t, O, h => by
    unfold chkE at h
    split at h
    · simp only [Bool.and_eq_true, decide_eq_true_eq, Bool.not_eq_true'] at h
      obtain ⟨⟨⟨⟨⟨⟨⟨⟨rfl, rfl⟩, h1⟩, h2⟩, h3⟩, h4⟩, h5⟩, h6⟩, h7⟩ := h
      exact sE_getOr O h1 h2 h3 h4 (snd d _ (t := false) O h5) (snd k _ (t := false) O h6) (snd z _ (t := false) O h7)
    · exact nomatch h
  | .sortK m a i, e, X, c, t, O, h => by
    unfold chkE at h
    split at h
    · simp only [Bool.and_eq_true, decide_eq_true_eq, Bool.not_eq_true'] at h
      obtain ⟨⟨⟨⟨⟨⟨⟨⟨⟨⟨rfl, rfl⟩, rfl⟩, rfl⟩, h1⟩, h2⟩, h3⟩, h4⟩, h5⟩, h6⟩, h7⟩ := h
      exact sE_sortK O h1 h2 h3 h4 h5 h6 (snd a _ (t := false) O h7)
    · exact nomatch h
  | .lset a, e, X, c, t, O, h => by
    unfold chkE at h
    split at h
    · simp only [Bool.and_eq_true, decide_eq_true_eq, Bool.not_eq_true'] at h
      obtain ⟨⟨⟨⟨⟨⟨rfl, rfl⟩, rfl⟩, h1⟩, h2⟩, h3⟩, h4⟩ := h
      exact sE_lset O h1 h2 h3 (snd a _ (t := false) O h4)
    · exact nomatch h
  | .dctP a, e, X, c, t, O, h => by
    unfold chkE at h
    split at h
    · simp only [Bool.and_eq_true, decide_eq_true_eq, Bool.not_eq_true'] at h
      obtain ⟨⟨⟨⟨rfl, rfl⟩, h1⟩, h2⟩, h3⟩ := h
      exact sE_dctP O h1 h2 (snd a _ (t := false) O h3)
    · exact nomatch h
  | .srtD m a, e, X, c, t, O, h => by
    unfold chkE at h
    split at h
    · simp only [Bool.and_eq_true, decide_eq_true_eq, Bool.not_eq_true'] at h
      obtain ⟨⟨⟨⟨rfl, rfl⟩, h1⟩, h2⟩, h3⟩ := h
      exact sE_srtD O h1 h2 (snd a _ (t := false) O h3)
    · exact nomatch h
  | .cat m a b, e, X, c, t, O, h => by
    unfold chkE at h
    split at h
    · simp only [Bool.and_eq_true, Bool.not_eq_true'] at h
      obtain ⟨⟨rfl, h1⟩, h2⟩ := h
      exact sE_cat (snd a _ (t := false) O h1) (snd b _ (t := false) O h2)
    · exact nomatch h
  | .rep m a b, e, X, c, t, O, h => by
    unfold chkE at h
    split at h
    · simp only [Bool.and_eq_true, Bool.not_eq_true'] at h
      obtain ⟨⟨rfl, h1⟩, h2⟩ := h
      exact sE_rep (snd a _ (t := false) O h1) (snd b _ (t := false) O h2)
    · exact nomatch h
  | .tr1 a, e, X, c, t, O, h => by
    unfold chkE at h
    split at h
    · simp only [Bool.and_eq_true, decide_eq_true_eq, Bool.not_eq_true'] at h
      obtain ⟨⟨⟨⟨⟨⟨rfl, rfl⟩, rfl⟩, h1⟩, h2⟩, h3⟩, h4⟩ := h
      exact sE_tr1 O h1 h2 h3 (snd a _ (t := false) O h4)
    · exact nomatch h
  | .cnt a b, e, X, c, t, O, h => by
    unfold chkE at h
    split at h
    · simp only [Bool.and_eq_true, decide_eq_true_eq, Bool.not_eq_true'] at h
      obtain ⟨⟨⟨⟨⟨⟨rfl, rfl⟩, h1⟩, h2⟩, h3⟩, h4⟩, h5⟩ := h
      exact sE_cnt h1 h2 h3 (snd a _ (t := false) O h4) (snd b _ (t := false) O h5)
    · exact nomatch h
  | .join s a, e, X, c, t, O, h => by
    unfold chkE at h
    split at h
    · simp only [Bool.and_eq_true, decide_eq_true_eq, Bool.not_eq_true'] at h
      obtain ⟨⟨⟨⟨⟨⟨rfl, rfl⟩, h1⟩, h2⟩, h3⟩, h4⟩, h5⟩ := h
      exact sE_join h1 h2 h3 (snd s _ (t := false) O h4) (snd a _ (t := false) O h5)
    · exact nomatch h
  | .upper a, e, X, c, t, O, h => by
    unfold chkE at h
    split at h
    · simp only [Bool.and_eq_true, decide_eq_true_eq, Bool.not_eq_true'] at h
      obtain ⟨⟨⟨⟨rfl, rfl⟩, h1⟩, h2⟩, h3⟩ := h
      exact sE_upper h1 h2 (snd a _ (t := false) O h3)
    · exact nomatch h
  | .splt m a b, e, X, c, t, O, h => by
    unfold chkE at h
    split at h
    · simp only [Bool.and_eq_true, decide_eq_true_eq, Bool.not_eq_true'] at h
      obtain ⟨⟨⟨⟨⟨⟨rfl, rfl⟩, h1⟩, h2⟩, h3⟩, h4⟩, h5⟩ := h
      exact sE_splt h1 h2 h3 (snd a _ (t := false) O h4) (snd b _ (t := false) O h5)
    · exact nomatch h
  | .intT a, e, X, c, t, O, h => by
    unfold chkE at h
    split at h
    · simp only [Bool.and_eq_true, decide_eq_true_eq, Bool.not_eq_true'] at h
      obtain ⟨⟨⟨⟨rfl, rfl⟩, h1⟩, h2⟩, h3⟩ := h
      exact sE_intT O h1 h2 (snd a _ (t := false) O h3)
    · exact nomatch h
  | .lenT a, e, X, c, t, O, h => by
    unfold chkE at h
    split at h
    · simp only [Bool.and_eq_true, decide_eq_true_eq, Bool.not_eq_true'] at h
      obtain ⟨⟨⟨⟨rfl, rfl⟩, h1⟩, h2⟩, h3⟩ := h
      exact sE_lenT O h1 h2 (snd a _ (t := false) O h3)
    · exact nomatch h
  | .ixT a k, e, X, c, t, O, h => by
    unfold chkE at h
    split at h
    · simp only [Bool.and_eq_true, decide_eq_true_eq, Bool.not_eq_true'] at h
      obtain ⟨⟨rfl, rfl⟩, h1⟩ := h
      exact sE_ixT (snd a _ (t := false) O h1)
    · exact nomatch h
  | .sgn n a b, e, X, c, t, O, h => by
    unfold chkE at h
    split at h
    · simp only [Bool.and_eq_true, decide_eq_true_eq, Bool.not_eq_true'] at h
      obtain ⟨⟨⟨⟨rfl, h1⟩, h2⟩, h3⟩, h4⟩ := h
      exact sE_sgn h1 h2 (snd a _ (t := false) O h3) (snd b _ (t := false) O h4)
    · exact nomatch h
  | .tab x kvs k, e, X, c, t, O, h => by
    unfold chkE at h
    split at h
    · simp only [Bool.and_eq_true, decide_eq_true_eq, Bool.not_eq_true'] at h
      obtain ⟨⟨⟨⟨⟨⟨rfl, rfl⟩, h1⟩, h2⟩, h3⟩, h4⟩, h5⟩ := h
      split at h2
      · rename_i kvs2 e2
        rw [tabEq_ok h2] at e2
        exact sE_tab O e2 h3 h4 (snd k _ (t := false) O h5) h1
      · cases h2
    · exact nomatch h
  | .inTab x kvs k, e, X, c, t, O, h => by
    unfold chkE at h
    split at h
    · simp only [Bool.and_eq_true, decide_eq_true_eq, Bool.not_eq_true'] at h
      obtain ⟨⟨⟨⟨⟨⟨rfl, rfl⟩, h1⟩, h2⟩, h3⟩, h4⟩, h5⟩ := h
      split at h2
      · rename_i kvs2 e2
        rw [tabEq_ok h2] at e2
        exact sE_inTab O e2 h3 h4 h1 (snd k _ (t := false) O h5)
      · cases h2
    · exact nomatch h
  | .callV i fs as, e, X, c, t, O, h => by
    unfold chkE at h
    split at h
    · simp only [Bool.and_eq_true, decide_eq_true_eq, Bool.not_eq_true'] at h
      obtain ⟨⟨⟨⟨⟨⟨rfl, h1⟩, h2⟩, h3⟩, h4⟩, h5⟩, h6⟩ := h
      exact sE_callV O h1 h2 h3 h4 h5 (sndA as _ O h6)
    · exact nomatch h
  | .few a b, e, X, c, t, O, h => by
    unfold chkE at h
    split at h
    · simp only [Bool.and_eq_true, decide_eq_true_eq, Bool.not_eq_true'] at h
      obtain ⟨⟨rfl, h1⟩, h2⟩ := h
      exact sE_few (snd a _ (t := false) O h1) (snd b _ (t := false) O h2)
    · exact nomatch h
  | .inM a b, e, X, c, t, O, h => by
    unfold chkE at h
    split at h
    · simp only [Bool.and_eq_true] at h
      obtain ⟨⟨h1, h2⟩, h3⟩ := h
      cases t with
      | false => exact sE_inM O h1 (snd a _ (t := false) O h2) (snd b _ (t := false) O h3)
      | true => exact sT_inM O h1 (snd a _ (t := false) O h2) (snd b _ (t := false) O h3)
    · exact nomatch h
  | .eqM a b, e, X, c, t, O, h => by
    unfold chkE at h
    split at h
    · simp only [Bool.and_eq_true, Bool.not_eq_true'] at h
      obtain ⟨⟨⟨rfl, h1⟩, h2⟩, h3⟩ := h
      exact sE_eqM O h1 (snd a _ (t := false) O h2) (snd b _ (t := false) O h3)
    · exact nomatch h
  | .rvl m a, e, X, c, t, O, h => by
    unfold chkE at h
    split at h
    · simp only [Bool.and_eq_true, decide_eq_true_eq, Bool.not_eq_true'] at h
      obtain ⟨⟨⟨⟨⟨⟨rfl, rfl⟩, h1⟩, rfl⟩, h2⟩, h3⟩, h4⟩ := h
      exact sE_rvl O h1 h2 h3 (snd a _ (t := false) O h4)
    · exact nomatch h
  | .repr a, e, X, c, t, O, h => by
    unfold chkE at h
    split at h
    · simp only [Bool.and_eq_true, decide_eq_true_eq, Bool.not_eq_true'] at h
      obtain ⟨⟨⟨⟨⟨rfl, rfl⟩, h1⟩, h2⟩, h3⟩, h4⟩ := h
      exact sE_repr O h1 h2 h3 (snd a _ (t := false) O h4)
    · exact nomatch h
  | .rvt a, e, X, c, t, O, h => by
    unfold chkE at h
    split at h
    · simp only [Bool.and_eq_true, Bool.not_eq_true'] at h
      obtain ⟨rfl, h1⟩ := h
      exact sE_rvt (snd a _ (t := false) O h1)
    · exact nomatch h
  | .srtT m a, e, X, c, t, O, h => by
    unfold chkE at h
    split at h
    · simp only [Bool.and_eq_true, decide_eq_true_eq, Bool.not_eq_true'] at h
      obtain ⟨⟨⟨⟨rfl, rfl⟩, h1⟩, h2⟩, h3⟩ := h
      exact sE_srtT O h1 h2 (snd a _ (t := false) O h3)
    · exact nomatch h
  | .dctPN a, e, X, c, t, O, h => by
    unfold chkE at h
    split at h
    · simp only [Bool.and_eq_true, decide_eq_true_eq, Bool.not_eq_true'] at h
      obtain ⟨⟨⟨⟨rfl, rfl⟩, h1⟩, h2⟩, h3⟩ := h
      exact sE_dctPN O h1 h2 (snd a _ (t := false) O h3)
    · exact nomatch h
  | .dkeysN m a, e, X, c, t, O, h => by
    unfold chkE at h
    split at h
    · simp only [Bool.and_eq_true, decide_eq_true_eq, Bool.not_eq_true'] at h
      obtain ⟨⟨⟨⟨rfl, rfl⟩, h1⟩, h2⟩, h3⟩ := h
      exact sE_dkeysN O h1 h2 (snd a _ (t := false) O h3)
    · exact nomatch h
  | .srtN m a, e, X, c, t, O, h => by
    unfold chkE at h
    split at h
    · simp only [Bool.and_eq_true, decide_eq_true_eq, Bool.not_eq_true'] at h
      obtain ⟨⟨⟨⟨rfl, rfl⟩, h1⟩, h2⟩, h3⟩ := h
      exact sE_srtN O h1 h2 (snd a _ (t := false) O h3)
    · exact nomatch h
  | .lenD m a, e, X, c, t, O, h => by
    unfold chkE at h
    split at h
    · simp only [Bool.and_eq_true, decide_eq_true_eq, Bool.not_eq_true'] at h
      obtain ⟨⟨⟨⟨⟨rfl, rfl⟩, rfl⟩, h1⟩, h2⟩, h3⟩ := h
      exact sE_lenN O h1 h2 (snd a _ (t := false) O h3)
    · exact nomatch h
  | .sortD m a, e, X, c, t, O, h => by
    unfold chkE at h
    split at h
    · simp only [Bool.and_eq_true, decide_eq_true_eq, Bool.not_eq_true'] at h
      obtain ⟨⟨⟨⟨rfl, rfl⟩, h1⟩, h2⟩, h3⟩ := h
      exact sE_sortD O h1 h2 (snd a _ (t := false) O h3)
    · exact nomatch h
  | .dpop d k, e, X, c, t, O, h => by
    unfold chkE at h
    split at h
    · simp only [Bool.and_eq_true, decide_eq_true_eq, Bool.not_eq_true'] at h
      obtain ⟨⟨⟨⟨⟨⟨rfl, rfl⟩, h1⟩, h2⟩, h3⟩, h4⟩, h5⟩ := h
      exact sE_dpop O h1 h2 h3 (snd d _ (t := false) O h4) (snd k _ (t := false) O h5)
    · exact nomatch h
  | .dict0N, e, X, c, t, O, h => by
    unfold chkE at h
    split at h
    · simp only [Bool.not_eq_true'] at h
      subst h
      exact sE_dict0N
    · simp only [Bool.and_eq_true, decide_eq_true_eq, Bool.not_eq_true'] at h
      obtain ⟨⟨rfl, rfl⟩, h1⟩ := h
      exact sE_dict0C O h1
    · exact nomatch h
  | .dct1N k v, e, X, c, t, O, h => by
    unfold chkE at h
    split at h
    · simp only [Bool.and_eq_true, Bool.not_eq_true'] at h
      obtain ⟨⟨rfl, h1⟩, h2⟩ := h
      exact sE_dct1N O (snd k _ (t := false) O h1) (snd v _ (t := false) O h2)
    · exact nomatch h
  | .inN n k d, e, X, c, t, O, h => by
    unfold chkE at h
    split at h
    · simp only [Bool.and_eq_true, decide_eq_true_eq] at h
      obtain ⟨⟨⟨rfl, h1⟩, h2⟩, h3⟩ := h
      cases t with
      | false => exact sE_inN O h1 (snd k _ (t := false) O h2) (snd d _ (t := false) O h3)
      | true => exact sT_inN O h1 (snd k _ (t := false) O h2) (snd d _ (t := false) O h3)
    · exact nomatch h
  | .getN d k, e, X, c, t, O, h => by
    unfold chkE at h
    split at h
    · simp only [Bool.and_eq_true, Bool.not_eq_true'] at h
      obtain ⟨⟨⟨rfl, h1⟩, h2⟩, h3⟩ := h
      exact sE_getN O h1 (snd d _ (t := false) O h2) (snd k _ (t := false) O h3)
    · exact nomatch h
  | .getOrN d k z, e, X, c, t, O, h => by
    unfold chkE at h
    split at h
    · simp only [Bool.and_eq_true, decide_eq_true_eq, Bool.not_eq_true'] at h
      obtain ⟨⟨⟨⟨⟨⟨⟨⟨rfl, rfl⟩, h1⟩, h2⟩, h3⟩, h4⟩, h5⟩, h6⟩, h7⟩ := h
      exact sE_getOrN O h1 h2 h3 h4 (snd d _ (t := false) O h5) (snd k _ (t := false) O h6) (snd z _ (t := false) O h7)
    · exact nomatch h
  | .lockE a, e, X, c, t, O, h => by
    have h : (!t && chkE c false a e) = true := h
    simp only [Bool.and_eq_true, Bool.not_eq_true'] at h
    obtain ⟨rfl, h1⟩ := h
    exact sE_lockE (snd a e (t := false) O h1)
  | .frz a, e, X, c, t, O, h => by
    have h : (!t && chkE c false a e) = true := h
    simp only [Bool.and_eq_true, Bool.not_eq_true'] at h
    obtain ⟨rfl, h1⟩ := h
    exact sE_frz (snd a e (t := false) O h1)
theorem sndA : ∀ (as : List E) (es : List Expr) {X : Cx} {c : Ctx}, COk X c cs → chkEs c as es = true → SndA X cs as es
  | [], es, X, c, O, h => by
    cases es with
    | nil => exact sA_nil
    | cons _ _ => exact nomatch (show false = true from h)
  | a :: as, es, X, c, O, h => by
    cases es with
    | nil => exact nomatch (show false = true from h)
    | cons x xs =>
      have h : (nst x && chkE c false a x && chkEs c as xs) = true := h
      simp only [Bool.and_eq_true] at h
      exact sA_cons h.1.1 (snd a x (t := false) O h.1.2) (sndA as xs O h.2)
theorem sndDs : ∀ (as : List E) (ks : List Str) (xs : List (Option Expr)) (ys : List Expr) (pos : Pos) {X : Cx} {c : Ctx}, COk X c cs → chkDs c ks as xs ys = true → SndD X cs ks as xs ys pos
  | [], ks, xs, ys, pos, X, c, O, h => by
    unfold chkDs at h
    split at h
    · exact sD_nil
    · exact nomatch h
  | a :: as, ks, xs, ys, pos, X, c, O, h => by
    unfold chkDs at h
    split at h
    · simp only [Bool.and_eq_true, decide_eq_true_eq] at h
      obtain ⟨⟨rfl, h1⟩, h2⟩ := h
      exact sD_cons (snd a _ (t := false) O h1) (sndDs as _ _ _ pos O h2)
    · exact nomatch h
theorem sndO : ∀ (o : Option E) (e : Option Expr) {X : Cx} {c : Ctx}, COk X c cs → chkO c o e = true → SndO X cs o e
  | none, e, X, c, O, h => by
    cases e with
    | none => exact .inl ⟨rfl, rfl⟩
    | some _ => exact nomatch (show false = true from h)
  | some a, e, X, c, O, h => by
    cases e with
    | none => exact nomatch (show false = true from h)
    | some x => exact .inr ⟨a, x, rfl, rfl, snd a x (t := false) O h⟩
theorem sndC : ∀ (o : Option E) (e : List Expr) {c : Ctx} (K : PySem.W.Frag), chkC c o e = true → (o = none ∧ e = []) ∨ ∃ ci ce, o = some ci ∧ e = [ce] ∧ ∀ {X' : Cx}, X'.K = K → COk X' c cs → SndT X' cs ci ce
  | none, e, c, K, h => by
    cases e with
    | nil => exact .inl ⟨rfl, rfl⟩
    | cons _ _ => exact nomatch (show false = true from h)
  | some a, e, c, K, h => by
    cases e with
    | nil => exact nomatch (show false = true from h)
    | cons x r =>
      cases r with
      | cons _ _ => exact nomatch (show false = true from h)
      | nil => exact .inr ⟨a, x, rfl, rfl, fun {X'} _ O => snd a x (t := true) O h⟩
theorem sndI : ∀ (it : I) (tg e : Expr) {X : Cx} {c : Ctx}, COk X c cs → chkI c it tg e = true → SndI X cs it tg e
  | .r1 a, tg, e, X, c, O, h => by
    unfold chkI at h
    split at h
    · simp only [Bool.and_eq_true, decide_eq_true_eq] at h
      obtain ⟨⟨⟨rfl, h1⟩, h2⟩, h3⟩ := h
      exact sI_r1 O h1 h2 (snd a _ (t := false) O h3)
    · exact nomatch h
  | .r2 a b, tg, e, X, c, O, h => by
    unfold chkI at h
    split at h
    · simp only [Bool.and_eq_true, decide_eq_true_eq] at h
      obtain ⟨⟨⟨⟨⟨rfl, h1⟩, h2⟩, h3⟩, h4⟩, h5⟩ := h
      exact sI_r2 O h1 h2 h3 (snd a _ (t := false) O h4) (snd b _ (t := false) O h5)
    · exact nomatch h
  | .seq a, tg, e, X, c, O, h => sI_seq (snd a e (t := false) O h)
  | .chars a, tg, e, X, c, O, h => sI_chars (snd a e (t := false) O h)
  | .zip a b, tg, e, X, c, O, h => by
    unfold chkI at h
    split at h
    · simp only [Bool.and_eq_true, decide_eq_true_eq] at h
      obtain ⟨⟨⟨⟨⟨rfl, h1⟩, h2⟩, h3⟩, h4⟩, h5⟩ := h
      exact sI_zip O h1 h2 h3 (snd a _ (t := false) O h4) (snd b _ (t := false) O h5)
    · exact nomatch h
  | .zipX a b, tg, e, X, c, O, h => by
    unfold chkI at h
    split at h
    · simp only [Bool.and_eq_true, decide_eq_true_eq] at h
      obtain ⟨⟨⟨⟨⟨rfl, h1⟩, h2⟩, h3⟩, h4⟩, h5⟩ := h
      exact sI_zipX O h1 h2 h3 (snd a _ (t := false) O h4) (snd b _ (t := false) O h5)
    · exact nomatch h
  | .zip3 a b d, tg, e, X, c, O, h => by
    unfold chkI at h
    split at h
    · simp only [Bool.and_eq_true, decide_eq_true_eq] at h
      obtain ⟨⟨⟨⟨⟨⟨⟨rfl, h1⟩, h2⟩, h3⟩, h4⟩, h5⟩, h6⟩, h7⟩ := h
      exact sI_zip3 O h1 h2 h3 h4 (snd a _ (t := false) O h5) (snd b _ (t := false) O h6) (snd d _ (t := false) O h7)
    · exact nomatch h
  | .dwk .keys d, tg, e, X, c, O, h => sI_dk (snd d e (t := false) O (show chkE c false d e = true from h))
  | .dwk .items d, tg, e, X, c, O, h => by
    unfold chkI at h
    simp only at h
    split at h
    · simp only [Bool.and_eq_true, decide_eq_true_eq] at h
      obtain ⟨⟨⟨rfl, h1⟩, h2⟩, h3⟩ := h
      exact sI_di h1 h2 (snd d _ (t := false) O h3)
    · exact nomatch h
  | .enum a, tg, e, X, c, O, h => by
    unfold chkI at h
    split at h
    · simp only [Bool.and_eq_true, decide_eq_true_eq] at h
      obtain ⟨⟨⟨rfl, h1⟩, h2⟩, h3⟩ := h
      exact sI_enum O h1 h2 (snd a _ (t := false) O h3)
    · exact nomatch h
end

/-! ### statements -/
def isFn (sc : Scope) : Bool := match sc.kind with
  | .function => true
  | _ => false
theorem isFn_eq {sc : Scope} (h : isFn sc = true) : sc.kind = .function := by
  unfold isFn at h
  split at h
  · assumption
  · cases h
def isNm : Expr → Bool
  | .Name .. => true
  | _ => false
/-- name = a comprehension, on one line -/
def chkSw (c : Ctx) (t : T) (e : E) (tg x : Expr) : Bool := match t, e, tg, x with
  | .nm i, .lc _ _ _ _ _ _, .Name y py, .ListComp _ _ scope pos => decide (c.N[i]? = some y) && decide (c.sc.names.lookup y = some .local) && (py.line == pos.line) && !(scope.names.any fun (n, k) => n == y && (k == .local || k == .cell)) && (match c.sc.kind with | .function => true | _ => false)
  | _, _, _, _ => false
/-- a name that inner blocks see, too -/
def celT (c : Ctx) : Expr → Bool
  | .Name y _ => match c.sc.names.lookup y with
    | some .cell => true
    | _ => false
  | _ => false
/-- names for a tuple, one of which inner blocks see, too -/
def celTs (c : Ctx) : Expr → Bool
  | .Tuple ts _ _ => ts.any (celT c)
  | _ => false
def nmAt (env : Env) (l : Nat) (z : Expr) : Option Str := match z with
  | .Name id pos => if env.kindOf id == some .local && pos.line == l then some id else none
  | _ => none
theorem celT_kind {c : Ctx} {t : Expr} {env : Env} {l : Nat} (e : env.scope = c.sc) (h : celT c t = true) : nmAt env l t = none := by
  cases t
  case Name y p =>
    have k : env.kindOf y = some .cell := by
      show env.scope.names.lookup y = _
      rw [e]
      have h : (match c.sc.names.lookup y with
        | some .cell => true
        | _ => false) = true := h
      split at h
      · assumption
      · cases h
    show (if env.kindOf y == some .local && p.line == l then some y else none) = none
    rw [k]
    rfl
  all_goals rfl
/-- a display of constants -/
def allF : Expr → Bool
  | .Tuple vs _ _ => vs.all (foldedForSure 8)
  | _ => false
theorem stores_fold {tg x : Expr} {env : Env} (h : allF x = true) : swappedStores [tg] x env = pure none := by
  cases x
  case Tuple vs k p =>
    have h : vs.all (foldedForSure 8) = true := h
    cases tg
    case Tuple ts k2 p2 =>
      unfold swappedStores
      simp only
      rw [if_pos h]
      split
      · rfl
      split
      · rfl
      split
      · rfl
      · rfl
    case List ts p2 =>
      unfold swappedStores
      simp only
      rw [if_pos h]
      split
      · rfl
      split
      · rfl
      split
      · rfl
      · rfl
    all_goals rfl
  all_goals exact nomatch (show false = true from h)
/-- four targets or more -/
def wideT : Expr → Bool
  | .Tuple ts _ _ => decide (3 < ts.length)
  | _ => false
theorem stores_wide {tg x : Expr} {env : Env} (h : wideT tg = true) : swappedStores [tg] x env = pure none := by
  cases tg
  case Tuple ts k p =>
    have h : 3 < ts.length := of_decide_eq_true h
    have two : (ts.length == 2) = false := beq_false_of_ne (by omega)
    have three : (ts.length == 3) = false := beq_false_of_ne (by omega)
    cases x
    case Tuple vs k2 p2 =>
      unfold swappedStores
      simp only
      rw [two, three]
      rfl
    all_goals rfl
  all_goals exact nomatch (show false = true from h)
theorem stores_cel {c : Ctx} {tg x : Expr} {env : Env} (h : env.scope = c.sc ∧ celTs c tg = true) : swappedStores [tg] x env = pure none := by
  obtain ⟨e, h⟩ := h
  cases tg
  case Tuple ts k p =>
    obtain ⟨t, ht, hc⟩ := List.any_eq_true.mp (show ts.any (celT c) = true from h)
    cases x
    case Tuple vs k2 p2 =>
      have nl : ∀ l : Nat, ((ts.filterMap (nmAt env l)).length != ts.length) = true := fun l =>
        bne_iff_ne.mpr (Nat.ne_of_lt (List.length_filterMap_lt_length_iff_exists.mpr ⟨t, ht, celT_kind (l := l) e hc⟩))
      unfold swappedStores
      simp only
      split
      · rfl
      split
      · rfl
      split
      · rfl
      · rename_i no
        exact (no (Bool.or_eq_true_iff.mpr (Or.inl (nl _)))).elim
    all_goals rfl
  all_goals exact nomatch (show false = true from h)
theorem sw_celT {c : Ctx} {tg x : Expr} {l : Nat} {env : Env} (e : env.scope = c.sc ∧ celT c tg = true) : swapsWithSole [tg] x l env = pure false := by
  obtain ⟨e, h⟩ := e
  cases tg
  case Name y p =>
    refine sw_cell ?_
    rw [e]
    have h : (match c.sc.names.lookup y with
      | some .cell => true
      | _ => false) = true := h
    split at h
    · assumption
    · cases h
  all_goals exact nomatch (show false = true from h)
def chkR (c : Ctx) (r : Rc) (es : List E) (e : Expr) : Bool := match r with
  | .fn f => match e with
    | .Call (.Name x _) (y :: ys) [] _ => decide (c.xf.lookup x = some f) && c.gl x && !dbg x && nsts (y :: ys) && chkEs c es (y :: ys)
    | _ => false
  | .mth g n m o => match e with
    | .Call (.Attribute x m2 ap) (y :: ys) [] cp => decide (m = m2) && decide (c.mths.lookup (n, m) = some g) && ncl x && (ap.endLine == cp.line) && nsts (y :: ys) && decide ((y :: ys).length < 30) && chkE c false o x && chkEs c es (y :: ys)
    | _ => false
  | .cv i fs => match e with
    | .Call (.Name x _) (y :: ys) [] _ => (fs.all fun q => decide (c.xf.lookup q.1 = some q.2)) && decide (c.N[i]? = some x) && c.vis x && !dbg x && nsts (y :: ys) && chkEs c es (y :: ys)
    | _ => false
  | .new _ _ => false
theorem sndR {r : Rc} {es : List E} {e : Expr} {X : Cx} {c : Ctx} (O : COk X c cs) (h : chkR c r es e = true) : SndR X cs r es e := by
  unfold chkR at h
  split at h
  · split at h
    · simp only [Bool.and_eq_true, decide_eq_true_eq, Bool.not_eq_true'] at h
      obtain ⟨⟨⟨⟨h1, h2⟩, h3⟩, h4⟩, h5⟩ := h
      exact sR_fn O h1 h2 h3 h4 (sndA es _ O h5)
    · exact nomatch h
  · split at h
    · simp only [Bool.and_eq_true, decide_eq_true_eq] at h
      obtain ⟨⟨⟨⟨⟨⟨⟨rfl, h1⟩, h2⟩, h3⟩, h4⟩, h5⟩, h6⟩, h7⟩ := h
      exact sR_mth O h1 h2 h4 h3 h5 (snd _ _ (t := false) O h6) (sndA es _ O h7)
    · exact nomatch h
  · split at h
    · simp only [Bool.and_eq_true, decide_eq_true_eq, Bool.not_eq_true'] at h
      obtain ⟨⟨⟨⟨⟨h1, h2⟩, h3⟩, h4⟩, h5⟩, h6⟩ := h
      exact sR_cv O h1 h2 h3 h4 h5 (sndA es _ O h6)
    · exact nomatch h
  · exact nomatch h
mutual
def chkS (c : Ctx) : Stm → Stmt → Bool
  | .expr e, st => match st with
    | .Expr x _ => nlc x && chkE c false e x
    | _ => false
  | .ret e, st => match st with
    | .Return (some x) _ => chkE c false e x
    | _ => false
  | .retN, st => match st with
    | .Return none _ => true
    | _ => false
  | .asg t e, st => match st with
    | .Assign [tg] x _ => chkE c false e x && (chkSw c t e tg x || ((nlc x || celT c tg) && nst tg && (isNm tg || ntup x || celTs c tg || allF x || wideT tg) && chkT c t tg))
    | _ => false
  | .aug i op e, st => match st with
    | .AugAssign (.Name x _) o y _ => decide (op = o) && decide (c.N[i]? = some x) && c.loc x && c.ok x && chkE c false e y
    | _ => false
  | .setIx o i e, st => match st with
    | .Assign [.Subscript x y _] z _ => nlc z && nsl y && chkE c false o x && chkE c false i y && chkE c false e z
    | _ => false
  | .setFld n f o e, st => match st with
    | .Assign [.Attribute x g _] y _ => decide (f = g) && c.flds.contains (n, f) && nlc y && chkE c false o x && chkE c false e y
    | _ => false
  | .setKey o k e, st => match st with
    | .Assign [.Subscript x y _] z _ => nlc z && chkE c false o x && chkE c false k y && chkE c false e z
    | _ => false
  | .setKeyN o k e, st => match st with
    | .Assign [.Subscript x y _] z _ => chkE c false o x && chkE c false k y && chkE c false e z
    | _ => false
  | .lockS s, st => chkS c s st
  | .setKey2 o1 k1 o2 k2 e1 e2, st => match st with
    | .Assign [.Tuple [.Subscript x1 y1 _, .Subscript x2 y2 _] _ _] (.Tuple [z1, z2] _ _) _ => nsl y1 && nsl y2 && nst z1 && nst z2 && chkE c false e1 z1 && chkE c false e2 z2 && chkE c false o1 x1 && chkE c false k1 y1 && chkE c false o2 x2 && chkE c false k2 y2
    | _ => false
  | .setIx2 o1 k1 o2 k2 e1 e2, st => match st with
    | .Assign [.Tuple [.Subscript x1 y1 _, .Subscript x2 y2 _] _ _] (.Tuple [z1, z2] _ _) _ => nsl y1 && nsl y2 && nst z1 && nst z2 && chkE c false e1 z1 && chkE c false e2 z2 && chkE c false o1 x1 && chkE c false k1 y1 && chkE c false o2 x2 && chkE c false k2 y2
    | _ => false
  | .augIx o i op e, st => match st with
    | .AugAssign (.Subscript x y _) op2 z _ => decide (op2 = op) && nsl y && chkE c false o x && chkE c false i y && chkE c false e z
    | _ => false
  | .augKey o k op e, st => match st with
    | .AugAssign (.Subscript x y _) op2 z _ => decide (op2 = op) && nsl y && chkE c false o x && chkE c false k y && chkE c false e z
    | _ => false
  | .tryS b, st => match st with
    | .Try body (_ :: _) [] [] _ => chkSs c b body
    | _ => false
  | .exprX r es, st => match st with
    | .Expr x _ => nlc x && chkR c r es x
    | _ => false
  | .retX r es, st => match st with
    | .Return (some x) _ => chkR c r es x
    | _ => false
  | .asgX t r es, st => match st with
    | .Assign [tg] x _ => chkR c r es x && nlc x && nst tg && isNm tg && chkT c t tg
    | _ => false
  | .fldX _ _ _ _ _, _ => false
  | .rs n m, st => match st with
    | .Raise (some (.Call (.Name x _) [.Constant (.str y) _ _] [] _)) none _ => decide (x = n) && decide (y = m) && c.ex && exKn n && c.gl n && !dbg n
    | _ => false
  | .tryX b cn i j, st => match st with
    | .Try body [.ExceptHandler (some (.Name x _)) (some n) [.Assign [.Name y _] (.Name n2 _) _] _] [] [] _ => decide (x = cn) && decide (n2 = n) && c.ex && exAll.contains cn && c.gl cn && !dbg cn && decide (c.cmp = none) && decide (c.N[i]? = some n) && decide (c.N[j]? = some y) && decide (c.sc.names.lookup n = some .local) && decide (c.sc.names.lookup y = some .local) && !dbg n && chkSs c b body
    | _ => false
  | .tryF _ _ _ _ _ _, _ => false
  | .tryR _ _ _ _, _ => false
  | .ifS k a b, st => match st with
    | .If x y z _ => chkE c true k x && chkSs c a y && chkSs c b z
    | _ => false
  | .forS t it b, st => match st with
    | .For tg iter body [] _ => nset iter && chkI c it tg iter && chkT c t tg && chkSs c b body
    | _ => false
  | .whileS k b, st => match st with
    | .While x body [] _ => chkE c true k x && chkSs c b body
    | _ => false
  | .never, _ => true
  | .pass, st => match st with
    | .Pass _ => true
    | _ => false
  | .brk, st => match st with
    | .Break _ => true
    | _ => false
  | .cont, st => match st with
    | .Continue _ => true
    | _ => false
  | .par i j a b, st => match st with
    | .Assign [.Tuple [.Name x px, .Name y py] _ _] (.Tuple [ea, eb] _ _) _ => decide (c.N[i]? = some x) && decide (c.N[j]? = some y) && decide (c.sc.names.lookup x = some .local) && decide (c.sc.names.lookup y = some .local) && (py.line == px.line) && decide (x ≠ y) && nst ea && nst eb &&
      !(foldedForSure 8 ea && foldedForSure 8 eb) && !(constantsAlone 8 ea && constantsAlone 8 eb) && isFn c.sc && chkE c false a ea && chkE c false b eb
    | _ => false
  | .par3 i j l a b d, st => match st with
    | .Assign [.Tuple [.Name x px, .Name y py, .Name z pz] _ _] (.Tuple [ea, eb, ed] _ _) _ => decide (c.N[i]? = some x) && decide (c.N[j]? = some y) && decide (c.N[l]? = some z) && decide (c.sc.names.lookup x = some .local) && decide (c.sc.names.lookup y = some .local) && decide (c.sc.names.lookup z = some .local) && (py.line == px.line) && (pz.line == px.line) && decide (x ≠ y) && decide (x ≠ z) && decide (y ≠ z) && nst ea && nst eb && nst ed &&
      !(foldedForSure 8 ea && (foldedForSure 8 eb && foldedForSure 8 ed)) && !(constantsAlone 8 ea && (constantsAlone 8 eb && constantsAlone 8 ed)) && isFn c.sc && chkE c false a ea && chkE c false b eb && chkE c false d ed
    | _ => false
def chkSs (c : Ctx) : List Stm → List Stmt → Bool
  | [], st => match st with
    | [] => true
    | _ => false
  | s :: r, st => match st with
    | t :: rest => chkS c s t && chkSs c r rest
    | _ => false
end
theorem stores_isNm {t e : Expr} {env : Env} (h : isNm t = true) : swappedStores [t] e env = pure none := by
  cases t
  case Name x p => exact stores_name
  all_goals exact nomatch (show false = true from h)
mutual
theorem sndS : ∀ (ir : Stm) (st : Stmt) {X : Cx} {c : Ctx}, COk X c cs → chkS c ir st = true → SndS X cs ir st
  | .expr e, st, X, c, O, h => by
    unfold chkS at h
    split at h
    · simp only [Bool.and_eq_true] at h
      exact sS_expr h.1 (snd e _ (t := false) O h.2)
    · exact nomatch h
  | .ret e, st, X, c, O, h => by
    unfold chkS at h
    split at h
    · exact sS_ret (snd e _ (t := false) O h)
    · exact nomatch h
  | .retN, st, X, c, O, h => by
    unfold chkS at h
    split at h
    · exact sS_retN
    · exact nomatch h
  | .asg t e, st, X, c, O, h => by
    unfold chkS at h
    split at h
    · rename_i tg x pos
      simp only [Bool.and_eq_true, Bool.or_eq_true] at h
      obtain ⟨h1, h2⟩ := h
      rcases h2 with h2 | ⟨⟨⟨h2, h3⟩, h4⟩, h5⟩
      · unfold chkSw at h2
        split at h2
        · rename_i i m el tt it cnd own y py elt gens scope lpos
          simp only [Bool.and_eq_true, decide_eq_true_eq, Bool.not_eq_true'] at h2
          obtain ⟨⟨⟨⟨a1, a2⟩, a3⟩, a4⟩, a5⟩ := h2
          unfold chkE at h1
          split at h1
          · rename_i elt t0 iter ifs as scope p2 heq
            cases heq
            simp only [Bool.and_eq_true, decide_eq_true_eq, Bool.not_eq_true'] at h1
            obtain ⟨⟨⟨⟨⟨⟨⟨⟨_, rfl⟩, h1⟩, h2⟩, h3⟩, h4⟩, h5⟩, h6⟩, h7⟩ := h1
            exact sS_setLc O a1 a2 a3 a4 (own_snd c own) h1 h2 (own_all h3) (sndI it _ _ O h4) (fun {X'} _ O' => sndG tt _ O' h5) (fun {X'} _ O' => snd el _ (t := false) O' h6) (sndC cnd _ X.K h7) (by
              rw [O.sc]
              split at a5
              · assumption
              · cases a5)
          · exact nomatch h1
        · exact nomatch h2
      · refine sS_asg (fun l => h2.elim sole_of fun q => sw_celT ⟨O.sc, q⟩) h3 ?_ (sndJ t tg O h5) (snd e x (t := false) O h1)
        rcases h4 with (((h4 | h4) | h4) | h4) | h4
        · exact stores_isNm h4
        · exact stores_of h4
        · exact stores_cel ⟨O.sc, h4⟩
        · exact stores_fold h4
        · exact stores_wide h4
    · exact nomatch h
  | .aug i op e, st, X, c, O, h => by
    unfold chkS at h
    split at h
    · simp only [Bool.and_eq_true, decide_eq_true_eq] at h
      obtain ⟨⟨⟨⟨rfl, h1⟩, h2⟩, h3⟩, h4⟩ := h
      exact sS_aug O h1 h2 h3 (snd e _ (t := false) O h4)
    · exact nomatch h
  | .setIx o i e, st, X, c, O, h => by
    unfold chkS at h
    split at h
    · simp only [Bool.and_eq_true] at h
      obtain ⟨⟨⟨⟨h1, h2⟩, h3⟩, h4⟩, h5⟩ := h
      exact sS_setIx h1 h2 (snd o _ (t := false) O h3) (snd i _ (t := false) O h4) (snd e _ (t := false) O h5) (.inr trivial)
    · exact nomatch h
  | .setFld n f o e, st, X, c, O, h => by
    unfold chkS at h
    split at h
    · simp only [Bool.and_eq_true, decide_eq_true_eq] at h
      obtain ⟨⟨⟨⟨rfl, h1⟩, h2⟩, h3⟩, h4⟩ := h
      exact sS_setFld O h1 h2 (snd o _ (t := false) O h3) (snd e _ (t := false) O h4)
    · exact nomatch h
  | .setKey o k e, st, X, c, O, h => by
    unfold chkS at h
    split at h
    · simp only [Bool.and_eq_true] at h
      obtain ⟨⟨⟨h1, h2⟩, h3⟩, h4⟩ := h
      exact sS_setKey O h1 (snd o _ (t := false) O h2) (snd k _ (t := false) O h3) (snd e _ (t := false) O h4)
    · exact nomatch h
  | .setKeyN o k e, st, X, c, O, h => by
    unfold chkS at h
    split at h
    · simp only [Bool.and_eq_true] at h
      obtain ⟨⟨h2, h3⟩, h4⟩ := h
      exact sS_setKeyN O (snd o _ (t := false) O h2) (snd k _ (t := false) O h3) (snd e _ (t := false) O h4)
    · exact nomatch h
  | .lockS s, st, X, c, O, h => sS_lockS (sndS s st O (show chkS c s st = true from h))
  | .setKey2 o1 k1 o2 k2 e1 e2, st, X, c, O, h => by
    unfold chkS at h
    split at h
    · simp only [Bool.and_eq_true, decide_eq_true_eq] at h
      obtain ⟨⟨⟨⟨⟨⟨⟨⟨⟨h1, h2⟩, h3⟩, h4⟩, h5⟩, h6⟩, h7⟩, h8⟩, h9⟩, h10⟩ := h
      exact sS_setKey2 O rfl h1 h2 (sA_cons h3 (snd e1 _ (t := false) O h5) (sA_cons h4 (snd e2 _ (t := false) O h6) sA_nil)) (snd o1 _ (t := false) O h7) (snd k1 _ (t := false) O h8) (snd o2 _ (t := false) O h9) (snd k2 _ (t := false) O h10)
    · exact nomatch h
  | .setIx2 o1 k1 o2 k2 e1 e2, st, X, c, O, h => by
    unfold chkS at h
    split at h
    · simp only [Bool.and_eq_true, decide_eq_true_eq] at h
      obtain ⟨⟨⟨⟨⟨⟨⟨⟨⟨h1, h2⟩, h3⟩, h4⟩, h5⟩, h6⟩, h7⟩, h8⟩, h9⟩, h10⟩ := h
      exact sS_setIx2 O rfl h1 h2 (sA_cons h3 (snd e1 _ (t := false) O h5) (sA_cons h4 (snd e2 _ (t := false) O h6) sA_nil)) (snd o1 _ (t := false) O h7) (snd k1 _ (t := false) O h8) (snd o2 _ (t := false) O h9) (snd k2 _ (t := false) O h10)
    · exact nomatch h
  | .augIx o i op e, st, X, c, O, h => by
    unfold chkS at h
    split at h
    · simp only [Bool.and_eq_true, decide_eq_true_eq] at h
      obtain ⟨⟨⟨⟨rfl, h1⟩, h2⟩, h3⟩, h4⟩ := h
      exact sS_augIx O h1 (snd o _ (t := false) O h2) (snd i _ (t := false) O h3) (snd e _ (t := false) O h4)
    · exact nomatch h
  | .augKey o k op e, st, X, c, O, h => by
    unfold chkS at h
    split at h
    · simp only [Bool.and_eq_true, decide_eq_true_eq] at h
      obtain ⟨⟨⟨⟨rfl, h1⟩, h2⟩, h3⟩, h4⟩ := h
      exact sS_augKey O h1 (snd o _ (t := false) O h2) (snd k _ (t := false) O h3) (snd e _ (t := false) O h4)
    · exact nomatch h
  | .tryS b, st, X, c, O, h => by
    unfold chkS at h
    split at h
    · exact sS_try O (sndSs b _ O.nox h)
    · exact nomatch h
  | .exprX r es, st, X, c, O, h => by
    unfold chkS at h
    split at h
    · simp only [Bool.and_eq_true] at h
      exact sS_exprX h.1 (sndR O h.2)
    · exact nomatch h
  | .retX r es, st, X, c, O, h => by
    unfold chkS at h
    split at h
    · exact sS_retX (sndR O h)
    · exact nomatch h
  | .asgX t r es, st, X, c, O, h => by
    unfold chkS at h
    split at h
    · simp only [Bool.and_eq_true] at h
      obtain ⟨⟨⟨⟨h1, h2⟩, h3⟩, h4⟩, h5⟩ := h
      exact sS_asgX (fun _ => sole_of h2) h3 (stores_isNm h4) (sndJ t _ O h5) (sndR O h1)
    · exact nomatch h
  | .fldX _ _ _ _ _, st, X, c, O, h => by
    unfold chkS at h
    exact nomatch h
  | .rs n m, st, X, c, O, h => by
    unfold chkS at h
    split at h
    · simp only [Bool.and_eq_true, decide_eq_true_eq, Bool.not_eq_true'] at h
      obtain ⟨⟨⟨⟨⟨rfl, rfl⟩, h1⟩, h2⟩, h3⟩, h4⟩ := h
      exact sS_rs O h1 h2 h3 h4
    · exact nomatch h
  | .tryX b cn i j, st, X, c, O, h => by
    unfold chkS at h
    split at h
    · simp only [Bool.and_eq_true, decide_eq_true_eq, Bool.not_eq_true'] at h
      obtain ⟨⟨⟨⟨⟨⟨⟨⟨⟨⟨⟨⟨rfl, rfl⟩, h1⟩, h2⟩, h3⟩, h4⟩, h5⟩, h6⟩, h7⟩, h8⟩, h9⟩, h10⟩, h11⟩ := h
      exact sS_tryX O h1 (List.contains_iff_mem.mp h2) h3 h4 h5 h6 h7 h8 h9 h10 fun _ O' => sndSs b _ O' h11
    · exact nomatch h
  | .tryF _ _ _ _ _ _, st, X, c, O, h => by
    unfold chkS at h
    exact nomatch h
  | .tryR _ _ _ _, st, X, c, O, h => by
    unfold chkS at h
    exact nomatch h
  | .ifS k a b, st, X, c, O, h => by
    unfold chkS at h
    split at h
    · simp only [Bool.and_eq_true] at h
      exact sS_if (snd k _ (t := true) O h.1.1) (sndSs a _ O h.1.2) (sndSs b _ O h.2)
    · exact nomatch h
  | .forS t it b, st, X, c, O, h => by
    unfold chkS at h
    split at h
    · simp only [Bool.and_eq_true] at h
      exact sS_for O h.1.1.1 (sndI it _ _ O h.1.1.2) (sndG t _ O h.1.2) (sndSs b _ O h.2)
    · exact nomatch h
  | .whileS k b, st, X, c, O, h => by
    unfold chkS at h
    split at h
    · simp only [Bool.and_eq_true] at h
      exact sS_while O (snd k _ (t := true) O h.1) (sndSs b _ O h.2)
    · exact nomatch h
  | .never, st, X, c, O, h => sS_never
  | .pass, st, X, c, O, h => by
    unfold chkS at h
    split at h
    · exact sS_pass
    · exact nomatch h
  | .brk, st, X, c, O, h => by
    unfold chkS at h
    split at h
    · exact sS_brk
    · exact nomatch h
  | .cont, st, X, c, O, h => by
    unfold chkS at h
    split at h
    · exact sS_cont
    · exact nomatch h
  | .par i j a b, st, X, c, O, h => by
    unfold chkS at h
    split at h
    · simp only [Bool.and_eq_true, decide_eq_true_eq, Bool.not_eq_true'] at h
      obtain ⟨⟨⟨⟨⟨⟨⟨⟨⟨⟨⟨⟨a1, a2⟩, a3⟩, a4⟩, a5⟩, a6⟩, a7⟩, a8⟩, a9⟩, b1⟩, b2⟩, b3⟩, b4⟩ := h
      exact sS_par O a1 a2 a3 a4 a5 a6 a7 a8 a9 b1 (isFn_eq b2) (snd a _ (t := false) O b3) (snd b _ (t := false) O b4)
    · exact nomatch h
  | .par3 i j l a b d, st, X, c, O, h => by
    unfold chkS at h
    split at h
    · simp only [Bool.and_eq_true, decide_eq_true_eq, Bool.not_eq_true'] at h
      obtain ⟨⟨⟨⟨⟨⟨⟨⟨⟨⟨⟨⟨⟨⟨⟨⟨⟨⟨⟨a1, a2⟩, a3⟩, a4⟩, a5⟩, a6⟩, a7⟩, a8⟩, a9⟩, b1⟩, b2⟩, b3⟩, b4⟩, b5⟩, b6⟩, b7⟩, b8⟩, b9⟩, c1⟩, c2⟩ := h
      exact sS_par3 O a1 a2 a3 a4 a5 a6 a7 a8 a9 b1 b2 b3 b4 b5 b6 b7 (isFn_eq b8) (snd a _ (t := false) O b9) (snd b _ (t := false) O c1) (snd d _ (t := false) O c2)
    · exact nomatch h
theorem sndSs : ∀ (ir : List Stm) (st : List Stmt) {X : Cx} {c : Ctx}, COk X c cs → chkSs c ir st = true → SndSs X cs ir st
  | [], st, X, c, O, h => by
    cases st with
    | nil => exact sSs_nil
    | cons _ _ => exact nomatch (show false = true from h)
  | s :: r, st, X, c, O, h => by
    cases st with
    | nil => exact nomatch (show false = true from h)
    | cons t rest =>
      have h : (chkS c s t && chkSs c r rest) = true := h
      simp only [Bool.and_eq_true] at h
      exact sSs_cons (sndS s t O h.1) (sndSs r rest O h.2)
end
end
end Z
set_option Elab.async false
set_option linter.all false
set_option maxRecDepth 100000
set_option maxHeartbeats 4000000
/-! Z9: a program's defs, and the law's end. -/
namespace Z
open PySem PySem.Spec PyProof.Rows L2

structure Def extends He.DefD where
  ps : List Str
  N : List Str
  fn : Fn
  lam : Bool := false
  rp : Bool := false
/-- the defs that may be called; those that show data by such a def alone -/
def fnsOf (r : Bool) (defs : List Def) : List (Str × Nat) := defs.zipIdx.filterMap fun p => match p.1.at_.2 with
  | none => if p.1.rp = true ∧ r = false then none else some (p.1.at_.1, p.2)
  | some _ => none
def mthsOf (defs : List Def) : List ((Str × Str) × Nat) := defs.zipIdx.filterMap fun p => match p.1.at_.2 with
  | none => none
  | some m => some ((p.1.at_.1, m), p.2)
def clssOf (defs : List Def) : List (Str × Nat) := defs.zipIdx.filterMap fun p => match p.1.at_.2 with
  | none => none
  | some m => if m = "__init__" then some (p.1.at_.1, p.2) else none
def progOf (defs : List Def) : Nat → Fn := fun i => match defs[i]? with
  | some d => d.fn
  | none => ⟨0, 0, [.never]⟩
/-- a program: its defs, its constants, its instances' attributes (by class) -/
structure Prg where
  defs : List Def
  cons : List (Str × D)
  flds : List (Str × Str)
  tabs : List (Str × List (Str × D)) := []
  ex : Bool := false
def ctxOf (p : Prg) (d : Def) : Ctx := { N := d.N, sc := d.scope, fns := fnsOf d.rp p.defs, mths := mthsOf p.defs, clss := clssOf p.defs, flds := p.flds, lam := d.lam, rp := d.rp, cmp := none, consts := p.cons, tabs := p.tabs, xf := fnsOf false p.defs, ex := p.ex }
/-- a class's j-th statement -/
def mthS (st : Stmt) (j : Nat) : Stmt := match st with
  | .ClassDef _ _ _ body _ _ _ _ _ _ _ => body.getD j st
  | _ => st
/-- what the text tells of a def -/
structure DefS (p : Prg) (d : Def) : Prop where
  scope : FnScope d.N d.ps d.scope
  chk : chkSs (ctxOf p d) d.fn.body d.body = true
  np : d.fn.np = d.ps.length
  n : d.fn.n = d.N.length
  dfl : d.dfl = [] ∧ d.kwd = []
  bind : ∀ (kV doc pm : Value) (an : Option Addr) (cdv ct : Value) (us : List Value), us.length = d.ps.length → bindArgs (PySem.W.fnOf d.name d.qual d.params d.body d.scope .none kV doc pm an cdv ct) ⟨us, []⟩ = pure (d.ps.zip us)
  lam_ : d.lam = true → d.at_ = ((Str.ofString "news_of", none) : Str × Option Str) ∧ d.qual = Str.ofString "news_of"
  rp_ : d.rp = true → d.at_.2 = none
/-- what the top left of it -/
def DefK (K : PySem.W.Frag) (mg : Str → Option Value) (d : Def) : Prop := ∃ (f : Addr) (fd : FuncData), FunD K d.name d.qual d.params d.body d.scope [] [] f fd ∧
  (match d.at_.2 with
    | none => mg d.at_.1 = some (.ref f)
    | some m => ∃ C, clsAt K d.at_.1 = some C ∧ Cls K C ∧ Meth K C m f) ∧ (d.lam = true → ∃ cc P, fd.code = .ref cc ∧ lamTab K = some (cc, P))
/-- what the top left of the rest -/
structure TopK (p : Prg) (w : World) (K : PySem.W.Frag) (mg : Str → Option Value) : Prop where
  defs : ∀ d ∈ p.defs, DefK K mg d
  blt : ∀ x ∈ bltAll, mg x = none
  cons : ∀ x d, p.cons.lookup x = some d → ∃ u v, mg x = some u ∧ RelV v u ∧ ∀ F S H, Rep K F S H v d
  flds : ∀ n f, p.flds.contains (n, f) = true → ∃ C, clsAt K n = some C ∧ Cls K C ∧ NoAttr K C f
  clss : ∀ n g, (clssOf p.defs).lookup n = some g → ∃ C f, clsAt K n = some C ∧ Mk K C f ∧ mg n = some (.ref C)
  mgk : ∀ n f, clsAt K n = some f → mg n = some (.ref f)
  tabs : ∀ x kvs, p.tabs.lookup x = some kvs → ∃ (a : Addr) (es : Array DictEntry) (n : Nat), mg x = some (.ref a) ∧ KDict K w a es n ∧
    (∀ z, ∃ r, PySem.W.nsIn K a z = some r ∧ r.isSome = (kvs.lookup z).isSome) ∧ ∀ z d, kvs.lookup z = some d → ∃ v, KDct K w a z v ∧ ∀ F S H, Rep K F S H v d
  exc : p.ex = true → ∀ n, exKn n = true → ExCls K mg n

theorem mem_look {α β : Type} [BEq α] [LawfulBEq α] {a : α} {b : β} : ∀ {l : List (α × β)}, l.lookup a = some b → (a, b) ∈ l
  | (x, y) :: r, h => by
    rw [List.lookup_cons] at h
    cases q : (a == x) with
    | true =>
      rw [q] at h
      cases h
      rw [eq_of_beq q]
      exact List.mem_cons_self ..
    | false =>
      rw [q] at h
      exact List.mem_cons_of_mem _ (mem_look h)
theorem fns_at {r : Bool} {defs : List Def} {x : Str} {n : Nat} (h : (fnsOf r defs).lookup x = some n) : ∃ d, defs[n]? = some d ∧ d.at_ = (x, none) ∧ (d.rp = true → r = true) := by
  have h2 : (x, n) ∈ fnsOf r defs := PySem.mem_of_lookup h
  unfold fnsOf at h2
  obtain ⟨p, hp, e⟩ := List.mem_filterMap.mp h2
  have e1 := List.mem_zipIdx_iff_getElem?.mp hp
  split at e
  · rename_i q
    split at e
    · cases e
    · rename_i nr
      cases e
      refine ⟨p.1, e1, Prod.ext rfl q, fun z => ?_⟩
      cases r with
      | true => rfl
      | false => exact absurd ⟨z, rfl⟩ nr
  · cases e
theorem mths_at {defs : List Def} {x m : Str} {n : Nat} (h : (mthsOf defs).lookup (x, m) = some n) : ∃ d, defs[n]? = some d ∧ d.at_ = (x, some m) := by
  have h2 : ((x, m), n) ∈ mthsOf defs := mem_look h
  unfold mthsOf at h2
  obtain ⟨p, hp, e⟩ := List.mem_filterMap.mp h2
  have e1 := List.mem_zipIdx_iff_getElem?.mp hp
  split at e
  · cases e
  · rename_i q
    cases e
    exact ⟨p.1, e1, Prod.ext rfl q⟩
theorem clss_at {defs : List Def} {x : Str} {n : Nat} (h : (clssOf defs).lookup x = some n) : ∃ d, defs[n]? = some d ∧ d.at_ = (x, some (Str.ofString "__init__")) := by
  have h2 : (x, n) ∈ clssOf defs := PySem.mem_of_lookup h
  unfold clssOf at h2
  obtain ⟨p, hp, e⟩ := List.mem_filterMap.mp h2
  have e1 := List.mem_zipIdx_iff_getElem?.mp hp
  split at e
  · cases e
  · rename_i m q
    split at e
    · rename_i hm
      cases e
      exact ⟨p.1, e1, Prod.ext rfl (by rw [q, hm])⟩
    · cases e

theorem rl_start {K : PySem.W.Frag} {F : Addr → Prop} {S : Sto} {H : Hp} {N : List Str} {vs : List V} {ds : List D} (r : RepL K F S H vs ds) (n : Nat) (hn : n = N.length) : Rl K F S H (startD n ds) (L2.start N vs) where
  len := by
    unfold startD L2.start
    rw [List.length_append, List.length_append, List.length_map, List.length_map, List.length_replicate, List.length_replicate, r.length, hn]
  at_ := fun i d e => by
    unfold startD at e
    by_cases hi : i < ds.length
    · rw [List.getElem?_append_left (by simpa using hi), List.getElem?_map] at e
      cases q : ds[i]? with
      | none => rw [q] at e; cases e
      | some z =>
        rw [q] at e
        cases e
        obtain ⟨v, e1, r1⟩ := r.get q
        refine ⟨v, ?_, r1⟩
        unfold L2.start
        rw [List.getElem?_append_left (by rw [List.length_map, r.length]; exact hi), List.getElem?_map, e1]
        rfl
    · rw [List.getElem?_append_right (by simpa using hi), List.getElem?_replicate] at e
      split at e <;> cases e

section
variable {P : Program} {w : World} {base : Heap} {K : PySem.W.Frag} {mg : Str → Option Value} {p : Prg}
theorem DefK.binds {d : Def} (T : DefS p d) {f : Addr} {fd : FuncData} (F : FunD K d.name d.qual d.params d.body d.scope [] [] f fd) : Binds K fd d.ps [] := F.bindsN T.bind
/-- what a def promises, k calls deep -/
def Promised (P : Program) (w : World) (K : PySem.W.Frag) (mg : Str → Option Value) (base : Heap) (p : Prg) (k i : Nat) (d : Def) (f : Addr) (fd : FuncData) : Prop :=
  (d.rp = false → FnOk P w K mg base (L2N.CX P w) (2 * k) f fd d.ps (liftX K (call (progOf p.defs) k i))) ∧
  ∀ A : Around, Room (2 * k) A → (d.rp = true → A.guards = some []) → FnAt P w K mg base A f fd d.ps (lift K (call (progOf p.defs) k i))
def AllPromised (P : Program) (w : World) (K : PySem.W.Frag) (mg : Str → Option Value) (base : Heap) (p : Prg) (k : Nat) : Prop :=
  ∀ (i : Nat) (d : Def), p.defs[i]? = some d → ∀ (f : Addr) (fd : FuncData), FunD K d.name d.qual d.params d.body d.scope [] [] f fd → (d.lam = true → ∃ cc P, fd.code = .ref cc ∧ lamTab K = some (cc, P)) → Promised P w K mg base p k i d f fd
/-- a promise with no exception -/
theorem lift_toX {K : PySem.W.Frag} {sp : List Z.D → Sto → QK → EK → Prop} {vs : List V} {H : Hp} {Q : VK} {E : XK} (h : lift K sp vs H Q E) : liftX K sp vs H Q fun _ _ _ => False := by
  obtain ⟨ds, S, Q0, F, R, r, h, q⟩ := h
  exact ⟨ds, S, Q0, EX0, F, R, r, h, q, fun _ _ _ _ z => z.elim⟩
theorem fnok0 {K : PySem.W.Frag} {sp : List Z.D → Sto → QK → EK → Prop} {k : Nat} {f : Addr} {fd : FuncData} {ps : List Str} (G : FnOk P w K mg base (L2N.CX P w) k f fd ps (liftX K sp)) : FnOk P w K mg base CX0 k f fd ps (lift K sp) :=
  ⟨fun vs H Q E h => G.len vs H Q _ (lift_toX h), fun A outer s H args us vs Q E hr e0 hb r h => codeAny_mono (G.run A outer s H args us vs Q _ hr e0 hb r (lift_toX h)) fun r s' q => by
    cases r with
    | error e => obtain ⟨_, _, _, _, _, _, _, _, _, _, _, _, z⟩ := q; exact z.elim
    | ok fl => cases fl <;> exact q⟩
theorem ctx_ok (hS : ∀ d ∈ p.defs, DefS p d) (hK : TopK p w K mg) (hT : ∀ cc P, lamTab K = some (cc, P) → LamX.TabB base mg cc P) {k i : Nat} (ih : AllPromised P w K mg base p k) {d : Def} (hd : p.defs[i]? = some d) {f : Addr} {cdv : Value}
   (hl : d.lam = true → ∃ cc P, cdv = .ref cc ∧ lamTab K = some (cc, P)) (A : Around) (outer : List Env) (s : Shared) (H : Hp) (E : XK) (xe : Value → Shared → Prop) (hr : Room (2 * k + 1) (A.deeper (envOfC d.qual d.scope s.heap.objs.size f cdv))) (hg : d.rp = true → A.guards = some [])
   (pass : PassesOwn (model P w) (A.deeper (envOfC d.qual d.scope s.heap.objs.size f cdv)) (envOfC d.qual d.scope s.heap.objs.size f cdv) xe) : COk ((cxOf CX0 P w K mg base d.N d.qual d.scope f cdv A outer s H E).wish xe) (ctxOf p d) (call (progOf p.defs) k) := by
  have T := hS d (List.mem_of_getElem? hd)
  have plain : ∀ {d2 : Def} {x m : Str}, d2 ∈ p.defs → d2.at_ = (x, some m) → d2.rp = false := fun {d2 x m} hm e => by
    cases z : d2.rp with
    | false => rfl
    | true =>
      have := (hS d2 hm).rp_ z
      rw [e] at this
      cases this
  exact
    { sc := rfl, N := rfl, nd := T.scope.nd, calm := rfl, hu := (by have := hr.un; show (A.deeper (envOfC d.qual d.scope s.heap.objs.size f cdv)).units + 70 < cLine; omega), pass := pass, st := fun _ => rfl, fr := fun _ => rfl, exc := hK.exc, cons := hK.cons,
      gd := hg
      fns := fun x n hx => by
        obtain ⟨d2, h1, e2, e3⟩ := fns_at hx
        obtain ⟨f2, fd2, G2, M2, L2⟩ := hK.defs d2 (List.mem_of_getElem? h1)
        rw [e2] at M2
        exact ⟨f2, fd2, d2.ps, (ih n d2 h1 f2 fd2 G2 L2).2 _ (hr.mono (by omega)) (fun z => hg (e3 z)), M2, G2.kp, DefK.binds (hS d2 (List.mem_of_getElem? h1)) G2⟩
      blt := hK.blt
      fn := fun x _ => .inl rfl
      mths := fun n m g hx => by
        obtain ⟨d2, h1, e2⟩ := mths_at hx
        obtain ⟨f2, fd2, G2, M2, L2⟩ := hK.defs d2 (List.mem_of_getElem? h1)
        rw [e2] at M2
        obtain ⟨C, e0, cl, me⟩ := M2
        exact ⟨C, 2 * k, f2, fd2, d2.ps, e0, cl, me, fnok0 ((ih g d2 h1 f2 fd2 G2 L2).1 (plain (List.mem_of_getElem? h1) e2)), hr.mono (by omega), DefK.binds (hS d2 (List.mem_of_getElem? h1)) G2⟩
      clss := fun n g hx => by
        obtain ⟨d2, h1, e2⟩ := clss_at hx
        obtain ⟨f2, fd2, G2, M2, L2⟩ := hK.defs d2 (List.mem_of_getElem? h1)
        rw [e2] at M2
        obtain ⟨C, e0, cl, me⟩ := M2
        obtain ⟨C', f3, e0', mk, mg'⟩ := hK.clss n g hx
        rw [e0] at e0'
        cases e0'
        have ef : f3 = f2 := by
          have := mk.init.symm.trans me.at_
          cases this
          rfl
        subst ef
        exact ⟨C, 2 * k, f3, fd2, d2.ps, e0, mk, mg', fnok0 ((ih g d2 h1 f3 fd2 G2 L2).1 (plain (List.mem_of_getElem? h1) e2)), hr, DefK.binds (hS d2 (List.mem_of_getElem? h1)) G2⟩
      xfn := fun x n hx => by
        obtain ⟨d2, h1, e2, e3⟩ := fns_at hx
        obtain ⟨f2, fd2, G2, M2, L2⟩ := hK.defs d2 (List.mem_of_getElem? h1)
        rw [e2] at M2
        have nr : d2.rp = false := by
          cases z : d2.rp with
          | false => rfl
          | true => exact absurd (e3 z) Bool.false_ne_true
        exact ⟨2 * k, f2, fd2, d2.ps, (ih n d2 h1 f2 fd2 G2 L2).1 nr, hr.mono (by omega), M2, G2.kp, DefK.binds (hS d2 (List.mem_of_getElem? h1)) G2⟩
      xmth := fun n m g hx => by
        obtain ⟨d2, h1, e2⟩ := mths_at hx
        obtain ⟨f2, fd2, G2, M2, L2⟩ := hK.defs d2 (List.mem_of_getElem? h1)
        rw [e2] at M2
        obtain ⟨C, e0, cl, me⟩ := M2
        exact ⟨C, 2 * k, f2, fd2, d2.ps, e0, cl, me, ((ih g d2 h1 f2 fd2 G2 L2).1 (plain (List.mem_of_getElem? h1) e2)), hr.mono (by omega), DefK.binds (hS d2 (List.mem_of_getElem? h1)) G2⟩
      xcls := fun n g hx => by
        obtain ⟨d2, h1, e2⟩ := clss_at hx
        obtain ⟨f2, fd2, G2, M2, L2⟩ := hK.defs d2 (List.mem_of_getElem? h1)
        rw [e2] at M2
        obtain ⟨C, e0, cl, me⟩ := M2
        obtain ⟨C', f3, e0', mk, mg'⟩ := hK.clss n g hx
        rw [e0] at e0'
        cases e0'
        have ef : f3 = f2 := by
          have := mk.init.symm.trans me.at_
          cases this
          rfl
        subst ef
        exact ⟨C, 2 * k, f3, fd2, d2.ps, e0, mk, mg', ((ih g d2 h1 f3 fd2 G2 L2).1 (plain (List.mem_of_getElem? h1) e2)), hr, DefK.binds (hS d2 (List.mem_of_getElem? h1)) G2⟩
      flds := hK.flds
      mgk := hK.mgk
      tabs := hK.tabs
      lam := fun e => by
        obtain ⟨cc, P0, e1, e2⟩ := hl e
        refine ⟨cc, P0, e1, e2, hT cc P0 e2, ?_, hr.depth⟩
        show (d.qual ++ ".<locals>." : Str) ++ "<lambda>" = lamQ
        rw [(T.lam_ e).2]
        decide +kernel }
theorem body_ok (hS : ∀ d ∈ p.defs, DefS p d) (hK : TopK p w K mg) (hT : ∀ cc P, lamTab K = some (cc, P) → LamX.TabB base mg cc P) {k i : Nat} (ih : AllPromised P w K mg base p k) {d : Def} (hd : p.defs[i]? = some d) {f : Addr} {cdv : Value}
   (hl : d.lam = true → ∃ cc P, cdv = .ref cc ∧ lamTab K = some (cc, P)) (A : Around) (outer : List Env) (s : Shared) (H : Hp) (vs : List V) (Q : VK) (E : XK) (hr : Room (2 * k + 1) (A.deeper (envOfC d.qual d.scope s.heap.objs.size f cdv))) (hg : d.rp = true → A.guards = some [])
   (h0 : lift K (call (progOf p.defs) (k + 1) i) vs H Q E) : ∃ t, PSs (cxOf CX0 P w K mg base d.N d.qual d.scope f cdv A outer s H E) d.body t ∧ t { nx := fun _ H' => Q .non H', rt := Q } (L2.start d.N vs) H := by
  have T := hS d (List.mem_of_getElem? hd)
  have ep : progOf p.defs i = d.fn := by unfold progOf; rw [hd]
  obtain ⟨ds, S, Q0, F, R, r, h, q⟩ := h0
  rw [call_succ, ep] at h
  obtain ⟨hlen, h⟩ := h
  have O : COk (cxOf CX0 P w K mg base d.N d.qual d.scope f cdv A outer s H E).nox (ctxOf p d) (call (progOf p.defs) k) := ctx_ok hS hK hT ih hd hl A outer s H E _ hr hg PassesOwn.never
  refine ⟨_, PSs.nox pss_x, ?_⟩
  refine sndSs d.fn.body d.body O T.chk F { nx := fun _ S1 => Q0 .non S1, rt := Q0, bk := fun _ _ => False, ct := fun _ _ => False } _ S _ H _ R (rl_start r d.fn.n T.n) ⟨fun e S1 σ H1 q1 R1 L1 k1 => ?_, fun d1 S1 v H1 q1 R1 r1 k1 => ?_, fun _ _ _ _ z => z.elim, fun _ _ _ _ z => z.elim, _, takes_no, fun _ _ _ _ _ _ z => (show False from z).elim⟩ h
  · exact q .non S1 .non H1 q1 R1 .non k1
  · exact q d1 S1 v H1 q1 R1 r1 k1
/-- .. an exception told by its class -/
theorem body_okX (hS : ∀ d ∈ p.defs, DefS p d) (hK : TopK p w K mg) (hT : ∀ cc P, lamTab K = some (cc, P) → LamX.TabB base mg cc P) {k i : Nat} (ih : AllPromised P w K mg base p k) {d : Def} (hd : p.defs[i]? = some d) {f : Addr} {cdv : Value}
   (hl : d.lam = true → ∃ cc P, cdv = .ref cc ∧ lamTab K = some (cc, P)) (A : Around) (outer : List Env) (s : Shared) (H : Hp) (vs : List V) (Q : VK) (E : XK) (hr : Room (2 * k + 1) (A.deeper (envOfC d.qual d.scope s.heap.objs.size f cdv))) (hg : d.rp = true → A.guards = some [])
   (h0 : liftX K (call (progOf p.defs) (k + 1) i) vs H Q E) : ∃ t, PSs (cxOf (L2N.CX P w) P w K mg base d.N d.qual d.scope f cdv A outer s H E) d.body t ∧ t { nx := fun _ H' => Q .non H', rt := Q } (L2.start d.N vs) H := by
  have T := hS d (List.mem_of_getElem? hd)
  have ep : progOf p.defs i = d.fn := by unfold progOf; rw [hd]
  obtain ⟨ds, S, Q0, EX, F, R, r, h, q, o⟩ := h0
  rw [call_succ, ep] at h
  obtain ⟨hlen, h⟩ := h
  have O : COk (cxOf (L2N.CX P w) P w K mg base d.N d.qual d.scope f cdv A outer s H E) (ctxOf p d) (call (progOf p.defs) k) := ctx_ok hS hK hT ih hd hl A outer s H E _ hr hg (passes_of (X := cxOf (L2N.CX P w) P w K mg base d.N d.qual d.scope f cdv A outer s H E) rfl)
  have tk : L2N.Takes (cxOf (L2N.CX P w) P w K mg base d.N d.qual d.scope f cdv A outer s H E) (fun cls d _ H => E cls d H) := L2N.takes_of rfl rfl rfl rfl
  refine ⟨_, pss_x, ?_⟩
  refine sndSs d.fn.body d.body O T.chk F { nx := fun _ S1 => Q0 .non S1, rt := Q0, bk := fun _ _ => False, ct := fun _ _ => False, ex := fun n d _ S1 => EX n d S1 } _ S _ H _ R (rl_start r d.fn.n T.n) ⟨fun e S1 σ H1 q1 R1 L1 k1 => ?_, fun d1 S1 v H1 q1 R1 r1 k1 => ?_, fun _ _ _ _ z => z.elim, fun _ _ _ _ z => z.elim, _, tk, fun n env S1 σ H1 C x ec R1 L1 k1 => o n S1 C H1 x ec R1 k1⟩ h
  · exact q .non S1 .non H1 q1 R1 .non k1
  · exact q d1 S1 v H1 q1 R1 r1 k1
theorem defs_ok (hS : ∀ d ∈ p.defs, DefS p d) (hK : TopK p w K mg) (hT : ∀ cc P, lamTab K = some (cc, P) → LamX.TabB base mg cc P) : ∀ k : Nat, AllPromised P w K mg base p k
  | 0, i, d, hd, f, fd, G, _ => by
    have no : ∀ {vs H Q E}, ¬ lift K (call (progOf p.defs) 0 i) vs H Q E := fun {vs H Q E} ⟨ds, S, Q0, F, _, _, h, _⟩ => by rw [call_zero] at h; exact h
    have noX : ∀ {vs H Q E}, ¬ liftX K (call (progOf p.defs) 0 i) vs H Q E := fun {vs H Q E} ⟨ds, S, Q0, EX, F, _, _, h, _⟩ => by rw [call_zero] at h; exact h
    exact ⟨fun _ => ⟨fun vs H Q E z => (noX z).elim, fun A outer s H args us vs Q E _ _ _ _ z => (noX z).elim⟩, fun A _ _ => ⟨fun vs H Q E z => (no z).elim, fun outer s H args us vs Q E _ _ _ z => (no z).elim⟩⟩
  | k + 1, i, d, hd, f, fd, G, hl => by
    have T := hS d (List.mem_of_getElem? hd)
    have ep : progOf p.defs i = d.fn := by unfold progOf; rw [hd]
    have len : ∀ vs H Q E, lift K (call (progOf p.defs) (k + 1) i) vs H Q E → vs.length = d.ps.length := fun vs H Q E ⟨ds, S, Q0, F, R, r, h, q⟩ => by
      rw [call_succ, ep] at h
      rw [r.length, h.1, T.np]
    obtain ⟨oc, od, dV, kV, doc, pm, an, cdv, ct, osl, rfl, lk, hcd, _, _⟩ := G.ex
    refine ⟨fun nr => ?_, fun A hr hg => ?_⟩
    · show FnOk P w K mg base (L2N.CX P w) ((2 * k + 1) + 1) f _ d.ps _
      have lenX : ∀ vs H Q E, liftX K (call (progOf p.defs) (k + 1) i) vs H Q E → vs.length = d.ps.length := fun vs H Q E ⟨ds, S, Q0, EX, F, R, r, h, q⟩ => by
        rw [call_succ, ep] at h
        rw [r.length, h.1, T.np]
      exact fn_of lk hcd T.scope lenX fun A outer s H vs Q E hr h => body_okX hS hK hT (defs_ok hS hK hT k) hd hl A outer s H vs Q E hr (fun z => by rw [nr] at z; cases z) h
    · exact fnAt_of lk hcd T.scope hr.hd hr.depth len fun outer s H vs Q E h => body_ok hS hK hT (defs_ok hS hK hT k) hd hl A outer s H vs Q E (Room.deeper (k := 2 * k + 1) hr _) hg h
end
/-- the script as the law is handed it -/
theorem lift_law {K : PySem.W.Frag} {cs : List D → Sto → QK → EK → Prop} {H : Hp} {a : Addr} {ns : List Int} (hS : SqL K H a (ns.map V.int)) (hT : TabZ K H) (h : cs [.lsk (ns.map D.int)] (fun _ => none) (fun d _ => d = .bl true) EX0) :
    lift K cs [.ref a] H (fun v _ => v = .bl true) fun _ _ _ => False := by
  have intsR : ∀ ns : List Int, RepL K (fun _ => False) (fun _ => none) H (ns.map V.int) (ns.map D.int) := by
    intro ns
    induction ns with
    | nil => exact .nil
    | cons n r ih => exact .cons (.int n) ih
  refine ⟨[.lsk (ns.map D.int)], fun _ => none, fun d _ => d = .bl true, fun _ => False, ⟨fun _ _ e => (nomatch e), fun _ f => False.elim f, hT⟩, .cons (.lsk (hS.elim (fun z => .inl ⟨z, rfl, fun f => f⟩) fun z => .inr (.inr z)) (intsR ns)) .nil, h, fun d S' v H' q R r k => ?_⟩
  subst q
  cases r
  rfl
/-- a tuple of the written part -/
theorem rep_tup {K : PySem.W.Frag} {F : Addr → Prop} {S : Sto} {H : Hp} {a : Addr} {od : Option Addr} {its : Array Value} {n : Nat} {sl : Array (Option Value)} {xs : List V} {ds : List D} (l : K.lookup a = some ⟨.type "tuple", od, .seq its n, sl⟩) (hz : its.size ≤ 16777216) (v : Vals xs its.toList) (r : RepL K F S H xs ds) :
    Rep K F S H (.ref a) (.tup ds) := .tup (.inr (.inr ⟨_, its, n, l, rfl, rfl, by rw [sz]; exact hz, v⟩)) r
end Z
set_option Elab.async false
set_option linter.all false
set_option maxRecDepth 100000
set_option maxHeartbeats 4000000
/-! Z95: what the top left, looked at in one go; the law's end over it. -/
namespace Z
open PySem PySem.Spec PyProof.Rows L2

def isTab (o : Obj) : Bool := match o.cls, o.data with
  | .none, .fields _ => true
  | _, _ => false
/-- the heap without the tables of code objects -/
def cutG (g : Addr → Option Obj) (a : Addr) : Option Obj := match g a with
  | some o => if isTab o then none else some o
  | none => none
/-! what the globals reach, level by level; what is met stands as bits of a number -/
def frN {α : Type} (n : Nat) (k : Nat → α) : α := match n with
  | 0 => k 0
  | m + 1 => k (m + 1)
def hasB (m a : Nat) : Bool := Nat.beq (Nat.land (Nat.shiftRight m a) 1) 1
def refM {α : Type} : List Addr → Nat → List Addr → (Nat → List Addr → α) → α
  | [], m, acc, k => k m acc
  | a :: r, m, acc, k => match hasB m a with
    | true => refM r m acc k
    | false => frN a fun a => frN (Nat.lor m (Nat.shiftLeft 1 a)) fun m => refM r m (a :: acc) k
def levM {α : Type} (g : Addr → Option Obj) : List Addr → Nat → List Addr → (Nat → List Addr → α) → α
  | [], m, acc, k => k m acc
  | a :: r, m, acc, k => match g a with
    | some o => refM (He.refsD o) m acc fun m acc => levM g r m acc k
    | none => levM g r m acc k
def bfsM (g : Addr → Option Obj) : Nat → Nat → List Addr → List Addr
  | 0, _, front => front
  | n + 1, m, front => front ++ levM g front m [] (bfsM g n)
def fragZ (n : Nat) (g : Addr → Option Obj) : PySem.W.Frag := He.frG (cutG g) (bfsM g n (Nat.shiftLeft 1 mainGlobals) [mainGlobals])
theorem cutG_at {g : Addr → Option Obj} {a : Addr} {o : Obj} (h : cutG g a = some o) : g a = some o ∧ isTab o = false := by
  unfold cutG at h
  split at h
  · rename_i u e
    split at h
    · cases h
    · rename_i q
      cases h
      refine ⟨e, ?_⟩
      cases z : isTab o with
      | true => exact absurd z q
      | false => rfl
  · cases h
theorem fragZ_at {n : Nat} {g : Addr → Option Obj} {a : Addr} {o : Obj} (h : (fragZ n g).lookup a = some o) : g a = some o ∧ isTab o = false := cutG_at (He.frG_at _ h)
mutual
/-- the value is that datum, in the written part -/
def repB (K : PySem.W.Frag) : D → Value → Bool
  | .non, v => match v with
    | .none => true
    | _ => false
  | .bl b, v => match v with
    | .bool c => b == c
    | _ => false
  | .int i, v => match v with
    | .int j _ => decide (i = j)
    | _ => false
  | .str x, v => match v with
    | .str y _ => decide (x = y)
    | _ => false
  | .tup ds, v => match v with
    | .ref a => (match K.lookup a with
      | some ⟨.type c, _, .seq its _, _⟩ => decide (c = "tuple") && decide (its.size ≤ 16777216) && repBs K ds its.toList
      | _ => false)
    | _ => false
  | .ty n, v => match v with
    | .ref a => (match clsAt K n with
      | some f => decide (f = a)
      | none => false)
    | _ => false
  | _, _ => false
def repBs (K : PySem.W.Frag) : List D → List Value → Bool
  | [], vs => match vs with
    | [] => true
    | _ => false
  | d :: ds, vs => match vs with
    | v :: r => repB K d v && repBs K ds r
    | _ => false
end
mutual
theorem repB_ok {K : PySem.W.Frag} : ∀ (d : D) (u : Value), repB K d u = true → ∃ v, RelV v u ∧ ∀ F S H, Rep K F S H v d
  | .non, u, h => by cases u <;> first | exact ⟨.non, rfl, fun _ _ _ => .non⟩ | exact nomatch h
  | .bl b, u, h => by
    cases u with
    | bool c =>
      have e : (b == c) = true := h
      exact ⟨.bl b, by rw [eq_of_beq e]; rfl, fun _ _ _ => .bl b⟩
    | _ => exact nomatch h
  | .int i, u, h => by
    cases u with
    | int j t => exact ⟨.int i, ⟨t, by rw [of_decide_eq_true (show decide (i = j) = true from h)]⟩, fun _ _ _ => .int i⟩
    | _ => exact nomatch h
  | .str i, u, h => by
    cases u with
    | str j t => exact ⟨.str i, ⟨t, by rw [of_decide_eq_true (show decide (i = j) = true from h)]⟩, fun _ _ _ => .str i⟩
    | _ => exact nomatch h
  | .tup ds, u, h => by
    cases u with
    | ref a =>
      have h : (match K.lookup a with
        | some ⟨.type c, _, .seq its _, _⟩ => decide (c = "tuple") && decide (its.size ≤ 16777216) && repBs K ds its.toList
        | _ => false) = true := h
      split at h
      · rename_i c od its n sl e
        simp only [Bool.and_eq_true, decide_eq_true_eq] at h
        obtain ⟨⟨rfl, h2⟩, h3⟩ := h
        obtain ⟨vs, r, q⟩ := repBs_ok ds _ h3
        exact ⟨.ref a, rfl, fun F S H => rep_tup e h2 r (q F S H)⟩
      · cases h
    | _ => exact nomatch h
  | .lst _, u, h => nomatch h
  | .lsk _, u, h => nomatch h
  | .ref _, u, h => nomatch h
  | .ty n, u, h => by
    cases u with
    | ref a =>
      have h : (match clsAt K n with
        | some f => decide (f = a)
        | none => false) = true := h
      split at h
      · rename_i f e
        refine ⟨.ref a, rfl, fun _ _ _ => .fn ?_⟩
        rw [e, of_decide_eq_true h]
      · cases h
    | _ => exact nomatch h
theorem repBs_ok {K : PySem.W.Frag} : ∀ (ds : List D) (us : List Value), repBs K ds us = true → ∃ vs, Vals vs us ∧ ∀ F S H, RepL K F S H vs ds
  | [], us, h => by
    cases us with
    | nil => exact ⟨[], .nil, fun _ _ _ => .nil⟩
    | cons _ _ => exact nomatch h
  | d :: ds, us, h => by
    cases us with
    | nil => exact nomatch h
    | cons u us =>
      have h : (repB K d u && repBs K ds us) = true := h
      rw [Bool.and_eq_true] at h
      obtain ⟨v, r, q⟩ := repB_ok d u h.1
      obtain ⟨vs, r2, q2⟩ := repBs_ok ds us h.2
      exact ⟨v :: vs, .cons r r2, fun F S H => .cons (q F S H) (q2 F S H)⟩
end
def conB (K : PySem.W.Frag) (q : Str × D) : Bool := match PySem.W.nsIn K mainGlobals q.1 with
  | some (some u) => repB K q.2 u
  | _ => false
/-! ### tables -/
/-- a dict's entries are these pairs -/
def entsB (K : PySem.W.Frag) : List DictEntry → List (Str × D) → Bool
  | [], kvs => match kvs with
    | [] => true
    | _ => false
  | e :: es, kvs => match kvs with
    | (k, d) :: r => (match e.key with
      | .str x _ => decide (x = k)
      | _ => false) && repB K d e.val && entsB K es r
    | _ => false
def tblB (K : PySem.W.Frag) (q : Str × List (Str × D)) : Bool := match PySem.W.nsIn K mainGlobals q.1 with
  | some (some (.ref a)) => (match K.lookup a with
    | some ⟨.type c, none, .dict es _, sl⟩ => decide (c = "dict") && sl.isEmpty && !(a == sysModules) && entsB K es.toList q.2
    | _ => false)
  | _ => false
theorem ents_find {K : PySem.W.Frag} : ∀ {es : List DictEntry} {kvs : List (Str × D)}, entsB K es kvs = true → ∀ z : Str, (es.any (·.refKey) = false) ∧ match kvs.lookup z with
    | some d => ∃ e, es.find? (·.key.isStr z) = some e ∧ repB K d e.val = true
    | none => es.find? (·.key.isStr z) = none
  | [], kvs, h, z => by
    cases kvs with
    | nil => exact ⟨rfl, rfl⟩
    | cons _ _ => exact nomatch h
  | e :: es, kvs, h, z => by
    cases kvs with
    | nil => exact nomatch h
    | cons p r =>
      obtain ⟨k, d⟩ := p
      have h : ((match e.key with
        | .str x _ => decide (x = k)
        | _ => false) && repB K d e.val && entsB K es r) = true := h
      simp only [Bool.and_eq_true] at h
      obtain ⟨⟨h1, h2⟩, h3⟩ := h
      obtain ⟨x, t, ek, rfl⟩ : ∃ x t, e.key = .str x t ∧ x = k := by
        split at h1
        · rename_i x t q
          exact ⟨x, t, q, of_decide_eq_true h1⟩
        · cases h1
      obtain ⟨ih1, ih2⟩ := ents_find h3 z
      have rk : e.refKey = false := by
        unfold DictEntry.refKey
        rw [ek]
      refine ⟨by rw [List.any_cons, rk, ih1]; rfl, ?_⟩
      rw [List.lookup_cons, List.find?_cons]
      have ke : e.key.isStr z = (x == z) := by rw [ek]; rfl
      rw [ke]
      cases q : (z == x) with
      | true =>
        have : z = x := eq_of_beq q
        subst this
        rw [show (z == z) = true from beq_self_eq_true z]
        exact ⟨e, rfl, h2⟩
      | false =>
        have : (x == z) = false := by
          cases y : (x == z) with
          | false => rfl
          | true => rw [eq_of_beq y, beq_self_eq_true] at q; cases q
        rw [this]
        exact ih2
/-- the facts that a def, an attribute, a class lean on -/
def faDef (d : Def) : List He.Fa := match d.at_.2 with
  | none => [.glo d.at_.1]
  | some m => if m = "__init__" then [.glo d.at_.1, .cls d.at_.1, .meth d.at_.1 m, .mkr d.at_.1] else [.glo d.at_.1, .cls d.at_.1, .meth d.at_.1 m]
def faFld (q : Str × Str) : List He.Fa := [.glo q.1, .cls q.1, .noat q.1 q.2]
def factsOf (p : Prg) : List He.Fa := p.defs.flatMap faDef ++ (p.flds.flatMap faFld ++ bltAll.map He.Fa.free)
/-- the lambda's table, where there is one; none where data are shown -/
def lamB (p : Prg) (K : PySem.W.Frag) : Bool := match p.defs.any (·.rp) with
  | true => (lamTab K).isNone && !p.defs.any (·.lam)
  | false => !p.defs.any (·.lam) || (lamTab K).isSome
theorem lamB_some {p : Prg} {K : PySem.W.Frag} (h : lamB p K = true) (l : p.defs.any (·.lam) = true) : (lamTab K).isSome = true := by
  unfold lamB at h
  rw [l] at h
  split at h
  · rw [Bool.not_true, Bool.and_false] at h
    cases h
  · exact h
theorem lamB_none {p : Prg} {K : PySem.W.Frag} (h : lamB p K = true) (l : p.defs.any (·.rp) = true) : lamTab K = none := by
  unfold lamB at h
  rw [l] at h
  exact Option.isNone_iff_eq_none.mp (Bool.and_eq_true_iff.mp h).1
/-! ### own exception classes -/
def exA (K : PySem.W.Frag) (C : Addr) : Bool := PySem.W.keepIn K (.ref C) && (PySem.W.excIn K C [.type "ValueError", .type "Exception", .type "BaseException", .type "object"] "ValueError.__new__" && (decide (PySem.W.typeIn K (.ref C) = some (.type "type")) &&
  (decide (PySem.W.findIn K (.ref C) "__getattribute__" = some (some (.builtin "BaseException.__getattribute__"))) && (decide (PySem.W.findIn K (.ref C) "__getattr__" = some none) && (decide (PySem.W.subIn K (.ref C) (.type "BaseException") = some true) && (PySem.W.hasDictIn K C &&
  (decide (PySem.W.findIn K (.ref C) "__class__" = some (some (.builtin "object.__class__"))) && (decide (PySem.W.specialIn K (.builtin "object.__class__") "__get__" = some (some (.builtin "getset_descriptor.__get__"))) && (decide (PySem.W.takesIn K (.builtin "object.__class__") = some true) && decide (PySem.W.mroIn K C (.type "object") = some true))))))))))
def exM (K : PySem.W.Frag) (n : Str) (C : Addr) (m : Str) : Bool := match clsAt K m with
  | some D => PySem.W.keepIn K (.ref D) && (decide (PySem.W.exmOne K (.ref C) (.ref D) = some (exSub n m)) && (decide (PySem.W.kitOne K (.ref C) (.ref D) = some (exSub n m)) && decide (PySem.W.kitOne K (.type "NoneType") (.ref D) = some false)))
  | none => false
def exN (K : PySem.W.Frag) (n : Str) : Bool := match clsAt K n with
  | some C => exA K C && (exAll.all (exM K n C) && decide (PySem.W.kitOne K (.ref C) (.type "ValueError") = some true))
  | none => false
def exB (p : Prg) (K : PySem.W.Frag) : Bool := match p.ex with
  | true => exN K (Str.ofString "NoText") && exN K (Str.ofString "NoLine")
  | false => true
theorem cls_mg {K : PySem.W.Frag} {h : Heap} {mg : Str → Option Value} {n : Str} {C : Addr} (X : K.In h) (G : h.Ns mainGlobals mg) (e : clsAt K n = some C) : mg n = some (.ref C) := by
  unfold clsAt at e
  split at e
  · rename_i D q
    cases e
    exact PySem.W.mg_of X G q
  · cases e
theorem exN_ok {K : PySem.W.Frag} {h : Heap} {mg : Str → Option Value} {n : Str} (X : K.In h) (G : h.Ns mainGlobals mg) (q : exN K n = true) : ExCls K mg n := by
  unfold exN at q
  split at q
  · rename_i C e
    simp only [Bool.and_eq_true, decide_eq_true_eq] at q
    obtain ⟨a, b, ve⟩ := q
    unfold exA at a
    simp only [Bool.and_eq_true, decide_eq_true_eq] at a
    obtain ⟨a1, a2, a3, a4, a5, a6, a7, a8, a9, a10, a11⟩ := a
    have M : ∀ m ∈ exAll, ∃ D, clsAt K m = some D ∧ PySem.W.keepIn K (.ref D) = true ∧ PySem.W.exmOne K (.ref C) (.ref D) = some (exSub n m) ∧ PySem.W.kitOne K (.ref C) (.ref D) = some (exSub n m) ∧ PySem.W.kitOne K (.type "NoneType") (.ref D) = some false := fun m hm => by
      have z := List.all_eq_true.mp b m hm
      unfold exM at z
      split at z
      · rename_i D eD
        simp only [Bool.and_eq_true, decide_eq_true_eq] at z
        exact ⟨D, eD, z.1, z.2.1, z.2.2.1, z.2.2.2⟩
      · cases z
    refine ⟨⟨C, e, cls_mg X G e, a1, a2, ⟨a4, a5, a6, a7, a8, a9, a10, a11⟩, a3⟩, fun C2 e2 m hm => ?_, fun C2 e2 => ?_, fun m hm D eD => ?_⟩
    · rw [e] at e2
      cases e2
      obtain ⟨D, eD, k, x, y, _⟩ := M m hm
      exact ⟨D, eD, cls_mg X G eD, k, x, y⟩
    · rw [e] at e2
      cases e2
      exact ve
    · obtain ⟨D2, eD2, _, _, _, z⟩ := M m hm
      rw [eD] at eD2
      cases eD2
      exact z
  · cases q
theorem exB_ok {p : Prg} {K : PySem.W.Frag} {h : Heap} {mg : Str → Option Value} (X : K.In h) (G : h.Ns mainGlobals mg) (q : exB p K = true) (hx : p.ex = true) (n : Str) (hn : exKn n = true) : ExCls K mg n := by
  unfold exB at q
  rw [hx] at q
  have q : (exN K (Str.ofString "NoText") && exN K (Str.ofString "NoLine")) = true := q
  rw [Bool.and_eq_true] at q
  unfold exKn at hn
  rw [Bool.or_eq_true, decide_eq_true_eq, decide_eq_true_eq] at hn
  rcases hn with rfl | rfl
  · exact exN_ok X G q.1
  · exact exN_ok X G q.2
def okK (p : Prg) (K : PySem.W.Frag) : Bool := ((factsOf p).all fun f => f.ok K) && (p.defs.all (fun d => d.toDefD.ok K) && (p.cons.all (conB K) && (lamB p K && (p.tabs.all (tblB K) && exB p K))))
/-- a code object with the table at P: the library's look, over the one object -/
def codeB (g : Addr → Option Obj) (c P : Addr) : Bool := match g c with
  | some o => PySem.W.codeHdIn [(c, o)] c P
  | none => false
def emptyB (g : Addr → Option Obj) (P : Addr) : Bool := match g P with
  | some ⟨.none, none, .fields vs, sl⟩ => vs.isEmpty && sl.isEmpty
  | _ => false
def tabB (K : PySem.W.Frag) (g : Addr → Option Obj) : Bool := match lamTab K with
  | some (c, P) => codeB g c P && emptyB g P
  | none => true
theorem codeB_ok {h : Heap} {c P : Addr} (e : codeB h.get? c P = true) : PySem.W.CodeHd h c P := by
  unfold codeB at e
  cases q : h.get? c with
  | none => rw [q] at e; cases e
  | some o =>
    rw [q] at e
    refine PySem.W.codeHd_of_K (K := [(c, o)]) (fun a o' z => ?_) e
    rw [List.lookup_cons] at z
    split at z
    · rename_i w
      cases z
      rw [eq_of_beq w, q]
    · cases z
theorem emptyB_ok {h : Heap} {P : Addr} (e : emptyB h.get? P = true) : h.get? P = some { cls := .none, data := .fields #[] } := by
  unfold emptyB at e
  split at e
  · rename_i vs sl q
    rw [Bool.and_eq_true] at e
    rw [q, Array.isEmpty_iff.mp e.1, Array.isEmpty_iff.mp e.2]
  · cases e
abbrev AlZ : Type := Bool × (List He.FnW × List (Option (List (Option (Str × Int)))))
def obsK (p : Prg) (g : Addr → Option Obj) (K : PySem.W.Frag) : AlZ := (okK p K && tabB K g, (p.defs.map fun d => He.fnW K d.at_, p.tabs.map fun q => He.dicW K (He.ga K q.1)))
def obsZ (p : Prg) (n : Nat) (g : Addr → Option Obj) : AlZ := obsK p g (fragZ n g)
def valZ (p : Prg) (w : World) : AlZ := (true, (p.defs.map fun d => d.toDefD.val, p.tabs.map fun q => some (He.keysIn w.params (q.2.map (·.1)))))
/-- what the end leans on -/
structure SaysZ (p : Prg) (w : World) (K : PySem.W.Frag) (h : Heap) : Prop where
  ok : okK p K = true
  fns : (p.defs.map fun d => He.fnW K d.at_) = p.defs.map fun d => d.toDefD.val
  tbl : (p.tabs.map fun q => He.dicW K (He.ga K q.1)) = p.tabs.map fun q => some (He.keysIn w.params (q.2.map (·.1)))
  tab : ∀ c P, lamTab K = some (c, P) → PySem.W.CodeHd h c P ∧ h.get? P = some { cls := .none, data := .fields #[] } ∧ K.lookup P = none
def hookZ (p : Prg) (n : Nat) : PySem.W.Hook where
  α := AlZ
  obs := fun s => obsZ p n s.heap.get?
  val := fun w => valZ p w
  says := fun w h => ∃ K : PySem.W.Frag, K.In h ∧ SaysZ p w K h
  of := fun _ s e => by
    have e1 : (okK p (fragZ n s.heap.get?) && tabB (fragZ n s.heap.get?) s.heap.get?) = true := congrArg (fun z : AlZ => z.1) e
    rw [Bool.and_eq_true] at e1
    refine ⟨fragZ n s.heap.get?, fun _ _ q => (fragZ_at q).1, e1.1, congrArg (fun z : AlZ => z.2.1) e, congrArg (fun z : AlZ => z.2.2) e, fun c P q => ?_⟩
    have e2 : tabB (fragZ n s.heap.get?) s.heap.get? = true := e1.2
    unfold tabB at e2
    rw [q] at e2
    have e2 : (codeB s.heap.get? c P && emptyB s.heap.get? P) = true := e2
    rw [Bool.and_eq_true] at e2
    have e3 := emptyB_ok e2.2
    refine ⟨codeB_ok e2.1, e3, ?_⟩
    cases z : (fragZ n s.heap.get?).lookup P with
    | none => rfl
    | some o =>
      obtain ⟨z1, z2⟩ := fragZ_at z
      rw [e3] at z1
      cases z1
      cases z2
  keeps := fun _ _ _ ⟨K, hK, c⟩ k => ⟨K, PySem.W.Frag.In.keeps hK k, c.ok, c.fns, c.tbl, fun a P q => ⟨(c.tab a P q).1.keeps k, k _ _ (c.tab a P q).2.1, (c.tab a P q).2.2⟩⟩
/-- for the run: over any reading of the heap -/
theorem obsZ_eq {p : Prg} {n : Nat} {g : Addr → Option Obj} {s : Shared} (h : ∀ a, g a = s.heap.get? a) : obsZ p n g = (hookZ p n).obs s := by
  have e : g = s.heap.get? := funext h
  rw [e] <;> rfl
section
variable {p : Prg} {w : World} {K : PySem.W.Frag} {h : Heap} {mg : Str → Option Value}
theorem clsAt_glo {x : Str} (e : (He.Fa.glo x).ok K = true) : clsAt K x = some (He.ga K x) := by
  unfold clsAt
  rw [He.eqO_ok e]
theorem top_of (hS : ∀ d ∈ p.defs, DefS p d) (X : K.In h) (G : h.Ns mainGlobals mg) (c : SaysZ p w K h) : TopK p w K mg := by
  have o := c.ok
  unfold okK at o
  simp only [Bool.and_eq_true, Bool.or_eq_true, Bool.not_eq_true'] at o
  obtain ⟨o1, o2, o3, o4, o5, o6⟩ := o
  have fact : ∀ f ∈ factsOf p, f.ok K = true := List.all_eq_true.mp o1
  have fD : ∀ d ∈ p.defs, ∀ f ∈ faDef d, f.ok K = true := fun d hd f hf => fact f (List.mem_append_left _ (List.mem_flatMap.mpr ⟨d, hd, hf⟩))
  have fF : ∀ q ∈ p.flds, ∀ f ∈ faFld q, f.ok K = true := fun q hq f hf => fact f (List.mem_append_right _ (List.mem_append_left _ (List.mem_flatMap.mpr ⟨q, hq, hf⟩)))
  have fB : ∀ x ∈ bltAll, (He.Fa.free x).ok K = true := fun x hx => fact _ (List.mem_append_right _ (List.mem_append_right _ (List.mem_map.mpr ⟨x, hx, rfl⟩)))
  -- a def's function
  have fn : ∀ d ∈ p.defs, ∃ fd, FunD K d.name d.qual d.params d.body d.scope [] [] (He.fAd K d.at_) fd := fun d hd => by
    obtain ⟨i, hi, e⟩ := List.getElem_of_mem hd
    have e1 : (p.defs.map fun d => He.fnW K d.at_)[i]? = (p.defs.map fun d => d.toDefD.val)[i]? := by rw [c.fns]
    rw [List.getElem?_map, List.getElem?_map, List.getElem?_eq_getElem hi, e] at e1
    obtain ⟨fd, F⟩ := He.DefD.funD (Option.some.inj e1) (List.all_eq_true.mp o2 d hd)
    obtain ⟨z1, z2⟩ := (hS d hd).dfl
    have y1 : He.DefD.dvs K d.toDefD = [] := by unfold He.DefD.dvs; rw [z1]; rfl
    have y2 : He.DefD.kws K d.toDefD = [] := by unfold He.DefD.kws; rw [z2]; rfl
    rw [y1, y2] at F
    exact ⟨fd, F⟩
  refine ⟨fun d hd => ?_, fun x hx => He.free_ok X G (fB x hx), fun x d hx => ?_, fun n f hq => ?_, fun n g hg => ?_, fun n f hc => ?_, fun x kvs hx => ?_, exB_ok X G o6⟩
  · obtain ⟨fd, F⟩ := fn d hd
    refine ⟨_, fd, F, ?_, fun hl => ?_⟩
    · have q := fD d hd
      unfold faDef at q
      cases e : d.at_.2 with
      | none =>
        rw [e] at q
        have := He.glo_ok X G (q _ (List.mem_singleton.mpr rfl))
        show mg d.at_.1 = some (.ref (He.fAd K d.at_))
        unfold He.fAd
        rw [e]
        exact this
      | some m =>
        rw [e] at q
        have e2 : He.fAd K d.at_ = He.ma K (He.ga K d.at_.1) m := by
          unfold He.fAd
          rw [e]
        rw [e2]
        have q3 : ∀ f ∈ ([.glo d.at_.1, .cls d.at_.1, .meth d.at_.1 m] : List He.Fa), f.ok K = true := fun f hf => q f (by
          show f ∈ (if m = Str.ofString "__init__" then [.glo d.at_.1, .cls d.at_.1, .meth d.at_.1 m, .mkr d.at_.1] else [.glo d.at_.1, .cls d.at_.1, .meth d.at_.1 m] : List He.Fa)
          by_cases hm : m = Str.ofString "__init__"
          · rw [if_pos hm]
            simp only [List.mem_cons, List.not_mem_nil, or_false] at hf ⊢
            rcases hf with rfl | rfl | rfl <;> simp
          · rw [if_neg hm]
            exact hf)
        exact ⟨_, clsAt_glo (q3 _ (by simp)), He.cls_ok (q3 (.cls d.at_.1) (by simp)), He.meth_ok (q3 (.meth d.at_.1 m) (by simp))⟩
    · obtain ⟨e1, e2⟩ := (hS d hd).lam_ hl
      obtain ⟨⟨cc, P⟩, e3⟩ := Option.isSome_iff_exists.mp (lamB_some o4 (List.any_eq_true.mpr ⟨d, hd, hl⟩))
      refine ⟨cc, P, ?_, e3⟩
      rw [e1] at F
      obtain ⟨oc, od, dV, kV, doc, pm, an, cdv, ct, osl, rfl, lk, _, _, _⟩ := F.ex
      -- the def whose code the table is of
      unfold lamTab PySem.W.tabIn at e3
      split at e3
      · rename_i f hf
        have ef : He.fAd K (Str.ofString "news_of", none) = f := by
          unfold He.fAd He.ga
          rw [hf]
        rw [ef] at lk
        rw [lk] at e3
        simp only at e3
        split at e3
        · rename_i c0 hc0
          split at e3
          · split at e3
            · cases e3
              rfl
            · cases e3
          · cases e3
        · cases e3
      · cases e3
  · have q := List.all_eq_true.mp o3 (x, d) (PySem.mem_of_lookup hx)
    unfold conB at q
    split at q
    · rename_i u e
      obtain ⟨v, r, z⟩ := repB_ok d u q
      exact ⟨u, v, PySem.W.mg_of X G e, r, z⟩
    · cases q
  · have q := fF (n, f) (List.contains_iff_mem.mp hq)
    exact ⟨_, clsAt_glo (q (.glo n) (by simp [faFld])), He.cls_ok (q (.cls n) (by simp [faFld])), He.noat_ok (q (.noat n f) (by simp [faFld]))⟩
  · obtain ⟨d, h1, h2⟩ := clss_at hg
    have q := fD d (List.mem_of_getElem? h1)
    unfold faDef at q
    rw [h2] at q
    have q : ∀ f ∈ ([.glo n, .cls n, .meth n (Str.ofString "__init__"), .mkr n] : List He.Fa), f.ok K = true := fun f hf => q f (by
      show f ∈ (if Str.ofString "__init__" = Str.ofString "__init__" then _ else _ : List He.Fa)
      rw [if_pos rfl]
      exact hf)
    exact ⟨_, _, clsAt_glo (q (.glo n) (by simp)), He.mkr_ok (q (.mkr n) (by simp)), He.glo_ok X G (q (.glo n) (by simp))⟩
  · unfold clsAt at hc
    split at hc
    · rename_i C e
      cases hc
      exact PySem.W.mg_of X G e
    · cases hc
  · have hm : (x, kvs) ∈ p.tabs := PySem.mem_of_lookup hx
    have q := List.all_eq_true.mp o5 (x, kvs) hm
    have dk : He.dicW K (He.ga K x) = some (He.keysIn w.params (kvs.map (·.1))) := List.map_inj_left.mp c.tbl (x, kvs) hm
    unfold tblB at q
    split at q
    · rename_i a e
      rw [show He.ga K x = a by unfold He.ga; rw [e]] at dk
      obtain ⟨es, n, kd⟩ := He.dicW_ok dk
      have e : PySem.W.nsIn K mainGlobals x = some (some (.ref a)) := e
      rw [kd.at_] at q
      simp only [Bool.and_eq_true] at q
      have find := ents_find q.2
      have look : ∀ z : Str, PySem.W.nsIn K a z = some ((es.toList.find? (·.key.isStr z)).map (·.val)) := fun z => by
        unfold PySem.W.nsIn
        rw [kd.at_]
        simp only
        cases f : es.toList.find? (·.key.isStr z) with
        | some e => rfl
        | none =>
          rw [(find z).1]
          rfl
      refine ⟨a, es, n, PySem.W.mg_of X G e, kd, fun z => ⟨_, look z, ?_⟩, fun z d hz => ?_⟩
      · have f := (find z).2
        cases l : kvs.lookup z with
        | some d =>
          rw [l] at f
          obtain ⟨e, f1, _⟩ := f
          rw [f1]
          rfl
        | none =>
          rw [l] at f
          rw [f]
          rfl
      · have f := (find z).2
        rw [hz] at f
        obtain ⟨e, f1, f2⟩ := f
        obtain ⟨v, r, rp⟩ := repB_ok d e.val f2
        exact ⟨v, ⟨es, n, e.val, kd.at_, kd.lit, by rw [look z, f1]; rfl, r⟩, rp⟩
    · cases q
/-- the law at the head's heap -/
theorem law_at {l : PySem.W.OpenLaw} {w : World} {depth i : Nat} {dl : Def} {x : Str} {fa : Addr} (hS : ∀ d ∈ p.defs, DefS p d) (hd : p.defs[i]? = some dl) (hat : dl.at_ = ((Str.ofString "law", none) : Str × Option Str)) (hps : dl.ps = [x]) (hrp : dl.rp = false)
    (hlaw : ∀ ns : List Int, ns.length ≤ 63 → call (progOf p.defs) depth i [.lsk (ns.map .int)] (fun _ => none) (fun d _ => d = .bl true) EX0) (X : K.In h) (c : SaysZ p w K h) (G : h.Ns mainGlobals mg) (hmg : mg "law" = some (.ref fa)) :
    LamX.LawAtS l w K CX0 (2 * depth) 63 x mg fa h := by
  have T := top_of hS X G c
  obtain ⟨f, fd, F, M, L⟩ := T.defs dl (List.mem_of_getElem? hd)
  rw [hat] at M
  have ef : fa = f := by
    have := hmg.symm.trans M
    cases this
    rfl
  subst ef
  have B := DefK.binds (hS dl (List.mem_of_getElem? hd)) F
  let cs : List (Addr × Addr) := match lamTab K with
    | some q => [q]
    | none => []
  have mem : ∀ q ∈ cs, lamTab K = some q := fun q hq => by
    have hq : q ∈ (match lamTab K with | some q => [q] | none => [] : List (Addr × Addr)) := hq
    cases e : lamTab K with
    | none => rw [e] at hq; cases hq
    | some z => rw [e] at hq; rw [List.mem_singleton.mp hq]
  have mem2 : ∀ q, lamTab K = some q → q ∈ cs := fun q e => by
    show q ∈ (match lamTab K with | some q => [q] | none => [] : List (Addr × Addr))
    rw [e]
    exact List.mem_singleton.mpr rfl
  refine ⟨fd, cs, lift K (call (progOf p.defs) depth i), fun q hq => (c.tab q.1 q.2 (mem q hq)).2.1, fun q hq => (c.tab q.1 q.2 (mem q hq)).2.2, fun q hq => (c.tab q.1 q.2 (mem q hq)).1, fun s u => ?_, fun H a ns hl _ hT hs => ?_, fun base KB GB TB => ?_⟩
  · obtain ⟨oc, od, dV, kV, doc, pm, an, cdv, ct, osl, rfl, lk, _, hD, _⟩ := F.ex
    have b := (hS dl (List.mem_of_getElem? hd)).bind
    rcases hD with ⟨_, rfl⟩ | ⟨e, _⟩
    · have := b kV doc pm an cdv ct [u] (by rw [hps]; rfl)
      rw [hps] at this
      exact .of_eq this
    · exact absurd rfl e
  · exact lift_law hs (fun cc P e => LamX.TabS.nil (hT _ (mem2 _ e))) (hlaw ns hl)
  · have := (defs_ok (P := l.prog) (w := w) (base := base) hS T (fun cc P e => TB _ (mem2 _ e)) depth i dl hd fa fd F L).1 hrp
    rw [hps] at this
    exact fnok0 this
/-- the same where the law shows data: it is called where no repr is under way; no table is wanted -/
theorem law_atC {l : PySem.W.OpenLaw} {w : World} {depth i : Nat} {dl : Def} {x : Str} {fa : Addr} (hS : ∀ d ∈ p.defs, DefS p d) (hd : p.defs[i]? = some dl) (hat : dl.at_ = ((Str.ofString "law", none) : Str × Option Str)) (hps : dl.ps = [x]) (shows : p.defs.any (·.rp) = true)
    (room : Room (2 * depth) callerA)
    (hlaw : ∀ ns : List Int, ns.length ≤ 63 → call (progOf p.defs) depth i [.lsk (ns.map .int)] (fun _ => none) (fun d _ => d = .bl true) EX0) (X : K.In h) (c : SaysZ p w K h) (G : h.Ns mainGlobals mg) (hmg : mg "law" = some (.ref fa)) :
    LawAtC l w K 63 x mg fa := by
  have T := top_of hS X G c
  have none_ : lamTab K = none := by
    have o := c.ok
    unfold okK at o
    simp only [Bool.and_eq_true] at o
    exact lamB_none o.2.2.2.1 shows
  obtain ⟨f, fd, F, M, L⟩ := T.defs dl (List.mem_of_getElem? hd)
  rw [hat] at M
  have ef : fa = f := Value.ref.inj (Option.some.inj (hmg.symm.trans M))
  subst ef
  refine ⟨fd, lift K (call (progOf p.defs) depth i), fun s u => ?_, fun H a ns hl hs => ?_, fun base KB GB => ?_⟩
  · obtain ⟨oc, od, dV, kV, doc, pm, an, cdv, ct, osl, rfl, lk, _, hD, _⟩ := F.ex
    have b := (hS dl (List.mem_of_getElem? hd)).bind
    rcases hD with ⟨_, rfl⟩ | ⟨e, _⟩
    · have := b kV doc pm an cdv ct [u] (by rw [hps]; rfl)
      rw [hps] at this
      exact .of_eq this
    · exact absurd rfl e
  · exact lift_law hs (fun cc P e => by rw [none_] at e; cases e) (hlaw ns hl)
  · have := (defs_ok (P := l.prog) (w := w) (base := base) hS T (fun cc P e => by rw [none_] at e; cases e) depth i dl hd fa fd F L).2 callerA room fun _ => rfl
    rw [hps] at this
    exact this
end
end Z
set_option Elab.async false
set_option linter.all false
set_option maxRecDepth 100000
set_option maxHeartbeats 4000000
/-! Z10: steps for proofs about the trees. -/
namespace Z
open PySem PySem.Spec PyProof.Rows L2
theorem lstAt_same {S : Sto} {a : Addr} {xs : List D} : lstAt (supd S a (.lst xs)) a = some xs := lstAt_of supd_same
theorem lstAt_ne {S : Sto} {a b : Addr} {o : SO} {xs : List D} (h : a ≠ b) (e : lstAt S a = some xs) : lstAt (supd S b o) a = some xs := by
  unfold lstAt at e ⊢
  rw [supd_ne h]
  exact e
theorem supd_supd {S : Sto} {a : Addr} {o u : SO} : supd (supd S a o) a u = supd S a u := by
  funext b
  by_cases h : b = a
  · subst h; rw [supd_same, supd_same]
  · rw [supd_ne h, supd_ne h, supd_ne h]
/-- what stood stands, but at b -/
def Ex (b : Addr) (S S' : Sto) : Prop := ∀ a o, a ≠ b → S a = some o → S' a = some o
theorem Ex.refl {b : Addr} {S : Sto} : Ex b S S := fun _ _ _ e => e
theorem Ex.trans {b : Addr} {S S1 S2 : Sto} (h : Ex b S S1) (g : Ex b S1 S2) : Ex b S S2 := fun a o n e => g a o n (h a o n e)
theorem Ex.upd {b : Addr} {S S' : Sto} {o : SO} (h : Ex b S S') : Ex b S (supd S' b o) := fun a o n e => by rw [supd_ne n]; exact h a o n e
theorem Ex.new {b p : Addr} {S S' : Sto} {o : SO} (h : Ex b S S') (hp : S' p = none) : Ex b S (supd S' p o) := fun a o n e => by
  have e2 := h a o n e
  have ne : a ≠ p := fun z => by rw [z, hp] at e2; cases e2
  rw [supd_ne ne]
  exact e2
/-- what stood stands -/
def Gr (S S' : Sto) : Prop := ∀ a o, S a = some o → S' a = some o
theorem Gr.refl {S : Sto} : Gr S S := fun _ _ e => e
theorem Gr.trans {S S1 S2 : Sto} (h : Gr S S1) (g : Gr S1 S2) : Gr S S2 := fun a o e => g a o (h a o e)
theorem Gr.ex {b : Addr} {S S' : Sto} (h : Gr S S') : Ex b S S' := fun a o _ e => h a o e
theorem Gr.new {p : Addr} {S S' : Sto} {o : SO} (h : Gr S S') (hp : S' p = none) : Gr S (supd S' p o) := fun a o e => by
  have e2 := h a o e
  have ne : a ≠ p := fun z => by rw [z, hp] at e2; cases e2
  rw [supd_ne ne]
  exact e2
theorem fresh_ne {S : Sto} {a p : Addr} {o : SO} (h : S a = some o) (hp : S p = none) : a ≠ p := fun z => by
  rw [z, hp] at h
  cases h
section
variable {defs : List Def}
theorem enter {k f : Nat} {ds : List D} {S : Sto} {Q : QK} {EX : EK} (fn : Fn) (hf : progOf defs f = fn) (hl : ds.length = fn.np)
   (h : wSs (call (progOf defs) k) EX0 fn.body { nx := fun _ S1 => Q .non S1, rt := Q, bk := fun _ _ => False, ct := fun _ _ => False, ex := fun n d _ S1 => EX n d S1 } (startD fn.n ds) S) : call (progOf defs) (k + 1) f ds S Q EX := by
  rw [call_succ, hf]
  exact ⟨hl, h⟩
end
/-! ### loops -/
section
variable {stay : Sto → Prop} {asg : D → En → Option En} {body : Dn → En → Sto → Prop} {K : Dn}
theorem for_nil {env : En} {S : Sto} (st : stay S) (h : K.nx env S) : wFor stay asg body K [] env S := by
  unfold wFor
  exact ⟨st, h⟩
theorem for_cons {d : D} {ds : List D} {env e2 : En} {S : Sto} (st : stay S) (ha : asg d env = some e2)
    (h : body { nx := wFor stay asg body K ds, rt := K.rt, bk := K.nx, ct := wFor stay asg body K ds, ex := K.ex } e2 S) : wFor stay asg body K (d :: ds) env S := by
  have e : ∀ ds, wFor stay asg body K ds = wFor0 stay asg body K ds := fun ds => by
    funext env S
    unfold wFor
    rfl
  rw [e] at h ⊢
  exact ⟨st, wOpt_s ha h⟩
/-- by what holds between the turns: J by the items done -/
theorem for_inv (J : List D → En → Sto → Prop) {items : List D} {env : En} {S : Sto} (h0 : J [] env S) (hst : ∀ pre env S, J pre env S → stay S)
    (turn : ∀ pre d post env S, items = pre ++ d :: post → J pre env S → ∃ e2, asg d env = some e2 ∧ ∀ N : En → Sto → Prop, (∀ e s, J (pre ++ [d]) e s → N e s) → body { nx := N, rt := K.rt, bk := K.nx, ct := N, ex := K.ex } e2 S)
    (hend : ∀ env S, J items env S → K.nx env S) : wFor stay asg body K items env S := by
  have go : ∀ (post pre : List D) env S, items = pre ++ post → J pre env S → wFor stay asg body K post env S := by
    intro post
    induction post with
    | nil =>
      intro pre env S e j
      rw [List.append_nil] at e
      subst e
      exact for_nil (hst _ _ _ j) (hend _ _ j)
    | cons d post ih =>
      intro pre env S e j
      obtain ⟨e2, ha, hb⟩ := turn pre d post env S e j
      exact for_cons (hst _ _ _ j) ha (hb _ fun e' s' j' => ih (pre ++ [d]) e' s' (by rw [e, List.append_assoc]; rfl) j')
  exact go items [] env S rfl h0
end
section
variable {stay : Sto → Prop} {asg : D → Option En} {cc : En → Sto → (Bool → Sto → Prop) → Prop} {el : En → Sto → QK → Prop} {Q : List D → Sto → Prop}
theorem lcw_nil {acc : List D} {S : Sto} (st : stay S) (h : Q acc S) : wLc stay asg cc el [] acc S Q := by
  rw [lc_eq]
  exact ⟨st, h⟩
theorem lcw_cons {d : D} {ds acc : List D} {e2 : En} {S : Sto} (st : stay S) (ha : asg d = some e2) (h : cc e2 S fun b S2 => wIf b (el e2 S2 fun y S3 => wLc stay asg cc el ds (acc ++ [y]) S3 Q) (wLc stay asg cc el ds acc S2 Q)) :
    wLc stay asg cc el (d :: ds) acc S Q := by
  simp only [lc_eq] at h ⊢
  exact ⟨st, wOpt_s ha h⟩
/-- by what holds between the turns: J by the items done and the list made -/
theorem lc_inv (J : List D → List D → Sto → Prop) {items : List D} {S : Sto} (h0 : J [] [] S) (hst : ∀ pre acc S, J pre acc S → stay S)
    (turn : ∀ pre d post acc S, items = pre ++ d :: post → J pre acc S → ∃ e2, asg d = some e2 ∧ ∀ N : List D → Sto → Prop, (∀ acc' s, J (pre ++ [d]) acc' s → N acc' s) →
      cc e2 S fun b S2 => wIf b (el e2 S2 fun y S3 => N (acc ++ [y]) S3) (N acc S2))
    (hend : ∀ acc S, J items acc S → Q acc S) : wLc stay asg cc el items [] S Q := by
  have go : ∀ (post pre acc : List D) S, items = pre ++ post → J pre acc S → wLc stay asg cc el post acc S Q := by
    intro post
    induction post with
    | nil =>
      intro pre acc S e j
      rw [List.append_nil] at e
      subst e
      exact lcw_nil (hst _ _ _ j) (hend _ _ j)
    | cons d post ih =>
      intro pre acc S e j
      obtain ⟨e2, ha, hb⟩ := turn pre d post acc S e j
      exact lcw_cons (hst _ _ _ j) ha (hb (fun acc' s => wLc stay asg cc el post acc' s Q) fun acc' s j' => ih (pre ++ [d]) acc' s (by rw [e, List.append_assoc]; rfl) j')
  exact go items [] [] S rfl h0
/-- an element for each item, nothing else -/
theorem lc_map (f : D → D) {items : List D} {S : Sto} (hst : stay S) (hc : ∀ e2 S R, R true S → cc e2 S R) (turn : ∀ d ∈ items, ∃ e2, asg d = some e2 ∧ ∀ R : QK, R (f d) S → el e2 S R) (h : Q (items.map f) S) : wLc stay asg cc el items [] S Q :=
  lc_inv (fun pre acc S' => acc = pre.map f ∧ S' = S) ⟨rfl, rfl⟩ (fun _ _ _ j => by rw [j.2]; exact hst)
    (fun pre d post acc S' e j => by
      obtain ⟨rfl, rfl⟩ := j
      obtain ⟨e2, ha, hb⟩ := turn d (by rw [e]; simp)
      refine ⟨e2, ha, fun N hN => hc _ _ _ (wIf_t (hb _ (hN _ _ ⟨by rw [List.map_append]; rfl, rfl⟩)))⟩)
    (fun acc S' j => by obtain ⟨rfl, rfl⟩ := j; exact h)
/-- the items of which something holds -/
theorem lc_filter (p : D → Bool) (f : D → D) {items : List D} {S : Sto} (hst : stay S) (turn : ∀ d ∈ items, ∃ e2, asg d = some e2 ∧ (∀ R : Bool → Sto → Prop, R (p d) S → cc e2 S R) ∧ (p d = true → ∀ R : QK, R (f d) S → el e2 S R))
    (h : Q ((items.filter p).map f) S) : wLc stay asg cc el items [] S Q :=
  lc_inv (fun pre acc S' => acc = (pre.filter p).map f ∧ S' = S) ⟨rfl, rfl⟩ (fun _ _ _ j => by rw [j.2]; exact hst)
    (fun pre d post acc S' e j => by
      obtain ⟨rfl, rfl⟩ := j
      obtain ⟨e2, ha, hc, hb⟩ := turn d (by rw [e]; simp)
      refine ⟨e2, ha, fun N hN => hc _ ?_⟩
      refine wIf_b (fun hp => hb hp _ (hN _ _ ⟨?_, rfl⟩)) (fun hp => hN _ _ ⟨?_, rfl⟩)
      · rw [List.filter_append, List.map_append, List.filter_cons, if_pos hp]
        rfl
      · rw [List.filter_append, List.map_append, List.filter_cons, hp]
        simp)
    (fun acc S' j => by obtain ⟨rfl, rfl⟩ := j; exact h)
end
/-- a while, by what holds and a number that falls -/
theorem while_inv {c : En → Sto → (Bool → Sto → Prop) → Prop} {body : Dn → En → Sto → Prop} {K : Dn} {env : En} {S : Sto} (W : Nat → En → Sto → Prop) (m : Nat) (h0 : W m env S)
    (turn : ∀ m env S, W m env S → c env S fun b S1 => wIf b (body { nx := fun e s => ∃ m', m' < m ∧ W m' e s, rt := K.rt, bk := K.nx, ct := fun e s => ∃ m', m' < m ∧ W m' e s, ex := K.ex } env S1) (K.nx env S1)) : wWhile c body K env S := by
  unfold wWhile
  exact ⟨W, ⟨m, h0⟩, turn⟩
end Z
set_option Elab.async false
set_option linter.all false
set_option maxRecDepth 100000
set_option maxHeartbeats 4000000
/-! Z11: rewriting rules for walks through the trees. -/
namespace Z
open PySem PySem.Spec PyProof.Rows L2
section
variable {cs : CS} {EX : EK} {K : Dn} {env : En} {S : Sto} {e a b o i : E} {t : T} {it : I} {n m : Nat} {op : Operator} {c : E} {x y : List Stm}
theorem s_expr : wS cs EX (.expr e) K env S = wE cs EX e env S fun _ S1 => K.nx env S1 := rfl
theorem s_ret : wS cs EX (.ret e) K env S = wE cs EX e env S K.rt := rfl
theorem s_retN : wS cs EX .retN K env S = K.rt .non S := rfl
theorem s_asg : wS cs EX (.asg t e) K env S = wE cs EX e env S fun x S1 => wOpt (asgO S1 t x env) fun e2 => K.nx e2 S1 := rfl
theorem s_aug : wS cs EX (.aug n op e) K env S = wVar (env[n]?) S fun x S0 => wE cs EX e env S0 fun y S1 => wAug op x y S1 fun z S2 => K.nx (env.set n (some z)) S2 := rfl
theorem s_setIx : wS cs EX (.setIx o i e) K env S = wE cs EX e env S fun v S1 => wE cs EX o env S1 fun x S2 => wE cs EX i env S2 fun j S3 => wSetIx x j v S3 fun S4 => K.nx env S4 := rfl
theorem s_if : wS cs EX (.ifS c x y) K env S = wT cs EX c env S fun k S1 => wIf k (wSs cs EX x K env S1) (wSs cs EX y K env S1) := by with_unfolding_all rfl
theorem s_for : wS cs EX (.forS t it x) K env S = wI cs EX it env S fun items stay S1 => wFor stay (asgT t) (wSs cs EX x) K items env S1 := by with_unfolding_all rfl
theorem s_while : wS cs EX (.whileS c x) K env S = wWhile (wT cs EX c) (wSs cs EX x) K env S := by with_unfolding_all rfl
theorem s_pass : wS cs EX .pass K env S = K.nx env S := rfl
theorem s_par : wS cs EX (.par n m a b) K env S = wE cs EX a env S fun x S1 => wE cs EX b env S1 fun y S2 => K.nx ((env.set n (some x)).set m (some y)) S2 := rfl
theorem s_par3 {l : Nat} : wS cs EX (.par3 n m l a b e) K env S = wE cs EX a env S fun x S1 => wE cs EX b env S1 fun y S2 => wE cs EX e env S2 fun z S3 => K.nx (((env.set n (some x)).set m (some y)).set l (some z)) S3 := rfl
theorem s_brk : wS cs EX .brk K env S = K.bk env S := rfl
theorem s_cont : wS cs EX .cont K env S = K.ct env S := rfl
end
section
variable {S : Sto} {Q : QK} {d e : D} {p q : Prop} {b : Bool} {i j : Int} {xs ys : List D}
theorem q_asN {i : Nat} {env : En} : asgT (.nm i) d env = some (env.set i (some d)) := rfl
theorem q_asT {ts : List T} {env : En} : asgT (.tup ts) (.tup xs) env = asgTs ts xs env := rfl
theorem q_asL {ts : List T} {env : En} : asgT (.tup ts) (.lst xs) env = asgTs ts xs env := rfl
theorem q_aoN {i : Nat} {env : En} : asgO S (.nm i) d env = some (env.set i (some d)) := rfl
theorem q_aoT {ts : List T} {env : En} : asgO S (.tup ts) (.tup xs) env = asgTs ts xs env := rfl
theorem q_aoL {ts : List T} {env : En} : asgO S (.tup ts) (.lst xs) env = asgTs ts xs env := rfl
theorem q_aoR {ts : List T} {env : En} {a : Addr} : asgO S (.tup ts) (.ref a) env = (lstAt S a).bind fun ds => asgTs ts ds env := rfl
theorem q_asC {t : T} {ts : List T} {env : En} : asgTs (t :: ts) (d :: xs) env = (asgT t d env).bind fun e => asgTs ts xs e := by
  show (match asgT t d env with
    | some env1 => asgTs ts xs env1
    | none => none) = _
  cases asgT t d env <;> rfl
theorem q_asE {env : En} : asgTs [] [] env = some env := rfl
theorem q_var : wVar (some (some d)) S Q = Q d S := rfl
theorem q_opt {α : Type} {d : α} {Q : α → Prop} : wOpt (some d) Q = Q d := by unfold wOpt; rfl
theorem q_dec {c : Prop} [Decidable c] : wIf (decide c) p q = ((c → p) ∧ (¬ c → q)) := by
  unfold wIf
  by_cases h : c
  · rw [decide_eq_true h]; simp [h]
  · rw [decide_eq_false h]; simp [h]
theorem q_true : wIf true p q = p := by unfold wIf; rfl
theorem q_false : wIf false p q = q := by unfold wIf; rfl
theorem q_not : wIf (!b) p q = wIf b q p := by cases b <;> (unfold wIf; rfl)
theorem q_bool : wIf b p q = ((b = true → p) ∧ (b = false → q)) := by cases b <;> (unfold wIf; simp)
theorem q_add : wBin .Add (.int i) (.int j) S Q = Q (.int (i + j)) S := rfl
theorem q_sub : wBin .Sub (.int i) (.int j) S Q = Q (.int (i - j)) S := rfl
theorem q_mul : wBin .Mult (.int i) (.int j) S Q = (MulOk i j ∧ Q (.int (i * j)) S) := rfl
theorem q_fdiv : wBin .FloorDiv (.int i) (.int j) S Q = ((0 < j ∧ j < 18446744073709551616) ∧ Q (.int (i / j)) S) := rfl
theorem q_mod : wBin .Mod (.int i) (.int j) S Q = (0 < j ∧ Q (.int (i % j)) S) := rfl
theorem q_catT : wBin .Add (.tup xs) (.tup ys) S Q = (xs.length + ys.length ≤ 16777216 ∧ Q (.tup (xs ++ ys)) S) := rfl
theorem q_catRL {a : Addr} : wBin .Add (.ref a) (.lst ys) S Q = wOpt (lstAt S a) fun xs => xs.length + ys.length ≤ 16777216 ∧ Q (.lst (xs ++ ys)) S := rfl
theorem q_catLR {b : Addr} : wBin .Add (.lst xs) (.ref b) S Q = wOpt (lstAt S b) fun ys => xs.length + ys.length ≤ 16777216 ∧ Q (.lst (xs ++ ys)) S := rfl
theorem q_catRR {a b : Addr} : wBin .Add (.ref a) (.ref b) S Q = wOpt (lstAt S a) fun xs => wOpt (lstAt S b) fun ys => xs.length + ys.length ≤ 16777216 ∧ Q (.lst (xs ++ ys)) S := rfl
theorem q_catL : wBin .Add (.lst xs) (.lst ys) S Q = (xs.length + ys.length ≤ 16777216 ∧ Q (.lst (xs ++ ys)) S) := rfl
theorem q_catS {x y : Str} : wBin .Add (.str x) (.str y) S Q = (x.length + y.length ≤ 16777216 ∧ Q (.str (x ++ y)) S) := rfl
theorem q_mulT : wBin .Mult (.tup xs) (.int i) S Q = (((xs ≠ [] ∨ i = 2 ∨ i = 400) ∧ 0 ≤ i ∧ i ≤ 1000 ∧ xs.length ≤ 1000) ∧ Q (.tup (List.replicate i.toNat xs).flatten) S) := rfl
theorem q_mulL : wBin .Mult (.lst xs) (.int i) S Q = ((-9223372036854775808 ≤ i ∧ i < 9223372036854775808 ∧ xs.length * i.toNat ≤ 16777216) ∧ Q (.lst (List.replicate i.toNat xs).flatten) S) := rfl
theorem q_min1 : wBlt .min [d] S Q = wOpt (lsrD d S) fun xs => wOpt (asInts xs) fun ns => 0 < ns.length ∧ ∀ m, m ∈ ns → (∀ y ∈ ns, m ≤ y) → Q (.int m) S := by cases d <;> rfl
theorem q_max1 : wBlt .max [d] S Q = wOpt (seqD d S) fun xs => wOpt (asInts xs) fun ns => 0 < ns.length ∧ ∀ m, m ∈ ns → (∀ y ∈ ns, y ≤ m) → Q (.int m) S := by cases d <;> rfl
theorem q_sorted {m : Bool} : wBlt (.sorted m) [d] S Q = wOpt (lsrD d S) fun xs => wOpt (asInts xs) fun ns => ∀ zs : List Int, zs.Perm ns → zs.Pairwise (· ≤ ·) → newL m (zs.map .int) S Q := rfl
theorem q_ins : wMeth .insert d xs S Q = wIns d xs S Q := rfl
theorem q_insR {a : Addr} : wIns (.ref a) [.int i, d] S Q = wOpt (lstAt S a) fun xs => (xs.length < 16777216 ∧ 0 ≤ i ∧ i < 9223372036854775808) ∧ Q .non (supd S a (.lst (xs.take i.toNat ++ [d] ++ xs.drop i.toNat))) := rfl
theorem q_isTI : isD (.tup xs) .non = some false := rfl
theorem q_augI : wAug .Add (.int i) (.int j) S Q = Q (.int (i + j)) S := rfl
theorem q_eqI {n : Bool} : wEq n (.int i) (.int j) S Q = wNg n (decide (i = j)) S Q := rfl
theorem q_eqB {n c : Bool} : wEq n (.bl b) (.bl c) S Q = wNg n (decide (b = c)) S Q := rfl
theorem q_eqS {n : Bool} {x y : Str} : wEq n (.str x) (.str y) S Q = wNg n (decide (x = y)) S Q := rfl
theorem q_ngF : wNg false b S Q = Q (.bl b) S := rfl
theorem q_ngT : wNg true b S Q = Q (.bl (!b)) S := rfl
theorem q_ordI {f : PyData → PyData → Bool} {g : Int → Int → Bool} : wOrd f g (.int i) (.int j) S Q = Q (.bl (g i j)) S := rfl
theorem q_ordT {f : PyData → PyData → Bool} {g : Int → Int → Bool} : wOrd f g (.tup xs) (.tup ys) S Q = (((D.tup xs).Ok ∧ (D.tup ys).Ok ∧ D.tup xs ≠ .non ∧ PySem.W.alike (D.tup xs).py (D.tup ys).py = true) ∧ Q (.bl (f (D.tup xs).py (D.tup ys).py)) S) := rfl
theorem q_eqT {n : Bool} : wEq n (.tup xs) (.tup ys) S Q = (((D.tup xs).Ok ∧ (D.tup ys).Ok) ∧ wNg n (PyData.eqv (D.tup xs).py (D.tup ys).py) S Q) := rfl
theorem q_eqRL {n : Bool} {a : Addr} : wEq n (.ref a) (.lst ys) S Q = wOpt (lstAt S a) fun xs => ((D.lst xs).Ok ∧ (D.lst ys).Ok) ∧ wNg n (PyData.eqv (D.lst xs).py (D.lst ys).py) S Q := rfl
theorem q_eqLR {n : Bool} {a : Addr} : wEq n (.lst xs) (.ref a) S Q = wOpt (lstAt S a) fun ys => ((D.lst xs).Ok ∧ (D.lst ys).Ok) ∧ wNg n (PyData.eqv (D.lst xs).py (D.lst ys).py) S Q := rfl
theorem q_eqL {n : Bool} : wEq n (.lst xs) (.lst ys) S Q = (((D.lst xs).Ok ∧ (D.lst ys).Ok) ∧ wNg n (PyData.eqv (D.lst xs).py (D.lst ys).py) S Q) := rfl
theorem q_isBB {c : Bool} : isD (.bl b) (.bl c) = some (decide (b = c)) := rfl
theorem q_isNN : isD .non .non = some true := rfl
theorem q_isIN : isD (.int i) .non = some false := rfl
theorem q_isTN : isD (.tup xs) .non = some false := rfl
theorem q_isLN : isD (.lst xs) .non = some false := rfl
theorem q_truB {Q : Bool → Sto → Prop} : wTru (.bl b) S Q = Q b S := wTru_eq
theorem q_truI {Q : Bool → Sto → Prop} : wTru (.int i) S Q = Q (i != 0) S := by unfold wTru wOpt; rfl
theorem q_wB {Q : Bool → Sto → Prop} : wB (.bl b) S Q = Q b S := rfl
theorem q_ix : wIx d (.int i) S Q = wOpt (seqD d S) fun xs => wOpt (atI xs i) fun d => Q d S := rfl
theorem q_ixc {k : Nat} : wIxc d k S Q = wOpt (seqD d S) fun xs => wOpt (xs[k]?) fun d => Q d S := rfl
theorem q_seqT : seqD (.tup xs) S = some xs := rfl
theorem q_seqL : seqD (.lst xs) S = some xs := rfl
theorem q_seqK : seqD (.lsk xs) S = some xs := rfl
theorem q_seqR {a : Addr} : seqD (.ref a) S = lstAt S a := rfl
theorem q_lstL : lstD (.lst xs) S = some xs := rfl
theorem q_lstR {a : Addr} : lstD (.ref a) S = lstAt S a := rfl
theorem q_lsrL : lsrD (.lst xs) S = some xs := rfl
theorem q_lsrK : lsrD (.lsk xs) S = some xs := rfl
theorem q_lsrR {a : Addr} : lsrD (.ref a) S = lstAt S a := rfl
theorem q_refL {a : Addr} : refL (.ref a) S = lstAt S a := rfl
theorem q_at {a : Addr} : lstAt (supd S a (.lst xs)) a = some xs := lstAt_same
theorem q_up {a : Addr} {o u : SO} : supd (supd S a o) a u = supd S a u := supd_supd
theorem q_len : wBlt .len [d] S Q = wOpt (seqD d S) fun xs => Q (.int xs.length) S := rfl
theorem q_abs : wBlt .abs [.int i] S Q = Q (.int (if i < 0 then -i else i)) S := rfl
theorem q_min : wBlt .min [.int i, .int j] S Q = Q (.int (if j < i then j else i)) S := rfl
theorem q_max : wBlt .max [.int i, .int j] S Q = Q (.int (if j > i then j else i)) S := rfl
theorem q_intI : wBlt .int [.int i] S Q = Q (.int i) S := rfl
theorem q_intB : wBlt .int [.bl b] S Q = Q (.int (if b then 1 else 0)) S := rfl
theorem q_tuple : wBlt .tuple [d] S Q = wOpt (seqD d S) fun xs => Q (.tup xs) S := rfl
theorem q_list {m : Bool} : wBlt (.list m) [d] S Q = wOpt (seqD d S) fun xs => newL m xs S Q := rfl
theorem q_all : wBlt .all [d] S Q = wOpt (lstD d S) fun xs => wOpt (asBools xs) fun bs => Q (.bl (bs.all id)) S := rfl
theorem q_any : wBlt .any [d] S Q = wOpt (lstD d S) fun xs => wOpt (asBools xs) fun bs => Q (.bl (bs.any id)) S := rfl
theorem q_sum : wBlt .sum [d] S Q = wOpt (lstD d S) fun xs => wOpt (asInts xs) fun bs => Q (.int bs.sum) S := rfl
theorem q_newF : newL false xs S Q = Q (.lst xs) S := rfl
theorem q_newT : newL true xs S Q = ∀ a, S a = none → Q (.ref a) (supd S a (.lst xs)) := rfl
theorem q_tyI : tyD (.int i) S = some "int" := rfl
theorem q_tyB : tyD (.bl b) S = some "bool" := rfl
theorem q_tyT : tyD (.tup xs) S = some "tuple" := rfl
theorem q_tyL : tyD (.lst xs) S = some "list" := rfl
theorem q_tyS {x : Str} : tyD (.str x) S = some "str" := rfl
theorem q_tyN : tyD .non S = some "NoneType" := rfl
theorem q_app : wMeth .append d xs S Q = wApp d xs S Q := rfl
theorem q_ext : wMeth .extend d xs S Q = wExt d xs S Q := rfl
theorem q_pop : wMeth .pop d xs S Q = wPop d xs S Q := rfl
theorem q_appR {a : Addr} : wApp (.ref a) [d] S Q = wOpt (lstAt S a) fun xs => xs.length < 16777216 ∧ Q .non (supd S a (.lst (xs ++ [d]))) := rfl
theorem q_extR {a : Addr} : wExt (.ref a) [d] S Q = wOpt (lstAt S a) fun xs => wOpt (lstD d S) fun ys => xs.length + ys.length ≤ 16777216 ∧ Q .non (supd S a (.lst (xs ++ ys))) := rfl
theorem q_set {a : Addr} {Q : Sto → Prop} : wSetIx (.ref a) (.int i) d S Q = wOpt (lstAt S a) fun xs => wOpt (ixN xs.length i) fun j => Q (supd S a (.lst (xs.set j d))) := rfl
theorem q_slT {m : Bool} {lo hi : Option Int} : wSl m (.tup xs) lo hi S Q = Q (.tup (cut xs lo hi)) S := rfl
theorem q_slL {m : Bool} {lo hi : Option Int} : wSl m (.lst xs) lo hi S Q = newL m (cut xs lo hi) S Q := by unfold wSl; simp [lsrD, q_opt]
theorem q_slK {m : Bool} {lo hi : Option Int} : wSl m (.lsk xs) lo hi S Q = newL m (cut xs lo hi) S Q := by unfold wSl; simp [lsrD, q_opt]
end
theorem q_ixN {n : Nat} {i : Int} (h0 : 0 ≤ i) (h1 : i.toNat < n) : ixN n i = some i.toNat := by
  unfold ixN
  rw [if_pos h0, if_pos (by omega)]
theorem at_map {α : Type} {f : α → D} {xs : List α} {i : Int} (h0 : 0 ≤ i) (h1 : i < xs.length) : ∃ x, x ∈ xs ∧ xs[i.toNat]? = some x ∧ atI (xs.map f) i = some (f x) := by
  obtain ⟨n, rfl⟩ : ∃ n : Nat, i = n := ⟨i.toNat, by omega⟩
  have hn : n < xs.length := by omega
  refine ⟨xs[n], List.getElem_mem _, by simp [hn], atI_nat ?_⟩
  rw [List.getElem?_map, List.getElem?_eq_getElem hn]
  rfl
theorem at_some {xs : List D} {i : Int} (h0 : 0 ≤ i) (h1 : i < xs.length) : ∃ x, x ∈ xs ∧ xs[i.toNat]? = some x ∧ atI xs i = some x := by
  have h := at_map (f := id) (xs := xs) h0 h1
  simpa using h
theorem ix_pick {d : D} {ds : List D} {i : Int} {S : Sto} {Q : QK} (e : seqD d S = some ds) (h0 : 0 ≤ i) (h1 : i < ds.length) (h : ∀ x ∈ ds, Q x S) : wIx d (.int i) S Q := by
  obtain ⟨x, hx, _, ex⟩ := at_some h0 h1
  show wOpt (seqD d S) _
  refine wOpt_s e (wOpt_s ex (h x hx))
theorem ix_at {d : D} {ds : List D} {i : Int} {S : Sto} {Q : QK} {x : D} (e : seqD d S = some ds) (h0 : 0 ≤ i) (h1 : ds[i.toNat]? = some x) (h : Q x S) : wIx d (.int i) S Q := by
  have h2 : atI ds ((i.toNat : Nat) : Int) = some x := atI_nat h1
  rw [Int.toNat_of_nonneg h0] at h2
  show wOpt (seqD d S) _
  exact wOpt_s e (wOpt_s h2 h)
end Z
set_option Elab.async false
set_option linter.all false
set_option maxRecDepth 100000
set_option maxHeartbeats 4000000
/-! Z12: data of whole numbers and texts compared. -/
namespace Z
open PySem PySem.Spec PyProof.Rows L2
mutual
/-- whole numbers and tuples of such, n deep at most -/
def D.id : Nat → D → Bool
  | _, .int _ => true
  | _, .str x => PyData.strOk x
  | _, .non => true
  | n, .tup xs => match n with
    | 0 => false
    | n + 1 => D.ids n xs
  | n, .lst xs => match n with
    | 0 => false
    | n + 1 => D.ids n xs
  | _, _ => false
def D.ids : Nat → List D → Bool
  | _, [] => true
  | n, x :: xs => D.id n x && D.ids n xs
end
mutual
theorem id_pure : ∀ (d : D) (n : Nat), D.id n d = true → d.pure = true
  | .int _, _, _ => rfl
  | .str _, _, _ => rfl
  | .tup xs, 0, h => nomatch h
  | .tup xs, n + 1, h => ids_pure xs n h
  | .lst xs, 0, h => nomatch h
  | .lst xs, n + 1, h => ids_pure xs n h
  | .non, _, _ => rfl
  | .bl _, _, h => nomatch h
  | .lsk _, _, h => nomatch h
  | .ref _, _, h => nomatch h
  | .ty _, _, h => nomatch h
theorem ids_pure : ∀ (d : List D) (n : Nat), D.ids n d = true → D.pures d = true
  | [], _, _ => rfl
  | x :: xs, n, h => by
    have h : (D.id n x && D.ids n xs) = true := h
    rw [Bool.and_eq_true] at h
    show (D.pure x && D.pures xs) = true
    rw [id_pure x n h.1, ids_pure xs n h.2]
    rfl
end
mutual
theorem id_lay : ∀ (d : D) (n : Nat), D.id n d = true → d.py.canLay0 = true ∧ d.py.depth ≤ n + 1
  | .int _, n, _ => ⟨by simp [D.py, PyData.canLay0], by simp [D.py, PyData.depth]⟩
  | .str _, n, h => ⟨by simp only [D.py, PyData.canLay0]; exact h, by simp [D.py, PyData.depth]⟩
  | .tup xs, 0, h => nomatch h
  | .tup xs, n + 1, h => by
    have q := ids_lay xs n h
    exact ⟨by simpa [D.py, PyData.canLay0] using q.1, by simpa [D.py, PyData.depth] using q.2⟩
  | .lst xs, 0, h => nomatch h
  | .lst xs, n + 1, h => by
    have q := ids_lay xs n h
    exact ⟨by simpa [D.py, PyData.canLay0] using q.1, by simpa [D.py, PyData.depth] using q.2⟩
  | .non, n, _ => ⟨by simp [D.py, PyData.canLay0], by simp [D.py, PyData.depth]⟩
  | .bl _, _, h => nomatch h
  | .lsk _, _, h => nomatch h
  | .ref _, _, h => nomatch h
  | .ty _, _, h => nomatch h
theorem ids_lay : ∀ (d : List D) (n : Nat), D.ids n d = true → PyData.canLayAll0 (D.pys d) = true ∧ PyData.depthAll (D.pys d) ≤ n + 1
  | [], _, _ => ⟨by simp [D.pys, PyData.canLayAll0], by simp [D.pys, PyData.depthAll]⟩
  | x :: xs, n, h => by
    have h : (D.id n x && D.ids n xs) = true := h
    rw [Bool.and_eq_true] at h
    have a := id_lay x n h.1
    have b := ids_lay xs n h.2
    refine ⟨by simp [D.pys, PyData.canLayAll0, a.1, b.1], ?_⟩
    simp only [D.pys, PyData.depthAll]
    have := a.2
    have := b.2
    omega
end
theorem id_ok {d : D} (n : Nat) (h : D.id n d = true) (hn : n ≤ 60 := by decide) : d.Ok := by
  refine ⟨id_pure d n h, ?_⟩
  have q := id_lay d n h
  unfold SeqAt.shaped
  rw [q.1, decide_eq_true (by omega : d.py.depth ≤ 64)]
  rfl
mutual
theorem id_eqv : ∀ (d e : D) (n m : Nat), D.id n d = true → D.id m e = true → (PyData.eqv d.py e.py = true ↔ d = e)
  | .int i, e, n, m, _, he => by
    cases e with
    | int j => simp [D.py, PyData.eqv]
    | non => simp [D.py, PyData.eqv]
    | str _ => simp [D.py, PyData.eqv]
    | tup _ => simp [D.py, PyData.eqv]
    | lst _ => simp [D.py, PyData.eqv]
    | _ => exact nomatch he
  | .str i, e, n, m, _, he => by
    cases e with
    | int j => simp [D.py, PyData.eqv]
    | non => simp [D.py, PyData.eqv]
    | str _ => simp [D.py, PyData.eqv]
    | tup _ => simp [D.py, PyData.eqv]
    | lst _ => simp [D.py, PyData.eqv]
    | _ => exact nomatch he
  | .tup xs, e, n, m, hd, he => by
    cases n with
    | zero => exact nomatch hd
    | succ n =>
      cases e with
      | int j => simp [D.py, PyData.eqv]
      | non => simp [D.py, PyData.eqv]
      | str j => simp [D.py, PyData.eqv]
      | lst j => simp [D.py, PyData.eqv]
      | tup ys =>
        cases m with
        | zero => exact nomatch he
        | succ m =>
          have q := ids_eqv xs ys n m hd he
          simp only [D.py, PyData.eqv, D.tup.injEq]
          exact q
      | _ => exact nomatch he
  | .lst xs, e, n, m, hd, he => by
    cases n with
    | zero => exact nomatch hd
    | succ n =>
      cases e with
      | int j => simp [D.py, PyData.eqv]
      | non => simp [D.py, PyData.eqv]
      | str j => simp [D.py, PyData.eqv]
      | tup j => simp [D.py, PyData.eqv]
      | lst ys =>
        cases m with
        | zero => exact nomatch he
        | succ m =>
          have q := ids_eqv xs ys n m hd he
          simp only [D.py, PyData.eqv, D.lst.injEq]
          exact q
      | _ => exact nomatch he
  | .non, e, n, m, _, he => by
    cases e with
    | int j => simp [D.py, PyData.eqv]
    | non => simp [D.py, PyData.eqv]
    | str _ => simp [D.py, PyData.eqv]
    | tup _ => simp [D.py, PyData.eqv]
    | lst _ => simp [D.py, PyData.eqv]
    | _ => exact nomatch he
  | .bl _, _, _, _, h, _ => nomatch h
  | .lsk _, _, _, _, h, _ => nomatch h
  | .ref _, _, _, _, h, _ => nomatch h
  | .ty _, _, _, _, h, _ => nomatch h
theorem ids_eqv : ∀ (d e : List D) (n m : Nat), D.ids n d = true → D.ids m e = true → (PyData.eqvAll (D.pys d) (D.pys e) = true ↔ d = e)
  | [], e, _, _, _, _ => by cases e <;> simp [D.pys, PyData.eqvAll]
  | x :: xs, [], _, _, _, _ => by simp [D.pys, PyData.eqvAll]
  | x :: xs, y :: ys, n, m, h, g => by
    have h : (D.id n x && D.ids n xs) = true := h
    have g : (D.id m y && D.ids m ys) = true := g
    rw [Bool.and_eq_true] at h g
    have a := id_eqv x y n m h.1 g.1
    have b := ids_eqv xs ys n m h.2 g.2
    simp only [D.pys, PyData.eqvAll, Bool.and_eq_true, List.cons.injEq]
    rw [a, b]
end
theorem ids_map {α : Type} {f : α → D} {n : Nat} (h : ∀ x, D.id n (f x) = true) (xs : List α) : D.ids n (xs.map f) = true := by
  induction xs with
  | nil => rfl
  | cons x r ih =>
    show (D.id n (f x) && D.ids n (r.map f)) = true
    rw [h x, ih]
    rfl
theorem ids_mem {n : Nat} {xs : List D} (h : ∀ x ∈ xs, D.id n x = true) : D.ids n xs = true := by
  induction xs with
  | nil => rfl
  | cons x r ih =>
    show (D.id n x && D.ids n r) = true
    rw [h x (List.mem_cons_self ..), ih fun y hy => h y (List.mem_cons_of_mem _ hy)]
    rfl
theorem eqT_id {n : Bool} {S : Sto} {Q : QK} {d e : D} (a b : Nat) (hd : D.id a d = true) (he : D.id b e = true)
    (h1 : d = e → Q (.bl (!n)) S) (h2 : d ≠ e → Q (.bl n) S) (ha : a ≤ 60 := by decide) (hb : b ≤ 60 := by decide) : wEq n d e S Q := by
  have o1 := id_ok a hd ha
  have o2 := id_ok b he hb
  have key : (d.Ok ∧ e.Ok) ∧ wNg n (PyData.eqv d.py e.py) S Q := by
    refine ⟨⟨o1, o2⟩, ?_⟩
    have q := id_eqv d e a b hd he
    cases hq : PyData.eqv d.py e.py with
    | true => cases n with
      | true => exact h1 (q.mp hq)
      | false => exact h1 (q.mp hq)
    | false =>
      have ne : d ≠ e := fun z => by rw [q.mpr z] at hq; cases hq
      cases n with
      | true => exact h2 ne
      | false => exact h2 ne
  cases d with
  | int i =>
    cases e with
    | int j =>
      by_cases z : i = j
      · show wNg n (decide (i = j)) S Q
        rw [decide_eq_true z]; have := h1 (congrArg D.int z); cases n <;> exact this
      · show wNg n (decide (i = j)) S Q
        rw [decide_eq_false z]; have := h2 (fun q => z (by injection q)); cases n <;> exact this
    | _ => exact key
  | str i =>
    cases e with
    | str j =>
      by_cases z : i = j
      · show wNg n (decide (i = j)) S Q
        rw [decide_eq_true z]; have := h1 (congrArg D.str z); cases n <;> exact this
      · show wNg n (decide (i = j)) S Q
        rw [decide_eq_false z]; have := h2 (fun q => z (by injection q)); cases n <;> exact this
    | _ => exact key
  | bl _ => exact nomatch hd
  | ref _ => exact nomatch hd
  | lst _ =>
    cases e with
    | ref _ => exact nomatch he
    | _ => exact key
  | _ => exact key
/-! ### words -/
def wD (w : Int × Int) : D := .tup [.int w.1, .int w.2]
theorem wD_id (w : Int × Int) : D.id 1 (wD w) = true := rfl
theorem wD_inj {a b : Int × Int} : wD a = wD b ↔ a = b := by
  unfold wD
  simp [Prod.ext_iff]
def nw (a b : Int × Int) : Bool := decide (b.1 < a.1) || (decide (a.1 = b.1) && decide (b.2 < a.2))
theorem lt_wD (a b : Int × Int) : PySem.W.dataLt (wD b).py (wD a).py = nw a b := by
  unfold wD nw
  simp only [D.py, D.pys, PySem.W.dataLt_tuple]
  by_cases h : a.1 = b.1
  · rw [PySem.W.dataLt_all_yes (by simp [PySem.W.alike]) (by simp [PyData.eqv, h])]
    by_cases h2 : a.2 = b.2
    · rw [PySem.W.dataLt_all_yes (by simp [PySem.W.alike]) (by simp [PyData.eqv, h2])]
      simp [PySem.W.keyToksAll, PyProof.Rows.lexLt, h, h2]
      decide
    · rw [PySem.W.dataLt_all_no (by simp [PySem.W.alike]) (by simp [PyData.eqv]; omega), PySem.W.dataLt_int]
      simp [h]
  · rw [PySem.W.dataLt_all_no (by simp [PySem.W.alike]) (by simp [PyData.eqv]; omega), PySem.W.dataLt_int]
    simp [h]
theorem ord_wD (a b : Int × Int) : (wD a).Ok ∧ (wD b).Ok ∧ wD a ≠ .non ∧ PySem.W.alike (wD a).py (wD b).py = true :=
  ⟨id_ok 1 (wD_id a), id_ok 1 (wD_id b), (fun z => by unfold wD at z; cases z), by simp [wD, D.py, D.pys, PySem.W.alike, PySem.W.alikeAll]⟩
theorem q_gtW {a b : Int × Int} {S : Sto} {Q : QK} (h : Q (.bl (nw a b)) S) : wCmp .Gt (wD a) (wD b) S Q := by
  refine ⟨ord_wD a b, ?_⟩
  show Q (.bl (PySem.W.dataLt (wD b).py (wD a).py)) S
  rw [lt_wD]
  exact h
theorem q_ltW {a b : Int × Int} {S : Sto} {Q : QK} (h : Q (.bl (nw b a)) S) : wCmp .Lt (wD a) (wD b) S Q := by
  refine ⟨ord_wD a b, ?_⟩
  show Q (.bl (PySem.W.dataLt (wD a).py (wD b).py)) S
  rw [lt_wD]
  exact h
end Z
set_option Elab.async false
set_option linter.all false
set_option maxRecDepth 100000
set_option maxHeartbeats 4000000
/-! Z13: loops whose names are forgotten, loops over numbers. -/
namespace Z
open PySem PySem.Spec PyProof.Rows L2
section
variable {stay : Sto → Prop} {asg : D → En → Option En} {body : Dn → En → Sto → Prop} {K : Dn}
/-- each item in a turn, J between the turns -/
theorem for_each (J : En → Sto → Prop) {items : List D} {env : En} {S : Sto} (h0 : J env S) (hst : ∀ env S, J env S → stay S)
    (turn : ∀ d ∈ items, ∀ env S, J env S → ∃ e2, asg d env = some e2 ∧ ∀ N Bk : En → Sto → Prop, (∀ e s, J e s → N e s) → body { nx := N, rt := K.rt, bk := Bk, ct := N, ex := K.ex } e2 S)
    (hend : ∀ env S, J env S → K.nx env S) : wFor stay asg body K items env S :=
  for_inv (fun _ env S => J env S) h0 (fun _ => hst) (fun pre d post env S e j => (turn d (by rw [e]; simp) env S j).imp fun e2 z => ⟨z.1, fun N hN => z.2 N _ hN⟩) hend
theorem rgD_at {a b : Int} {pre post : List D} {d : D} (e : rgD a b = pre ++ d :: post) : d = .int (a + pre.length) ∧ a + pre.length < b := by
  have h : (rgD a b)[pre.length]? = some d := by rw [e]; simp
  unfold rgD at h
  rw [List.getElem?_map] at h
  by_cases hl : pre.length < (b - a).toNat
  · rw [List.getElem?_range hl] at h
    exact ⟨(Option.some.inj h).symm, by omega⟩
  · rw [List.getElem?_eq_none (by simpa using hl)] at h
    cases h
theorem rgD_len {a b : Int} : (rgD a b).length = (b - a).toNat := by unfold rgD; simp
/-- range(a, b): J by the next number -/
theorem for_rg (J : Int → En → Sto → Prop) {a b : Int} {env : En} {S : Sto} (hab : a ≤ b) (h0 : J a env S)
    (turn : ∀ i env S, a ≤ i → i < b → J i env S → ∃ e2, asg (.int i) env = some e2 ∧ ∀ N Bk : En → Sto → Prop, (∀ e s, J (i + 1) e s → N e s) → body { nx := N, rt := K.rt, bk := Bk, ct := N, ex := K.ex } e2 S)
    (hend : ∀ env S, J b env S → K.nx env S) : wFor noStay asg body K (rgD a b) env S := by
  refine for_inv (fun pre env S => J (a + pre.length) env S) (by simpa using h0) (fun _ _ _ _ => trivial) (fun pre d post env S e j => ?_) (fun env S j => hend _ _ ?_)
  · obtain ⟨rfl, hlt⟩ := rgD_at e
    obtain ⟨e2, h1, h2⟩ := turn _ env S (by omega) hlt j
    refine ⟨e2, h1, fun N hN => h2 N _ fun e s q => hN e s ?_⟩
    rw [List.length_append, List.length_singleton]
    have : a + ((pre.length + 1 : Nat) : Int) = a + pre.length + 1 := by omega
    rw [this]
    exact q
  · rw [rgD_len] at j
    have : a + ((b - a).toNat : Int) = b := by omega
    rw [this] at j
    exact j
/-- .. J the same -/
theorem for_rg0 (J : En → Sto → Prop) {a b : Int} {env : En} {S : Sto} (h0 : J env S)
    (turn : ∀ i env S, a ≤ i → i < b → J env S → ∃ e2, asg (.int i) env = some e2 ∧ ∀ N Bk : En → Sto → Prop, (∀ e s, J e s → N e s) → body { nx := N, rt := K.rt, bk := Bk, ct := N, ex := K.ex } e2 S)
    (hend : ∀ env S, J env S → K.nx env S) : wFor noStay asg body K (rgD a b) env S := by
  refine for_inv (fun pre env S => J env S) h0 (fun _ _ _ _ => trivial) (fun pre d post env S e j => ?_) hend
  obtain ⟨rfl, hlt⟩ := rgD_at e
  exact (turn _ env S (by omega) hlt j).imp fun e2 z => ⟨z.1, fun N hN => z.2 N _ hN⟩
end
section
variable {stay : Sto → Prop} {asg : D → Option En} {cc : En → Sto → (Bool → Sto → Prop) → Prop} {el : En → Sto → QK → Prop} {Q : List D → Sto → Prop}
/-- [f for i in range(n)]: what is made has P, J of the store stays -/
theorem lc_rg (J : Sto → Prop) (P : Int → D → Prop) {a b : Int} {S : Sto} (hab : a ≤ b) (h0 : J S) (hc : ∀ e2 S R, R true S → cc e2 S R)
    (turn : ∀ i S, a ≤ i → i < b → J S → ∃ e2, asg (.int i) = some e2 ∧ ∀ N : QK, (∀ d s, J s → P i d → N d s) → el e2 S N)
    (h : ∀ ds S, J S → ds.length = (b - a).toNat → (∀ (i : Nat) d, ds[i]? = some d → P (a + i) d) → Q ds S) : wLc noStay asg cc el (rgD a b) [] S Q := by
  refine lc_inv (fun pre acc S => J S ∧ acc.length = pre.length ∧ ∀ (i : Nat) d, acc[i]? = some d → P (a + i) d) ⟨h0, rfl, fun i d e => by simp at e⟩ (fun _ _ _ _ => trivial) (fun pre d post acc S e j => ?_) (fun acc S j => h acc S j.1 (by rw [j.2.1, rgD_len]) j.2.2)
  obtain ⟨rfl, hlt⟩ := rgD_at e
  obtain ⟨j1, j2, j3⟩ := j
  obtain ⟨e2, h1, h2⟩ := turn (a + pre.length) S (by omega) hlt j1
  refine ⟨e2, h1, fun N hN => hc _ _ _ (wIf_t (h2 _ fun d s js p => hN _ _ ⟨js, by simp [j2], fun i z hz => ?_⟩))⟩
  rw [List.getElem?_append] at hz
  split at hz
  · exact j3 i z hz
  · have hi : i = acc.length := by
      by_cases q : i - acc.length = 0
      · omega
      · rw [List.getElem?_singleton] at hz
        rw [if_neg q] at hz
        cases hz
    rw [hi, Nat.sub_self] at hz
    simp at hz
    subst hz
    rw [hi, j2]
    exact p
end
/-- a list whose items are f's -/
theorem list_of {α : Type} (f : α → D) (P : α → Prop) : ∀ (ds : List D), (∀ d ∈ ds, ∃ x, d = f x ∧ P x) → ∃ xs : List α, ds = xs.map f ∧ ∀ x ∈ xs, P x
  | [], _ => ⟨[], rfl, fun x hx => by simp at hx⟩
  | d :: ds, h => by
    obtain ⟨x, rfl, px⟩ := h d (List.mem_cons_self ..)
    obtain ⟨xs, rfl, p⟩ := list_of f P ds fun d hd => h d (List.mem_cons_of_mem _ hd)
    refine ⟨x :: xs, rfl, fun y hy => ?_⟩
    rcases List.mem_cons.mp hy with rfl | hy
    · exact px
    · exact p y hy
theorem min_bounds {n m : Nat} : ((-4611686018427387904 ≤ 1 + if (n : Int) < (m : Int) then (n : Int) else (m : Int)) ∧ (1 + if (n : Int) < (m : Int) then (n : Int) else (m : Int)) ≤ 1 + m) := by
  split <;> omega
end Z
namespace Z
open PySem PySem.Spec PyProof.Rows L2
theorem Ex.updN {b a : Addr} {S S' : Sto} {o : SO} (h : Ex b S S') (n : S a = none) : Ex b S (supd S' a o) := fun c u hc e => by
  rw [supd_ne (fun z => by subst z; rw [n] at e; cases e)]
  exact h c u hc e
theorem Gr.updN {a : Addr} {S S' : Sto} {o : SO} (h : Gr S S') (n : S a = none) : Gr S (supd S' a o) := fun c u e => by
  rw [supd_ne (fun z => by subst z; rw [n] at e; cases e)]
  exact h c u e
theorem Ex.gr {b : Addr} {S S1 S2 : Sto} (h : Gr S S1) (g : Ex b S1 S2) (n : S b = none) : Gr S S2 := fun c u e =>
  g c u (fun z => by subst z; rw [n] at e; cases e) (h c u e)
end Z
namespace Z
open PySem PySem.Spec PyProof.Rows L2
section
variable {stay : Sto → Prop} {asg : D → En → Option En} {body : Dn → En → Sto → Prop} {K : Dn}
/-- enumerate(xs): J by the place -/
theorem for_enI (J : Nat → En → Sto → Prop) {xs : List D} {env : En} {S : Sto} (h0 : J 0 env S) (hst : ∀ i env S, J i env S → stay S)
    (turn : ∀ (i : Nat) x env S, xs[i]? = some x → J i env S → ∃ e2, asg (.tup [.int i, x]) env = some e2 ∧ ∀ N Bk : En → Sto → Prop, (∀ e s, J (i + 1) e s → N e s) → body { nx := N, rt := K.rt, bk := Bk, ct := N, ex := K.ex } e2 S)
    (hend : ∀ env S, J xs.length env S → K.nx env S) : wFor stay asg body K (xs.zipIdx.map fun p => D.tup [.int p.2, p.1]) env S := by
  refine for_inv (fun pre env S => J pre.length env S) h0 (fun _ _ _ j => hst _ _ _ j) (fun pre d post env S e j => ?_) (fun env S j => hend _ _ (by simpa using j))
  have h : (xs.zipIdx.map fun p => D.tup [.int p.2, p.1])[pre.length]? = some d := by rw [e]; simp
  rw [List.getElem?_map, List.getElem?_zipIdx] at h
  cases e5 : xs[pre.length]? with
  | none => rw [e5] at h; cases h
  | some x =>
    rw [e5] at h
    cases h
    obtain ⟨e2, h1, h2⟩ := turn pre.length x env S e5 j
    refine ⟨e2, by simpa using h1, fun N hN => h2 N _ fun e s q => hN e s (by rw [List.length_append, List.length_singleton]; exact q)⟩
theorem for_en (J : En → Sto → Prop) {xs : List D} {env : En} {S : Sto} (h0 : J env S) (hst : ∀ env S, J env S → stay S)
    (turn : ∀ (i : Nat) x env S, xs[i]? = some x → J env S → ∃ e2, asg (.tup [.int i, x]) env = some e2 ∧ ∀ N Bk : En → Sto → Prop, (∀ e s, J e s → N e s) → body { nx := N, rt := K.rt, bk := Bk, ct := N, ex := K.ex } e2 S)
    (hend : ∀ env S, J env S → K.nx env S) : wFor stay asg body K (xs.zipIdx.map fun p => D.tup [.int p.2, p.1]) env S :=
  for_enI (fun _ => J) h0 (fun _ => hst) turn hend
end
theorem get_map {α : Type} {f : α → D} {xs : List α} {i : Nat} {d : D} (h : (xs.map f)[i]? = some d) : ∃ x, xs[i]? = some x ∧ d = f x := by
  rw [List.getElem?_map] at h
  cases e : xs[i]? with
  | none => rw [e] at h; cases h
  | some x => rw [e] at h; cases h; exact ⟨x, rfl, rfl⟩
theorem get_mem {α : Type} {xs : List α} {i : Nat} {x : α} (h : xs[i]? = some x) : x ∈ xs ∧ i < xs.length := ⟨List.mem_of_getElem? h, (List.getElem?_eq_some_iff.mp h).1⟩
end Z
namespace Z
open PySem PySem.Spec PyProof.Rows L2
theorem at_nat {α : Type} {f : α → D} {xs : List α} {h : Nat} {c : α} (hc : xs[h]? = some c) : atI (xs.map f) (h : Int) = some (f c) := atI_nat (by rw [List.getElem?_map, hc]; rfl)
end Z
namespace Z
open PySem PySem.Spec PyProof.Rows L2
def irange (a b : Int) : List Int := (List.range (b - a).toNat).map fun (i : Nat) => a + (i : Int)
theorem rgD_eq (a b : Int) : rgD a b = (irange a b).map D.int := by
  unfold rgD irange
  rw [List.map_map]
  rfl
theorem irange_len (a b : Int) : (irange a b).length = (b - a).toNat := by unfold irange; simp
theorem irange_get {a b : Int} {i : Nat} (h : i < (b - a).toNat) : (irange a b)[i]? = some (a + i) := by
  unfold irange
  rw [List.getElem?_map, List.getElem?_range h]
  rfl
theorem mem_irange {a b x : Int} : x ∈ irange a b ↔ a ≤ x ∧ x < b := by
  unfold irange
  simp only [List.mem_map, List.mem_range]
  constructor
  · rintro ⟨i, hi, rfl⟩
    omega
  · intro h
    exact ⟨(x - a).toNat, by omega, by omega⟩
theorem irange_cons {a b : Int} (h : a < b) : irange a b = a :: irange (a + 1) b := by
  unfold irange
  obtain ⟨n, hn⟩ : ∃ n, (b - a).toNat = n + 1 := ⟨(b - a).toNat - 1, by omega⟩
  have h2 : (b - (a + 1)).toNat = n := by omega
  rw [hn, h2, List.range_succ_eq_map, List.map_cons, List.map_map]
  congr 1
  · simp
  · apply List.map_congr_left
    intro i _
    simp only [Function.comp]
    omega
theorem irange_nil {a b : Int} (h : b ≤ a) : irange a b = [] := by
  unfold irange
  rw [show (b - a).toNat = 0 by omega]
  rfl
section
variable {stay : Sto → Prop} {asg : D → Option En} {cc : En → Sto → (Bool → Sto → Prop) → Prop} {el : En → Sto → QK → Prop} {Q : List D → Sto → Prop}
theorem lcA0 {α : Type} (f : α → D) (p : α → Bool) (g : α → D) {S : Sto} (hst : stay S) : ∀ (xs : List α) (acc : List D)
    (turn : ∀ x ∈ xs, ∃ e2, asg (f x) = some e2 ∧ (∀ R : Bool → Sto → Prop, R (p x) S → cc e2 S R) ∧ (p x = true → ∀ R : QK, R (g x) S → el e2 S R))
    (h : Q (acc ++ (xs.filter p).map g) S), wLc stay asg cc el (xs.map f) acc S Q
  | [], acc, _, h => lcw_nil hst (by simpa using h)
  | x :: xs, acc, turn, h => by
    obtain ⟨e2, h1, h2, h3⟩ := turn x (List.mem_cons_self ..)
    have go := fun acc => lcA0 f p g hst xs acc fun y hy => turn y (List.mem_cons_of_mem _ hy)
    refine lcw_cons hst h1 (h2 _ (wIf_b (fun hp => h3 hp _ (go _ ?_)) fun hp => go _ ?_))
    · rw [List.filter_cons, if_pos hp] at h
      simpa using h
    · rw [List.filter_cons, hp] at h
      simpa using h
/-- [g for x in xs if p] -/
theorem lcA {α : Type} (f : α → D) (p : α → Bool) (g : α → D) {xs : List α} {S : Sto} (hst : stay S)
    (turn : ∀ x ∈ xs, ∃ e2, asg (f x) = some e2 ∧ (∀ R : Bool → Sto → Prop, R (p x) S → cc e2 S R) ∧ (p x = true → ∀ R : QK, R (g x) S → el e2 S R))
    (h : Q ((xs.filter p).map g) S) : wLc stay asg cc el (xs.map f) [] S Q := lcA0 f p g hst xs [] turn (by simpa using h)
/-- [g for x in xs] -/
theorem lcM {α : Type} (f : α → D) (g : α → D) {xs : List α} {S : Sto} (hst : stay S) (hc : ∀ e2 R, R true S → cc e2 S R)
    (turn : ∀ x ∈ xs, ∃ e2, asg (f x) = some e2 ∧ ∀ R : QK, R (g x) S → el e2 S R)
    (h : Q (xs.map g) S) : wLc stay asg cc el (xs.map f) [] S Q :=
  lcA f (fun _ => true) g hst (fun x hx => (turn x hx).imp fun e2 z => ⟨z.1, fun R q => hc e2 R q, fun _ => z.2⟩) (by
    rw [List.filter_eq_self.mpr (fun _ _ => rfl)]
    exact h)
end
/-- range(a, b): J by the next number; the last one told -/
theorem any_int {zs : List Int} {t : Int} : ((zs.map D.int).any fun z => PyData.eqv z.py (D.int t).py) = decide (t ∈ zs) := by
  rw [Bool.eq_iff_iff]
  simp only [List.any_map, List.any_eq_true, Function.comp, D.py, PyData.eqv, beq_iff_eq, decide_eq_true_eq]
  constructor
  · rintro ⟨x, hx, rfl⟩
    exact hx
  · intro h
    exact ⟨t, h, rfl⟩
end Z
namespace Z
open PySem PySem.Spec PyProof.Rows L2
theorem serase_supd {S : Sto} {a : Addr} {o : SO} (h : S a = none) : serase (supd S a o) a = S := by
  funext b
  unfold serase
  by_cases e : b = a
  · rw [if_pos e, e, h]
  · rw [if_neg e, supd_ne e]
theorem Gr.erase {S S' : Sto} {a : Addr} (h : Gr S S') (n : S a = none) : Gr S (serase S' a) := fun c u e => by
  unfold serase
  rw [if_neg (fun z => by rw [z, n] at e; cases e)]
  exact h c u e
theorem Ex.erase {b : Addr} {S S' : Sto} {a : Addr} (h : Ex b S S') (n : S a = none) : Ex b S (serase S' a) := fun c u hc e => by
  unfold serase
  rw [if_neg (fun z => by rw [z, n] at e; cases e)]
  exact h c u hc e
end Z
namespace Z
open PySem PySem.Spec PyProof.Rows L2
theorem asInts_map : ∀ zs : List Int, asInts (zs.map D.int) = some zs
  | [] => rfl
  | z :: r => by
    show (asInts (r.map D.int)).map (z :: ·) = _
    rw [asInts_map r]
    rfl
theorem asBools_map : ∀ zs : List Bool, asBools (zs.map D.bl) = some zs
  | [] => rfl
  | z :: r => by
    show (asBools (r.map D.bl)).map (z :: ·) = _
    rw [asBools_map r]
    rfl
theorem map_int {α : Type} {f : α → Int} {xs : List α} : xs.map (fun x => D.int (f x)) = (xs.map f).map D.int := by
  rw [List.map_map]
  rfl
theorem map_bl {α : Type} {f : α → Bool} {xs : List α} : xs.map (fun x => D.bl (f x)) = (xs.map f).map D.bl := by
  rw [List.map_map]
  rfl
theorem int_inj {xs ys : List Int} : xs.map D.int = ys.map D.int ↔ xs = ys :=
  ⟨fun h => by
    have : ∀ (xs ys : List Int), xs.map D.int = ys.map D.int → xs = ys := by
      intro xs
      induction xs with
      | nil => intro ys h; cases ys with
        | nil => rfl
        | cons _ _ => cases h
      | cons x r ih => intro ys h; cases ys with
        | nil => cases h
        | cons y t =>
          rw [List.map_cons, List.map_cons] at h
          injection h with h1 h2
          injection h1 with h1
          rw [h1, ih t h2]
    exact this xs ys h, fun h => by rw [h]⟩
/-- rising lists of the same numbers are one -/
theorem sorted_eq {xs ys : List Int} (p : xs.Perm ys) (hx : xs.Pairwise (· ≤ ·)) (hy : ys.Pairwise (· ≤ ·)) : xs = ys :=
  List.Perm.eq_of_pairwise (fun a b _ _ h1 h2 => Int.le_antisymm h1 h2) hx hy p
theorem irange_sorted (a b : Int) : (irange a b).Pairwise (· ≤ ·) := by
  unfold irange
  rw [List.pairwise_map]
  refine List.Pairwise.imp ?_ List.pairwise_lt_range
  intro i j h
  omega
end Z
namespace Z
open PySem PySem.Spec PyProof.Rows L2
theorem id_lstM {α : Type} {f : α → D} {n : Nat} {xs : List α} (h : ∀ x, D.id n (f x) = true) : D.id (n + 1) (.lst (xs.map f)) = true := ids_map h xs
theorem id_tupM {α : Type} {f : α → D} {n : Nat} {xs : List α} (h : ∀ x, D.id n (f x) = true) : D.id (n + 1) (.tup (xs.map f)) = true := ids_map h xs
theorem id_ints {xs : List Int} : D.id 1 (.lst (xs.map D.int)) = true := id_lstM fun _ => rfl
theorem id_intsT {xs : List Int} : D.id 1 (.tup (xs.map D.int)) = true := id_tupM fun _ => rfl
theorem id_book {xs : List (Int × Int)} : D.id 2 (.tup (xs.map wD)) = true := id_tupM wD_id
end Z
namespace Z
open PySem PySem.Spec PyProof.Rows L2
theorem cut_take {α : Type} {xs : List α} {i : Int} (h : 0 ≤ i) : cut xs none (some i) = xs.take i.toNat := by
  unfold cut
  show (xs.drop 0).take ((if i < 0 then (i + (xs.length : Int)).toNat else min i.toNat xs.length) - 0) = _
  rw [if_neg (by omega), List.drop_zero, Nat.sub_zero, List.take_eq_take_iff]
  omega
theorem cut_drop {α : Type} {xs : List α} {i : Int} (h : 0 ≤ i) : cut xs (some i) none = xs.drop i.toNat := by
  unfold cut
  show (xs.drop (if i < 0 then (i + (xs.length : Int)).toNat else min i.toNat xs.length)).take (xs.length - (if i < 0 then (i + (xs.length : Int)).toNat else min i.toNat xs.length)) = _
  rw [if_neg (by omega)]
  by_cases hl : i.toNat ≤ xs.length
  · rw [Nat.min_eq_left hl, List.take_of_length_le (by rw [List.length_drop]; omega)]
  · rw [Nat.min_eq_right (by omega), List.drop_eq_nil_of_le (Nat.le_refl _), List.drop_eq_nil_of_le (by omega), List.take_nil]
section
variable {stay : Sto → Prop} {asg : D → Option En} {cc : En → Sto → (Bool → Sto → Prop) → Prop} {el : En → Sto → QK → Prop} {Q : List D → Sto → Prop}
/-- whatever a comprehension makes -/
theorem lcAny {items : List D} {S : Sto} (hst : stay S) (turn : ∀ d ∈ items, ∃ e2, asg d = some e2 ∧ (∀ R : Bool → Sto → Prop, (∀ b, R b S) → cc e2 S R) ∧ ∀ R : QK, (∀ x, R x S) → el e2 S R)
    (h : ∀ ds, Q ds S) : wLc stay asg cc el items [] S Q :=
  lc_inv (fun pre acc S' => S' = S) rfl (fun _ _ _ j => by rw [j]; exact hst)
    (fun pre d post acc S' e j => by
      subst j
      obtain ⟨e2, ha, hc, hb⟩ := turn d (by rw [e]; simp)
      refine ⟨e2, ha, fun N hN => hc _ fun b => wIf_b (fun _ => hb _ fun x => hN _ _ rfl) (fun _ => hN _ _ rfl)⟩)
    (fun acc S' j => by subst j; exact h acc)
end
end Z
namespace Z
open PySem PySem.Spec PyProof.Rows L2
theorem irange_snoc {a b : Int} (h : a ≤ b) : irange a (b + 1) = irange a b ++ [b] := by
  unfold irange
  rw [show (b + 1 - a).toNat = (b - a).toNat + 1 by omega, List.range_succ, List.map_append]
  congr 1
  simp
  omega
end Z
namespace Z
open PySem PySem.Spec PyProof.Rows L2
/-! ### words, the newer one -/
def mx (a b : Int × Int) : Int × Int := if nw b a = true then b else a
theorem nw_iff {a b : Int × Int} : nw a b = true ↔ b.1 < a.1 ∨ (a.1 = b.1 ∧ b.2 < a.2) := by
  unfold nw
  simp only [Bool.or_eq_true, Bool.and_eq_true, decide_eq_true_eq]
theorem mx_comm (a b : Int × Int) : mx a b = mx b a := by
  unfold mx
  simp only [nw_iff]
  split <;> split <;> first | rfl | (exfalso; omega) | (apply Prod.ext <;> omega)
theorem mx_assoc (a b c : Int × Int) : mx (mx a b) c = mx a (mx b c) := by
  unfold mx
  simp only [nw_iff]
  (repeat' split) <;> first | rfl | (exfalso; omega) | (apply Prod.ext <;> omega)
theorem mx_self (a : Int × Int) : mx a a = a := by unfold mx; split <;> rfl
theorem mx_right (a b c : Int × Int) : mx (mx a b) c = mx (mx a c) b := by rw [mx_assoc, mx_comm b c, ← mx_assoc]
theorem q_maxW {a b : Int × Int} {S : Sto} {Q : QK} (h : Q (wD (mx a b)) S) : wBlt .max [wD a, wD b] S Q := by
  obtain ⟨o1, o2, _, al⟩ := ord_wD a b
  have key : (((wD a).Ok ∧ (wD b).Ok) ∧ PySem.W.alike (wD a).py (wD b).py = true ∧ PySem.W.alike (wD b).py (wD a).py = true ∧ PySem.W.alike (wD a).py (wD a).py = true ∧ PySem.W.alike (wD b).py (wD b).py = true) ∧ Q (if PySem.W.dataLt (wD a).py (wD b).py then wD b else wD a) S := by
    refine ⟨⟨⟨o1, o2⟩, al, (ord_wD b a).2.2.2, (ord_wD a a).2.2.2, (ord_wD b b).2.2.2⟩, ?_⟩
    rw [lt_wD]
    unfold mx at h
    split <;> rename_i e
    · rw [if_pos e] at h; exact h
    · rw [if_neg e] at h; exact h
  exact key
theorem zip_map {α β : Type} {f : α → D} {g : β → D} : ∀ (xs : List α) (ys : List β), List.zipWith (fun p q => D.tup [p, q]) (xs.map f) (ys.map g) = (xs.zip ys).map fun p => D.tup [f p.1, g p.2]
  | [], _ => rfl
  | _ :: _, [] => rfl
  | x :: xs, y :: ys => by
    show _ :: List.zipWith _ (xs.map f) (ys.map g) = _ :: _
    rw [zip_map xs ys]
    rfl
/-! ### books -/
def stepN (ws : List (Int × Int)) (n : Nat × (Int × Int)) : List (Int × Int) := ws.set n.1 (mx (ws.getD n.1 (0, 0)) n.2)
def hearL (ws : List (Int × Int)) (ns : List (Nat × (Int × Int))) : List (Int × Int) := ns.foldl stepN ws
def noteD (n : Nat × (Int × Int)) : D := .tup [.int n.1, wD n.2]
def sel (i : Nat) (ns : List (Nat × (Int × Int))) : List (Int × Int) := (ns.filter fun n => n.1 == i).map (·.2)
theorem hear_len (ws : List (Int × Int)) : ∀ ns, (hearL ws ns).length = ws.length := by
  intro ns
  unfold hearL
  induction ns generalizing ws with
  | nil => rfl
  | cons n r ih => rw [List.foldl_cons, ih]; unfold stepN; simp
theorem step_getD {ws : List (Int × Int)} {n : Nat × (Int × Int)} {i : Nat} (hn : n.1 < ws.length) : (stepN ws n).getD i (0, 0) = if n.1 = i then mx (ws.getD i (0, 0)) n.2 else ws.getD i (0, 0) := by
  unfold stepN
  simp only [List.getD_eq_getElem?_getD]
  by_cases e : n.1 = i
  · subst e
    rw [if_pos rfl, List.getElem?_set_self hn]
    rfl
  · rw [if_neg e, List.getElem?_set_ne e]
theorem hear_getD (ns : List (Nat × (Int × Int))) : ∀ (ws : List (Int × Int)), (∀ n ∈ ns, n.1 < ws.length) → ∀ i, (hearL ws ns).getD i (0, 0) = (sel i ns).foldl mx (ws.getD i (0, 0)) := by
  induction ns with
  | nil => intro ws _ i; rfl
  | cons n r ih =>
    intro ws h i
    have h1 := h n (List.mem_cons_self ..)
    show (hearL (stepN ws n) r).getD i (0, 0) = _
    rw [ih (stepN ws n) (fun m hm => by unfold stepN; rw [List.length_set]; exact h m (List.mem_cons_of_mem _ hm)), step_getD h1]
    unfold sel
    by_cases e : n.1 = i
    · rw [if_pos e, List.filter_cons, if_pos (by simp [e]), List.map_cons, List.foldl_cons]
    · rw [if_neg e, List.filter_cons, if_neg (by simp [e])]
theorem ext_getD {xs ys : List (Int × Int)} (hl : xs.length = ys.length) (h : ∀ i, i < xs.length → xs.getD i (0, 0) = ys.getD i (0, 0)) : xs = ys := by
  apply List.ext_getElem? 
  intro i
  by_cases hi : i < xs.length
  · have := h i hi
    simp only [List.getD_eq_getElem?_getD] at this
    rw [List.getElem?_eq_getElem hi, List.getElem?_eq_getElem (by omega)] at this ⊢
    simpa using this
  · rw [List.getElem?_eq_none (by omega), List.getElem?_eq_none (by omega)]
theorem fold_perm {l l' : List (Int × Int)} (p : l.Perm l') (w : Int × Int) : l.foldl mx w = l'.foldl mx w :=
  p.foldl_eq' (fun x _ y _ z => mx_right z x y) w
theorem hear_perm {ns ns' : List (Nat × (Int × Int))} {ws : List (Int × Int)} (p : ns.Perm ns') (h : ∀ n ∈ ns, n.1 < ws.length) : hearL ws ns = hearL ws ns' := by
  refine ext_getD (by rw [hear_len, hear_len]) fun i _ => ?_
  rw [hear_getD ns ws h, hear_getD ns' ws (fun n hn => h n (p.mem_iff.mpr hn))]
  exact fold_perm ((p.filter _).map _) _
def mergeL (a b : List (Int × Int)) : List (Int × Int) := (a.zip b).map fun p => mx p.1 p.2
theorem merge_len {a b : List (Int × Int)} (h : a.length = b.length) : (mergeL a b).length = a.length := by unfold mergeL; simp [h]
theorem merge_getD {a b : List (Int × Int)} (h : a.length = b.length) (i : Nat) : (mergeL a b).getD i (0, 0) = mx (a.getD i (0, 0)) (b.getD i (0, 0)) := by
  unfold mergeL
  simp only [List.getD_eq_getElem?_getD]
  rw [List.getElem?_map, show a.zip b = List.zipWith Prod.mk a b from rfl, List.getElem?_zipWith]
  by_cases hi : i < a.length
  · rw [List.getElem?_eq_getElem hi, List.getElem?_eq_getElem (by omega : i < b.length)]
    rfl
  · rw [List.getElem?_eq_none (by omega : a.length ≤ i), List.getElem?_eq_none (by omega : b.length ≤ i)]
    rfl
theorem fold_mx (w : Int × Int) : ∀ (l : List (Int × Int)) (v : Int × Int), mx w (l.foldl mx v) = l.foldl mx (mx w v)
  | [], _ => rfl
  | x :: l, v => by
    rw [List.foldl_cons, List.foldl_cons, fold_mx w l, mx_assoc]
theorem fold_self (w : Int × Int) (l : List (Int × Int)) : mx w (l.foldl mx w) = l.foldl mx w := by rw [fold_mx, mx_self]
/-- what is greatest is one of them, and none is newer -/
theorem fold_mem : ∀ (l : List (Int × Int)) (w : Int × Int), l.foldl mx w ∈ w :: l
  | [], w => by simp
  | x :: l, w => by
    have h := fold_mem l (mx w x)
    rw [List.foldl_cons]
    rcases List.mem_cons.mp h with h | h
    · rw [h]
      unfold mx
      split <;> simp
    · simp [h]
theorem nw_mx {a b : Int × Int} : nw a b = false ↔ mx b a = b := by
  unfold mx
  cases h : nw a b with
  | true =>
    simp
    intro e
    rw [← e] at h
    rw [nw_iff] at h
    omega
  | false => simp
theorem fold_ge : ∀ (l : List (Int × Int)) (w : Int × Int), ∀ x ∈ w :: l, nw x (l.foldl mx w) = false := by
  intro l w x hx
  rw [nw_mx]
  rcases List.mem_cons.mp hx with rfl | hx
  · rw [mx_comm, fold_self]
  · induction l generalizing w with
    | nil => simp at hx
    | cons y l ih =>
      rw [List.foldl_cons]
      rcases List.mem_cons.mp hx with rfl | hx
      · rw [mx_comm, fold_mx, ← mx_assoc, mx_right, mx_self, mx_comm]
      · exact ih (mx w y) (List.mem_cons_of_mem _ hx) hx
end Z
namespace Z
open PySem PySem.Spec PyProof.Rows L2
theorem map_injD {α : Type} {f : α → D} (hf : ∀ x y, f x = f y → x = y) : ∀ {xs ys : List α}, xs.map f = ys.map f → xs = ys
  | [], [], _ => rfl
  | [], _ :: _, h => nomatch h
  | _ :: _, [], h => nomatch h
  | x :: xs, y :: ys, h => by
    rw [List.map_cons, List.map_cons] at h
    injection h with h1 h2
    rw [hf x y h1, map_injD hf h2]
theorem note_inj {xs ys : List (Nat × (Int × Int))} (h : xs.map noteD = ys.map noteD) : xs = ys :=
  map_injD (fun x y e => by
    unfold noteD at e
    injection e with e
    injection e with e1 e2
    injection e1 with e1
    injection e2 with e2
    exact Prod.ext (by omega) (wD_inj.mp e2)) h
theorem book_inj {xs ys : List (Int × Int)} (h : xs.map wD = ys.map wD) : xs = ys := map_injD (fun _ _ e => wD_inj.mp e) h
theorem bookT_inj {xs ys : List (Int × Int)} : D.tup (xs.map wD) = D.tup (ys.map wD) ↔ xs = ys := ⟨fun h => book_inj (by injection h), fun h => by rw [h]⟩
theorem note_id (n : Nat × (Int × Int)) : D.id 2 (noteD n) = true := rfl
end Z
namespace Z
open PySem PySem.Spec PyProof.Rows L2
theorem any_wD {ws : List (Int × Int)} {v : Int × Int} : ((ws.map wD).any fun z => PyData.eqv z.py (wD v).py) = decide (v ∈ ws) := by
  rw [Bool.eq_iff_iff]
  simp only [List.any_map, List.any_eq_true, Function.comp, decide_eq_true_eq]
  constructor
  · rintro ⟨x, hx, e⟩
    have := wD_inj.mp ((id_eqv _ _ 1 1 (wD_id x) (wD_id v)).mp e)
    rw [← this]
    exact hx
  · intro h
    exact ⟨v, h, (id_eqv _ _ 1 1 (wD_id v) (wD_id v)).mpr rfl⟩
theorem merge_cut {ws : List (Int × Int)} {A B : List (Nat × (Int × Int))} (hA : ∀ n ∈ A, n.1 < ws.length) (hB : ∀ n ∈ B, n.1 < ws.length) : mergeL (hearL ws A) (hearL ws B) = hearL ws (A ++ B) := by
  have l1 := hear_len ws A
  have l2 := hear_len ws B
  have l3 := hear_len ws (A ++ B)
  refine ext_getD (by rw [merge_len (by omega)]; omega) fun i _ => ?_
  rw [merge_getD (by omega), hear_getD A ws hA, hear_getD B ws hB, hear_getD (A ++ B) ws (fun n hn => (List.mem_append.mp hn).elim (hA n) (hB n))]
  have e : sel i (A ++ B) = sel i A ++ sel i B := by unfold sel; rw [List.filter_append, List.map_append]
  rw [e, List.foldl_append, fold_mx, mx_comm, fold_self]
theorem getD_some {ws : List (Int × Int)} {i : Nat} (h : i < ws.length) : ws[i]? = some (ws.getD i (0, 0)) := by
  rw [List.getD_eq_getElem?_getD, List.getElem?_eq_getElem h]
  rfl
end Z
namespace Z
open PySem PySem.Spec PyProof.Rows L2
section
variable {stay : Sto → Prop} {asg : D → En → Option En} {body : Dn → En → Sto → Prop} {K : Dn}
/-- over f's of a list: J by the part gone through -/
theorem for_T {α : Type} (f : α → D) (J : List α → En → Sto → Prop) {xs : List α} {env : En} {S : Sto} (h0 : J [] env S) (hst : ∀ pre env S, J pre env S → stay S)
    (turn : ∀ pre x post env S, xs = pre ++ x :: post → J pre env S → ∃ e2, asg (f x) env = some e2 ∧ ∀ N Bk : En → Sto → Prop, (∀ e s, J (pre ++ [x]) e s → N e s) → body { nx := N, rt := K.rt, bk := Bk, ct := N, ex := K.ex } e2 S)
    (hend : ∀ env S, J xs env S → K.nx env S) : wFor stay asg body K (xs.map f) env S := by
  have go : ∀ (post pre : List α) env S, xs = pre ++ post → J pre env S → wFor stay asg body K (post.map f) env S := by
    intro post
    induction post with
    | nil =>
      intro pre env S e j
      rw [List.append_nil] at e
      subst e
      exact for_nil (hst _ _ _ j) (hend _ _ j)
    | cons d post ih =>
      intro pre env S e j
      obtain ⟨e2, ha, hb⟩ := turn pre d post env S e j
      exact for_cons (hst _ _ _ j) ha (hb _ _ fun e' s' j' => ih (pre ++ [d]) e' s' (by rw [e, List.append_assoc]; rfl) j')
  exact go xs [] env S rfl h0
end
end Z
set_option Elab.async false
set_option linter.all false
set_option maxRecDepth 100000
set_option maxHeartbeats 4000000
/-! Z14: things of any kind. -/
namespace Z
open PySem PySem.Spec PyProof.Rows L2
theorem isi_nonetype_int : isiD "NoneType" "int" = false := by decide
theorem isi_nonetype_bool : isiD "NoneType" "bool" = false := by decide
theorem isi_nonetype_str : isiD "NoneType" "str" = false := by decide
theorem isi_nonetype_tuple : isiD "NoneType" "tuple" = false := by decide
theorem isi_nonetype_list : isiD "NoneType" "list" = false := by decide
theorem isi_nonetype_dict : isiD "NoneType" "dict" = false := by decide
theorem isi_bool_int : isiD "bool" "int" = true := by decide
theorem isi_bool_bool : isiD "bool" "bool" = true := by decide
theorem isi_bool_str : isiD "bool" "str" = false := by decide
theorem isi_bool_tuple : isiD "bool" "tuple" = false := by decide
theorem isi_bool_list : isiD "bool" "list" = false := by decide
theorem isi_bool_dict : isiD "bool" "dict" = false := by decide
theorem isi_int_int : isiD "int" "int" = true := by decide
theorem isi_int_bool : isiD "int" "bool" = false := by decide
theorem isi_int_str : isiD "int" "str" = false := by decide
theorem isi_int_tuple : isiD "int" "tuple" = false := by decide
theorem isi_int_list : isiD "int" "list" = false := by decide
theorem isi_int_dict : isiD "int" "dict" = false := by decide
theorem isi_str_int : isiD "str" "int" = false := by decide
theorem isi_str_bool : isiD "str" "bool" = false := by decide
theorem isi_str_str : isiD "str" "str" = true := by decide
theorem isi_str_tuple : isiD "str" "tuple" = false := by decide
theorem isi_str_list : isiD "str" "list" = false := by decide
theorem isi_str_dict : isiD "str" "dict" = false := by decide
theorem isi_tuple_int : isiD "tuple" "int" = false := by decide
theorem isi_tuple_bool : isiD "tuple" "bool" = false := by decide
theorem isi_tuple_str : isiD "tuple" "str" = false := by decide
theorem isi_tuple_tuple : isiD "tuple" "tuple" = true := by decide
theorem isi_tuple_list : isiD "tuple" "list" = false := by decide
theorem isi_tuple_dict : isiD "tuple" "dict" = false := by decide
theorem isi_list_int : isiD "list" "int" = false := by decide
theorem isi_list_bool : isiD "list" "bool" = false := by decide
theorem isi_list_str : isiD "list" "str" = false := by decide
theorem isi_list_tuple : isiD "list" "tuple" = false := by decide
theorem isi_list_list : isiD "list" "list" = true := by decide
theorem isi_list_dict : isiD "list" "dict" = false := by decide
theorem isi_dict_int : isiD "dict" "int" = false := by decide
theorem isi_dict_bool : isiD "dict" "bool" = false := by decide
theorem isi_dict_str : isiD "dict" "str" = false := by decide
theorem isi_dict_tuple : isiD "dict" "tuple" = false := by decide
theorem isi_dict_list : isiD "dict" "list" = false := by decide
theorem isi_dict_dict : isiD "dict" "dict" = true := by decide
theorem ty_dct {S : Sto} {a : Addr} {kvs : List (Key × D)} (h : S a = some (.dct kvs)) : tyD (.ref a) S = some "dict" := by
  unfold tyD
  simp only [h]
mutual
/-- a datum whose kind is known, however deep; dicts by their place -/
def kn (S : Sto) : D → Prop
  | .non => True
  | .bl _ => True
  | .int _ => True
  | .str _ => True
  | .tup xs => kns S xs
  | .lst xs => kns S xs
  | .lsk _ => False
  | .ty _ => False
  | .ref a => ∃ kvs, S a = some (.dct kvs)
def kns (S : Sto) : List D → Prop
  | [] => True
  | x :: xs => kn S x ∧ kns S xs
end
theorem kns_iff {S : Sto} : ∀ {xs : List D}, kns S xs ↔ ∀ x ∈ xs, kn S x
  | [] => ⟨fun _ x hx => by simp at hx, fun _ => trivial⟩
  | x :: xs => by
    constructor
    · rintro ⟨h1, h2⟩ y hy
      rcases List.mem_cons.mp hy with rfl | hy
      · exact h1
      · exact kns_iff.mp h2 y hy
    · intro h
      exact ⟨h x (List.mem_cons_self ..), kns_iff.mpr fun y hy => h y (List.mem_cons_of_mem _ hy)⟩
mutual
theorem kn_mono {S S' : Sto} (h : ∀ a kvs, S a = some (.dct kvs) → S' a = some (.dct kvs)) : ∀ d : D, kn S d → kn S' d
  | .non, _ => trivial
  | .bl _, _ => trivial
  | .int _, _ => trivial
  | .str _, _ => trivial
  | .tup xs, g => kns_mono h xs g
  | .lst xs, g => kns_mono h xs g
  | .lsk _, g => g.elim
  | .ty _, g => g.elim
  | .ref a, ⟨kvs, e⟩ => ⟨kvs, h a kvs e⟩
theorem kns_mono {S S' : Sto} (h : ∀ a kvs, S a = some (.dct kvs) → S' a = some (.dct kvs)) : ∀ ds : List D, kns S ds → kns S' ds
  | [], _ => trivial
  | x :: xs, ⟨g1, g2⟩ => ⟨kn_mono h x g1, kns_mono h xs g2⟩
end
theorem kn_gr {S S' : Sto} {d : D} (g : Gr S S') (h : kn S d) : kn S' d := kn_mono (fun a kvs e => g a _ e) d h
theorem kn_ex {S S' : Sto} {b : Addr} {xs : List D} {d : D} (hb : S b = some (.lst xs)) (g : Ex b S S') (h : kn S d) : kn S' d := kn_mono (fun a kvs e => g a _ (fun z => by rw [z, hb] at e; cases e) e) d h
theorem kn_wD {S : Sto} (w : Int × Int) : kn S (wD w) := ⟨trivial, trivial, trivial⟩
theorem kn_book {S : Sto} (ws : List (Int × Int)) : kns S (ws.map wD) := kns_iff.mpr fun x hx => by
  obtain ⟨w, _, rfl⟩ := List.mem_map.mp hx
  exact kn_wD w
theorem kns_app {S : Sto} {xs ys : List D} (h : kns S xs) (g : kns S ys) : kns S (xs ++ ys) := kns_iff.mpr fun x hx => (List.mem_append.mp hx).elim (kns_iff.mp h x) (kns_iff.mp g x)
theorem kns_take {S : Sto} {xs : List D} (n : Nat) (h : kns S xs) : kns S (xs.take n) := kns_iff.mpr fun x hx => kns_iff.mp h x (List.mem_of_mem_take hx)
theorem kns_drop {S : Sto} {xs : List D} (n : Nat) (h : kns S xs) : kns S (xs.drop n) := kns_iff.mpr fun x hx => kns_iff.mp h x (List.mem_of_mem_drop hx)
/-- a whole number, no truth -/
def isInt : D → Bool
  | .int _ => true
  | _ => false
def isBtw (lo hi : Int) : D → Bool
  | .int i => decide (lo ≤ i) && decide (i ≤ hi)
  | _ => false
def isW : D → Bool
  | .tup [.int a, .int b] => decide (0 ≤ a) && (decide (0 ≤ b) && decide (b ≤ 3))
  | _ => false
def isB : D → Bool
  | .tup xs => (decide (2 ≤ xs.length) && decide (xs.length ≤ 8)) && xs.all isW
  | _ => false
section
variable {stay : Sto → Prop} {asg : D → Option (List (Option D))} {cc : List (Option D) → Sto → (Bool → Sto → Prop) → Prop} {el : List (Option D) → Sto → QK → Prop} {Q : List D → Sto → Prop}
/-- [g for x in xs], the things told as they are -/
theorem lcE (g : D → D) {xs : List D} {S : Sto} (hst : stay S) (hc : ∀ e2 R, R true S → cc e2 S R)
    (turn : ∀ x ∈ xs, ∃ e2, asg x = some e2 ∧ ∀ R : QK, R (g x) S → el e2 S R)
    (h : Q (xs.map g) S) : wLc stay asg cc el xs [] S Q := by
  have z := lcM (stay := stay) (asg := asg) (cc := cc) (el := el) (Q := Q) id g (xs := xs) hst hc turn h
  rw [List.map_id] at z
  exact z
end
theorem cut_len {α : Type} {xs : List α} {lo hi : Option Int} : (cut xs lo hi).length ≤ xs.length := by
  unfold cut
  rw [List.length_take, List.length_drop]
  omega
theorem cut_mem {α : Type} {xs : List α} {lo hi : Option Int} {x : α} (h : x ∈ cut xs lo hi) : x ∈ xs := List.mem_of_mem_drop (List.mem_of_mem_take h)
theorem kns_cut {S : Sto} {xs : List D} {lo hi : Option Int} (h : kns S xs) : kns S (cut xs lo hi) := kns_iff.mpr fun x hx => kns_iff.mp h x (cut_mem hx)
theorem kns_c {S : Sto} {x : D} {xs : List D} (h : kn S x) (g : kns S xs) : kns S (x :: xs) := ⟨h, g⟩
theorem kn_lstW {S : Sto} (w : Int × Int) : kn S (.lst [.int w.1, .int w.2]) := ⟨trivial, trivial, trivial⟩
theorem q_len1s {cs : CS} {EX : EK} {m : Int} {xs : List D} {env : En} {S : Sto} {Q : QK} : wE cs EX (.bin .Add (.int 1) (.blt .len [.sl false (.var 0) none (some (.int m))])) (some (.lsk xs) :: env) S Q = Q (.int (1 + ((cut xs none (some m)).length : Int))) S := by
  simp only [wE, wEs, wO, intO, q_var, q_opt, q_slK, q_newF, q_len, q_lstL, q_seqL, q_add, List.getElem?_cons_zero]
theorem q_r1s {cs : CS} {EX : EK} {m : Int} {xs : List D} {env : En} {S : Sto} {R : List D → (Sto → Prop) → Sto → Prop} : wI cs EX (.r1 (.bin .Add (.int 1) (.blt .len [.sl false (.var 0) none (some (.int m))]))) (some (.lsk xs) :: env) S R
    = ((-4611686018427387904 ≤ (1 + ((cut xs none (some m)).length : Int)) ∧ (1 + ((cut xs none (some m)).length : Int)) ≤ 16777216) ∧ R (rgD 0 (1 + ((cut xs none (some m)).length : Int))) noStay S) := by
  rw [wI, q_len1s]
/-- one statement, what follows kept apart: small steps for long bodies -/
theorem ss_gen {cs : CS} {EX : EK} {s : Stm} {r : List Stm} {K : Dn} {env : En} {S : Sto}
   (h : ∀ N : En → Sto → Prop, (∀ e S, wSs cs EX r K e S → N e S) → wS cs EX s { nx := N, rt := K.rt, bk := K.bk, ct := K.ct, ex := K.ex } env S) : wSs cs EX (s :: r) K env S :=
  ss_cons (h _ fun _ _ z => z)
/-- an if, its branches kept apart -/
theorem s_ifg {cs : CS} {EX : EK} {c : E} {x y : List Stm} {K : Dn} {env : En} {S : Sto}
   (h : ∀ X Y : En → Sto → Prop, (∀ e S, wSs cs EX x K e S → X e S) → (∀ e S, wSs cs EX y K e S → Y e S) → wT cs EX c env S fun k S1 => wIf k (X env S1) (Y env S1)) : wS cs EX (.ifS c x y) K env S := by
  rw [s_if]
  exact h _ _ (fun _ _ z => z) (fun _ _ z => z)
end Z
set_option Elab.async false
set_option linter.all false
set_option maxRecDepth 100000
set_option maxHeartbeats 4000000
/-! Z145: rewriting rules for attributes, dicts, orders told by a function. -/
namespace Z
open PySem PySem.Spec PyProof.Rows L2
section
variable {cs : CS} {EX : EK} {K : Dn} {env : En} {S : Sto} {e o i k : E} {op : Operator} {n f : Str}
theorem s_setFld : wS cs EX (.setFld n f o e) K env S = wE cs EX e env S fun v S1 => wE cs EX o env S1 fun x S2 => wSetFld n f x v S2 fun S3 => K.nx env S3 := rfl
theorem s_setKey : wS cs EX (.setKey o k e) K env S = wE cs EX e env S fun v S1 => wE cs EX o env S1 fun x S2 => wE cs EX k env S2 fun j S3 => wSetKey x j v S3 fun S4 => K.nx env S4 := rfl
theorem s_setKeyN : wS cs EX (.setKeyN o k e) K env S = wE cs EX e env S fun v S1 => wE cs EX o env S1 fun x S2 => wE cs EX k env S2 fun j S3 => wSetKeyN x j v S3 fun S4 => K.nx env S4 := rfl
theorem s_tryS {b : List Stm} : wS cs EX (.tryS b) K env S = wSs cs EX b { nx := K.nx, rt := K.rt, bk := K.bk, ct := K.ct } env S := rfl
theorem s_exprX {r : Rc} {es : List E} : wS cs EX (.exprX r es) K env S = wR cs EX r es env S (fun _ S1 => K.nx env S1) fun n d S1 => K.ex n d env S1 := rfl
theorem s_asgX {t : T} {r : Rc} {es : List E} : wS cs EX (.asgX t r es) K env S = wR cs EX r es env S (fun x S1 => wOpt (asgO S1 t x env) fun e2 => K.nx e2 S1) fun n d S1 => K.ex n d env S1 := rfl
theorem s_retX {r : Rc} {es : List E} : wS cs EX (.retX r es) K env S = wR cs EX r es env S K.rt fun n d S1 => K.ex n d env S1 := rfl
theorem s_rs {n m : Str} : wS cs EX (.rs n m) K env S = K.ex n .non env S := rfl
theorem s_tryX {b : List Stm} {n : Str} {i j : Nat} : wS cs EX (.tryX b n i j) K env S = wSs cs EX b { nx := K.nx, rt := K.rt, bk := K.bk, ct := K.ct, ex := fun n2 _ e S1 => ((exKn n2 = true ∧ exSub n2 n = true) ∧ i < e.length) ∧ ∀ a, S1 a = none → K.nx (((e.set i (some (.ref a))).set j (some (.ref a))).set i none) (supd S1 a (.exc n2)) } env S := rfl
theorem r_fn {f : Nat} {es : List E} {Q : QK} {Y : EK} : wR cs EX (.fn f) es env S Q Y = wEs cs EX es env S fun ds S1 => cs f ds S1 Q Y := rfl
theorem r_cv {i : Nat} {fs : List (Str × Nat)} {es : List E} {Q : QK} {Y : EK} : wR cs EX (.cv i fs) es env S Q Y = wFnV (env[i]?) fs fun f => wEs cs EX es env S fun ds S1 => cs f ds S1 Q Y := rfl
theorem r_mth {g : Nat} {n m : Str} {o : E} {es : List E} {Q : QK} {Y : EK} : wR cs EX (.mth g n m o) es env S Q Y = wE cs EX o env S fun x S1 => wMth n m x S1 (wEs cs EX es env S1 fun ds S2 => cs g (x :: ds) S2 Q Y) := rfl
theorem exiB_none {ns : List Str} : exiB ns none = false := rfl
theorem excAt_non : excAt S .non = some none := rfl
theorem excAt_of {a : Addr} {n : Str} (h : S a = some (.exc n)) (k : exKn n = true) : excAt S (.ref a) = some (some n) := by
  show (match S a with
    | some (.exc n) => if exKn n = true then some (some n) else none
    | _ => none) = _
  rw [h]
  exact if_pos k

theorem s_lockS {s : Stm} : wS cs EX (.lockS s) K env S = ∃ a o l, (S a = some o ∧ lockO o = some l) ∧ wS cs EX s (unlk a l o K) env (supd S a l) := rfl
theorem s_setKey2 {o1 k1 o2 k2 e1 e2 : E} : wS cs EX (.setKey2 o1 k1 o2 k2 e1 e2) K env S = wE cs EX e1 env S fun v S1 => wE cs EX e2 env S1 fun u S2 => wE cs EX o1 env S2 fun x S3 => wE cs EX k1 env S3 fun j S4 => wSetKey x j v S4 fun S5 => wE cs EX o2 env S5 fun y S6 => wE cs EX k2 env S6 fun i S7 => wSetKey y i u S7 fun S8 => K.nx env S8 := rfl
theorem s_setIx2 {o1 k1 o2 k2 e1 e2 : E} : wS cs EX (.setIx2 o1 k1 o2 k2 e1 e2) K env S = wE cs EX e1 env S fun v S1 => wE cs EX e2 env S1 fun u S2 => wE cs EX o1 env S2 fun x S3 => wE cs EX k1 env S3 fun j S4 => wSetIx x j v S4 fun S5 => wE cs EX o2 env S5 fun y S6 => wE cs EX k2 env S6 fun i S7 => wSetIx y i u S7 fun S8 => K.nx env S8 := rfl
theorem s_augIx : wS cs EX (.augIx o i op e) K env S = wE cs EX o env S fun x S1 => wE cs EX i env S1 fun j S2 => wGetL x j S2 fun y S3 => wE cs EX e env S3 fun z S4 => wAug op y z S4 fun v S5 => wSetIx x j v S5 fun S6 => K.nx env S6 := rfl
theorem s_augKey : wS cs EX (.augKey o k op e) K env S = wE cs EX o env S fun x S1 => wE cs EX k env S1 fun j S2 => wGetD x j S2 fun y S3 => wE cs EX e env S3 fun z S4 => wAug op y z S4 fun v S5 => wSetKey x j v S5 fun S6 => K.nx env S6 := rfl
end
section
variable {S : Sto} {Q : QK} {d e y z : D} {a : Addr} {n f : Str} {i j : Int} {xs ys : List D} {m : Bool} {kvs : List (Key × D)} {fs : List (Str × D)}
theorem q_fld : wFld n f (.ref a) S Q = wOpt (insAt S a n) fun fs => wOpt (fs.lookup f) fun d => Q d S := rfl
theorem q_setFld {Q : Sto → Prop} : wSetFld n f (.ref a) d S Q = wOpt (insAt S a n) fun fs => fs.length < 1000 ∧ Q (supd S a (.ins n (putD f d fs))) := rfl
theorem q_mth {Q : Prop} : wMth n f (.ref a) S Q = wOpt (insAt S a n) fun fs => fs.lookup f = none ∧ Q := rfl
theorem q_dct {Q : Addr → List (Key × D) → Prop} : wDct (.ref a) S Q = wOpt (dctAt S a) fun kvs => Q a kvs := rfl
theorem q_inD : wInD m d e S Q = wDct e S fun _ kvs => wOpt (keyD d) fun k => Q (.bl (if m then !(kvGet kvs k).isSome else (kvGet kvs k).isSome)) S := rfl
theorem q_getD : wGetD d e S Q = wDct d S fun _ kvs => wOpt (keyD e) fun k => wOpt (kvGet kvs k) fun d => Q d S := rfl
theorem q_getOr : wGetOr d e z S Q = wDct d S fun _ kvs => wOpt (keyD e) fun k => Q ((kvGet kvs k).getD z) S := rfl
theorem q_setKey {Q : Sto → Prop} : wSetKey d e z S Q = wDcw d S fun a kvs => wOpt (keyD e) fun k => kvs.length < 16777216 ∧ Q (supd S a (.dct (kvPut kvs k z))) := rfl
theorem q_dcw {Q : Addr → List (Key × D) → Prop} : wDcw (.ref a) S Q = wOpt (dctW S a) fun kvs => Q a kvs := rfl
theorem q_dcwA : dctW (supd S a (.dct kvs)) a = some kvs := dctW_of supd_same
theorem q_dpop : wDpop d e S Q = wDcw d S fun a kvs => wOpt (keyD e) fun k => wOpt (kvGet kvs k) fun v => Q v (supd S a (.dct (kvDel kvs k))) := rfl
theorem q_dcn {Q : Addr → List (NK × D) → Prop} : wDcn (.ref a) S Q = wOpt (dcnAt S a) fun kvs => Q a kvs := rfl
theorem q_dnw {Q : Addr → List (NK × D) → Prop} : wDnw (.ref a) S Q = wOpt (dcnW S a) fun kvs => Q a kvs := rfl
theorem q_inN : wInN m d e S Q = wDcn e S fun _ kvs => wOpt (keyT d) fun k => Q (.bl (if m then !(gGet kvs k).isSome else (gGet kvs k).isSome)) S := rfl
theorem q_getN : wGetN d e S Q = wDcn d S fun _ kvs => wOpt (keyT e) fun k => wOpt (gGet kvs k) fun d => Q d S := rfl
theorem q_getOrN : wGetOrN d e z S Q = wDcn d S fun _ kvs => wOpt (keyT e) fun k => Q ((gGet kvs k).getD z) S := rfl
theorem q_setKeyN {Q : Sto → Prop} : wSetKeyN d e z S Q = wDnw d S fun a kvs => wOpt (keyT e) fun k => kvs.length < 16777216 ∧ Q (supd S a (.dcn (gPut kvs k z))) := rfl
theorem q_dcnA {kvs : List (NK × D)} : dcnAt (supd S a (.dcn kvs)) a = some kvs := dcnAt_of supd_same
theorem q_dnwA {kvs : List (NK × D)} : dcnW (supd S a (.dcn kvs)) a = some kvs := dcnW_of supd_same
theorem lkAt_k {kvs : List (Key × D)} (h : S a = some (.dlk kvs)) : lkAt S a = some (kvs.map fun p => (kD p.1, p.2)) := by
  unfold lkAt
  rw [h]
  rfl
theorem lkAt_n {kvs : List (NK × D)} (h : S a = some (.dcl kvs)) : lkAt S a = some (kvs.map fun p => (nkD p.1, p.2)) := by
  unfold lkAt
  rw [h]
theorem q_splt {t u : Str} : wSplt m t (.str u) S Q = ((u.length ≠ 0 ∧ t.length + 2 ≤ 16777216) ∧ newL m ((Txt.split t u).map .str) S Q) := rfl
theorem q_intT {t : Str} : wIntT (.str t) S Q = wOpt (intText? t) fun n => t.length ≤ 640 ∧ Q (.int n) S := rfl
theorem q_lenT {t : Str} : wLenT (.str t) S Q = (t.length ≤ 16777216 ∧ Q (.int (t.length : Nat)) S) := rfl
theorem q_ixT {t : Str} {k : Nat} : wIxT (.str t) k S Q = wOpt (t.cps.toList[k]?) fun c => t.length ≤ 16777216 ∧ Q (.str ⟨#[c]⟩) S := rfl
theorem q_sgn {t : Str} {k : Nat} : wSgn m ⟨#[k]⟩ (.str t) S Q = Q (.bl (if m then !decide (k ∈ t.cps.toList) else decide (k ∈ t.cps.toList))) S := by
  apply propext
  constructor
  · rintro ⟨j, e, q⟩
    have : k = j := by
      injection e with e
      exact Array.singleton_inj.mp e
    rw [this]
    exact q
  · exact fun q => ⟨k, rfl, q⟩
theorem q_tab {kvs : List (Str × D)} {x : Str} : wTab kvs (.str x) S Q = wOpt (kvs.lookup x) fun d => Q d S := rfl
theorem q_inTab {kvs : List (Str × D)} {x : Str} : wInTab kvs (.str x) S Q = Q (.bl (kvs.lookup x).isSome) S := rfl
theorem q_fnV {x : Str} {fs : List (Str × Nat)} {R : Nat → Prop} : wFnV (some (some (.ty x))) fs R = wOpt (fs.lookup x) R := rfl
theorem q_few {x : Str} : wFew x (.int i) S Q = ((i = 0 ∧ Q (.str ⟨#[]⟩) S) ∨ (i = 1 ∧ Q (.str x) S)) := rfl
theorem q_keyI : keyD (.int i) = some (.inl i) := rfl
theorem q_keyS {x : Str} : keyD (.str x) = some (.inr x) := rfl
theorem q_sortK : wSortK m d (.tup xs) S Q = wOpt (lsrD d S) fun xs' => wOpt (asInts xs') fun ns => wOpt (asInts xs) fun ts => (∀ n ∈ ns, 0 ≤ n ∧ n < ts.length) ∧ ∀ zs : List Int, zs.Perm ns → zs.Pairwise (lexLe ts) → newL m (zs.map .int) S Q := rfl
theorem q_cat : wCat m d e S Q = wOpt (lstD d S) fun xs => wOpt (lstD e S) fun ys => xs.length + ys.length ≤ 16777216 ∧ newL m (xs ++ ys) S Q := rfl
theorem q_rep : wRep m d (.int i) S Q = wOpt (lstD d S) fun xs => (-9223372036854775808 ≤ i ∧ i < 9223372036854775808 ∧ xs.length * i.toNat ≤ 16777216) ∧ newL m (List.replicate i.toNat xs).flatten S Q := rfl
theorem q_cnt : wCnt d (.int i) S Q = wOpt (lstD d S) fun xs => wOpt (asInts xs) fun ns => Q (.int (ns.count i : Nat)) S := rfl
theorem q_popR : wPop (.ref a) [] S Q = wOpt (lstAt S a) fun xs => wOpt (xs.getLast?) fun d => Q d (supd S a (.lst xs.dropLast)) := rfl
theorem q_pop0 : wPop (.ref a) [.int i] S Q = wOpt (lstAt S a) fun xs => i = 0 ∧ wOpt (xs[0]?) fun d => Q d (supd S a (.lst (xs.eraseIdx 0))) := rfl
theorem q_getL : wGetL (.ref a) (.int i) S Q = wOpt (lstAt S a) fun xs => 0 ≤ i ∧ wOpt (xs[i.toNat]?) fun d => Q d S := rfl
theorem q_dctA : dctAt (supd S a (.dct kvs)) a = some kvs := dctAt_of supd_same
theorem q_insA : insAt (supd S a (.ins n fs)) a n = some fs := insAt_of supd_same
end
/-! ### a dict of numbers, each told True -/
def nmd (ys : List Nat) : List (Key × D) := ys.map fun (y : Nat) => (.inl (y : Int), .bl true)
theorem nmd_get {ys : List Nat} {z : Nat} : (kvGet (nmd ys) (.inl (z : Int))).isSome = decide (z ∈ ys) := by
  unfold kvGet nmd
  rw [Option.isSome_map, Bool.eq_iff_iff, List.find?_isSome, decide_eq_true_eq]
  constructor
  · rintro ⟨p, hp, e⟩
    obtain ⟨y, hy, rfl⟩ := List.mem_map.mp hp
    have e := of_decide_eq_true e
    have : (y : Int) = z := by injection e
    have : y = z := by omega
    rw [← this]
    exact hy
  · intro h
    exact ⟨_, List.mem_map.mpr ⟨z, h, rfl⟩, decide_eq_true rfl⟩
theorem nmd_put {ys : List Nat} {z : Nat} : kvPut (nmd ys) (.inl (z : Int)) (.bl true) = nmd (if z ∈ ys then ys else ys ++ [z]) := by
  unfold kvPut
  have e : ((nmd ys).any fun p => decide (p.1 = .inl (z : Int))) = decide (z ∈ ys) := by
    rw [← nmd_get]
    unfold kvGet
    rw [Option.isSome_map, Bool.eq_iff_iff, List.find?_isSome, List.any_eq_true]
  rw [e]
  by_cases h : z ∈ ys
  · rw [if_pos (decide_eq_true h), if_pos h]
    unfold nmd
    rw [List.map_map]
    apply List.map_congr_left
    intro y _
    show (if (Sum.inl (y : Int) : Key) = Sum.inl (z : Int) then _ else _) = _
    split <;> rfl
  · rw [if_neg (by simpa using h), if_neg h]
    unfold nmd
    rw [List.map_append]
    rfl
theorem nmd_keys {ys : List Nat} : (nmd ys).map (fun p => kD p.1) = (ys.map fun (y : Nat) => (y : Int)).map .int := by
  unfold nmd
  rw [List.map_map, List.map_map]
  rfl
/-! ### numbers from nought on -/
theorem rgD_nat (n : Nat) : rgD 0 (n : Int) = (List.range n).map fun (i : Nat) => D.int (i : Int) := by
  unfold rgD
  rw [Int.sub_zero, Int.toNat_natCast]
  apply List.map_congr_left
  intro i _
  rw [Int.zero_add]
abbrev nI (i : Nat) : D := .int (i : Int)
theorem asInts_nat {α : Type} {g : α → Nat} {xs : List α} : asInts (xs.map fun x => D.int ((g x : Nat) : Int)) = some (xs.map fun x => ((g x : Nat) : Int)) := by
  have := asInts_map (xs.map fun x => ((g x : Nat) : Int))
  rw [List.map_map] at this
  exact this
/-- rising lists of the same numbers, told by an order without ties, are one -/
theorem lexLe_anti {ts : List Int} {a b : Int} (h : lexLe ts a b) (g : lexLe ts b a) : a = b := by
  unfold lexLe at h g
  omega
theorem sortK_eq {ts xs ys : List Int} (p : xs.Perm ys) (hx : xs.Pairwise (lexLe ts)) (hy : ys.Pairwise (lexLe ts)) : xs = ys :=
  List.Perm.eq_of_pairwise (fun a b _ _ h1 h2 => lexLe_anti h1 h2) hx hy p
end Z
namespace Z
open PySem PySem.Spec PyProof.Rows L2
/-! ### what is in a row of texts, of numbers -/
def CL7 : List Str := [Str.ofString "about", Str.ofString "again", Str.ofString "newer", Str.ofString "others", Str.ofString "own", Str.ofString "refute", Str.ofString "wait"]
theorem ok_about : (D.str (Str.ofString "about")).Ok = True := eq_true (id_ok 0 (by decide +kernel))
theorem ok_again : (D.str (Str.ofString "again")).Ok = True := eq_true (id_ok 0 (by decide +kernel))
theorem ok_newer : (D.str (Str.ofString "newer")).Ok = True := eq_true (id_ok 0 (by decide +kernel))
theorem ok_others : (D.str (Str.ofString "others")).Ok = True := eq_true (id_ok 0 (by decide +kernel))
theorem ok_own : (D.str (Str.ofString "own")).Ok = True := eq_true (id_ok 0 (by decide +kernel))
theorem ok_refute : (D.str (Str.ofString "refute")).Ok = True := eq_true (id_ok 0 (by decide +kernel))
theorem ok_wait : (D.str (Str.ofString "wait")).Ok = True := eq_true (id_ok 0 (by decide +kernel))
theorem ok_int {i : Int} : (D.int i).Ok = True := eq_true (id_ok 0 rfl)
theorem cl7_ok {s : Str} (h : s ∈ CL7) : PyData.strOk s = true := (show ∀ s ∈ CL7, PyData.strOk s = true by decide +kernel) s h
theorem ok_cl {cl : List Str} (h : cl.Sublist CL7) : (D.tup (cl.map D.str)).Ok = True := eq_true (id_ok 1 (ids_mem fun x hx => by
  obtain ⟨s, hs, rfl⟩ := List.mem_map.mp hx
  exact cl7_ok (h.subset hs)))
theorem ok_ints {cl : List Int} : (D.tup (cl.map D.int)).Ok = True := eq_true (id_ok 1 id_intsT)
theorem ok_nats {cl : List Nat} : (D.tup (cl.map fun (i : Nat) => D.int (i : Int))).Ok = True := eq_true (id_ok 1 (id_tupM fun _ => rfl))
theorem any_str {zs : List Str} {t : Str} : ((zs.map D.str).any fun z => PyData.eqv z.py (D.str t).py) = decide (t ∈ zs) := by
  rw [Bool.eq_iff_iff]
  simp only [List.any_map, List.any_eq_true, Function.comp, D.py, PyData.eqv, beq_iff_eq, decide_eq_true_eq]
  constructor
  · rintro ⟨x, hx, rfl⟩
    exact hx
  · intro h
    exact ⟨t, h, rfl⟩
theorem any_nat {zs : List Nat} {t : Nat} : ((zs.map fun (i : Nat) => D.int (i : Int)).any fun z => PyData.eqv z.py (D.int (t : Int)).py) = decide (t ∈ zs) := by
  rw [Bool.eq_iff_iff]
  simp only [List.any_map, List.any_eq_true, Function.comp, D.py, PyData.eqv, beq_iff_eq, decide_eq_true_eq]
  constructor
  · rintro ⟨x, hx, e⟩
    have : x = t := by omega
    rw [← this]
    exact hx
  · intro h
    exact ⟨t, h, rfl⟩
/-- rising lists of the same numbers -/
theorem sorted_nat {zs : List Int} {ns ms : List Nat} (p : zs.Perm (ns.map fun (i : Nat) => (i : Int))) (q : ns.Perm ms) (h : zs.Pairwise (· ≤ ·)) (g : ms.Pairwise (· < ·)) : zs = ms.map fun (i : Nat) => (i : Int) :=
  sorted_eq (p.trans (q.map _)) h (by rw [List.pairwise_map]; exact g.imp fun z => by omega)
theorem getI_some {zs : List Int} {i : Nat} (h : i < zs.length) : zs[i]? = some (zs.getD i 0) := by
  rw [List.getD_eq_getElem?_getD, List.getElem?_eq_getElem h]
  rfl
theorem q_seqW {v : Int × Int} {S : Sto} : seqD (wD v) S = some [.int v.1, .int v.2] := rfl
theorem asStrs_map : ∀ zs : List Str, asStrs (zs.map D.str) = some zs
  | [] => rfl
  | z :: r => by
    show (asStrs (r.map D.str)).map (z :: ·) = _
    rw [asStrs_map r]
    rfl
theorem q_lset {xs : List D} {S : Sto} {Q : QK} : wLset (.tup xs) S Q = wOpt (asInts xs) fun ns => ns.length ≤ 1000 ∧ ∀ n : Nat, (∃ ds : List Int, ds.Nodup ∧ (∀ z, z ∈ ds ↔ z ∈ ns) ∧ ds.length = n) → Q (.int (n : Nat)) S := rfl
theorem q_dctP {x : D} {S : Sto} {Q : QK} : wDctP x S Q = wOpt (lsrD x S) fun xs => wOpt (pairsD xs) fun kvs => ∀ a, S a = none → Q (.ref a) (supd S a (.dct (putAllD kvs))) := rfl
theorem q_srtD {m : Bool} {a : Addr} {S : Sto} {Q : QK} : wSrtD m (.ref a) S Q = wOpt (dctAt S a) fun kvs => wOpt (intKs kvs) fun ns => ns.length < 64 ∧ ∀ zs : List Int, zs.Perm ns → zs.Pairwise (· ≤ ·) → newL m (zs.map .int) S Q := rfl
theorem asPrs_map : ∀ zs : List (Int × Int), asPrs (zs.map wD) = some zs
  | [] => rfl
  | z :: r => by
    show (asPrs (r.map wD)).map ((z.1, z.2) :: ·) = _
    rw [asPrs_map r]
    rfl
theorem q_sortP {m : Bool} {d : D} {S : Sto} {Q : QK} : wBlt (.sortP m) [d] S Q = wOpt (lsrD d S) fun xs => wOpt (asPrs xs) fun ns => (ns.length < 64 ∧ ∀ p ∈ ns, (0 ≤ p.1 ∧ p.1 < 10000000) ∧ (0 ≤ p.2 ∧ p.2 < 10000000)) ∧ ∀ zs : List (Int × Int), zs.Perm ns → zs.Pairwise (fun a b => a.1 * 10000000 + a.2 ≤ b.1 * 10000000 + b.2) → newL m (zs.map prD) S Q := rfl
theorem q_lsetL {xs : List D} {S : Sto} {Q : QK} : wLset (.lst xs) S Q = wOpt (some xs) fun xs => wOpt (asPrs xs) fun ns => (ns.Nodup ∧ ns.length < 64) ∧ Q (.int (ns.length : Nat)) S := rfl
theorem q_sortS {m : Bool} {d : D} {S : Sto} {Q : QK} : wBlt (.sortS m) [d] S Q = wOpt (lsrD d S) fun xs => wOpt (asStrs xs) fun ns => ns.length < 64 ∧ ∀ zs : List Str, zs.Perm ns → sortedS zs = true → newL m (zs.map .str) S Q := rfl
end Z
set_option Elab.async false
set_option linter.all false
set_option maxRecDepth 100000
set_option maxHeartbeats 4000000
namespace Z
open PySem PySem.Spec PyProof.Rows L2
/-! ### the program, as small trees (printed by gen.py) -/
abbrev topS (i : Nat) : Stmt := PySem.Challenge.pw_hearsaybook_k73_towns_written.main.body.getD i (.Pass ⟨0, 0, 0, 0⟩)
abbrev f_is_whole : Nat := 0
abbrev f_is_between : Nat := 1
abbrev f_is_clock : Nat := 2
abbrev f_is_town : Nat := 3
abbrev f_number_in : Nat := 4
abbrev f_numbers_in : Nat := 5
abbrev f_show_town : Nat := 6
abbrev f_read_town : Nat := 7
abbrev f_law_box : Nat := 8
abbrev f_law_take : Nat := 9
abbrev f_law_town : Nat := 10
abbrev f_law_clocks : Nat := 11
abbrev f_law_due : Nat := 12
abbrev f_law_spoilt : Nat := 13
abbrev f_law_right : Nat := 14
abbrev f_law : Nat := 15
def i_is_whole : List Stm := [
  .ret (.and (.isi (.var 0) "int") (.not (.isi (.var 0) "bool")))]
def i_is_between : List Stm := [
  .ret (.and (.call f_is_whole [.var 0]) (.cmp2 .LtE .LtE (.var 1) (.var 0) (.var 2)))]
def i_is_clock : List Stm := [
  .ifS (.or (.not (.isi (.var 0) "tuple")) (.or (.cmp .NotEq (.blt .len [.var 0]) (.int 2)) (.not (.call f_is_between [.ixc (.var 0) 0, .int 1, .glob "MOST_PACE" (.int 4)])))) [.ret (.bl false)] [],
  .ret (.call f_is_between [.ixc (.var 0) 1, .int 0, .bin .Sub (.ixc (.var 0) 0) (.int 1)])]
def i_is_town : List Stm := [
  .ifS (.or (.not (.isi (.var 0) "tuple")) (.not (.cmp2 .LtE .LtE (.glob "LEAST_HOUSES" (.int 2)) (.blt .len [.var 0]) (.glob "MOST_HOUSES" (.int 8))))) [.ret (.bl false)] [],
  .ret (.blt .all [.lc false (.call f_is_clock [.var 1]) (.nm 1) (.seq (.var 0)) none [1]])]
def i_number_in : List Stm := [
  .ifS (.or (.not (.cmp2 .LtE .LtE (.int 1) (.lenT (.var 0)) (.glob "MOST_FIGURES" (.int 9)))) (.not (.blt .all [.lc false (.sgn false (.var 1) (.glob "FIGURES" (.str (Str.ofString "0123456789")))) (.nm 1) (.chars (.var 0)) none [1]]))) [.ret (.non)] [],
  .ifS (.and (.cmp .Eq (.ixT (.var 0) 0) (.str (Str.ofString "0"))) (.cmp .NotEq (.var 0) (.str (Str.ofString "0")))) [.ret (.non)] [],
  .ret (.intT (.var 0))]
def i_numbers_in : List Stm := [
  .asg (.nm 1) (.lc false (.call f_number_in [.var 2]) (.nm 2) (.seq (.var 0)) none [2]),
  .ifS (.cmp .In (.non) (.var 1)) [.ret (.non)] [],
  .ret (.blt .tuple [.var 1])]
def i_show_town : List Stm := [
  .ret (.join (.str (Str.ofString " ")) (.bin .Add (.lst false [.str (Str.ofString "town")]) (.lc false (.bin .Add (.bin .Add (.blt .str [.var 1]) (.str (Str.ofString "/"))) (.blt .str [.var 2])) (.tup [(.nm 1), (.nm 2)]) (.seq (.var 0)) none [1, 2])))]
def i_read_town : List Stm := [
  .ifS (.not (.isi (.var 0) "str")) [.rs "NoText" "no text"] [],
  .asg (.nm 1) (.splt false (.var 0) (.str (Str.ofString " "))),
  .asg (.nm 2) (.blt .tuple [.lc false (.call f_numbers_in [.splt false (.var 3) (.str (Str.ofString "/"))]) (.nm 3) (.seq (.sl false (.var 1) (some (.int 1)) none)) none [3]]),
  .ifS (.or (.cmp .NotEq (.ixc (.var 1) 0) (.str (Str.ofString "town"))) (.not (.call f_is_town [.var 2]))) [.rs "NoText" "no town is written so"] [],
  .ret (.var 2)]
def i_law_box : List Stm := [
  .asg (.nm 2) (.ife (.cmp .Lt (.var 1) (.blt .len [.var 0])) (.ix (.var 0) (.var 1)) (.int 0)),
  .asg (.nm 3) (.bin .Mult (.blt .abs [.var 2]) (.blt .int [.cmp .GtE (.blt .abs [.var 2]) (.cpow 10 18 1000000000000000000)])),
  .ret (.lst true [.var 3, .bin .Mod (.bin .Mult (.bin .Add (.bin .Add (.bin .Mod (.var 2) (.int 2147483629)) (.bin .Mult (.bin .Mult (.int 7919) (.var 1)) (.var 1))) (.int 11)) (.int 48271)) (.int 2147483647), .int 0])]
def i_law_take : List Stm := [
  .setIx (.var 0) (.int 2) (.bin .Add (.ixc (.var 0) 2) (.int 1)),
  .ifS (.and (.cmp .Gt (.ixc (.var 0) 0) (.int 0)) (.cmp .LtE (.ixc (.var 0) 2) (.int 60))) [.asg (.nm 2) (.bin .Mod (.ixc (.var 0) 0) (.var 1)), .setIx (.var 0) (.int 0) (.bin .FloorDiv (.ixc (.var 0) 0) (.var 1)), .ret (.var 2)] [],
  .setIx (.var 0) (.int 1) (.bin .Mod (.bin .Add (.bin .Add (.bin .Mult (.ixc (.var 0) 1) (.int 48271)) (.int 12345)) (.ixc (.var 0) 2)) (.int 2147483647)),
  .ret (.bin .Mod (.bin .FloorDiv (.bin .Mod (.bin .Mult (.ixc (.var 0) 1) (.bin .Add (.bin .Mod (.ixc (.var 0) 1) (.int 40009)) (.int 3))) (.int 2147483629)) (.int 7)) (.var 1))]
def i_law_town : List Stm := [
  .asg (.nm 1) (.lst true []),
  .asg (.nm 2) (.bin .Add (.int 1) (.call f_law_take [.var 0, .int 4])),
  .forS (.nm 3) (.r1 (.bin .Add (.int 2) (.call f_law_take [.var 0, .int 7]))) [.asg (.nm 4) (.ix (.lst false [.var 2, .var 2, .bin .Add (.int 1) (.call f_law_take [.var 0, .int 4])]) (.call f_law_take [.var 0, .int 3])), .expr (.meth .append (.var 1) [.tup [.var 4, .call f_law_take [.var 0, .var 4]]])],
  .ret (.blt .tuple [.var 1])]
def i_law_clocks : List Stm := [
  .asg (.nm 0) (.dict0),
  .forS (.nm 1) (.r2 (.int 1) (.int 5)) [.forS (.nm 2) (.r1 (.var 1)) [.setKey (.var 0) (.bin .Add (.bin .Add (.blt .str [.var 1]) (.str (Str.ofString "/"))) (.blt .str [.var 2])) (.tup [.var 1, .var 2])]],
  .ret (.var 0)]
def i_law_due : List Stm := [
  .ifS (.not (.isi (.var 0) "str")) [.ret (.non)] [],
  .asg (.nm 1) (.splt false (.var 0) (.str (Str.ofString " "))),
  .asg (.nm 2) (.call f_law_clocks []),
  .ifS (.or (.cmp .NotEq (.ixc (.var 1) 0) (.str (Str.ofString "town"))) (.or (.not (.cmp2 .LtE .LtE (.int 3) (.blt .len [.var 1]) (.int 9))) (.not (.blt .all [.lc false (.inD false (.var 3) (.var 2)) (.nm 3) (.seq (.sl false (.var 1) (some (.int 1)) none)) none [3]])))) [.ret (.non)] [],
  .ret (.blt .tuple [.lc false (.getD (.var 2) (.var 3)) (.nm 3) (.seq (.sl false (.var 1) (some (.int 1)) none)) none [3]])]
def i_law_spoilt : List Stm := [
  .asg (.nm 2) (.splt false (.var 1) (.str (Str.ofString " "))),
  .asg (.nm 3) (.call f_law_take [.var 0, .blt .len [.var 2]]),
  .asg (.nm 4) (.lst false [.str (Str.ofString ""), .str (Str.ofString "1/0"), .str (Str.ofString "4/3"), .str (Str.ofString "2/2"), .str (Str.ofString "5/0"), .str (Str.ofString "0/0"), .str (Str.ofString "1"), .str (Str.ofString "01/0"), .str (Str.ofString "1/0/0"), .str (Str.ofString "3/-1"), .str (Str.ofString "/"), .str (Str.ofString "1/"), .str (Str.ofString "town"), .str (Str.ofString "x/y")]),
  .asg (.nm 5) (.ix (.var 4) (.call f_law_take [.var 0, .int 14])),
  .asg (.nm 6) (.lst false [.bin .Add (.bin .Add (.sl false (.var 2) none (some (.var 3))) (.lst false [.var 5])) (.sl false (.var 2) (some (.bin .Add (.var 3) (.int 1))) none), .bin .Add (.sl false (.var 2) none (some (.var 3))) (.sl false (.var 2) (some (.bin .Add (.var 3) (.int 1))) none), .bin .Add (.bin .Add (.sl false (.var 2) none (some (.var 3))) (.lst false [.var 5])) (.sl false (.var 2) (some (.var 3)) none)]),
  .asg (.nm 6) (.bin .Add (.var 6) (.lst false [.bin .Add (.var 2) (.sl false (.var 2) (some (.int 1)) none), .rev false (.var 2), .bin .Add (.lst false [.str (Str.ofString "")]) (.var 2), .bin .Add (.var 2) (.lst false [.str (Str.ofString "")]), .sl false (.var 2) none (some (.int 2))])),
  .asg (.nm 7) (.join (.str (Str.ofString " ")) (.ix (.var 6) (.call f_law_take [.var 0, .int 8]))),
  .ret (.ix (.lst false [.var 7, .var 7, .var 7, .var 7, .bin .Add (.var 7) (.str (Str.ofString "\n")), .upper (.var 1), .str (Str.ofString ""), .non, .tup [.var 1], .int 7]) (.call f_law_take [.var 0, .int 10]))]
def i_law_right : List Stm := [
  .asg (.nm 1) (.call f_law_due [.var 0]),
  .asg (.tup [(.nm 2), (.nm 3)]) (.tup [.non, .non]),
  .tryX [.asgX (.nm 3) (.fn f_read_town) [.var 0]] "HearsayError" 4 2,
  .ifS (.cmp .IsNot (.var 1) (.non)) [.ret (.and (.cmp .Is (.var 2) (.non)) (.cmp .Eq (.repr (.var 3)) (.repr (.var 1))))] [],
  .ifS (.or (.not (.exi (.var 2) ["NoText"])) (.not (.exi (.var 2) ["ValueError"]))) [.ret (.bl false)] [],
  .ret (.not (.exi (.var 2) ["BadDoings", "NoLine"]))]
def i_law : List Stm := [
  .forS (.nm 1) (.r1 (.bin .Add (.int 1) (.blt .min [.int 20, .blt .len [.var 0]]))) [.asg (.nm 2) (.call f_law_box [.var 0, .var 1]), .asg (.nm 3) (.call f_law_town [.var 2]), .asg (.nm 4) (.call f_show_town [.var 3]), .asg (.nm 5) (.join (.str (Str.ofString " ")) (.bin .Add (.lst false [.str (Str.ofString "town")]) (.lc false (.bin .Add (.bin .Add (.blt .str [.var 7]) (.str (Str.ofString "/"))) (.blt .str [.var 8])) (.tup [(.nm 7), (.nm 8)]) (.seq (.var 3)) none [7, 8]))), .ifS (.or (.not (.isi (.var 4) "str")) (.or (.cmp .NotEq (.var 4) (.var 5)) (.cmp .NotEq (.repr (.call f_read_town [.var 4])) (.repr (.var 3))))) [.ret (.bl false)] [], .forS (.nm 6) (.r1 (.int 6)) [.ifS (.not (.call f_law_right [.call f_law_spoilt [.var 2, .var 4]])) [.ret (.bl false)] []]],
  .ret (.and (.call f_law_right [.str (Str.ofString "town 1/0")]) (.call f_law_right [.str (Str.ofString "town 1/0 1/0")]))]
def d_is_whole : Def := { at_ := ("is_whole", none), name := "is_whole", qual := "is_whole", params := defArgs (topS 8), body := defBody (topS 8), scope := defScope (topS 8), ps := ["thing"], N := ["thing"], fn := ⟨1, 1, i_is_whole⟩ }
def d_is_between : Def := { at_ := ("is_between", none), name := "is_between", qual := "is_between", params := defArgs (topS 9), body := defBody (topS 9), scope := defScope (topS 9), ps := ["thing", "least", "most"], N := ["thing", "least", "most"], fn := ⟨3, 3, i_is_between⟩ }
def d_is_clock : Def := { at_ := ("is_clock", none), name := "is_clock", qual := "is_clock", params := defArgs (topS 12), body := defBody (topS 12), scope := defScope (topS 12), ps := ["thing"], N := ["thing"], fn := ⟨1, 1, i_is_clock⟩ }
def d_is_town : Def := { at_ := ("is_town", none), name := "is_town", qual := "is_town", params := defArgs (topS 13), body := defBody (topS 13), scope := defScope (topS 13), ps := ["thing"], N := ["thing", "clock"], fn := ⟨1, 2, i_is_town⟩ }
def d_number_in : Def := { at_ := ("number_in", none), name := "number_in", qual := "number_in", params := defArgs (topS 17), body := defBody (topS 17), scope := defScope (topS 17), ps := ["word"], N := ["word", "sign"], fn := ⟨1, 2, i_number_in⟩ }
def d_numbers_in : Def := { at_ := ("numbers_in", none), name := "numbers_in", qual := "numbers_in", params := defArgs (topS 18), body := defBody (topS 18), scope := defScope (topS 18), ps := ["words"], N := ["words", "numbers", "word"], fn := ⟨1, 3, i_numbers_in⟩ }
def d_show_town : Def := { at_ := ("show_town", none), name := "show_town", qual := "show_town", params := defArgs (topS 19), body := defBody (topS 19), scope := defScope (topS 19), ps := ["town"], N := ["town", "pace", "start"], fn := ⟨1, 3, i_show_town⟩ }
def d_read_town : Def := { at_ := ("read_town", none), name := "read_town", qual := "read_town", params := defArgs (topS 20), body := defBody (topS 20), scope := defScope (topS 20), ps := ["text"], N := ["text", "words", "town", "word"], fn := ⟨1, 4, i_read_town⟩ }
def d_law_box : Def := { at_ := ("_law_box", none), name := "_law_box", qual := "_law_box", params := defArgs (topS 22), body := defBody (topS 22), scope := defScope (topS 22), ps := ["_law_script", "_law_k"], N := ["_law_script", "_law_k", "_law_cell", "_law_great"], fn := ⟨2, 4, i_law_box⟩ }
def d_law_take : Def := { at_ := ("_law_take", none), name := "_law_take", qual := "_law_take", params := defArgs (topS 23), body := defBody (topS 23), scope := defScope (topS 23), ps := ["_law_box_here", "_law_many"], N := ["_law_box_here", "_law_many", "_law_digit"], fn := ⟨2, 3, i_law_take⟩ }
def d_law_town : Def := { at_ := ("_law_town", none), name := "_law_town", qual := "_law_town", params := defArgs (topS 24), body := defBody (topS 24), scope := defScope (topS 24), ps := ["_law_box_here"], N := ["_law_box_here", "_law_town_here", "_law_same", "_law_house", "_law_pace"], fn := ⟨1, 5, i_law_town⟩ }
def d_law_clocks : Def := { at_ := ("_law_clocks", none), name := "_law_clocks", qual := "_law_clocks", params := defArgs (topS 25), body := defBody (topS 25), scope := defScope (topS 25), ps := [], N := ["_law_found", "_law_pace", "_law_start"], fn := ⟨0, 3, i_law_clocks⟩ }
def d_law_due : Def := { at_ := ("_law_due", none), name := "_law_due", qual := "_law_due", params := defArgs (topS 26), body := defBody (topS 26), scope := defScope (topS 26), ps := ["_law_text"], N := ["_law_text", "_law_words", "_law_known", "_law_word"], fn := ⟨1, 4, i_law_due⟩ }
def d_law_spoilt : Def := { at_ := ("_law_spoilt", none), name := "_law_spoilt", qual := "_law_spoilt", params := defArgs (topS 27), body := defBody (topS 27), scope := defScope (topS 27), ps := ["_law_box_here", "_law_text"], N := ["_law_box_here", "_law_text", "_law_words", "_law_at", "_law_odd", "_law_one", "_law_some", "_law_found"], fn := ⟨2, 8, i_law_spoilt⟩ }
def d_law_right : Def := { at_ := ("_law_right", none), name := "_law_right", qual := "_law_right", params := defArgs (topS 28), body := defBody (topS 28), scope := defScope (topS 28), ps := ["_law_text"], N := ["_law_text", "_law_due_here", "_law_caught", "_law_found", "e"], fn := ⟨1, 5, i_law_right⟩, rp := true }
def d_law : Def := { at_ := ("law", none), name := "law", qual := "law", params := defArgs (topS 29), body := defBody (topS 29), scope := defScope (topS 29), ps := ["_law_script"], N := ["_law_script", "_law_k", "_law_box_here", "_law_town_here", "_law_text", "_law_due_here", "_law_turn", "_law_pace", "_law_start"], fn := ⟨1, 9, i_law⟩, rp := true }
def defs : List Def := [d_is_whole, d_is_between, d_is_clock, d_is_town, d_number_in, d_numbers_in, d_show_town, d_read_town, d_law_box, d_law_take, d_law_town, d_law_clocks, d_law_due, d_law_spoilt, d_law_right, d_law]
def cons : List (Str × D) := [("LEAST_HOUSES", (.int 2)), ("MOST_HOUSES", (.int 8)), ("MOST_PACE", (.int 4)), ("FIGURES", (.str (Str.ofString "0123456789"))), ("MOST_FIGURES", (.int 9))]
def flds : List (Str × Str) := []
def tabs : List (Str × List (Str × D)) := []
def prg : Prg := { defs := defs, cons := cons, flds := flds, tabs := tabs, ex := true }
end Z
set_option Elab.async false
set_option linter.all false
set_option maxRecDepth 100000
set_option maxHeartbeats 4000000
namespace Z
open PySem PySem.Spec PyProof.Rows L2
/-! ### the end (printed by gen.py) -/
abbrev lawR : PySem.W.OpenRow := PySem.W.OpenLaw.row PySem.Challenge.rw_hearsaybook_k73_towns_written
def loose0 : List Str := ["HearsayError", "NoText", "NoLine", "BadDoings", "LEAST_HOUSES", "MOST_HOUSES", "is_whole", "is_between", "MOST_PACE", "is_clock", "is_town", "FIGURES", "MOST_FIGURES", "number_in", "numbers_in", "show_town", "read_town", "_law_box", "_law_take", "_law_town", "_law_clocks", "_law_due", "_law_spoilt", "_law_right"]
def loose : List Str := loose0
abbrev lawHook : PySem.W.Hook := hookZ prg 6
def lawOb (s : PySem.W.SharedT) : AlZ := obsZ prg 6 (HandSHeadRun.getT s)
theorem lawOb_eq (s : PySem.W.SharedT) : lawOb s = lawHook.obs s.abs := obsZ_eq (HandSHeadRun.getT_eq s)
theorem lawRun (w : World) : HandSHeadRun.RunEq lawR (PySem.W.view lawR.prog [29]) lawHook lawOb 1840 loose w := by
  intro os
  kernel_rfl
end Z
set_option Elab.async false
set_option linter.all false
set_option maxRecDepth 100000
set_option maxHeartbeats 4000000
namespace Z
open PySem PySem.Spec PyProof.Rows L2
abbrev PG : Nat → Fn := progOf defs
/-! ### each tree is its def's (printed by gen.py) -/
theorem S_is_whole : DefS prg d_is_whole := ⟨⟨rfl, rfl, rfl, by decide +kernel, rfl, by decide +kernel, by decide +kernel⟩, by decide +kernel, rfl, rfl, ⟨rfl, rfl⟩, fun _ _ _ _ _ _ us hl => match us, hl with | [_], _ => rfl, (fun h => nomatch h), (fun h => nomatch h)⟩
theorem S_is_between : DefS prg d_is_between := ⟨⟨rfl, rfl, rfl, by decide +kernel, rfl, by decide +kernel, by decide +kernel⟩, by decide +kernel, rfl, rfl, ⟨rfl, rfl⟩, fun _ _ _ _ _ _ us hl => match us, hl with | [_, _, _], _ => rfl, (fun h => nomatch h), (fun h => nomatch h)⟩
theorem S_is_clock : DefS prg d_is_clock := ⟨⟨rfl, rfl, rfl, by decide +kernel, rfl, by decide +kernel, by decide +kernel⟩, by decide +kernel, rfl, rfl, ⟨rfl, rfl⟩, fun _ _ _ _ _ _ us hl => match us, hl with | [_], _ => rfl, (fun h => nomatch h), (fun h => nomatch h)⟩
theorem S_is_town : DefS prg d_is_town := ⟨⟨rfl, rfl, rfl, by decide +kernel, rfl, by decide +kernel, by decide +kernel⟩, by decide +kernel, rfl, rfl, ⟨rfl, rfl⟩, fun _ _ _ _ _ _ us hl => match us, hl with | [_], _ => rfl, (fun h => nomatch h), (fun h => nomatch h)⟩
theorem S_number_in : DefS prg d_number_in := ⟨⟨rfl, rfl, rfl, by decide +kernel, rfl, by decide +kernel, by decide +kernel⟩, by decide +kernel, rfl, rfl, ⟨rfl, rfl⟩, fun _ _ _ _ _ _ us hl => match us, hl with | [_], _ => rfl, (fun h => nomatch h), (fun h => nomatch h)⟩
theorem S_numbers_in : DefS prg d_numbers_in := ⟨⟨rfl, rfl, rfl, by decide +kernel, rfl, by decide +kernel, by decide +kernel⟩, by decide +kernel, rfl, rfl, ⟨rfl, rfl⟩, fun _ _ _ _ _ _ us hl => match us, hl with | [_], _ => rfl, (fun h => nomatch h), (fun h => nomatch h)⟩
theorem S_show_town : DefS prg d_show_town := ⟨⟨rfl, rfl, rfl, by decide +kernel, rfl, by decide +kernel, by decide +kernel⟩, by decide +kernel, rfl, rfl, ⟨rfl, rfl⟩, fun _ _ _ _ _ _ us hl => match us, hl with | [_], _ => rfl, (fun h => nomatch h), (fun h => nomatch h)⟩
theorem S_read_town : DefS prg d_read_town := ⟨⟨rfl, rfl, rfl, by decide +kernel, rfl, by decide +kernel, by decide +kernel⟩, by decide +kernel, rfl, rfl, ⟨rfl, rfl⟩, fun _ _ _ _ _ _ us hl => match us, hl with | [_], _ => rfl, (fun h => nomatch h), (fun h => nomatch h)⟩
theorem S_law_box : DefS prg d_law_box := ⟨⟨rfl, rfl, rfl, by decide +kernel, rfl, by decide +kernel, by decide +kernel⟩, by decide +kernel, rfl, rfl, ⟨rfl, rfl⟩, fun _ _ _ _ _ _ us hl => match us, hl with | [_, _], _ => rfl, (fun h => nomatch h), (fun h => nomatch h)⟩
theorem S_law_take : DefS prg d_law_take := ⟨⟨rfl, rfl, rfl, by decide +kernel, rfl, by decide +kernel, by decide +kernel⟩, by decide +kernel, rfl, rfl, ⟨rfl, rfl⟩, fun _ _ _ _ _ _ us hl => match us, hl with | [_, _], _ => rfl, (fun h => nomatch h), (fun h => nomatch h)⟩
theorem S_law_town : DefS prg d_law_town := ⟨⟨rfl, rfl, rfl, by decide +kernel, rfl, by decide +kernel, by decide +kernel⟩, by decide +kernel, rfl, rfl, ⟨rfl, rfl⟩, fun _ _ _ _ _ _ us hl => match us, hl with | [_], _ => rfl, (fun h => nomatch h), (fun h => nomatch h)⟩
theorem S_law_clocks : DefS prg d_law_clocks := ⟨⟨rfl, rfl, rfl, by decide +kernel, rfl, by decide +kernel, by decide +kernel⟩, by decide +kernel, rfl, rfl, ⟨rfl, rfl⟩, fun _ _ _ _ _ _ us hl => match us, hl with | [], _ => rfl, (fun h => nomatch h), (fun h => nomatch h)⟩
theorem S_law_due : DefS prg d_law_due := ⟨⟨rfl, rfl, rfl, by decide +kernel, rfl, by decide +kernel, by decide +kernel⟩, by decide +kernel, rfl, rfl, ⟨rfl, rfl⟩, fun _ _ _ _ _ _ us hl => match us, hl with | [_], _ => rfl, (fun h => nomatch h), (fun h => nomatch h)⟩
theorem S_law_spoilt : DefS prg d_law_spoilt := ⟨⟨rfl, rfl, rfl, by decide +kernel, rfl, by decide +kernel, by decide +kernel⟩, by decide +kernel, rfl, rfl, ⟨rfl, rfl⟩, fun _ _ _ _ _ _ us hl => match us, hl with | [_, _], _ => rfl, (fun h => nomatch h), (fun h => nomatch h)⟩
theorem S_law_right : DefS prg d_law_right := ⟨⟨rfl, rfl, rfl, by decide +kernel, rfl, by decide +kernel, by decide +kernel⟩, by decide +kernel, rfl, rfl, ⟨rfl, rfl⟩, fun _ _ _ _ _ _ us hl => match us, hl with | [_], _ => rfl, (fun h => nomatch h), (fun _ => rfl)⟩
theorem S_law : DefS prg d_law := ⟨⟨rfl, rfl, rfl, by decide +kernel, rfl, by decide +kernel, by decide +kernel⟩, by decide +kernel, rfl, rfl, ⟨rfl, rfl⟩, fun _ _ _ _ _ _ us hl => match us, hl with | [_], _ => rfl, (fun h => nomatch h), (fun _ => rfl)⟩
theorem allS : ∀ d ∈ prg.defs, DefS prg d := by
  intro d hd
  simp only [prg, defs, List.mem_cons, List.not_mem_nil, or_false] at hd
  rcases hd with rfl | rfl | rfl | rfl | rfl | rfl | rfl | rfl | rfl | rfl | rfl | rfl | rfl | rfl | rfl | rfl
  · exact S_is_whole
  · exact S_is_between
  · exact S_is_clock
  · exact S_is_town
  · exact S_number_in
  · exact S_numbers_in
  · exact S_show_town
  · exact S_read_town
  · exact S_law_box
  · exact S_law_take
  · exact S_law_town
  · exact S_law_clocks
  · exact S_law_due
  · exact S_law_spoilt
  · exact S_law_right
  · exact S_law
end Z
set_option Elab.async false
set_option linter.all false
set_option maxRecDepth 100000
set_option maxHeartbeats 4000000
namespace Z
open PySem PySem.Spec PyProof.Rows L2
local macro_rules | `(tactic| simp! only [$ls,*]) => `(tactic| try simp only [wSs_nil, wSs_cons, wJoin, s_expr, s_ret, s_retN, s_asg, s_exprX, s_asgX, s_retX, s_rs, r_fn, r_cv, r_mth, excAt_non, exiB_none, s_aug, s_setIx, s_if, s_for, s_while, s_pass, s_brk, s_par, s_par3, s_cont, s_setFld, s_setKey, s_setKey2, s_setIx2, s_setKeyN, s_augIx, s_augKey, wE, wEs, wO, wT, wI, q_asN, q_aoN, q_aoT, q_aoL, q_aoR, q_asT, q_asL, q_asC, q_asE, Option.bind_some, startD, List.map_cons, List.map_nil, List.length_cons, List.length_nil, List.replicate, List.cons_append, List.nil_append, List.getElem?_cons_zero, List.getElem?_cons_succ, List.set_cons_zero, List.set_cons_succ, wCmp, q_var, q_opt, q_dec, q_true, q_false, q_not, q_add, q_sub, q_mul, q_fdiv, q_mod, q_catT, q_catL, q_catRL, q_catLR, q_catRR, q_catS, q_mulT, q_mulL, q_min1, q_max1, q_sorted, q_sortS, q_lset, q_dctP, q_srtD, q_ins, q_insR, wIn, q_augI, q_eqI, q_eqB, q_eqS, q_ngF, q_ngT, q_ordI, q_isBB, q_isNN, q_isIN, q_isTN, q_isLN, q_truB, q_truI, q_wB, q_ix, q_ixc, q_seqT, q_seqW, q_seqL, q_seqK, q_seqR, q_lstL, q_lstR, q_lsrL, q_lsrK, q_lsrR, q_refL, q_at, q_up, q_len, q_abs, q_min, q_max, q_intI, q_intB, q_tuple, q_list, q_all, q_any, q_sum, q_newF, q_newT, q_tyI, q_tyB, q_tyT, q_tyL, q_tyS, q_tyN, isi_nonetype_int, isi_nonetype_bool, isi_nonetype_str, isi_nonetype_tuple, isi_nonetype_list, isi_nonetype_dict, isi_bool_int, isi_bool_bool, isi_bool_str, isi_bool_tuple, isi_bool_list, isi_bool_dict, isi_int_int, isi_int_bool, isi_int_str, isi_int_tuple, isi_int_list, isi_int_dict, isi_str_int, isi_str_bool, isi_str_str, isi_str_tuple, isi_str_list, isi_str_dict, isi_tuple_int, isi_tuple_bool, isi_tuple_str, isi_tuple_tuple, isi_tuple_list, isi_tuple_dict, isi_list_int, isi_list_bool, isi_list_str, isi_list_tuple, isi_list_list, isi_list_dict, isi_dict_int, isi_dict_bool, isi_dict_str, isi_dict_tuple, isi_dict_list, isi_dict_dict, q_app, q_ext, q_pop, q_popR, q_pop0, q_appR, q_extR, q_set, q_slT, q_slL, q_slK, q_ixN, q_fld, q_setFld, q_mth, q_dct, q_inD, q_getD, q_getOr, q_setKey, q_dcw, q_dcwA, q_dpop, q_dcn, q_dnw, q_inN, q_getN, q_getOrN, q_setKeyN, q_dcnA, q_dnwA, q_tab, q_inTab, q_fnV, q_splt, q_intT, q_lenT, q_ixT, q_sgn, q_keyI, q_keyS, q_sortK, q_cat, q_rep, q_cnt, q_getL, q_dctA, q_insA, ok_about, ok_again, ok_newer, ok_others, ok_own, ok_refute, ok_wait, ok_int, ok_ints, ok_nats, any_str, any_nat, any_int, List.length_set, Int.cast_ofNat_Int, Int.reduceToNat, Nat.reduceLT, Int.reduceLE, Int.reduceLT, Int.reduceNeg, true_and, and_true, beq_self_eq_true, Bool.not_true, Bool.not_false, reduceCtorEq, decide_true, decide_false, true_implies, not_true_eq_false, not_false_eq_true, false_implies, ite_true, ite_false, ↓reduceIte, eq_self, Bool.true_or, Bool.or_true, Bool.true_and, Bool.and_true, Nat.zero_add, Nat.reduceAdd, Nat.reduceSub, List.append_nil, $ls,*])
local macro_rules | `(tactic| dsimp! only [$ls,*]) => `(tactic| try simp only [wSs_nil, wJoin, s_expr, s_ret, s_retN, s_asg, s_exprX, s_asgX, s_retX, s_rs, r_fn, r_cv, r_mth, excAt_non, exiB_none, s_aug, s_setIx, s_if, s_for, s_while, s_pass, s_brk, s_par, s_par3, s_cont, s_setFld, s_setKey, s_setKey2, s_setIx2, s_setKeyN, s_augIx, s_augKey, wE, wEs, wO, wT, wI, q_asN, q_aoN, q_aoT, q_aoL, q_aoR, q_asT, q_asL, q_asC, q_asE, Option.bind_some, startD, List.map_cons, List.map_nil, List.length_cons, List.length_nil, List.replicate, List.cons_append, List.nil_append, List.getElem?_cons_zero, List.getElem?_cons_succ, List.set_cons_zero, List.set_cons_succ, wCmp, q_var, q_opt, q_dec, q_true, q_false, q_not, q_add, q_sub, q_mul, q_fdiv, q_mod, q_catT, q_catL, q_catRL, q_catLR, q_catRR, q_catS, q_mulT, q_mulL, q_min1, q_max1, q_sorted, q_sortS, q_lset, q_dctP, q_srtD, q_ins, q_insR, wIn, q_augI, q_eqI, q_eqB, q_eqS, q_ngF, q_ngT, q_ordI, q_isBB, q_isNN, q_isIN, q_isTN, q_isLN, q_truB, q_truI, q_wB, q_ix, q_ixc, q_seqT, q_seqW, q_seqL, q_seqK, q_seqR, q_lstL, q_lstR, q_lsrL, q_lsrK, q_lsrR, q_refL, q_at, q_up, q_len, q_abs, q_min, q_max, q_intI, q_intB, q_tuple, q_list, q_all, q_any, q_sum, q_newF, q_newT, q_tyI, q_tyB, q_tyT, q_tyL, q_tyS, q_tyN, isi_nonetype_int, isi_nonetype_bool, isi_nonetype_str, isi_nonetype_tuple, isi_nonetype_list, isi_nonetype_dict, isi_bool_int, isi_bool_bool, isi_bool_str, isi_bool_tuple, isi_bool_list, isi_bool_dict, isi_int_int, isi_int_bool, isi_int_str, isi_int_tuple, isi_int_list, isi_int_dict, isi_str_int, isi_str_bool, isi_str_str, isi_str_tuple, isi_str_list, isi_str_dict, isi_tuple_int, isi_tuple_bool, isi_tuple_str, isi_tuple_tuple, isi_tuple_list, isi_tuple_dict, isi_list_int, isi_list_bool, isi_list_str, isi_list_tuple, isi_list_list, isi_list_dict, isi_dict_int, isi_dict_bool, isi_dict_str, isi_dict_tuple, isi_dict_list, isi_dict_dict, q_app, q_ext, q_pop, q_popR, q_pop0, q_appR, q_extR, q_set, q_slT, q_slL, q_slK, q_ixN, q_fld, q_setFld, q_mth, q_dct, q_inD, q_getD, q_getOr, q_setKey, q_dcw, q_dcwA, q_dpop, q_dcn, q_dnw, q_inN, q_getN, q_getOrN, q_setKeyN, q_dcnA, q_dnwA, q_tab, q_inTab, q_fnV, q_splt, q_intT, q_lenT, q_ixT, q_sgn, q_keyI, q_keyS, q_sortK, q_cat, q_rep, q_cnt, q_getL, q_dctA, q_insA, ok_about, ok_again, ok_newer, ok_others, ok_own, ok_refute, ok_wait, ok_int, ok_ints, ok_nats, any_str, any_nat, any_int, List.length_set, Int.cast_ofNat_Int, Int.reduceToNat, Nat.reduceLT, Int.reduceLE, Int.reduceLT, Int.reduceNeg, true_and, and_true, beq_self_eq_true, Bool.not_true, Bool.not_false, reduceCtorEq, decide_true, decide_false, true_implies, not_true_eq_false, not_false_eq_true, false_implies, ite_true, ite_false, ↓reduceIte, eq_self, Bool.true_or, Bool.or_true, Bool.true_and, Bool.and_true, Nat.zero_add, Nat.reduceAdd, Nat.reduceSub, List.append_nil, $ls,*])
def BoxAt (S : Sto) (b : Addr) : Prop := ∃ g x c : Int, S b = some (.lst [.int g, .int x, .int c]) ∧ 0 ≤ g ∧ 0 ≤ x ∧ x < 2147483647
theorem BoxAt.gr {S S' : Sto} {b : Addr} (h : BoxAt S b) (g : Gr S S') : BoxAt S' b := by
  obtain ⟨x, y, z, e, r⟩ := h
  exact ⟨x, y, z, g _ _ e, r⟩
theorem sp_box {k : Nat} {ns : List Int} {i : Int} {S : Sto} {Q : QK} {EX : EK} (h0 : 0 ≤ i) (h1 : i ≤ 63)
   (h : ∀ b S', Gr S S' → BoxAt S' b → Q (.ref b) S') : call PG (k+1) f_law_box [.lsk (ns.map .int), .int i] S Q EX := by
  have fin : ∀ (n : Int) (a : Addr), S a = none → Q (.ref a) (supd S a (.lst [.int ((if n < 0 then -n else n) * (if decide (1000000000000000000 ≤ if n < 0 then -n else n) = true then 1 else 0)), .int ((n % 2147483629 + 7919 * i * i + 11) * 48271 % 2147483647), .int 0])) := by
    intro n a ha
    refine h a _ (Gr.new Gr.refl ha) ⟨_, _, _, supd_same, ?_, by omega, by omega⟩
    split <;> split <;> omega
  refine enter ⟨2,4,i_law_box⟩ rfl rfl ?_
  unfold i_law_box
  simp! only [List.length_map]
  refine ⟨fun hl => ?_, fun hl => ?_⟩
  · obtain ⟨n, _, _, e⟩ := at_map (f := D.int) h0 hl
    simp! only [e]
    refine ⟨?_, ?_, by omega, by omega, fun a ha => fin n a ha⟩
    · right
      split <;> omega
    · left
      omega
  · refine ⟨by right; omega, by left; omega, by omega, by omega, fun a ha => fin 0 a ha⟩
theorem sp_take {k : Nat} {b : Addr} {m : Int} {S : Sto} {Q : QK} {EX : EK} (hb : BoxAt S b) (h0 : 0 < m) (h1 : m < 18446744073709551616)
   (h : ∀ r S', Ex b S S' → BoxAt S' b → 0 ≤ r → r < m → Q (.int r) S') : call PG (k+1) f_law_take [.ref b, .int m] S Q EX := by
  obtain ⟨g, x, c, e, hg, hx, hx2⟩ := hb
  refine enter ⟨2,3,i_law_take⟩ rfl rfl ?_
  unfold i_law_take
  simp! only [lstAt_of e]
  have fin : MulOk x 48271 ∧
      MulOk ((x * 48271 + 12345 + (c + 1)) % 2147483647) ((x * 48271 + 12345 + (c + 1)) % 2147483647 % 40009 + 3) ∧ 0 < m ∧
      Q (D.int ((x * 48271 + 12345 + (c + 1)) % 2147483647 * ((x * 48271 + 12345 + (c + 1)) % 2147483647 % 40009 + 3) % 2147483629 / 7 % m))
        (supd S b (SO.lst [D.int g, D.int ((x * 48271 + 12345 + (c + 1)) % 2147483647), D.int (c + 1)])) := by
    refine ⟨by left; omega, by left; omega, h0, h _ _ (Ex.upd Ex.refl) ⟨_, _, _, supd_same, hg, by omega, by omega⟩ (Int.emod_nonneg _ (by omega)) (Int.emod_lt_of_pos _ h0)⟩
  refine ⟨fun hp => ⟨fun _ => ⟨h0, ⟨h0, h1⟩, h _ _ (Ex.upd Ex.refl) ⟨_, _, _, supd_same, Int.ediv_nonneg hg (by omega), hx, hx2⟩ (Int.emod_nonneg _ (by omega)) (Int.emod_lt_of_pos _ h0)⟩, fun _ => fin⟩, fun _ => fin⟩

def ClockOk (c : Int × Int) : Prop := 1 ≤ c.1 ∧ c.1 ≤ 4 ∧ 0 ≤ c.2 ∧ c.2 < c.1
theorem sp_town {k : Nat} {b : Addr} {S : Sto} {Q : QK} {EX : EK} (hb : BoxAt S b)
   (h : ∀ (cs : List (Int × Int)) (S' : Sto), Ex b S S' → BoxAt S' b → 2 ≤ cs.length → cs.length ≤ 8 → (∀ c ∈ cs, ClockOk c) → Q (.tup (cs.map wD)) S') : call PG (k+2) f_law_town [.ref b] S Q EX := by
  refine enter ⟨1,5,i_law_town⟩ rfl rfl ?_
  unfold i_law_town
  simp! only []
  intro a ha
  obtain ⟨_, _, _, eb, _⟩ := id hb
  have nab : a ≠ b := fun z => by rw [z, eb] at ha; cases ha
  refine sp_take (hb.gr (Gr.new Gr.refl ha)) (by omega) (by omega) fun r1 S1 x1 hb1 l1 u1 => ?_
  refine sp_take hb1 (by omega) (by omega) fun r2 S2 x2 hb2 l2 u2 => ?_
  refine ⟨⟨by omega, by omega⟩, ?_⟩
  refine for_rg (fun i env S3 => ∃ (cs : List (Int × Int)) (p q : Option D), env = [some (.ref b), some (.ref a), some (.int (1 + r1)), p, q] ∧ S3 a = some (.lst (cs.map wD)) ∧ (cs.length : Int) = i ∧ (∀ c ∈ cs, ClockOk c) ∧ BoxAt S3 b ∧ Ex b S S3) (by omega) ⟨[], _, _, rfl, ?_, rfl, (fun c hc => by simp at hc), hb2, ?_⟩ ?_ ?_
  · exact x2 _ _ nab (x1 _ _ nab supd_same)
  · exact (Ex.updN Ex.refl ha).trans (x1.trans x2)
  · rintro i env S3 h0 h1 ⟨cs, p, q, rfl, ea, hl, hc, hb3, x3⟩
    refine ⟨_, rfl, fun N Bk hN => ?_⟩
    simp! only []
    refine sp_take hb3 (by omega) (by omega) fun r4 S4 x4 hb4 l4 u4 => ?_
    refine sp_take hb4 (by omega) (by omega) fun r5 S5 x5 hb5 l5 u5 => ?_
    refine ix_pick rfl l5 (by simpa using u5) fun d hd => ?_
    obtain ⟨n, rfl, hn⟩ : ∃ n, d = .int n ∧ 1 ≤ n ∧ n ≤ 4 := by
      simp only [List.mem_cons, List.not_mem_nil, or_false] at hd
      rcases hd with rfl | rfl | rfl <;> exact ⟨_, rfl, by omega, by omega⟩
    have ea5 := x5 _ _ nab (x4 _ _ nab ea)
    simp! only [lstAt_of ea5]
    refine sp_take hb5 (by omega) (by omega) fun r6 S6 x6 hb6 l6 u6 => ?_
    have ea6 := x6 _ _ nab ea5
    simp! only [lstAt_of ea6]
    refine ⟨by rw [List.length_map]; omega, hN _ _ ⟨cs ++ [(n, r6)], _, _, rfl, by rw [List.map_append]; exact supd_same, by rw [List.length_append]; simp; omega, ?_, ?_, ?_⟩⟩
    · intro c hc'
      rcases List.mem_append.mp hc' with hc' | hc'
      · exact hc c hc'
      · simp only [List.mem_singleton] at hc'
        subst hc'
        exact ⟨hn.1, hn.2, l6, u6⟩
    · obtain ⟨x, y, z, e, r⟩ := hb6
      exact ⟨x, y, z, by rw [supd_ne (Ne.symm nab)]; exact e, r⟩
    · exact (((x3.trans x4).trans x5).trans x6).updN ha
  · rintro env S3 ⟨cs, p, q, rfl, ea, hl, hc, hb3, x3⟩
    simp! only [lstAt_of ea]
    exact h cs S3 x3 hb3 (by omega) (by omega) hc

theorem sp_iswhole {k : Nat} {d : D} {S : Sto} {Q : QK} {EX : EK} (h : kn S d) (q : Q (.bl (isInt d)) S) : call PG (k+1) f_is_whole [d] S Q EX := by
  refine enter ⟨1,1,i_is_whole⟩ rfl rfl ?_
  unfold i_is_whole
  cases d with
  | lsk _ => exact h.elim
  | ty _ => exact h.elim
  | ref a =>
    obtain ⟨kvs, e⟩ := h
    simp! only [ty_dct e]
    exact q
  | _ =>
    simp! only []
    exact q
theorem sp_between {k : Nat} {d : D} {lo hi : Int} {S : Sto} {Q : QK} {EX : EK} (h : kn S d) (q : Q (.bl (isBtw lo hi d)) S) : call PG (k+2) f_is_between [d, .int lo, .int hi] S Q EX := by
  refine enter ⟨3,3,i_is_between⟩ rfl rfl ?_
  unfold i_is_between
  simp! only []
  refine sp_iswhole h ?_
  cases d with
  | int i =>
    simp only [isInt, isBtw] at *
    simp! only []
    by_cases h1 : lo ≤ i
    · refine ⟨fun _ => ?_, fun z => (z h1).elim⟩
      rw [decide_eq_true h1, Bool.true_and] at q
      exact q
    · refine ⟨fun z => (h1 z).elim, fun _ => ?_⟩
      rw [decide_eq_false h1, Bool.false_and] at q
      exact q
  | _ =>
    simp only [isInt]
    simp! only []
    exact q

def isC : D → Bool
  | .tup [.int a, .int b] => (decide (1 ≤ a) && decide (a ≤ 4)) && (decide (0 ≤ b) && decide (b ≤ a - 1))
  | _ => false
def isTw : D → Bool
  | .tup xs => (decide (2 ≤ xs.length) && decide (xs.length ≤ 8)) && xs.all isC
  | _ => false
theorem isC_none : isC (.tup []) = false := rfl
theorem isC_one {a : D} : isC (.tup [a]) = false := by cases a <;> rfl
theorem isC_more {a b c : D} {r : List D} : isC (.tup (a :: b :: c :: r)) = false := by cases a <;> cases b <;> rfl
theorem isC_two {a : Int} {b : D} : isC (.tup [.int a, b]) = (isBtw 1 4 (.int a) && isBtw 0 (a - 1) b) := by cases b <;> simp [isC, isBtw]
theorem isC_fst {a b : D} (h : isInt a = false) : isC (.tup [a, b]) = false := by cases a <;> first | rfl | cases h
theorem isC_snd {a : Int} {b : D} (h : isInt b = false) : isC (.tup [.int a, b]) = false := by cases b <;> first | rfl | cases h
theorem sp_isclock {k : Nat} {d : D} {S : Sto} {Q : QK} {EX : EK} (h : kn S d) (q : Q (.bl (isC d)) S) : call PG (k+3) f_is_clock [d] S Q EX := by
  refine enter ⟨1,1,i_is_clock⟩ rfl rfl ?_
  unfold i_is_clock
  cases d with
  | lsk _ => exact h.elim
  | ty _ => exact h.elim
  | ref a =>
    obtain ⟨kvs, e⟩ := h
    simp! only [ty_dct e]
    exact q
  | tup xs =>
    have h := kns_iff.mp h
    match xs, h, q with
    | [], _, q =>
      simp! only []
      exact ⟨fun z => by omega, fun _ => q⟩
    | [_], _, q =>
      rw [isC_one] at q
      simp! only []
      exact ⟨fun z => by omega, fun _ => q⟩
    | _ :: _ :: _ :: r, _, q =>
      rw [isC_more] at q
      simp! only []
      exact ⟨fun z => by omega, fun _ => q⟩
    | [a, b], h, q =>
      simp! only []
      refine sp_between (h a (by simp)) ?_
      cases a with
      | int i =>
        rw [isC_two] at q
        by_cases h0 : isBtw 1 4 (.int i) = true
        · rw [h0] at q ⊢
          simp! only []
          refine sp_between (h b (by simp)) ?_
          exact q
        · rw [Bool.not_eq_true] at h0
          rw [h0] at q ⊢
          simp! only []
          exact q
      | _ =>
        rw [isC_fst rfl] at q
        simp only [isBtw]
        simp! only []
        exact q
  | _ =>
    simp! only []
    exact q
theorem isTw_gt {xs : List D} (h : ¬ (2 ≤ xs.length ∧ xs.length ≤ 8)) : isTw (.tup xs) = false := by
  show ((decide (2 ≤ xs.length) && decide (xs.length ≤ 8)) && xs.all isC) = false
  by_cases h1 : 2 ≤ xs.length
  · rw [decide_eq_false (fun z => h ⟨h1, z⟩), Bool.and_false, Bool.false_and]
  · rw [decide_eq_false h1, Bool.false_and, Bool.false_and]
theorem isTw_ok {xs : List D} (h1 : 2 ≤ xs.length) (h2 : xs.length ≤ 8) : isTw (.tup xs) = xs.all isC := by
  show ((decide (2 ≤ xs.length) && decide (xs.length ≤ 8)) && xs.all isC) = _
  rw [decide_eq_true h1, decide_eq_true h2, Bool.and_self, Bool.true_and]
theorem sp_istown {k : Nat} {d : D} {S : Sto} {Q : QK} {EX : EK} (h : kn S d) (q : Q (.bl (isTw d)) S) : call PG (k+4) f_is_town [d] S Q EX := by
  refine enter ⟨1,2,i_is_town⟩ rfl rfl ?_
  unfold i_is_town
  cases d with
  | lsk _ => exact h.elim
  | ty _ => exact h.elim
  | ref a =>
    obtain ⟨kvs, e⟩ := h
    simp! only [ty_dct e]
    exact q
  | tup xs =>
    have h := kns_iff.mp h
    simp! only []
    by_cases h1 : 2 ≤ xs.length
    · by_cases h2 : xs.length ≤ 8
      · rw [isTw_ok h1 h2] at q
        refine ⟨fun _ => ⟨fun _ => ?_, fun z => by omega⟩, fun z => by omega⟩
        refine lcE (fun x => .bl (isC x)) trivial (fun _ _ z => z) (fun x hx => ⟨_, rfl, fun R z => ?_⟩) ?_
        · simp! only [wipeD]
          exact sp_isclock (h x hx) z
        · rw [map_bl, asBools_map]
          simp only [wOpt, List.all_map]
          exact q
      · rw [isTw_gt (fun z => h2 z.2)] at q
        refine ⟨fun _ => ⟨fun _ => by omega, fun z => q⟩, fun z => q⟩
    · rw [isTw_gt (fun z => h1 z.1)] at q
      refine ⟨fun _ => by omega, fun z => q⟩
  | _ =>
    simp! only []
    exact q

end Z
set_option Elab.async false
set_option linter.all false
set_option maxRecDepth 100000
set_option maxHeartbeats 4000000
namespace Z
open PySem PySem.Spec PyProof.Rows L2
local macro_rules | `(tactic| simp! only [$ls,*]) => `(tactic| try simp only [wSs_nil, wSs_cons, wJoin, s_expr, s_ret, s_retN, s_asg, s_exprX, s_asgX, s_retX, s_rs, r_fn, r_cv, r_mth, excAt_non, exiB_none, s_aug, s_setIx, s_if, s_for, s_while, s_pass, s_brk, s_par, s_par3, s_cont, s_setFld, s_setKey, s_setKey2, s_setIx2, s_setKeyN, s_augIx, s_augKey, wE, wEs, wO, wT, wI, q_asN, q_aoN, q_aoT, q_aoL, q_aoR, q_asT, q_asL, q_asC, q_asE, Option.bind_some, startD, List.map_cons, List.map_nil, List.length_cons, List.length_nil, List.replicate, List.cons_append, List.nil_append, List.getElem?_cons_zero, List.getElem?_cons_succ, List.set_cons_zero, List.set_cons_succ, wCmp, q_var, q_opt, q_dec, q_true, q_false, q_not, q_add, q_sub, q_mul, q_fdiv, q_mod, q_catT, q_catL, q_catRL, q_catLR, q_catRR, q_catS, q_mulT, q_mulL, q_min1, q_max1, q_sorted, q_sortS, q_lset, q_dctP, q_srtD, q_ins, q_insR, wIn, q_augI, q_eqI, q_eqB, q_eqS, q_ngF, q_ngT, q_ordI, q_isBB, q_isNN, q_isIN, q_isTN, q_isLN, q_truB, q_truI, q_wB, q_ix, q_ixc, q_seqT, q_seqW, q_seqL, q_seqK, q_seqR, q_lstL, q_lstR, q_lsrL, q_lsrK, q_lsrR, q_refL, q_at, q_up, q_len, q_abs, q_min, q_max, q_intI, q_intB, q_tuple, q_list, q_all, q_any, q_sum, q_newF, q_newT, q_tyI, q_tyB, q_tyT, q_tyL, q_tyS, q_tyN, isi_nonetype_int, isi_nonetype_bool, isi_nonetype_str, isi_nonetype_tuple, isi_nonetype_list, isi_nonetype_dict, isi_bool_int, isi_bool_bool, isi_bool_str, isi_bool_tuple, isi_bool_list, isi_bool_dict, isi_int_int, isi_int_bool, isi_int_str, isi_int_tuple, isi_int_list, isi_int_dict, isi_str_int, isi_str_bool, isi_str_str, isi_str_tuple, isi_str_list, isi_str_dict, isi_tuple_int, isi_tuple_bool, isi_tuple_str, isi_tuple_tuple, isi_tuple_list, isi_tuple_dict, isi_list_int, isi_list_bool, isi_list_str, isi_list_tuple, isi_list_list, isi_list_dict, isi_dict_int, isi_dict_bool, isi_dict_str, isi_dict_tuple, isi_dict_list, isi_dict_dict, q_app, q_ext, q_pop, q_popR, q_pop0, q_appR, q_extR, q_set, q_slT, q_slL, q_slK, q_ixN, q_fld, q_setFld, q_mth, q_dct, q_inD, q_getD, q_getOr, q_setKey, q_dcw, q_dcwA, q_dpop, q_dcn, q_dnw, q_inN, q_getN, q_getOrN, q_setKeyN, q_dcnA, q_dnwA, q_tab, q_inTab, q_fnV, q_splt, q_intT, q_lenT, q_ixT, q_sgn, q_keyI, q_keyS, q_sortK, q_cat, q_rep, q_cnt, q_getL, q_dctA, q_insA, ok_about, ok_again, ok_newer, ok_others, ok_own, ok_refute, ok_wait, ok_int, ok_ints, ok_nats, any_str, any_nat, any_int, List.length_set, Int.cast_ofNat_Int, Int.reduceToNat, Nat.reduceLT, Int.reduceLE, Int.reduceLT, Int.reduceNeg, true_and, and_true, beq_self_eq_true, Bool.not_true, Bool.not_false, reduceCtorEq, decide_true, decide_false, true_implies, not_true_eq_false, not_false_eq_true, false_implies, ite_true, ite_false, ↓reduceIte, eq_self, Bool.true_or, Bool.or_true, Bool.true_and, Bool.and_true, Nat.zero_add, Nat.reduceAdd, Nat.reduceSub, List.append_nil, $ls,*])
local macro_rules | `(tactic| dsimp! only [$ls,*]) => `(tactic| try simp only [wSs_nil, wJoin, s_expr, s_ret, s_retN, s_asg, s_exprX, s_asgX, s_retX, s_rs, r_fn, r_cv, r_mth, excAt_non, exiB_none, s_aug, s_setIx, s_if, s_for, s_while, s_pass, s_brk, s_par, s_par3, s_cont, s_setFld, s_setKey, s_setKey2, s_setIx2, s_setKeyN, s_augIx, s_augKey, wE, wEs, wO, wT, wI, q_asN, q_aoN, q_aoT, q_aoL, q_aoR, q_asT, q_asL, q_asC, q_asE, Option.bind_some, startD, List.map_cons, List.map_nil, List.length_cons, List.length_nil, List.replicate, List.cons_append, List.nil_append, List.getElem?_cons_zero, List.getElem?_cons_succ, List.set_cons_zero, List.set_cons_succ, wCmp, q_var, q_opt, q_dec, q_true, q_false, q_not, q_add, q_sub, q_mul, q_fdiv, q_mod, q_catT, q_catL, q_catRL, q_catLR, q_catRR, q_catS, q_mulT, q_mulL, q_min1, q_max1, q_sorted, q_sortS, q_lset, q_dctP, q_srtD, q_ins, q_insR, wIn, q_augI, q_eqI, q_eqB, q_eqS, q_ngF, q_ngT, q_ordI, q_isBB, q_isNN, q_isIN, q_isTN, q_isLN, q_truB, q_truI, q_wB, q_ix, q_ixc, q_seqT, q_seqW, q_seqL, q_seqK, q_seqR, q_lstL, q_lstR, q_lsrL, q_lsrK, q_lsrR, q_refL, q_at, q_up, q_len, q_abs, q_min, q_max, q_intI, q_intB, q_tuple, q_list, q_all, q_any, q_sum, q_newF, q_newT, q_tyI, q_tyB, q_tyT, q_tyL, q_tyS, q_tyN, isi_nonetype_int, isi_nonetype_bool, isi_nonetype_str, isi_nonetype_tuple, isi_nonetype_list, isi_nonetype_dict, isi_bool_int, isi_bool_bool, isi_bool_str, isi_bool_tuple, isi_bool_list, isi_bool_dict, isi_int_int, isi_int_bool, isi_int_str, isi_int_tuple, isi_int_list, isi_int_dict, isi_str_int, isi_str_bool, isi_str_str, isi_str_tuple, isi_str_list, isi_str_dict, isi_tuple_int, isi_tuple_bool, isi_tuple_str, isi_tuple_tuple, isi_tuple_list, isi_tuple_dict, isi_list_int, isi_list_bool, isi_list_str, isi_list_tuple, isi_list_list, isi_list_dict, isi_dict_int, isi_dict_bool, isi_dict_str, isi_dict_tuple, isi_dict_list, isi_dict_dict, q_app, q_ext, q_pop, q_popR, q_pop0, q_appR, q_extR, q_set, q_slT, q_slL, q_slK, q_ixN, q_fld, q_setFld, q_mth, q_dct, q_inD, q_getD, q_getOr, q_setKey, q_dcw, q_dcwA, q_dpop, q_dcn, q_dnw, q_inN, q_getN, q_getOrN, q_setKeyN, q_dcnA, q_dnwA, q_tab, q_inTab, q_fnV, q_splt, q_intT, q_lenT, q_ixT, q_sgn, q_keyI, q_keyS, q_sortK, q_cat, q_rep, q_cnt, q_getL, q_dctA, q_insA, ok_about, ok_again, ok_newer, ok_others, ok_own, ok_refute, ok_wait, ok_int, ok_ints, ok_nats, any_str, any_nat, any_int, List.length_set, Int.cast_ofNat_Int, Int.reduceToNat, Nat.reduceLT, Int.reduceLE, Int.reduceLT, Int.reduceNeg, true_and, and_true, beq_self_eq_true, Bool.not_true, Bool.not_false, reduceCtorEq, decide_true, decide_false, true_implies, not_true_eq_false, not_false_eq_true, false_implies, ite_true, ite_false, ↓reduceIte, eq_self, Bool.true_or, Bool.or_true, Bool.true_and, Bool.and_true, Nat.zero_add, Nat.reduceAdd, Nat.reduceSub, List.append_nil, $ls,*])
/-! ### numbers in texts -/
theorem tl_strI (n : Nat) : TL.tl (strI (n : Int)) = TL.numL n := TL.tl_num n
theorem len_strI (n : Nat) : (strI (n : Int)).length = (TL.numL n).length := by rw [TL.len_tl, tl_strI]
theorem strI_inj {m n : Nat} (h : strI (m : Int) = strI (n : Int)) : m = n := TL.numL_inj (by rw [← tl_strI, ← tl_strI, h])
theorem dv_snoc (l : List Nat) (d : Nat) : NumText.digitsVal (l ++ [d]) = NumText.digitsVal l * 10 + (d - 48) := by
  unfold NumText.digitsVal
  rw [List.foldl_append]
  rfl
theorem numL_of : ∀ (k : Nat) (l : List Nat), l.length = k → l ≠ [] → NumText.AllDigits l → (l.length = 1 ∨ l.head? ≠ some 48) → TL.numL (NumText.digitsVal l) = l
  | 0, l, e, ne, _, _ => (ne (List.eq_nil_of_length_eq_zero e)).elim
  | k + 1, l, e, _, ad, hd => by
    rcases List.eq_nil_or_concat l with rfl | ⟨l', d, rfl⟩
    · cases e
    rw [List.concat_eq_append] at *
    have dd := ad d (List.mem_append_right _ (List.mem_singleton.mpr rfl))
    rw [dv_snoc]
    rw [List.length_append, List.length_singleton] at e
    by_cases h0 : l' = []
    · subst h0
      show TL.numL (0 * 10 + (d - 48)) = [d]
      rw [TL.numL_lt (by omega)]
      congr 1
      omega
    · have l1 : 0 < l'.length := List.length_pos_iff.mpr h0
      have h1 : l'.head? ≠ some 48 := by
        rcases hd with h | h
        · rw [List.length_append, List.length_singleton] at h
          omega
        · cases l' with
          | nil => exact (h0 rfl).elim
          | cons x r => exact h
      have ih := numL_of k l' (by omega) h0 (fun c hc => ad c (List.mem_append_left _ hc)) (.inr h1)
      have v1 : NumText.digitsVal l' ≠ 0 := fun z => by
        rw [z, TL.numL_lt (by decide)] at ih
        rw [← ih] at h1
        exact h1 rfl
      rw [TL.numL_step (by omega), show (NumText.digitsVal l' * 10 + (d - 48)) / 10 = NumText.digitsVal l' by omega, show (NumText.digitsVal l' * 10 + (d - 48)) % 10 = d - 48 by omega, ih]
      congr 2
      omega
theorem dv_lt : ∀ (l : List Nat), NumText.AllDigits l → NumText.digitsVal l < 10 ^ l.length := by
  intro l
  obtain ⟨k, hk⟩ : ∃ k, k = l.length := ⟨_, rfl⟩
  induction k generalizing l with
  | zero =>
    intro _
    rw [List.eq_nil_of_length_eq_zero hk.symm]
    exact Nat.one_pos
  | succ k ih =>
    intro ad
    rcases List.eq_nil_or_concat l with rfl | ⟨l', d, rfl⟩
    · cases hk
    rw [List.concat_eq_append] at *
    have dd := ad d (List.mem_append_right _ (List.mem_singleton.mpr rfl))
    rw [List.length_append, List.length_singleton] at hk ⊢
    have := ih l' (by omega) fun c hc => ad c (List.mem_append_left _ hc)
    rw [dv_snoc, Nat.pow_succ]
    omega
open Classical in
/-- the number of a text, below 10 ** 9 -/
@[irreducible] noncomputable def numIn (t : Str) : Option Nat := if h : ∃ n : Nat, n < 1000000000 ∧ t = strI (n : Int) then some h.choose else none
theorem numIn_some {t : Str} {n : Nat} : numIn t = some n ↔ n < 1000000000 ∧ t = strI (n : Int) := by
  unfold numIn
  by_cases h : ∃ n : Nat, n < 1000000000 ∧ t = strI (n : Int)
  · rw [dif_pos h]
    have c := h.choose_spec
    constructor
    · intro e
      rw [← Option.some.inj e]
      exact c
    · rintro ⟨_, e⟩
      rw [strI_inj (c.2.symm.trans e)]
  · rw [dif_neg h]
    exact ⟨fun e => (by cases e), fun e => (h ⟨n, e⟩).elim⟩
theorem numIn_none {t : Str} : numIn t = none ↔ ∀ n : Nat, n < 1000000000 → t ≠ strI (n : Int) := by
  unfold numIn
  by_cases h : ∃ n : Nat, n < 1000000000 ∧ t = strI (n : Int)
  · rw [dif_pos h]
    obtain ⟨n, a, b⟩ := h
    exact ⟨fun e => (by cases e), fun e => (e n a b).elim⟩
  · rw [dif_neg h]
    exact ⟨fun _ n a b => h ⟨n, a, b⟩, fun _ => rfl⟩
theorem numIn_of {t : Str} (l1 : 1 ≤ t.length) (l9 : t.length ≤ 9) (ad : NumText.AllDigits (TL.tl t)) (hd : t.length = 1 ∨ (TL.tl t).head? ≠ some 48) : ∃ n : Nat, numIn t = some n := by
  rw [TL.len_tl] at l1 l9 hd
  have ne : TL.tl t ≠ [] := List.length_pos_iff.mp (by omega)
  have e := numL_of _ _ rfl ne ad hd
  have lt := dv_lt _ ad
  refine ⟨NumText.digitsVal (TL.tl t), numIn_some.mpr ⟨Nat.lt_of_lt_of_le lt (Nat.pow_le_pow_right (by decide) (show (TL.tl t).length ≤ 9 by omega)), TL.ext_tl ?_⟩⟩
  rw [tl_strI, e]
theorem numIn_facts {t : Str} {n : Nat} (h : numIn t = some n) : 1 ≤ t.length ∧ t.length ≤ 9 ∧ NumText.AllDigits (TL.tl t) ∧ (t.length = 1 ∨ (TL.tl t).head? ≠ some 48) := by
  obtain ⟨lt, rfl⟩ := numIn_some.mp h
  have l9 := TL.numL_len (n := n) (k := 9) (by decide) lt
  have l1 : 0 < (TL.numL n).length := List.length_pos_iff.mpr (TL.numL_ne n)
  rw [len_strI, tl_strI]
  refine ⟨l1, l9, TL.numL_digits n, ?_⟩
  induction n using Nat.strongRecOn with
  | _ n ih =>
    by_cases h10 : n < 10
    · left
      rw [TL.numL_lt h10]
      rfl
    · right
      rw [TL.numL_step (by omega)]
      have lt2 : n / 10 < 1000000000 := by omega
      rcases ih (n / 10) (by omega) lt2 (numIn_some.mpr ⟨lt2, rfl⟩) (TL.numL_len (by decide) lt2) (List.length_pos_iff.mpr (TL.numL_ne _)) with z | z
      · have : n / 10 ≠ 0 := by omega
        cases q : TL.numL (n / 10) with
        | nil => exact (TL.numL_ne _ q).elim
        | cons x r =>
          show some x ≠ some 48
          intro e
          cases e
          rw [q, List.length_cons] at z
          have r0 : r = [] := List.eq_nil_of_length_eq_zero (by omega)
          rw [r0, show [48] = TL.numL 0 from (TL.numL_lt (n := 0) (by decide)).symm] at q
          exact this (TL.numL_inj q)
      · cases q : TL.numL (n / 10) with
        | nil => exact (TL.numL_ne _ q).elim
        | cons x r =>
          rw [q] at z
          exact z
theorem int_strI {n : Nat} (h : n < 1000000000) : intText? (strI (n : Int)) = some (n : Int) := TL.int_num (by
  have := TL.numL_len (n := n) (k := 9) (by decide) h
  omega)
def onD : Option Nat → D
  | some n => .int (n : Int)
  | none => .non
theorem figs : (Str.ofString "0123456789").cps.toList = [48, 49, 50, 51, 52, 53, 54, 55, 56, 57] := by decide +kernel
theorem fig_iff {c : Nat} : c ∈ (Str.ofString "0123456789").cps.toList ↔ 48 ≤ c ∧ c ≤ 57 := by
  rw [figs]
  simp only [List.mem_cons, List.not_mem_nil, or_false]
  omega

theorem all_figs {t : Str} : ((t.cps.toList.map fun c => decide (c ∈ (Str.ofString "0123456789").cps.toList)).all id) = true ↔ NumText.AllDigits (TL.tl t) := by
  rw [List.all_map, List.all_eq_true]
  constructor
  · intro h c hc
    exact fig_iff.mp (of_decide_eq_true (h c hc))
  · intro h c hc
    exact decide_eq_true (fig_iff.mpr (h c hc))
theorem strN0 : Str.ofString "0" = ⟨#[48]⟩ := by decide +kernel
theorem sp_numberin {k : Nat} {t : Str} {S : Sto} {Q : QK} {EX : EK} (hl : t.length ≤ 16777216) (q : Q (onD (numIn t)) S) : call PG (k+1) f_number_in [.str t] S Q EX := by
  have no : (¬ (1 ≤ t.length ∧ t.length ≤ 9 ∧ NumText.AllDigits (TL.tl t) ∧ (t.length = 1 ∨ (TL.tl t).head? ≠ some 48))) → Q .non S := fun h => by
    cases e : numIn t with
    | none => rw [e] at q; exact q
    | some n => exact (h (numIn_facts e)).elim
  have len1 : t.length = (TL.tl t).length := TL.len_tl t
  refine enter ⟨1,2,i_number_in⟩ rfl rfl ?_
  unfold i_number_in
  refine ss_gen fun N1 hN1 => ?_
  have bad : ∀ (nx : En → Sto → Prop) (z : Option D), (¬ (1 ≤ t.length ∧ t.length ≤ 9 ∧ NumText.AllDigits (TL.tl t) ∧ (t.length = 1 ∨ (TL.tl t).head? ≠ some 48))) → wSs (call PG k) EX0 [.ret .non] { nx := nx, rt := Q, bk := fun _ _ => False, ct := fun _ _ => False, ex := fun n d _ S1 => EX n d S1 } [some (.str t), z] S := fun nx z h => by
    simp! only []
    exact no h
  refine s_ifg fun X Y hX hY => ?_
  dsimp! only []
  refine ⟨hl, fun l1 => ⟨fun l9 => ⟨hl, ?_⟩, fun l9 => hX _ _ (bad _ _ fun z => l9 (by omega))⟩, fun l1 => hX _ _ (bad _ _ fun z => l1 (by omega))⟩
  unfold sgnsD
  refine lcM (fun c => D.str ⟨#[c]⟩) (fun c => D.bl (decide (c ∈ (Str.ofString "0123456789").cps.toList))) trivial (fun _ _ z => z) (fun c hc => ⟨_, rfl, fun R z => ?_⟩) ?_
  · simp! only [wipeD]
    exact z
  rw [show (t.cps.toList.map fun c => D.bl (decide (c ∈ (Str.ofString "0123456789").cps.toList))) = (t.cps.toList.map fun c => decide (c ∈ (Str.ofString "0123456789").cps.toList)).map .bl by rw [List.map_map]; rfl]
  dsimp! only [asBools_map]
  cases ad : (t.cps.toList.map fun c => decide (c ∈ (Str.ofString "0123456789").cps.toList)).all id with
  | false =>
    dsimp! only []
    refine hX _ _ (bad _ _ fun z => ?_)
    rw [all_figs.mpr z.2.2.1] at ad
    cases ad
  | true =>
    have ad := all_figs.mp ad
    dsimp! only []
    refine hY _ _ (ss_nil (hN1 _ _ (ss_cons (s_ifg fun X2 Y2 hX2 hY2 => ?_))))
    clear hN1 hX hY
    have last : Y2 [some (.str t), none] S → True := fun _ => trivial
    obtain ⟨c, r, hcr⟩ : ∃ c r, TL.tl t = c :: r := by
      cases h : TL.tl t with
      | nil => rw [h] at len1; simp at len1; omega
      | cons c r => exact ⟨c, r, rfl⟩
    have e0 : t.cps.toList[0]? = some c := by
      show (TL.tl t)[0]? = some c
      rw [hcr]
      rfl
    -- a number
    have good : (t.length = 1 ∨ (TL.tl t).head? ≠ some 48) → Y2 [some (.str t), none] S := fun h => by
      obtain ⟨n, hn⟩ := numIn_of (by omega) (by omega) ad h
      obtain ⟨nl, e⟩ := numIn_some.mp hn
      refine hY2 _ _ (ss_nil ?_)
      simp! only []
      rw [show intText? t = some (n : Int) by rw [e]; exact int_strI nl, q_opt]
      rw [hn] at q
      exact ⟨by omega, q⟩
    dsimp! only [e0]
    have h48 : (⟨#[c]⟩ : Str) = Str.ofString "0" ↔ c = 48 := by
      rw [strN0]
      constructor
      · intro e
        injection e with e
        exact Array.singleton_inj.mp e
      · rintro rfl
        rfl
    have t0 : t = Str.ofString "0" ↔ TL.tl t = [48] := by
      rw [strN0]
      constructor
      · rintro rfl
        rfl
      · exact fun e => TL.ext_tl e
    refine ⟨hl, fun ec => ⟨fun et => good ?_, fun et => hX2 _ _ (bad _ _ fun z => ?_)⟩, fun ec => good (.inr ?_)⟩
    · rw [t0] at et
      rw [et] at len1
      exact .inl len1
    · rcases z.2.2.2 with z | z
      · refine et (t0.mpr ?_)
        rw [z, hcr, List.length_cons] at len1
        rw [hcr, List.eq_nil_of_length_eq_zero (l := r) (by omega), h48.mp ec]
      · rw [hcr, h48.mp ec] at z
        exact z rfl
    · rw [hcr]
      intro e
      cases e
      exact ec (h48.mpr rfl)
/-- the numbers of texts; none where one is none -/
noncomputable def numsIn (ts : List Str) : Option (List Nat) := ts.mapM numIn
theorem nums_cons {t : Str} {ts : List Str} : numsIn (t :: ts) = (numIn t).bind fun n => (numsIn ts).map (n :: ·) := by
  unfold numsIn
  rw [List.mapM_cons]
  cases numIn t with
  | none => rfl
  | some n => cases ts.mapM numIn <;> rfl
def onsD : Option (List Nat) → D
  | some ns => .tup (ns.map fun (n : Nat) => .int (n : Int))
  | none => .non
theorem nums_map {ts : List Str} {ns : List Nat} (h : numsIn ts = some ns) : ts.map numIn = ns.map some := by
  induction ts generalizing ns with
  | nil =>
    cases h
    rfl
  | cons t ts ih =>
    rw [nums_cons] at h
    cases e : numIn t with
    | none => rw [e] at h; cases h
    | some n =>
      rw [e, Option.bind_some] at h
      cases e2 : numsIn ts with
      | none => rw [e2] at h; cases h
      | some ms =>
        rw [e2] at h
        cases h
        rw [List.map_cons, List.map_cons, e, ih e2]
theorem nums_no {ts : List Str} : numsIn ts = none ↔ none ∈ ts.map numIn := by
  induction ts with
  | nil => exact ⟨fun z => (by cases z), fun z => (by cases z)⟩
  | cons t ts ih =>
    rw [nums_cons, List.map_cons, List.mem_cons]
    cases e : numIn t with
    | none => exact ⟨fun _ => .inl rfl, fun _ => rfl⟩
    | some n =>
      rw [Option.bind_some, Option.map_eq_none_iff, ih]
      exact ⟨.inr, fun z => z.elim (fun z => (by cases z)) id⟩
theorem ons_id : ∀ o : Option Nat, D.id 0 (onD o) = true := fun o => by cases o <;> rfl
/-- None in a list -/
theorem any_none {α : Type} {f : Option α → D} (h0 : f none = .non) (h1 : ∀ a, (f (some a)).py.eqv (D.non).py = false) (os : List (Option α)) : ((os.map f).any fun z => z.py.eqv (D.non).py) = os.any (·.isNone) := by
  rw [List.any_map]
  congr 1
  funext o
  cases o with
  | none =>
    show (f none).py.eqv (D.non).py = true
    rw [h0]
    rfl
  | some a => exact h1 a
theorem any_nt {α : Type} {os : List (Option α)} (h : none ∈ os) : os.any (·.isNone) = true := List.any_eq_true.mpr ⟨none, h, rfl⟩
theorem any_nf {α : Type} {os : List (Option α)} (h : ¬ none ∈ os) : os.any (·.isNone) = false := by
  rw [List.any_eq_false]
  intro o ho e
  cases o with
  | none => exact h ho
  | some _ => cases e
theorem sp_numbersin {k : Nat} {ts : List Str} {d : D} {S : Sto} {Q : QK} {EX : EK} (hd : seqD d S = some (ts.map .str)) (hs : stayOf d (ts.map .str) S) (hl : ∀ t ∈ ts, t.length ≤ 16777216) (q : Q (onsD (numsIn ts)) S) : call PG (k+2) f_numbers_in [d] S Q EX := by
  refine enter ⟨1,3,i_numbers_in⟩ rfl rfl ?_
  unfold i_numbers_in
  refine ss_gen fun N1 hN1 => ?_
  dsimp! only []
  rw [hd, q_opt]
  refine lcM D.str (fun t => onD (numIn t)) hs (fun _ _ z => z) (fun t ht => ⟨_, rfl, fun R z => ?_⟩) ?_
  · simp! only [wipeD]
    exact sp_numberin (hl t ht) z
  rw [show (ts.map fun t => onD (numIn t)) = (ts.map numIn).map onD from (List.map_map (f := numIn) (g := onD) (l := ts)).symm]
  refine hN1 _ _ (ss_cons (s_ifg fun X Y hX hY => ?_))
  clear hN1
  dsimp! only []
  refine ⟨⟨id_ok 0 rfl, id_ok 1 (ids_map (n := 0) ons_id _)⟩, ?_⟩
  rw [any_none rfl (fun _ => rfl)]
  cases e : numsIn ts with
  | none =>
    rw [e] at q
    rw [any_nt (nums_no.mp e)]
    refine wIf_t (hX _ _ ?_)
    simp! only []
    exact q
  | some ns =>
    rw [e] at q
    have no : ¬ none ∈ ts.map numIn := fun z => by
      have y := nums_no.mpr z
      rw [e] at y
      cases y
    rw [any_nf no]
    refine wIf_f (hY _ _ (ss_nil ?_))
    simp! only []
    rw [nums_map e, List.map_map]
    exact q

/-! ### texts cut at a sign -/
theorem pre1 {s c : Nat} {r : List Nat} : TL.pre [s] (c :: r) = true ↔ c = s := by
  show ((c :: r).take 1 == [s]) = true ↔ c = s
  rw [show (c :: r).take 1 = [c] from rfl, beq_iff_eq]
  exact ⟨fun e => by injection e, fun e => by rw [e]⟩
theorem spl1_cons {s c : Nat} {acc r : List Nat} : TL.spl [s] 0 acc (c :: r) = if c = s then acc :: TL.spl [s] 0 [] r else TL.spl [s] 0 (acc ++ [c]) r := by
  by_cases h : c = s
  · rw [if_pos h, TL.spl_hit (pre1.mpr h)]
    rfl
  · rw [if_neg h, TL.spl_miss]
    cases q : TL.pre [s] (c :: r) with
    | false => rfl
    | true => exact (h (pre1.mp q)).elim
theorem spl1_len {s : Nat} : ∀ (l acc p : List Nat), p ∈ TL.spl [s] 0 acc l → p.length ≤ acc.length + l.length
  | [], acc, p, h => by
    rw [TL.spl_nil] at h
    rw [List.mem_singleton.mp h]
    exact Nat.le_add_right _ _
  | c :: r, acc, p, h => by
    rw [spl1_cons] at h
    rw [List.length_cons]
    split at h
    · rcases List.mem_cons.mp h with rfl | h
      · omega
      · have := spl1_len r [] p h
        rw [List.length_nil] at this
        omega
    · have := spl1_len r (acc ++ [c]) p h
      rw [List.length_append, List.length_singleton] at this
      omega
theorem spl1_free {s : Nat} : ∀ (l acc p : List Nat), s ∉ acc → p ∈ TL.spl [s] 0 acc l → s ∉ p
  | [], acc, p, h0, h => by
    rw [TL.spl_nil] at h
    rw [List.mem_singleton.mp h]
    exact h0
  | c :: r, acc, p, h0, h => by
    rw [spl1_cons] at h
    split at h
    · rcases List.mem_cons.mp h with rfl | h
      · exact h0
      · exact spl1_free r [] p (by simp) h
    · next ne =>
      refine spl1_free r (acc ++ [c]) p (fun z => ?_) h
      rcases List.mem_append.mp z with z | z
      · exact h0 z
      · exact ne (List.mem_singleton.mp z).symm
theorem spl1_ne {s : Nat} : ∀ (l acc : List Nat), TL.spl [s] 0 acc l ≠ []
  | [], acc => by
    rw [TL.spl_nil]
    simp
  | c :: r, acc => by
    rw [spl1_cons]
    split
    · simp
    · exact spl1_ne r _
theorem spl1_count {s : Nat} : ∀ (l acc : List Nat), (TL.spl [s] 0 acc l).length ≤ l.length + 1
  | [], acc => by
    rw [TL.spl_nil]
    exact Nat.le_refl _
  | c :: r, acc => by
    rw [spl1_cons, List.length_cons]
    split
    · have := spl1_count (s := s) r []
      rw [List.length_cons]
      omega
    · have := spl1_count (s := s) r (acc ++ [c])
      omega
theorem joinL_cons {S p : List Nat} {ps : List (List Nat)} (h : ps ≠ []) : TL.joinL S (p :: ps) = p ++ (S ++ TL.joinL S ps) := by
  cases ps with
  | nil => exact (h rfl).elim
  | cons q r => rfl
theorem spl1_join {s : Nat} : ∀ (l acc : List Nat), TL.joinL [s] (TL.spl [s] 0 acc l) = acc ++ l
  | [], acc => by
    rw [TL.spl_nil, List.append_nil]
    rfl
  | c :: r, acc => by
    rw [spl1_cons]
    split
    · next h =>
      rw [joinL_cons (spl1_ne r []), spl1_join r [], h]
      rfl
    · rw [spl1_join r (acc ++ [c]), List.append_assoc]
      rfl
/-- a separator of one plain sign -/
structure Sep (u : Str) (s : Nat) : Prop where
  e : TL.tl u = [s]
  k : u.cps.all (· < 256) = true
theorem Sep.ne {u : Str} {s : Nat} (h : Sep u s) : u.length ≠ 0 := by
  rw [TL.len_tl, h.e]
  exact Nat.one_ne_zero
theorem split1 {u t : Str} {s : Nat} (h : Sep u s) : (Txt.split t u).map TL.tl = TL.spl [s] 0 [] (TL.tl t) := by
  rw [TL.split_spl t u (by rw [h.e]; simp) (TL.kind_ok h.k), h.e]
theorem split_len {u t p : Str} {s : Nat} (h : Sep u s) (hp : p ∈ Txt.split t u) : p.length ≤ t.length := by
  have m : TL.tl p ∈ TL.spl [s] 0 [] (TL.tl t) := by rw [← split1 h]; exact List.mem_map.mpr ⟨p, hp, rfl⟩
  have := spl1_len _ _ _ m
  rw [TL.len_tl, TL.len_tl]
  simpa using this
theorem split_free {u t p : Str} {s : Nat} (h : Sep u s) (hp : p ∈ Txt.split t u) : s ∉ TL.tl p := by
  have m : TL.tl p ∈ TL.spl [s] 0 [] (TL.tl t) := by rw [← split1 h]; exact List.mem_map.mpr ⟨p, hp, rfl⟩
  exact spl1_free _ _ _ (by simp) m
theorem split_ne {u t : Str} {s : Nat} (h : Sep u s) : Txt.split t u ≠ [] := fun z => by
  have := split1 (t := t) h
  rw [z] at this
  exact spl1_ne _ _ this.symm
theorem split_count {u t : Str} {s : Nat} (h : Sep u s) : (Txt.split t u).length ≤ t.length + 1 := by
  have := spl1_count (s := s) (TL.tl t) []
  rw [← split1 h, List.length_map] at this
  rw [TL.len_tl]
  exact this
/-- what is cut, put together again -/
theorem join_split {u t : Str} {s : Nat} (h : Sep u s) : Txt.join u (Txt.split t u) = t := by
  refine TL.ext_tl ?_
  rw [TL.join_eq, TL.tl_join, split1 h, h.e, spl1_join]
  rfl
theorem split_join {u : Str} {s : Nat} {ts : List Str} (h : Sep u s) (ne : ts ≠ []) (f : ∀ t ∈ ts, s ∉ TL.tl t) : Txt.split (Txt.join u ts) u = ts := TL.split_join h.e h.k ne f
theorem tl_mem {u : Str} {s c : Nat} {ts : List Str} (h : Sep u s) : c ∈ TL.tl (Txt.join u ts) → c = s ∨ ∃ t ∈ ts, c ∈ TL.tl t := by
  rw [TL.join_eq, TL.tl_join, h.e]
  induction ts with
  | nil => intro z; cases z
  | cons t ts ih =>
    intro z
    by_cases e : ts = []
    · subst e
      exact .inr ⟨t, List.mem_singleton.mpr rfl, z⟩
    · rw [List.map_cons, joinL_cons (by simpa using e)] at z
      rcases List.mem_append.mp z with z | z
      · exact .inr ⟨t, List.mem_cons_self .., z⟩
      · rcases List.mem_append.mp z with z | z
        · exact .inl (List.mem_singleton.mp z)
        · rcases ih z with z | ⟨t', ht, z⟩
          · exact .inl z
          · exact .inr ⟨t', List.mem_cons_of_mem _ ht, z⟩
theorem join_len {u : Str} {s : Nat} {ts : List Str} (h : Sep u s) {B : Nat} (hb : ∀ t ∈ ts, t.length ≤ B) : (Txt.join u ts).length ≤ ts.length * (B + 1) := by
  rw [TL.len_tl, TL.join_eq, TL.tl_join, h.e]
  induction ts with
  | nil => exact Nat.zero_le _
  | cons t ts ih =>
    have tb := hb t (List.mem_cons_self ..)
    rw [TL.len_tl] at tb
    by_cases e : ts = []
    · subst e
      show (TL.tl t).length ≤ 1 * (B + 1)
      omega
    · have ih := ih fun x hx => hb x (List.mem_cons_of_mem _ hx)
      rw [List.map_cons, joinL_cons (by simpa using e), List.length_append, List.length_append, List.length_singleton, List.length_cons, Nat.succ_mul]
      omega

def slash : Str := Str.ofString "/"
def blank : Str := Str.ofString " "
theorem sepSlash : Sep slash 47 := ⟨by decide +kernel, by decide +kernel⟩
theorem sepBlank : Sep blank 32 := ⟨by decide +kernel, by decide +kernel⟩

/-! ### numbers written -/
theorem num_strI {n : Nat} (h : n < 1000000000) : numIn (strI (n : Int)) = some n := numIn_some.mpr ⟨h, rfl⟩
theorem nums_strI : ∀ {ns : List Nat}, (∀ n ∈ ns, n < 1000000000) → numsIn (ns.map fun (n : Nat) => strI (n : Int)) = some ns
  | [], _ => rfl
  | n :: ns, h => by
    rw [List.map_cons, nums_cons, num_strI (h n (List.mem_cons_self ..)), Option.bind_some, nums_strI fun m hm => h m (List.mem_cons_of_mem _ hm)]
    rfl
theorem strs_map {α : Type} {f : α → Str} (xs : List α) : asStrs (xs.map fun x => D.str (f x)) = some (xs.map f) := by
  induction xs with
  | nil => rfl
  | cons x xs ih =>
    show (asStrs (xs.map fun x => D.str (f x))).map (f x :: ·) = _
    rw [ih]
    rfl
theorem sum_len {α : Type} {f : α → Str} {B : Nat} : ∀ {xs : List α}, (∀ x ∈ xs, (f x).length ≤ B) → ((xs.map f).map (·.length)).sum ≤ xs.length * B
  | [], _ => Nat.zero_le _
  | x :: xs, h => by
    have a := h x (List.mem_cons_self ..)
    have b := sum_len fun y hy => h y (List.mem_cons_of_mem x hy)
    rw [List.map_cons, List.map_cons, List.sum_cons, List.length_cons, Nat.succ_mul]
    omega
theorem num_len {n : Nat} (h : n < 1000000000) : (strI (n : Int)).length ≤ 9 := by
  rw [len_strI]
  exact TL.numL_len (by decide) h
theorem num_log {n : Nat} (h : n < 1000000000) : ((n : Int)).natAbs.log2 < 1920 := by
  rw [Int.natAbs_natCast]
  rcases Nat.eq_zero_or_pos n with e | e
  · rw [e]; decide
  · rw [Nat.log2_lt (by omega)]
    exact Nat.lt_of_lt_of_le h (by decide +kernel)
theorem q_str {i : Int} {S : Sto} {Q : QK} : wBlt .str [.int i] S Q = (i.natAbs.log2 < 1920 ∧ Q (.str (strI i)) S) := rfl

/-! ### towns as texts -/
def townW : Str := Str.ofString "town"
def clockT (c : Int × Int) : Str := strI c.1 ++ slash ++ strI c.2
def townT (cs : List (Int × Int)) : Str := Txt.join blank (townW :: cs.map clockT)
theorem strI_dig {i : Int} (h : 0 ≤ i) {c : Nat} (hc : c ∈ TL.tl (strI i)) : 48 ≤ c ∧ c ≤ 57 := by
  obtain ⟨n, rfl⟩ : ∃ n : Nat, i = n := ⟨i.toNat, by omega⟩
  rw [tl_strI] at hc
  exact TL.numL_digits n c hc
theorem strI_len9 {i : Int} (h : 0 ≤ i) (h2 : i < 1000000000) : (strI i).length ≤ 9 := by
  obtain ⟨n, rfl⟩ : ∃ n : Nat, i = n := ⟨i.toNat, by omega⟩
  exact num_len (by omega)
theorem strI_log {i : Int} (h : 0 ≤ i) (h2 : i < 1000000000) : i.natAbs.log2 < 1920 := by
  obtain ⟨n, rfl⟩ : ∃ n : Nat, i = n := ⟨i.toNat, by omega⟩
  exact num_log (by omega)
theorem nums_strZ {zs : List Int} (h : ∀ z ∈ zs, 0 ≤ z ∧ z < 1000000000) : onsD (numsIn (zs.map strI)) = .tup (zs.map .int) := by
  obtain ⟨ns, rfl⟩ : ∃ ns : List Nat, zs = ns.map fun (n : Nat) => (n : Int) := ⟨zs.map Int.toNat, by
    rw [List.map_map]
    refine (List.map_id zs).symm.trans (List.map_congr_left fun z hz => ?_)
    show z = ((z.toNat : Nat) : Int)
    have := h z hz
    omega⟩
  rw [List.map_map, List.map_map]
  have := nums_strI (ns := ns) fun n hn => by
    have := h (n : Int) (List.mem_map.mpr ⟨n, hn, rfl⟩)
    omega
  rw [show (ns.map (strI ∘ fun (n : Nat) => (n : Int))) = ns.map fun (n : Nat) => strI (n : Int) from rfl, this]
  rfl
theorem tl_townW : TL.tl townW = [116, 111, 119, 110] := by decide +kernel
theorem clock_join (c : Int × Int) : clockT c = Txt.join slash [strI c.1, strI c.2] := by
  refine TL.ext_tl ?_
  rw [TL.join_eq, TL.tl_join]
  unfold clockT
  rw [TL.tl_append, TL.tl_append, List.append_assoc]
  rfl
theorem clock_chars {c : Int × Int} (h1 : 0 ≤ c.1) (h2 : 0 ≤ c.2) {x : Nat} (hx : x ∈ TL.tl (clockT c)) : 47 ≤ x ∧ x ≤ 57 := by
  rw [clock_join] at hx
  rcases tl_mem sepSlash hx with rfl | ⟨t, ht, hc⟩
  · decide
  · simp only [List.mem_cons, List.not_mem_nil, or_false] at ht
    rcases ht with rfl | rfl
    · have := strI_dig h1 hc; omega
    · have := strI_dig h2 hc; omega
theorem clock_split {c : Int × Int} (h1 : 0 ≤ c.1) (h2 : 0 ≤ c.2) : Txt.split (clockT c) slash = [strI c.1, strI c.2] := by
  rw [clock_join, split_join sepSlash (by simp) fun t ht hc => ?_]
  simp only [List.mem_cons, List.not_mem_nil, or_false] at ht
  rcases ht with rfl | rfl
  · have := strI_dig h1 hc; omega
  · have := strI_dig h2 hc; omega
theorem clock_len {c : Int × Int} (h : ClockOk c) : (clockT c).length ≤ 19 := by
  obtain ⟨a, b, d, e⟩ := h
  have l1 := strI_len9 (i := c.1) (by omega) (by omega)
  have l2 := strI_len9 (i := c.2) (by omega) (by omega)
  rw [TL.len_tl] at *
  unfold clockT
  rw [TL.tl_append, TL.tl_append, List.length_append, List.length_append, show (TL.tl slash).length = 1 by decide +kernel]
  omega
theorem town_words {cs : List (Int × Int)} (h : ∀ c ∈ cs, ClockOk c) : ∀ s ∈ (townW :: cs.map clockT), s.length ≤ 19 ∧ ∀ x ∈ TL.tl s, 47 ≤ x := by
  intro s hs
  rcases List.mem_cons.mp hs with rfl | hs
  · exact ⟨by decide +kernel, by rw [tl_townW]; decide⟩
  · obtain ⟨c, hc, rfl⟩ := List.mem_map.mp hs
    have ok := h c hc
    exact ⟨clock_len ok, fun x hx => (clock_chars (by have := ok.1; omega) ok.2.2.1 hx).1⟩
theorem town_split {cs : List (Int × Int)} (h : ∀ c ∈ cs, ClockOk c) : Txt.split (townT cs) blank = townW :: cs.map clockT :=
  split_join sepBlank (by simp) fun s hs hc => by have := (town_words h s hs).2 _ hc; omega
theorem town_len {cs : List (Int × Int)} (n8 : cs.length ≤ 8) (h : ∀ c ∈ cs, ClockOk c) : (townT cs).length ≤ 180 := by
  have := join_len (B := 19) sepBlank fun s hs => (town_words h s hs).1
  rw [List.length_cons, List.length_map] at this
  unfold townT
  omega

set_option maxHeartbeats 4000000 in
theorem sp_showtown {k : Nat} {cs : List (Int × Int)} {S : Sto} {Q : QK} {EX : EK} (n8 : cs.length ≤ 8) (h : ∀ c ∈ cs, ClockOk c) (q : Q (.str (townT cs)) S) : call PG (k+1) f_show_town [.tup (cs.map wD)] S Q EX := by
  have tw := town_words h
  refine enter ⟨1,3,i_show_town⟩ rfl rfl ?_
  unfold i_show_town
  simp! only []
  refine lcM wD (fun c => .str (clockT c)) trivial (fun _ _ z => z) (fun c hc => ⟨_, rfl, fun R z => ?_⟩) ?_
  · obtain ⟨b1, b2, b3, b4⟩ := h c hc
    have l1 := strI_len9 (i := c.1) (by omega) (by omega)
    have l2 := strI_len9 (i := c.2) (by omega) (by omega)
    have ls : (Str.ofString "/").length = 1 := by decide +kernel
    have l3 : (strI c.1 ++ Str.ofString "/").length = (strI c.1).length + 1 := by rw [TL.len_tl, TL.tl_append, List.length_append, ← TL.len_tl, ← TL.len_tl, ls]
    simp! only [wipeD, wD]
    rw [q_str]
    refine ⟨strI_log (by omega) (by omega), ?_⟩
    simp! only []
    refine ⟨by omega, ?_⟩
    rw [q_str]
    refine ⟨strI_log (by omega) (by omega), ?_⟩
    simp! only []
    exact ⟨by omega, z⟩
  have es : asStrs (D.str (Str.ofString "town") :: List.map (fun c => D.str (clockT c)) cs) = some (townW :: cs.map clockT) := by
    have := strs_map (f := id) (townW :: cs.map clockT)
    rw [List.map_id, List.map_cons, List.map_map] at this
    exact this
  have sl := sum_len (f := id) (B := 19) (xs := townW :: cs.map clockT) fun s hs => (tw s hs).1
  rw [List.map_id, List.length_cons, List.length_map] at sl
  rw [es, q_opt]
  refine ⟨by rw [List.length_map]; omega, ?_, q⟩
  rw [show (Str.ofString " ").length = 1 by decide +kernel, List.length_cons, List.length_map]
  omega

/-! ### texts of great letters -/
open PySem.W.KOpn in
theorem up_app (a b : Str) : Txt.upper (a ++ b) = Txt.upper a ++ Txt.upper b := upper_app a b
open PySem.W.KOpn in
theorem up_one {c : Nat} (h : c < 128) : Txt.upper ⟨#[c]⟩ = ⟨#[if 97 ≤ c ∧ c ≤ 122 then c - 32 else c]⟩ := upper_one h
theorem up_tl : ∀ l : List Nat, (∀ c ∈ l, c < 128) → TL.tl (Txt.upper ⟨l.toArray⟩) = l.map fun c => if 97 ≤ c ∧ c ≤ 122 then c - 32 else c
  | [], _ => by decide +kernel
  | c :: l, h => by
    have e : (⟨(c :: l).toArray⟩ : Str) = ⟨#[c]⟩ ++ ⟨l.toArray⟩ := TL.ext_tl (by rw [TL.tl_append]; rfl)
    rw [e, up_app, TL.tl_append, up_one (h c (List.mem_cons_self ..)), up_tl l fun x hx => h x (List.mem_cons_of_mem _ hx)]
    rfl
theorem ok_small {t : Str} (h : ∀ c ∈ TL.tl t, c < 128) : PyData.strOk t = true := by
  unfold PyData.strOk
  rw [← Array.all_toList, List.all_eq_true]
  intro c hc
  have := h c hc
  simp only [decide_eq_true_eq]
  omega
theorem up_len {t : Str} (h : ∀ c ∈ TL.tl t, c < 128) : (Txt.upper t).length = t.length ∧ PyData.strOk (Txt.upper t) = true := by
  have e := up_tl (TL.tl t) h
  rw [show (⟨(TL.tl t).toArray⟩ : Str) = t from rfl] at e
  refine ⟨by rw [TL.len_tl, e, List.length_map, ← TL.len_tl], ok_small fun c hc => ?_⟩
  rw [e] at hc
  obtain ⟨x, hx, rfl⟩ := List.mem_map.mp hc
  have := h x hx
  split <;> omega

end Z
set_option Elab.async false
set_option linter.all false
set_option maxRecDepth 100000
set_option maxHeartbeats 4000000
namespace Z
open PySem PySem.Spec PyProof.Rows L2
local macro_rules | `(tactic| simp! only [$ls,*]) => `(tactic| try simp only [wSs_nil, wSs_cons, wJoin, s_expr, s_ret, s_retN, s_asg, s_exprX, s_asgX, s_retX, s_rs, r_fn, r_cv, r_mth, excAt_non, exiB_none, s_aug, s_setIx, s_if, s_for, s_while, s_pass, s_brk, s_par, s_par3, s_cont, s_setFld, s_setKey, s_setKey2, s_setIx2, s_setKeyN, s_augIx, s_augKey, wE, wEs, wO, wT, wI, q_asN, q_aoN, q_aoT, q_aoL, q_aoR, q_asT, q_asL, q_asC, q_asE, Option.bind_some, startD, List.map_cons, List.map_nil, List.length_cons, List.length_nil, List.replicate, List.cons_append, List.nil_append, List.getElem?_cons_zero, List.getElem?_cons_succ, List.set_cons_zero, List.set_cons_succ, wCmp, q_var, q_opt, q_dec, q_true, q_false, q_not, q_add, q_sub, q_mul, q_fdiv, q_mod, q_catT, q_catL, q_catRL, q_catLR, q_catRR, q_catS, q_mulT, q_mulL, q_min1, q_max1, q_sorted, q_sortS, q_lset, q_dctP, q_srtD, q_ins, q_insR, wIn, q_augI, q_eqI, q_eqB, q_eqS, q_ngF, q_ngT, q_ordI, q_isBB, q_isNN, q_isIN, q_isTN, q_isLN, q_truB, q_truI, q_wB, q_ix, q_ixc, q_seqT, q_seqW, q_seqL, q_seqK, q_seqR, q_lstL, q_lstR, q_lsrL, q_lsrK, q_lsrR, q_refL, q_at, q_up, q_len, q_abs, q_min, q_max, q_intI, q_intB, q_tuple, q_list, q_all, q_any, q_sum, q_newF, q_newT, q_tyI, q_tyB, q_tyT, q_tyL, q_tyS, q_tyN, isi_nonetype_int, isi_nonetype_bool, isi_nonetype_str, isi_nonetype_tuple, isi_nonetype_list, isi_nonetype_dict, isi_bool_int, isi_bool_bool, isi_bool_str, isi_bool_tuple, isi_bool_list, isi_bool_dict, isi_int_int, isi_int_bool, isi_int_str, isi_int_tuple, isi_int_list, isi_int_dict, isi_str_int, isi_str_bool, isi_str_str, isi_str_tuple, isi_str_list, isi_str_dict, isi_tuple_int, isi_tuple_bool, isi_tuple_str, isi_tuple_tuple, isi_tuple_list, isi_tuple_dict, isi_list_int, isi_list_bool, isi_list_str, isi_list_tuple, isi_list_list, isi_list_dict, isi_dict_int, isi_dict_bool, isi_dict_str, isi_dict_tuple, isi_dict_list, isi_dict_dict, q_app, q_ext, q_pop, q_popR, q_pop0, q_appR, q_extR, q_set, q_slT, q_slL, q_slK, q_ixN, q_fld, q_setFld, q_mth, q_dct, q_inD, q_getD, q_getOr, q_setKey, q_dcw, q_dcwA, q_dpop, q_dcn, q_dnw, q_inN, q_getN, q_getOrN, q_setKeyN, q_dcnA, q_dnwA, q_tab, q_inTab, q_fnV, q_splt, q_intT, q_lenT, q_ixT, q_sgn, q_keyI, q_keyS, q_sortK, q_cat, q_rep, q_cnt, q_getL, q_dctA, q_insA, ok_about, ok_again, ok_newer, ok_others, ok_own, ok_refute, ok_wait, ok_int, ok_ints, ok_nats, any_str, any_nat, any_int, List.length_set, Int.cast_ofNat_Int, Int.reduceToNat, Nat.reduceLT, Int.reduceLE, Int.reduceLT, Int.reduceNeg, true_and, and_true, beq_self_eq_true, Bool.not_true, Bool.not_false, reduceCtorEq, decide_true, decide_false, true_implies, not_true_eq_false, not_false_eq_true, false_implies, ite_true, ite_false, ↓reduceIte, eq_self, Bool.true_or, Bool.or_true, Bool.true_and, Bool.and_true, Nat.zero_add, Nat.reduceAdd, Nat.reduceSub, List.append_nil, $ls,*])
local macro_rules | `(tactic| dsimp! only [$ls,*]) => `(tactic| try simp only [wSs_nil, wJoin, s_expr, s_ret, s_retN, s_asg, s_exprX, s_asgX, s_retX, s_rs, r_fn, r_cv, r_mth, excAt_non, exiB_none, s_aug, s_setIx, s_if, s_for, s_while, s_pass, s_brk, s_par, s_par3, s_cont, s_setFld, s_setKey, s_setKey2, s_setIx2, s_setKeyN, s_augIx, s_augKey, wE, wEs, wO, wT, wI, q_asN, q_aoN, q_aoT, q_aoL, q_aoR, q_asT, q_asL, q_asC, q_asE, Option.bind_some, startD, List.map_cons, List.map_nil, List.length_cons, List.length_nil, List.replicate, List.cons_append, List.nil_append, List.getElem?_cons_zero, List.getElem?_cons_succ, List.set_cons_zero, List.set_cons_succ, wCmp, q_var, q_opt, q_dec, q_true, q_false, q_not, q_add, q_sub, q_mul, q_fdiv, q_mod, q_catT, q_catL, q_catRL, q_catLR, q_catRR, q_catS, q_mulT, q_mulL, q_min1, q_max1, q_sorted, q_sortS, q_lset, q_dctP, q_srtD, q_ins, q_insR, wIn, q_augI, q_eqI, q_eqB, q_eqS, q_ngF, q_ngT, q_ordI, q_isBB, q_isNN, q_isIN, q_isTN, q_isLN, q_truB, q_truI, q_wB, q_ix, q_ixc, q_seqT, q_seqW, q_seqL, q_seqK, q_seqR, q_lstL, q_lstR, q_lsrL, q_lsrK, q_lsrR, q_refL, q_at, q_up, q_len, q_abs, q_min, q_max, q_intI, q_intB, q_tuple, q_list, q_all, q_any, q_sum, q_newF, q_newT, q_tyI, q_tyB, q_tyT, q_tyL, q_tyS, q_tyN, isi_nonetype_int, isi_nonetype_bool, isi_nonetype_str, isi_nonetype_tuple, isi_nonetype_list, isi_nonetype_dict, isi_bool_int, isi_bool_bool, isi_bool_str, isi_bool_tuple, isi_bool_list, isi_bool_dict, isi_int_int, isi_int_bool, isi_int_str, isi_int_tuple, isi_int_list, isi_int_dict, isi_str_int, isi_str_bool, isi_str_str, isi_str_tuple, isi_str_list, isi_str_dict, isi_tuple_int, isi_tuple_bool, isi_tuple_str, isi_tuple_tuple, isi_tuple_list, isi_tuple_dict, isi_list_int, isi_list_bool, isi_list_str, isi_list_tuple, isi_list_list, isi_list_dict, isi_dict_int, isi_dict_bool, isi_dict_str, isi_dict_tuple, isi_dict_list, isi_dict_dict, q_app, q_ext, q_pop, q_popR, q_pop0, q_appR, q_extR, q_set, q_slT, q_slL, q_slK, q_ixN, q_fld, q_setFld, q_mth, q_dct, q_inD, q_getD, q_getOr, q_setKey, q_dcw, q_dcwA, q_dpop, q_dcn, q_dnw, q_inN, q_getN, q_getOrN, q_setKeyN, q_dcnA, q_dnwA, q_tab, q_inTab, q_fnV, q_splt, q_intT, q_lenT, q_ixT, q_sgn, q_keyI, q_keyS, q_sortK, q_cat, q_rep, q_cnt, q_getL, q_dctA, q_insA, ok_about, ok_again, ok_newer, ok_others, ok_own, ok_refute, ok_wait, ok_int, ok_ints, ok_nats, any_str, any_nat, any_int, List.length_set, Int.cast_ofNat_Int, Int.reduceToNat, Nat.reduceLT, Int.reduceLE, Int.reduceLT, Int.reduceNeg, true_and, and_true, beq_self_eq_true, Bool.not_true, Bool.not_false, reduceCtorEq, decide_true, decide_false, true_implies, not_true_eq_false, not_false_eq_true, false_implies, ite_true, ite_false, ↓reduceIte, eq_self, Bool.true_or, Bool.or_true, Bool.true_and, Bool.and_true, Nat.zero_add, Nat.reduceAdd, Nat.reduceSub, List.append_nil, $ls,*])
/-! ### texts and lists that may be compared -/
theorem ok_app {x y : Str} (hx : PyData.strOk x = true) (hy : PyData.strOk y = true) : PyData.strOk (x ++ y) = true := by
  unfold PyData.strOk at *
  show (x.cps ++ y.cps).all _ = true
  rw [Array.all_append, hx, hy]
  rfl
theorem ok_of (s : String) : PyData.strOk (Str.ofString s) = true := by
  unfold PyData.strOk
  rw [Str.ofString_eq_toList]
  simp only [List.all_toArray, List.all_map, List.all_eq_true, Function.comp, decide_eq_true_eq]
  intro c _
  have := c.valid
  unfold Char.toNat
  rcases this with h | h
  · have : c.val.toNat < 0xd800 := h
    omega
  · exact h.2
theorem ok_strI (i : Int) : PyData.strOk (strI i) = true := ok_of _
theorem ok_join {s : Str} (hs : PyData.strOk s = true) : ∀ {ts : List Str}, (∀ t ∈ ts, PyData.strOk t = true) → PyData.strOk (Str.join s ts) = true
  | [], _ => by show PyData.strOk Str.empty = true; decide +kernel
  | [x], h => h x (List.mem_cons_self ..)
  | x :: y :: r, h => ok_app (ok_app (h x (List.mem_cons_self ..)) hs) (ok_join hs fun t ht => h t (List.mem_cons_of_mem _ ht))
theorem txt_join (s : Str) (ts : List Str) : Txt.join s ts = Str.join s ts := StrLaws.glued_eq_join s ts
theorem eq_nil {xs : List D} (h : D.id 1 (.lst xs) = true) : PyData.eqv (D.lst xs).py (D.lst []).py = decide (xs = []) := by
  have q := id_eqv (.lst xs) (.lst []) 1 1 h rfl
  by_cases e : xs = []
  · rw [decide_eq_true e]
    exact q.mpr (by rw [e])
  · rw [decide_eq_false e, Bool.eq_false_iff]
    exact fun z => e (by have := q.mp z; injection this)

/-! ### words of a text, such that may be compared -/
theorem ok_tl {t : Str} : PyData.strOk t = true ↔ ∀ c ∈ TL.tl t, c < 0x110000 := by
  unfold PyData.strOk
  rw [Array.all_eq_true']
  constructor
  · intro h c hc
    exact of_decide_eq_true (h c (Array.mem_toList_iff.mp hc))
  · intro h c hc
    exact decide_eq_true (h c (Array.mem_toList_iff.mpr hc))
theorem spl1_mem {s : Nat} : ∀ (l acc p : List Nat), p ∈ TL.spl [s] 0 acc l → ∀ c ∈ p, c ∈ acc ∨ c ∈ l
  | [], acc, p, h, c, hc => by
    rw [TL.spl_nil] at h
    rw [List.mem_singleton.mp h] at hc
    exact .inl hc
  | x :: r, acc, p, h, c, hc => by
    rw [spl1_cons] at h
    split at h
    · rcases List.mem_cons.mp h with rfl | h
      · exact .inl hc
      · rcases spl1_mem r [] p h c hc with z | z
        · cases z
        · exact .inr (List.mem_cons_of_mem _ z)
    · rcases spl1_mem r (acc ++ [x]) p h c hc with z | z
      · rcases List.mem_append.mp z with z | z
        · exact .inl z
        · rw [List.mem_singleton.mp z]
          exact .inr (List.mem_cons_self ..)
      · exact .inr (List.mem_cons_of_mem _ z)
theorem ok_split {u t p : Str} {s : Nat} (h : Sep u s) (ht : PyData.strOk t = true) (hp : p ∈ Txt.split t u) : PyData.strOk p = true := by
  have m : TL.tl p ∈ TL.spl [s] 0 [] (TL.tl t) := by rw [← split1 h]; exact List.mem_map.mpr ⟨p, hp, rfl⟩
  refine ok_tl.mpr fun c hc => ?_
  rcases spl1_mem _ _ _ m c hc with z | z
  · cases z
  · exact ok_tl.mp ht c z
theorem cut_14 {α : Type} (xs : List α) : cut xs (some 1) (some 5) = (xs.drop 1).take 4 := by
  unfold cut
  rw [show HT.sIx xs.length 0 (some 1) = min 1 xs.length from HT.sIx_nat _ _ 1, show HT.sIx xs.length xs.length (some 5) = min 5 xs.length from HT.sIx_nat _ _ 5]
  cases xs with
  | nil => rfl
  | cons x r =>
    have l : 1 ≤ (x :: r).length := by rw [List.length_cons]; omega
    rw [Nat.min_eq_left l, List.take_eq_take_iff, List.length_drop]
    omega

end Z
set_option Elab.async false
set_option linter.all false
set_option maxRecDepth 100000
set_option maxHeartbeats 4000000
namespace Z
open PySem PySem.Spec PyProof.Rows L2
local macro_rules | `(tactic| simp! only [$ls,*]) => `(tactic| try simp only [wSs_nil, wSs_cons, wJoin, s_expr, s_ret, s_retN, s_asg, s_exprX, s_asgX, s_retX, s_rs, r_fn, r_cv, r_mth, excAt_non, exiB_none, s_aug, s_setIx, s_if, s_for, s_while, s_pass, s_brk, s_par, s_par3, s_cont, s_setFld, s_setKey, s_setKey2, s_setIx2, s_setKeyN, s_augIx, s_augKey, wE, wEs, wO, wT, wI, q_asN, q_aoN, q_aoT, q_aoL, q_aoR, q_asT, q_asL, q_asC, q_asE, Option.bind_some, startD, List.map_cons, List.map_nil, List.length_cons, List.length_nil, List.replicate, List.cons_append, List.nil_append, List.getElem?_cons_zero, List.getElem?_cons_succ, List.set_cons_zero, List.set_cons_succ, wCmp, q_var, q_opt, q_dec, q_true, q_false, q_not, q_add, q_sub, q_mul, q_fdiv, q_mod, q_catT, q_catL, q_catRL, q_catLR, q_catRR, q_catS, q_mulT, q_mulL, q_min1, q_max1, q_sorted, q_sortS, q_lset, q_dctP, q_srtD, q_ins, q_insR, wIn, q_augI, q_eqI, q_eqB, q_eqS, q_ngF, q_ngT, q_ordI, q_isBB, q_isNN, q_isIN, q_isTN, q_isLN, q_truB, q_truI, q_wB, q_ix, q_ixc, q_seqT, q_seqW, q_seqL, q_seqK, q_seqR, q_lstL, q_lstR, q_lsrL, q_lsrK, q_lsrR, q_refL, q_at, q_up, q_len, q_abs, q_min, q_max, q_intI, q_intB, q_tuple, q_list, q_all, q_any, q_sum, q_newF, q_newT, q_tyI, q_tyB, q_tyT, q_tyL, q_tyS, q_tyN, isi_nonetype_int, isi_nonetype_bool, isi_nonetype_str, isi_nonetype_tuple, isi_nonetype_list, isi_nonetype_dict, isi_bool_int, isi_bool_bool, isi_bool_str, isi_bool_tuple, isi_bool_list, isi_bool_dict, isi_int_int, isi_int_bool, isi_int_str, isi_int_tuple, isi_int_list, isi_int_dict, isi_str_int, isi_str_bool, isi_str_str, isi_str_tuple, isi_str_list, isi_str_dict, isi_tuple_int, isi_tuple_bool, isi_tuple_str, isi_tuple_tuple, isi_tuple_list, isi_tuple_dict, isi_list_int, isi_list_bool, isi_list_str, isi_list_tuple, isi_list_list, isi_list_dict, isi_dict_int, isi_dict_bool, isi_dict_str, isi_dict_tuple, isi_dict_list, isi_dict_dict, q_app, q_ext, q_pop, q_popR, q_pop0, q_appR, q_extR, q_set, q_slT, q_slL, q_slK, q_ixN, q_fld, q_setFld, q_mth, q_dct, q_inD, q_getD, q_getOr, q_setKey, q_dcw, q_dcwA, q_dpop, q_dcn, q_dnw, q_inN, q_getN, q_getOrN, q_setKeyN, q_dcnA, q_dnwA, q_tab, q_inTab, q_fnV, q_splt, q_intT, q_lenT, q_ixT, q_sgn, q_keyI, q_keyS, q_sortK, q_cat, q_rep, q_cnt, q_getL, q_dctA, q_insA, ok_about, ok_again, ok_newer, ok_others, ok_own, ok_refute, ok_wait, ok_int, ok_ints, ok_nats, any_str, any_nat, any_int, List.length_set, Int.cast_ofNat_Int, Int.reduceToNat, Nat.reduceLT, Int.reduceLE, Int.reduceLT, Int.reduceNeg, true_and, and_true, beq_self_eq_true, Bool.not_true, Bool.not_false, reduceCtorEq, decide_true, decide_false, true_implies, not_true_eq_false, not_false_eq_true, false_implies, ite_true, ite_false, ↓reduceIte, eq_self, Bool.true_or, Bool.or_true, Bool.true_and, Bool.and_true, Nat.zero_add, Nat.reduceAdd, Nat.reduceSub, List.append_nil, $ls,*])
local macro_rules | `(tactic| dsimp! only [$ls,*]) => `(tactic| try simp only [wSs_nil, wJoin, s_expr, s_ret, s_retN, s_asg, s_exprX, s_asgX, s_retX, s_rs, r_fn, r_cv, r_mth, excAt_non, exiB_none, s_aug, s_setIx, s_if, s_for, s_while, s_pass, s_brk, s_par, s_par3, s_cont, s_setFld, s_setKey, s_setKey2, s_setIx2, s_setKeyN, s_augIx, s_augKey, wE, wEs, wO, wT, wI, q_asN, q_aoN, q_aoT, q_aoL, q_aoR, q_asT, q_asL, q_asC, q_asE, Option.bind_some, startD, List.map_cons, List.map_nil, List.length_cons, List.length_nil, List.replicate, List.cons_append, List.nil_append, List.getElem?_cons_zero, List.getElem?_cons_succ, List.set_cons_zero, List.set_cons_succ, wCmp, q_var, q_opt, q_dec, q_true, q_false, q_not, q_add, q_sub, q_mul, q_fdiv, q_mod, q_catT, q_catL, q_catRL, q_catLR, q_catRR, q_catS, q_mulT, q_mulL, q_min1, q_max1, q_sorted, q_sortS, q_lset, q_dctP, q_srtD, q_ins, q_insR, wIn, q_augI, q_eqI, q_eqB, q_eqS, q_ngF, q_ngT, q_ordI, q_isBB, q_isNN, q_isIN, q_isTN, q_isLN, q_truB, q_truI, q_wB, q_ix, q_ixc, q_seqT, q_seqW, q_seqL, q_seqK, q_seqR, q_lstL, q_lstR, q_lsrL, q_lsrK, q_lsrR, q_refL, q_at, q_up, q_len, q_abs, q_min, q_max, q_intI, q_intB, q_tuple, q_list, q_all, q_any, q_sum, q_newF, q_newT, q_tyI, q_tyB, q_tyT, q_tyL, q_tyS, q_tyN, isi_nonetype_int, isi_nonetype_bool, isi_nonetype_str, isi_nonetype_tuple, isi_nonetype_list, isi_nonetype_dict, isi_bool_int, isi_bool_bool, isi_bool_str, isi_bool_tuple, isi_bool_list, isi_bool_dict, isi_int_int, isi_int_bool, isi_int_str, isi_int_tuple, isi_int_list, isi_int_dict, isi_str_int, isi_str_bool, isi_str_str, isi_str_tuple, isi_str_list, isi_str_dict, isi_tuple_int, isi_tuple_bool, isi_tuple_str, isi_tuple_tuple, isi_tuple_list, isi_tuple_dict, isi_list_int, isi_list_bool, isi_list_str, isi_list_tuple, isi_list_list, isi_list_dict, isi_dict_int, isi_dict_bool, isi_dict_str, isi_dict_tuple, isi_dict_list, isi_dict_dict, q_app, q_ext, q_pop, q_popR, q_pop0, q_appR, q_extR, q_set, q_slT, q_slL, q_slK, q_ixN, q_fld, q_setFld, q_mth, q_dct, q_inD, q_getD, q_getOr, q_setKey, q_dcw, q_dcwA, q_dpop, q_dcn, q_dnw, q_inN, q_getN, q_getOrN, q_setKeyN, q_dcnA, q_dnwA, q_tab, q_inTab, q_fnV, q_splt, q_intT, q_lenT, q_ixT, q_sgn, q_keyI, q_keyS, q_sortK, q_cat, q_rep, q_cnt, q_getL, q_dctA, q_insA, ok_about, ok_again, ok_newer, ok_others, ok_own, ok_refute, ok_wait, ok_int, ok_ints, ok_nats, any_str, any_nat, any_int, List.length_set, Int.cast_ofNat_Int, Int.reduceToNat, Nat.reduceLT, Int.reduceLE, Int.reduceLT, Int.reduceNeg, true_and, and_true, beq_self_eq_true, Bool.not_true, Bool.not_false, reduceCtorEq, decide_true, decide_false, true_implies, not_true_eq_false, not_false_eq_true, false_implies, ite_true, ite_false, ↓reduceIte, eq_self, Bool.true_or, Bool.or_true, Bool.true_and, Bool.and_true, Nat.zero_add, Nat.reduceAdd, Nat.reduceSub, List.append_nil, $ls,*])
theorem strI_injZ {i j : Int} (hi : 0 ≤ i) (hj : 0 ≤ j) (e : strI i = strI j) : i = j := by
  obtain ⟨n, rfl⟩ : ∃ n : Nat, i = n := ⟨i.toNat, by omega⟩
  obtain ⟨m, rfl⟩ : ∃ n : Nat, j = n := ⟨j.toNat, by omega⟩
  rw [strI_inj e]
theorem clock_inj {c d : Int × Int} (hc : ClockOk c) (hd : ClockOk d) (e : clockT c = clockT d) : c = d := by
  obtain ⟨c1, c2, c3, c4⟩ := hc
  obtain ⟨d1, d2, d3, d4⟩ := hd
  have s := clock_split (c := c) (by omega) c3
  rw [e, clock_split (by omega) d3] at s
  injection s with s1 s
  injection s with s2 _
  exact Prod.ext (strI_injZ (by omega) (by omega) s1.symm) (strI_injZ (by omega) (by omega) s2.symm)
open Classical in
/-- the clock that a word tells -/
@[irreducible] noncomputable def clk (w : Str) : Option (Int × Int) := if h : ∃ c, ClockOk c ∧ w = clockT c then some h.choose else none
theorem clk_none {w : Str} : clk w = none ↔ ∀ c, ClockOk c → w ≠ clockT c := by
  unfold clk
  split
  · rename_i h
    refine ⟨fun z => (by cases z), fun z => ?_⟩
    obtain ⟨c, hc, e⟩ := h
    exact absurd e (z c hc)
  · rename_i h
    exact ⟨fun _ c hc e => h ⟨c, hc, e⟩, fun _ => rfl⟩
theorem clk_some {w : Str} {c : Int × Int} : clk w = some c ↔ ClockOk c ∧ w = clockT c := by
  unfold clk
  split
  · rename_i h
    have q := h.choose_spec
    constructor
    · intro z
      injection z with z
      rw [← z]
      exact q
    · rintro ⟨hc, e⟩
      exact congrArg some (clock_inj q.1 hc (q.2.symm.trans e))
  · rename_i h
    exact ⟨fun z => (by cases z), fun ⟨hc, e⟩ => (h ⟨c, hc, e⟩).elim⟩
theorem isC_wD {c : Int × Int} (h : ClockOk c) : isC (wD c) = true := by
  obtain ⟨a, b⟩ := c
  obtain ⟨h1, h2, h3, h4⟩ := h
  simp only at h1 h2 h3 h4
  show ((decide (1 ≤ a) && decide (a ≤ 4)) && (decide (0 ≤ b) && decide (b ≤ a - 1))) = true
  rw [decide_eq_true h1, decide_eq_true h2, decide_eq_true h3, decide_eq_true (by omega)]
  rfl
noncomputable def clkD (w : Str) : D := onsD (numsIn (Txt.split w slash))
theorem clk_read {w : Str} {c : Int × Int} (h : clk w = some c) : clkD w = wD c := by
  obtain ⟨⟨h1, h2, h3, h4⟩, rfl⟩ := clk_some.mp h
  unfold clkD
  rw [clock_split (by omega) h3]
  exact nums_strZ (zs := [c.1, c.2]) fun z hz => by
    simp only [List.mem_cons, List.not_mem_nil, or_false] at hz
    omega
theorem clk_isC {w : Str} : isC (clkD w) = (clk w).isSome := by
  cases h : clk w with
  | some c =>
    rw [clk_read h, isC_wD (clk_some.mp h).1]
    rfl
  | none =>
    show _ = false
    rw [Bool.eq_false_iff]
    intro g
    unfold clkD at g
    cases e : numsIn (Txt.split w slash) with
    | none => rw [e] at g; cases g
    | some ns =>
      rw [e] at g
      have m := nums_map e
      have j := join_split (t := w) sepSlash
      match ns, g, m with
      | [], g, _ => cases g
      | [_], g, _ => cases g
      | _ :: _ :: _ :: _, g, _ => cases g
      | [a, b], g, m =>
        have g : ((decide (1 ≤ (a : Int)) && decide ((a : Int) ≤ 4)) && (decide (0 ≤ (b : Int)) && decide ((b : Int) ≤ (a : Int) - 1))) = true := g
        simp only [Bool.and_eq_true, decide_eq_true_eq] at g
        have l := congrArg List.length m
        rw [List.length_map] at l
        match Txt.split w slash, m, j, l with
        | [x, y], m, j, _ =>
          simp only [List.map_cons, List.map_nil, List.cons.injEq, and_true] at m
          rw [(numIn_some.mp m.1).2, (numIn_some.mp m.2).2] at j
          refine clk_none.mp h ((a : Int), (b : Int)) ⟨g.1.1, g.1.2, g.2.1, by show (b : Int) < (a : Int); omega⟩ ?_
          rw [clock_join]
          exact j.symm
        | [], _, _, l => cases l
        | [_], _, _, l => cases l
        | _ :: _ :: _ :: _, _, _, l => cases l
/-! ### the law's clocks -/
def clkK (P : List (Int × Int)) : List (Key × D) := P.map fun c => (.inr (clockT c), wD c)
theorem clk_put {P : List (Int × Int)} {c : Int × Int} (ho : ∀ d ∈ P, ClockOk d) (hc : ClockOk c) (hn : c ∉ P) : kvPut (clkK P) (.inr (clockT c)) (wD c) = clkK (P ++ [c]) := by
  have no : (clkK P).any (fun p => decide (p.1 = (.inr (clockT c) : Key))) = false := by
    rw [Bool.eq_false_iff]
    intro z
    obtain ⟨p, hp, e⟩ := List.any_eq_true.mp z
    obtain ⟨d, hd, rfl⟩ := List.mem_map.mp hp
    have e := of_decide_eq_true e
    injection e with e
    rw [clock_inj (ho d hd) hc e] at hd
    exact hn hd
  unfold kvPut
  rw [no]
  unfold clkK
  rw [List.map_append]
  rfl
theorem clk_at {c : Int × Int} (hc : ClockOk c) : ∀ {P : List (Int × Int)}, (∀ d ∈ P, ClockOk d) → c ∈ P → kvGet (clkK P) (.inr (clockT c)) = some (wD c)
  | d :: P, ho, m => by
    unfold kvGet clkK
    rw [List.map_cons, List.find?_cons]
    by_cases e : d = c
    · rw [e, decide_eq_true rfl]
      rfl
    · rw [decide_eq_false (fun z => e (by injection z with z; exact clock_inj (ho d (List.mem_cons_self ..)) hc z))]
      exact clk_at hc (fun x hx => ho x (List.mem_cons_of_mem _ hx)) ((List.mem_cons.mp m).resolve_left fun z => e z.symm)
theorem clk_get {P : List (Int × Int)} (hP : ∀ c, c ∈ P ↔ ClockOk c) {w : Str} : kvGet (clkK P) (.inr w) = (clk w).map wD := by
  cases h : clk w with
  | some c =>
    obtain ⟨hc, rfl⟩ := clk_some.mp h
    exact clk_at hc (fun d hd => (hP d).mp hd) ((hP c).mpr hc)
  | none =>
    have no := clk_none.mp h
    unfold kvGet
    rw [List.find?_eq_none.mpr fun p hp z => ?_]
    · rfl
    · obtain ⟨d, hd, rfl⟩ := List.mem_map.mp hp
      have e := of_decide_eq_true z
      injection e with e
      exact no d ((hP d).mp hd) e.symm
end Z
set_option Elab.async false
set_option linter.all false
set_option maxRecDepth 100000
set_option maxHeartbeats 4000000
namespace Z
open PySem PySem.Spec PyProof.Rows L2
local macro_rules | `(tactic| simp! only [$ls,*]) => `(tactic| try simp only [wSs_nil, wSs_cons, wJoin, s_expr, s_ret, s_retN, s_asg, s_exprX, s_asgX, s_retX, s_rs, r_fn, r_cv, r_mth, excAt_non, exiB_none, s_aug, s_setIx, s_if, s_for, s_while, s_pass, s_brk, s_par, s_par3, s_cont, s_setFld, s_setKey, s_setKey2, s_setIx2, s_setKeyN, s_augIx, s_augKey, wE, wEs, wO, wT, wI, q_asN, q_aoN, q_aoT, q_aoL, q_aoR, q_asT, q_asL, q_asC, q_asE, Option.bind_some, startD, List.map_cons, List.map_nil, List.length_cons, List.length_nil, List.replicate, List.cons_append, List.nil_append, List.getElem?_cons_zero, List.getElem?_cons_succ, List.set_cons_zero, List.set_cons_succ, wCmp, q_var, q_opt, q_dec, q_true, q_false, q_not, q_add, q_sub, q_mul, q_fdiv, q_mod, q_catT, q_catL, q_catRL, q_catLR, q_catRR, q_catS, q_mulT, q_mulL, q_min1, q_max1, q_sorted, q_sortS, q_lset, q_dctP, q_srtD, q_ins, q_insR, wIn, q_augI, q_eqI, q_eqB, q_eqS, q_ngF, q_ngT, q_ordI, q_isBB, q_isNN, q_isIN, q_isTN, q_isLN, q_truB, q_truI, q_wB, q_ix, q_ixc, q_seqT, q_seqW, q_seqL, q_seqK, q_seqR, q_lstL, q_lstR, q_lsrL, q_lsrK, q_lsrR, q_refL, q_at, q_up, q_len, q_abs, q_min, q_max, q_intI, q_intB, q_tuple, q_list, q_all, q_any, q_sum, q_newF, q_newT, q_tyI, q_tyB, q_tyT, q_tyL, q_tyS, q_tyN, isi_nonetype_int, isi_nonetype_bool, isi_nonetype_str, isi_nonetype_tuple, isi_nonetype_list, isi_nonetype_dict, isi_bool_int, isi_bool_bool, isi_bool_str, isi_bool_tuple, isi_bool_list, isi_bool_dict, isi_int_int, isi_int_bool, isi_int_str, isi_int_tuple, isi_int_list, isi_int_dict, isi_str_int, isi_str_bool, isi_str_str, isi_str_tuple, isi_str_list, isi_str_dict, isi_tuple_int, isi_tuple_bool, isi_tuple_str, isi_tuple_tuple, isi_tuple_list, isi_tuple_dict, isi_list_int, isi_list_bool, isi_list_str, isi_list_tuple, isi_list_list, isi_list_dict, isi_dict_int, isi_dict_bool, isi_dict_str, isi_dict_tuple, isi_dict_list, isi_dict_dict, q_app, q_ext, q_pop, q_popR, q_pop0, q_appR, q_extR, q_set, q_slT, q_slL, q_slK, q_ixN, q_fld, q_setFld, q_mth, q_dct, q_inD, q_getD, q_getOr, q_setKey, q_dcw, q_dcwA, q_dpop, q_dcn, q_dnw, q_inN, q_getN, q_getOrN, q_setKeyN, q_dcnA, q_dnwA, q_tab, q_inTab, q_fnV, q_splt, q_intT, q_lenT, q_ixT, q_sgn, q_keyI, q_keyS, q_sortK, q_cat, q_rep, q_cnt, q_getL, q_dctA, q_insA, ok_about, ok_again, ok_newer, ok_others, ok_own, ok_refute, ok_wait, ok_int, ok_ints, ok_nats, any_str, any_nat, any_int, List.length_set, Int.cast_ofNat_Int, Int.reduceToNat, Nat.reduceLT, Int.reduceLE, Int.reduceLT, Int.reduceNeg, true_and, and_true, beq_self_eq_true, Bool.not_true, Bool.not_false, reduceCtorEq, decide_true, decide_false, true_implies, not_true_eq_false, not_false_eq_true, false_implies, ite_true, ite_false, ↓reduceIte, eq_self, Bool.true_or, Bool.or_true, Bool.true_and, Bool.and_true, Nat.zero_add, Nat.reduceAdd, Nat.reduceSub, List.append_nil, $ls,*])
local macro_rules | `(tactic| dsimp! only [$ls,*]) => `(tactic| try simp only [wSs_nil, wJoin, s_expr, s_ret, s_retN, s_asg, s_exprX, s_asgX, s_retX, s_rs, r_fn, r_cv, r_mth, excAt_non, exiB_none, s_aug, s_setIx, s_if, s_for, s_while, s_pass, s_brk, s_par, s_par3, s_cont, s_setFld, s_setKey, s_setKey2, s_setIx2, s_setKeyN, s_augIx, s_augKey, wE, wEs, wO, wT, wI, q_asN, q_aoN, q_aoT, q_aoL, q_aoR, q_asT, q_asL, q_asC, q_asE, Option.bind_some, startD, List.map_cons, List.map_nil, List.length_cons, List.length_nil, List.replicate, List.cons_append, List.nil_append, List.getElem?_cons_zero, List.getElem?_cons_succ, List.set_cons_zero, List.set_cons_succ, wCmp, q_var, q_opt, q_dec, q_true, q_false, q_not, q_add, q_sub, q_mul, q_fdiv, q_mod, q_catT, q_catL, q_catRL, q_catLR, q_catRR, q_catS, q_mulT, q_mulL, q_min1, q_max1, q_sorted, q_sortS, q_lset, q_dctP, q_srtD, q_ins, q_insR, wIn, q_augI, q_eqI, q_eqB, q_eqS, q_ngF, q_ngT, q_ordI, q_isBB, q_isNN, q_isIN, q_isTN, q_isLN, q_truB, q_truI, q_wB, q_ix, q_ixc, q_seqT, q_seqW, q_seqL, q_seqK, q_seqR, q_lstL, q_lstR, q_lsrL, q_lsrK, q_lsrR, q_refL, q_at, q_up, q_len, q_abs, q_min, q_max, q_intI, q_intB, q_tuple, q_list, q_all, q_any, q_sum, q_newF, q_newT, q_tyI, q_tyB, q_tyT, q_tyL, q_tyS, q_tyN, isi_nonetype_int, isi_nonetype_bool, isi_nonetype_str, isi_nonetype_tuple, isi_nonetype_list, isi_nonetype_dict, isi_bool_int, isi_bool_bool, isi_bool_str, isi_bool_tuple, isi_bool_list, isi_bool_dict, isi_int_int, isi_int_bool, isi_int_str, isi_int_tuple, isi_int_list, isi_int_dict, isi_str_int, isi_str_bool, isi_str_str, isi_str_tuple, isi_str_list, isi_str_dict, isi_tuple_int, isi_tuple_bool, isi_tuple_str, isi_tuple_tuple, isi_tuple_list, isi_tuple_dict, isi_list_int, isi_list_bool, isi_list_str, isi_list_tuple, isi_list_list, isi_list_dict, isi_dict_int, isi_dict_bool, isi_dict_str, isi_dict_tuple, isi_dict_list, isi_dict_dict, q_app, q_ext, q_pop, q_popR, q_pop0, q_appR, q_extR, q_set, q_slT, q_slL, q_slK, q_ixN, q_fld, q_setFld, q_mth, q_dct, q_inD, q_getD, q_getOr, q_setKey, q_dcw, q_dcwA, q_dpop, q_dcn, q_dnw, q_inN, q_getN, q_getOrN, q_setKeyN, q_dcnA, q_dnwA, q_tab, q_inTab, q_fnV, q_splt, q_intT, q_lenT, q_ixT, q_sgn, q_keyI, q_keyS, q_sortK, q_cat, q_rep, q_cnt, q_getL, q_dctA, q_insA, ok_about, ok_again, ok_newer, ok_others, ok_own, ok_refute, ok_wait, ok_int, ok_ints, ok_nats, any_str, any_nat, any_int, List.length_set, Int.cast_ofNat_Int, Int.reduceToNat, Nat.reduceLT, Int.reduceLE, Int.reduceLT, Int.reduceNeg, true_and, and_true, beq_self_eq_true, Bool.not_true, Bool.not_false, reduceCtorEq, decide_true, decide_false, true_implies, not_true_eq_false, not_false_eq_true, false_implies, ite_true, ite_false, ↓reduceIte, eq_self, Bool.true_or, Bool.or_true, Bool.true_and, Bool.and_true, Nat.zero_add, Nat.reduceAdd, Nat.reduceSub, List.append_nil, $ls,*])
theorem clockT_eq {i j : Int} : strI i ++ Str.ofString "/" ++ strI j = clockT (i, j) := rfl
theorem sp_clocks {k : Nat} {S : Sto} {Q : QK} {EX : EK} (q : ∀ a P, S a = none → (∀ c, c ∈ P ↔ ClockOk c) → Q (.ref a) (supd S a (.dct (clkK P)))) : call PG (k+1) f_law_clocks [] S Q EX := by
  refine enter ⟨0,3,i_law_clocks⟩ rfl rfl ?_
  unfold i_law_clocks
  refine ss_gen fun N1 hN1 => ?_
  dsimp! only []
  intro a ha
  refine hN1 _ _ (ss_gen fun N2 hN2 => ?_)
  clear hN1
  dsimp! only []
  refine ⟨by decide, ?_⟩
  refine for_rg (a := 1) (b := 5) (fun i env S' => ∃ P q1 q2, env = [some (.ref a), q1, q2] ∧ S' = supd S a (.dct (clkK P)) ∧ (P.length : Int) ≤ 10 * i ∧ ∀ c : Int × Int, c ∈ P ↔ (ClockOk c ∧ c.1 < i)) (by decide) ⟨[], _, _, rfl, rfl, by simp, fun c => ⟨fun z => (by cases z), fun ⟨z, z2⟩ => by have := z.1; omega⟩⟩ ?_ ?_
  · rintro i env S' i1 i5 ⟨P, _, _, rfl, rfl, lp, hP⟩
    refine ⟨_, rfl, fun N Bk hN => ?_⟩
    refine ss_cons ?_
    dsimp! only []
    refine ⟨⟨by omega, by omega⟩, ?_⟩
    refine for_rg (a := 0) (b := i) (fun j env S' => ∃ P q2, env = [some (.ref a), some (.int i), q2] ∧ S' = supd S a (.dct (clkK P)) ∧ (P.length : Int) ≤ 10 * i + j ∧ ∀ c : Int × Int, c ∈ P ↔ (ClockOk c ∧ (c.1 < i ∨ (c.1 = i ∧ c.2 < j)))) (by omega) ⟨P, _, rfl, rfl, by omega, fun c => (hP c).trans ⟨fun z => ⟨z.1, .inl z.2⟩, fun z => ⟨z.1, z.2.resolve_right fun w => by have := z.1.2.2.1; omega⟩⟩⟩ ?_ ?_
    · rintro j env S' j0 j1 ⟨P, _, rfl, rfl, lp, hP⟩
      refine ⟨_, rfl, fun M Bk2 hM => ?_⟩
      refine ss_cons ?_
      have ok : ClockOk (i, j) := ⟨i1, by show i ≤ 4; omega, j0, j1⟩
      have li := strI_len9 (i := i) (by omega) (by omega)
      have lj := strI_len9 (i := j) (by omega) (by omega)
      have ls : (Str.ofString "/").length = 1 := by decide +kernel
      have l3 : (strI i ++ Str.ofString "/").length = (strI i).length + 1 := by rw [TL.len_tl, TL.tl_append, List.length_append, ← TL.len_tl, ← TL.len_tl, ls]
      dsimp! only []
      rw [q_str]
      refine ⟨strI_log (by omega) (by omega), ?_⟩
      dsimp! only []
      refine ⟨by omega, ?_⟩
      rw [q_str]
      refine ⟨strI_log (by omega) (by omega), ?_⟩
      dsimp! only []
      refine ⟨by omega, ?_⟩
      have kl : (clkK P).length = P.length := List.length_map ..
      refine ⟨by rw [kl]; omega, hM _ _ ⟨P ++ [(i, j)], _, rfl, ?_, by rw [List.length_append, List.length_singleton]; omega, fun c => ?_⟩⟩
      · rw [clockT_eq, show D.tup [D.int i, D.int j] = wD (i, j) from rfl, clk_put (fun d hd => ((hP d).mp hd).1) ok (fun z => by rcases ((hP _).mp z).2 with z | z <;> simp only at z <;> omega)]
      · rw [List.mem_append, List.mem_singleton, hP]
        constructor
        · rintro (⟨z1, z2⟩ | rfl)
          · exact ⟨z1, z2.imp_right fun z => ⟨z.1, by omega⟩⟩
          · exact ⟨ok, .inr ⟨rfl, by show j < j + 1; omega⟩⟩
        · rintro ⟨z1, z2⟩
          by_cases e : c = (i, j)
          · exact .inr e
          · refine .inl ⟨z1, z2.imp_right fun z => ⟨z.1, ?_⟩⟩
            have : c.2 ≠ j := fun w => e (Prod.ext z.1 w)
            omega
    · rintro env S' ⟨P, _, rfl, rfl, lp, hP⟩
      dsimp! only []
      refine hN _ _ ⟨P, _, _, rfl, rfl, by omega, fun c => (hP c).trans ⟨fun z => ⟨z.1, by rcases z.2 with z | z <;> omega⟩, fun z => ⟨z.1, ?_⟩⟩⟩
      have := z.1.2.2.2
      by_cases e : c.1 < i
      · exact .inl e
      · exact .inr ⟨by omega, by omega⟩
  · rintro env S' ⟨P, _, _, rfl, rfl, lp, hP⟩
    refine hN2 _ _ ?_
    simp! only []
    exact q a P ha fun c => (hP c).trans ⟨fun z => z.1, fun z => ⟨z, by have := z.2.1; omega⟩⟩
end Z
set_option Elab.async false
set_option linter.all false
set_option maxRecDepth 100000
set_option maxHeartbeats 4000000
namespace Z
open PySem PySem.Spec PyProof.Rows L2
local macro_rules | `(tactic| simp! only [$ls,*]) => `(tactic| try simp only [wSs_nil, wSs_cons, wJoin, s_expr, s_ret, s_retN, s_asg, s_exprX, s_asgX, s_retX, s_rs, r_fn, r_cv, r_mth, excAt_non, exiB_none, s_aug, s_setIx, s_if, s_for, s_while, s_pass, s_brk, s_par, s_par3, s_cont, s_setFld, s_setKey, s_setKey2, s_setIx2, s_setKeyN, s_augIx, s_augKey, wE, wEs, wO, wT, wI, q_asN, q_aoN, q_aoT, q_aoL, q_aoR, q_asT, q_asL, q_asC, q_asE, Option.bind_some, startD, List.map_cons, List.map_nil, List.length_cons, List.length_nil, List.replicate, List.cons_append, List.nil_append, List.getElem?_cons_zero, List.getElem?_cons_succ, List.set_cons_zero, List.set_cons_succ, wCmp, q_var, q_opt, q_dec, q_true, q_false, q_not, q_add, q_sub, q_mul, q_fdiv, q_mod, q_catT, q_catL, q_catRL, q_catLR, q_catRR, q_catS, q_mulT, q_mulL, q_min1, q_max1, q_sorted, q_sortS, q_lset, q_dctP, q_srtD, q_ins, q_insR, wIn, q_augI, q_eqI, q_eqB, q_eqS, q_ngF, q_ngT, q_ordI, q_isBB, q_isNN, q_isIN, q_isTN, q_isLN, q_truB, q_truI, q_wB, q_ix, q_ixc, q_seqT, q_seqW, q_seqL, q_seqK, q_seqR, q_lstL, q_lstR, q_lsrL, q_lsrK, q_lsrR, q_refL, q_at, q_up, q_len, q_abs, q_min, q_max, q_intI, q_intB, q_tuple, q_list, q_all, q_any, q_sum, q_newF, q_newT, q_tyI, q_tyB, q_tyT, q_tyL, q_tyS, q_tyN, isi_nonetype_int, isi_nonetype_bool, isi_nonetype_str, isi_nonetype_tuple, isi_nonetype_list, isi_nonetype_dict, isi_bool_int, isi_bool_bool, isi_bool_str, isi_bool_tuple, isi_bool_list, isi_bool_dict, isi_int_int, isi_int_bool, isi_int_str, isi_int_tuple, isi_int_list, isi_int_dict, isi_str_int, isi_str_bool, isi_str_str, isi_str_tuple, isi_str_list, isi_str_dict, isi_tuple_int, isi_tuple_bool, isi_tuple_str, isi_tuple_tuple, isi_tuple_list, isi_tuple_dict, isi_list_int, isi_list_bool, isi_list_str, isi_list_tuple, isi_list_list, isi_list_dict, isi_dict_int, isi_dict_bool, isi_dict_str, isi_dict_tuple, isi_dict_list, isi_dict_dict, q_app, q_ext, q_pop, q_popR, q_pop0, q_appR, q_extR, q_set, q_slT, q_slL, q_slK, q_ixN, q_fld, q_setFld, q_mth, q_dct, q_inD, q_getD, q_getOr, q_setKey, q_dcw, q_dcwA, q_dpop, q_dcn, q_dnw, q_inN, q_getN, q_getOrN, q_setKeyN, q_dcnA, q_dnwA, q_tab, q_inTab, q_fnV, q_splt, q_intT, q_lenT, q_ixT, q_sgn, q_keyI, q_keyS, q_sortK, q_cat, q_rep, q_cnt, q_getL, q_dctA, q_insA, ok_about, ok_again, ok_newer, ok_others, ok_own, ok_refute, ok_wait, ok_int, ok_ints, ok_nats, any_str, any_nat, any_int, List.length_set, Int.cast_ofNat_Int, Int.reduceToNat, Nat.reduceLT, Int.reduceLE, Int.reduceLT, Int.reduceNeg, true_and, and_true, beq_self_eq_true, Bool.not_true, Bool.not_false, reduceCtorEq, decide_true, decide_false, true_implies, not_true_eq_false, not_false_eq_true, false_implies, ite_true, ite_false, ↓reduceIte, eq_self, Bool.true_or, Bool.or_true, Bool.true_and, Bool.and_true, Nat.zero_add, Nat.reduceAdd, Nat.reduceSub, List.append_nil, $ls,*])
local macro_rules | `(tactic| dsimp! only [$ls,*]) => `(tactic| try simp only [wSs_nil, wJoin, s_expr, s_ret, s_retN, s_asg, s_exprX, s_asgX, s_retX, s_rs, r_fn, r_cv, r_mth, excAt_non, exiB_none, s_aug, s_setIx, s_if, s_for, s_while, s_pass, s_brk, s_par, s_par3, s_cont, s_setFld, s_setKey, s_setKey2, s_setIx2, s_setKeyN, s_augIx, s_augKey, wE, wEs, wO, wT, wI, q_asN, q_aoN, q_aoT, q_aoL, q_aoR, q_asT, q_asL, q_asC, q_asE, Option.bind_some, startD, List.map_cons, List.map_nil, List.length_cons, List.length_nil, List.replicate, List.cons_append, List.nil_append, List.getElem?_cons_zero, List.getElem?_cons_succ, List.set_cons_zero, List.set_cons_succ, wCmp, q_var, q_opt, q_dec, q_true, q_false, q_not, q_add, q_sub, q_mul, q_fdiv, q_mod, q_catT, q_catL, q_catRL, q_catLR, q_catRR, q_catS, q_mulT, q_mulL, q_min1, q_max1, q_sorted, q_sortS, q_lset, q_dctP, q_srtD, q_ins, q_insR, wIn, q_augI, q_eqI, q_eqB, q_eqS, q_ngF, q_ngT, q_ordI, q_isBB, q_isNN, q_isIN, q_isTN, q_isLN, q_truB, q_truI, q_wB, q_ix, q_ixc, q_seqT, q_seqW, q_seqL, q_seqK, q_seqR, q_lstL, q_lstR, q_lsrL, q_lsrK, q_lsrR, q_refL, q_at, q_up, q_len, q_abs, q_min, q_max, q_intI, q_intB, q_tuple, q_list, q_all, q_any, q_sum, q_newF, q_newT, q_tyI, q_tyB, q_tyT, q_tyL, q_tyS, q_tyN, isi_nonetype_int, isi_nonetype_bool, isi_nonetype_str, isi_nonetype_tuple, isi_nonetype_list, isi_nonetype_dict, isi_bool_int, isi_bool_bool, isi_bool_str, isi_bool_tuple, isi_bool_list, isi_bool_dict, isi_int_int, isi_int_bool, isi_int_str, isi_int_tuple, isi_int_list, isi_int_dict, isi_str_int, isi_str_bool, isi_str_str, isi_str_tuple, isi_str_list, isi_str_dict, isi_tuple_int, isi_tuple_bool, isi_tuple_str, isi_tuple_tuple, isi_tuple_list, isi_tuple_dict, isi_list_int, isi_list_bool, isi_list_str, isi_list_tuple, isi_list_list, isi_list_dict, isi_dict_int, isi_dict_bool, isi_dict_str, isi_dict_tuple, isi_dict_list, isi_dict_dict, q_app, q_ext, q_pop, q_popR, q_pop0, q_appR, q_extR, q_set, q_slT, q_slL, q_slK, q_ixN, q_fld, q_setFld, q_mth, q_dct, q_inD, q_getD, q_getOr, q_setKey, q_dcw, q_dcwA, q_dpop, q_dcn, q_dnw, q_inN, q_getN, q_getOrN, q_setKeyN, q_dcnA, q_dnwA, q_tab, q_inTab, q_fnV, q_splt, q_intT, q_lenT, q_ixT, q_sgn, q_keyI, q_keyS, q_sortK, q_cat, q_rep, q_cnt, q_getL, q_dctA, q_insA, ok_about, ok_again, ok_newer, ok_others, ok_own, ok_refute, ok_wait, ok_int, ok_ints, ok_nats, any_str, any_nat, any_int, List.length_set, Int.cast_ofNat_Int, Int.reduceToNat, Nat.reduceLT, Int.reduceLE, Int.reduceLT, Int.reduceNeg, true_and, and_true, beq_self_eq_true, Bool.not_true, Bool.not_false, reduceCtorEq, decide_true, decide_false, true_implies, not_true_eq_false, not_false_eq_true, false_implies, ite_true, ite_false, ↓reduceIte, eq_self, Bool.true_or, Bool.or_true, Bool.true_and, Bool.and_true, Nat.zero_add, Nat.reduceAdd, Nat.reduceSub, List.append_nil, $ls,*])
/-- the town that words tell -/
noncomputable def rdT (ws : List Str) : Option (List (Int × Int)) := if ws.head? = some townW ∧ (3 ≤ ws.length ∧ ws.length ≤ 9) ∧ (ws.drop 1).all (fun w => (clk w).isSome) = true then some ((ws.drop 1).filterMap clk) else none
noncomputable def dueD (ws : List Str) : D := match rdT ws with
  | some cs => .tup (cs.map wD)
  | none => .non
theorem rd_head {ws : List Str} (h : ws.head? ≠ some townW) : rdT ws = none := if_neg fun z => h z.1
theorem rd_len {ws : List Str} (h : ¬ (3 ≤ ws.length ∧ ws.length ≤ 9)) : rdT ws = none := if_neg fun z => h z.2.1
theorem rd_all {ws : List Str} (h : (ws.drop 1).all (fun w => (clk w).isSome) = false) : rdT ws = none := if_neg fun z => by rw [h] at z; cases z.2.2
theorem rd_some {ws : List Str} (h0 : ws.head? = some townW) (h1 : 3 ≤ ws.length) (h2 : ws.length ≤ 9) (h : (ws.drop 1).all (fun w => (clk w).isSome) = true) : rdT ws = some ((ws.drop 1).filterMap clk) := if_pos ⟨h0, ⟨h1, h2⟩, h⟩
theorem due_none {ws : List Str} (h : rdT ws = none) : dueD ws = .non := by unfold dueD; rw [h]
theorem due_some {ws : List Str} {cs : List (Int × Int)} (h : rdT ws = some cs) : dueD ws = .tup (cs.map wD) := by unfold dueD; rw [h]
theorem clk_fil : ∀ {ws : List Str}, ws.all (fun w => (clk w).isSome) = true → (ws.filterMap clk).length = ws.length ∧ ws.map clkD = (ws.filterMap clk).map wD ∧ ∀ c ∈ ws.filterMap clk, ClockOk c
  | [], _ => ⟨rfl, rfl, fun c hc => by cases hc⟩
  | w :: ws, h => by
    rw [List.all_cons, Bool.and_eq_true] at h
    obtain ⟨c, hc⟩ := Option.isSome_iff_exists.mp h.1
    obtain ⟨i1, i2, i3⟩ := clk_fil h.2
    rw [List.filterMap_cons_some hc]
    refine ⟨by rw [List.length_cons, List.length_cons, i1], by rw [List.map_cons, List.map_cons, i2, clk_read hc], fun d hd => ?_⟩
    rcases List.mem_cons.mp hd with rfl | hd
    · exact (clk_some.mp hc).1
    · exact i3 d hd
theorem rd_shape {ws : List Str} {cs : List (Int × Int)} (h : rdT ws = some cs) : 2 ≤ cs.length ∧ cs.length ≤ 8 ∧ ∀ c ∈ cs, ClockOk c := by
  unfold rdT at h
  split at h
  · rename_i g
    injection h with h
    obtain ⟨i1, i2, i3⟩ := clk_fil g.2.2
    rw [List.length_drop] at i1
    rw [h] at i1 i3
    have := g.2.1
    exact ⟨by omega, by omega, i3⟩
  · cases h
theorem kn_onsD {S : Sto} {o : Option (List Nat)} : kn S (onsD o) := by
  cases o with
  | none => trivial
  | some ns =>
    refine kns_iff.mpr fun x hx => ?_
    obtain ⟨n, _, rfl⟩ := List.mem_map.mp hx
    trivial
theorem isTw_clk {ws : List Str} : isTw (.tup (ws.map clkD)) = ((decide (2 ≤ ws.length) && decide (ws.length ≤ 8)) && ws.all fun w => (clk w).isSome) := by
  show ((decide (2 ≤ (ws.map clkD).length) && decide ((ws.map clkD).length ≤ 8)) && (ws.map clkD).all isC) = _
  rw [List.length_map, List.all_map]
  congr 1
  exact congrArg ws.all (funext fun w => clk_isC)
theorem head_of {ws : List Str} (nw : ws ≠ []) : ∃ w0, ws.head? = some w0 ∧ (ws.map D.str)[0]? = some (.str w0) := by
  cases ws with
  | nil => exact absurd rfl nw
  | cons w0 r => exact ⟨w0, rfl, rfl⟩
set_option maxHeartbeats 8000000 in
theorem sp_readT {k : Nat} {z : Str} {S : Sto} {Q : QK} {EX : EK} (hl : z.length ≤ 900) (q1 : ∀ cs, rdT (Txt.split z blank) = some cs → Q (.tup (cs.map wD)) S) (q0 : rdT (Txt.split z blank) = none → EX (Str.ofString "NoText") .non S) : call PG (k+5) f_read_town [.str z] S Q EX := by
  have lw : ∀ p ∈ Txt.split z blank, p.length ≤ 900 := fun p hp => by have := split_len sepBlank hp; omega
  have cw := split_count (t := z) sepBlank
  have nw := split_ne (t := z) sepBlank
  refine enter ⟨1,4,i_read_town⟩ rfl rfl ?_
  unfold i_read_town
  refine ss_gen fun N1 hN1 => ?_
  refine s_ifg fun X Y hX hY => ?_
  dsimp! only []
  refine hY _ _ (ss_nil (hN1 _ _ (ss_gen fun N2 hN2 => ?_)))
  clear hX hY hN1
  dsimp! only []
  rw [show Str.ofString " " = blank from rfl]
  generalize Txt.split z blank = ws at lw cw nw q1 q0
  refine ⟨⟨sepBlank.ne, by omega⟩, hN2 _ _ (ss_gen fun N3 hN3 => ?_)⟩
  clear hN2
  obtain ⟨w0, eh, h0⟩ := head_of nw
  have cu : cut (ws.map D.str) (some 1) none = (ws.drop 1).map D.str := by rw [cut_drop (by decide), ← List.map_drop]; rfl
  dsimp! only [cu]
  refine lcM D.str clkD trivial (fun _ _ z => z) (fun w hw => ⟨_, rfl, fun R z => ?_⟩) ?_
  · have wl := lw w (List.mem_of_mem_drop hw)
    dsimp! only [wipeD]
    rw [show Str.ofString "/" = slash from rfl]
    refine ⟨⟨sepSlash.ne, by omega⟩, ?_⟩
    exact sp_numbersin (ts := Txt.split w slash) rfl trivial (fun t ht => by have := split_len sepSlash ht; omega) z
  refine hN3 _ _ (ss_gen fun N4 hN4 => ?_)
  clear hN3
  refine s_ifg fun X Y hX hY => ?_
  have bad : rdT ws = none → ∀ e, X e S := fun e en => hX _ _ (by
    simp only [wSs_cons, s_rs]
    exact q0 e)
  generalize ews : ws.map D.str = wd at h0
  simp only [wE, wT, wO, wEs, wCmp, q_var, q_opt, List.getElem?_cons_zero, List.getElem?_cons_succ]
  rw [q_ixc, q_seqL, q_opt, h0, q_opt, q_eqS, q_ngT, q_wB]
  by_cases hw : w0 = townW
  rotate_left
  · rw [decide_eq_false (show ¬ w0 = Str.ofString "town" from hw)]
    exact wIf_t (wIf_t (bad (rd_head fun z => hw (Option.some.inj (eh.symm.trans z))) _))
  rw [decide_eq_true (show w0 = Str.ofString "town" from hw)]
  refine wIf_f ?_
  refine sp_istown (kns_iff.mpr fun x hx => ?_) ?_
  · obtain ⟨w, _, rfl⟩ := List.mem_map.mp hx
    exact kn_onsD
  rw [isTw_clk, q_truB]
  have no : ∀ b : Bool, (b = true → 2 ≤ (ws.drop 1).length ∧ (ws.drop 1).length ≤ 8 ∧ (ws.drop 1).all (fun w => (clk w).isSome) = true) → (b = false → rdT ws = none) → wIf (!b) (X [some (.str z), some (.lst wd), some (.tup (List.map clkD (List.drop 1 ws))), none] S) (Y [some (.str z), some (.lst wd), some (.tup (List.map clkD (List.drop 1 ws))), none] S) := by
    intro b h1 h2
    cases b with
    | false => exact wIf_t (bad (h2 rfl) _)
    | true =>
      obtain ⟨a1, a2, a3⟩ := h1 rfl
      rw [List.length_drop] at a1 a2
      refine wIf_f (hY _ _ (ss_nil (hN4 _ _ ?_)))
      simp only [wSs_cons, wSs_nil, s_ret, wE, q_var, q_opt, List.getElem?_cons_zero, List.getElem?_cons_succ]
      rw [(clk_fil a3).2.1]
      exact q1 _ (rd_some (by rw [eh, hw]) (by omega) (by omega) a3)
  refine no _ (fun z => ?_) fun z => ?_
  · simp only [Bool.and_eq_true, decide_eq_true_eq] at z
    exact ⟨z.1.1, z.1.2, z.2⟩
  · by_cases g : 3 ≤ ws.length ∧ ws.length ≤ 9
    · refine rd_all ?_
      rw [List.length_drop, decide_eq_true (by omega), decide_eq_true (by omega)] at z
      exact z
    · exact rd_len g
set_option maxHeartbeats 8000000 in
theorem sp_ldue {k : Nat} {z : Str} {S : Sto} {Q : QK} {EX : EK} (hl : z.length ≤ 900) (q : ∀ S', Gr S S' → Q (dueD (Txt.split z blank)) S') : call PG (k+2) f_law_due [.str z] S Q EX := by
  have lw : ∀ p ∈ Txt.split z blank, p.length ≤ 900 := fun p hp => by have := split_len sepBlank hp; omega
  have cw := split_count (t := z) sepBlank
  have nw := split_ne (t := z) sepBlank
  refine enter ⟨1,4,i_law_due⟩ rfl rfl ?_
  unfold i_law_due
  refine ss_gen fun N1 hN1 => ?_
  refine s_ifg fun X Y hX hY => ?_
  dsimp! only []
  refine hY _ _ (ss_nil (hN1 _ _ (ss_gen fun N2 hN2 => ?_)))
  clear hX hY hN1
  dsimp! only []
  rw [show Str.ofString " " = blank from rfl]
  generalize Txt.split z blank = ws at lw cw nw q
  refine ⟨⟨sepBlank.ne, by omega⟩, hN2 _ _ (ss_gen fun N3 hN3 => ?_)⟩
  clear hN2
  dsimp! only []
  refine sp_clocks fun a P ha hP => ?_
  refine hN3 _ _ (ss_gen fun N4 hN4 => ?_)
  clear hN3
  obtain ⟨S1, hS1⟩ : ∃ S1, S1 = supd S a (.dct (clkK P)) := ⟨_, rfl⟩
  have ea : dctAt S1 a = some (clkK P) := by rw [hS1]; exact dctAt_of supd_same
  have g1 : Gr S S1 := by rw [hS1]; exact Gr.new Gr.refl ha
  rw [← hS1]
  clear hS1
  obtain ⟨w0, eh, h0⟩ := head_of nw
  have cu : cut (ws.map D.str) (some 1) none = (ws.drop 1).map D.str := by rw [cut_drop (by decide), ← List.map_drop]; rfl
  have lm : (ws.map D.str).length = ws.length := List.length_map ..
  generalize ws.map D.str = wd at h0 cu lm
  refine s_ifg fun X Y hX hY => ?_
  have non : rdT ws = none → ∀ e, X e S1 := fun en e => hX _ _ (by
    have q := q S1 g1
    rw [due_none en] at q
    simp only [wSs_cons, s_ret, wE]
    exact q)
  simp only [wE, wT, wO, wEs, wCmp, q_var, q_opt, List.getElem?_cons_zero, List.getElem?_cons_succ]
  rw [q_ixc, q_seqL, q_opt, h0, q_opt, q_eqS, q_ngT, q_wB]
  by_cases hw : w0 = townW
  rotate_left
  · rw [decide_eq_false (show ¬ w0 = Str.ofString "town" from hw)]
    exact wIf_t (wIf_t (non (rd_head fun z => hw (Option.some.inj (eh.symm.trans z))) _))
  rw [decide_eq_true (show w0 = Str.ofString "town" from hw)]
  refine wIf_f ?_
  have sb : ∀ xs : List D, seqD (D.lst xs) S1 = some xs := fun _ => rfl
  by_cases l : 3 ≤ ws.length ∧ ws.length ≤ 9
  rotate_left
  · have nn := non (rd_len l)
    rw [q_len, sb, q_opt, lm, q_ordI, q_wB]
    by_cases l3 : 3 ≤ ws.length
    · refine wIf_yes (by omega) ?_
      rw [q_ordI, q_wB, decide_eq_false (show ¬ ((ws.length : Nat) : Int) ≤ 9 by omega)]
      exact wIf_t (wIf_t (nn _))
    · exact wIf_no (by omega) (wIf_t (wIf_t (nn _)))
  rw [q_len, sb, q_opt, lm, q_ordI, q_wB]
  refine wIf_yes (by omega) ?_
  rw [q_ordI, q_wB, decide_eq_true (show ((ws.length : Nat) : Int) ≤ 9 by omega)]
  refine wIf_f ?_
  simp only [wI, wE, wO, q_var, q_opt, List.getElem?_cons_zero, List.getElem?_cons_succ, q_slL, cu, newL, sb]
  refine lcM D.str (fun w => D.bl (clk w).isSome) trivial (fun _ _ z => z) (fun w hw => ⟨_, rfl, fun R z => ?_⟩) ?_
  · simp only [wipeD, List.set_cons_zero, List.set_cons_succ, List.length_cons, List.length_nil, q_var, q_opt, List.getElem?_cons_zero, List.getElem?_cons_succ]
    rw [q_inD, q_dct, ea, q_opt, show keyD (.str w) = some (.inr w) from rfl, q_opt, clk_get hP]
    simp only [Option.isSome_map]
    exact z
  rw [show ((ws.drop 1).map fun w => D.bl (clk w).isSome) = ((ws.drop 1).map fun w => (clk w).isSome).map .bl by rw [List.map_map]; rfl]
  rw [q_all, lstD, q_opt, asBools_map, q_opt, q_truB, List.all_map]
  cases al : (ws.drop 1).all (id ∘ fun w => (clk w).isSome) with
  | false => exact wIf_t (non (rd_all al) _)
  | true =>
    have er := rd_some (by rw [eh, hw]) l.1 l.2 al
    refine wIf_f (hY _ _ (ss_nil (hN4 _ _ ?_)))
    clear hX hY hN4 non
    have q := q S1 g1
    rw [due_some er] at q
    simp only [wSs_cons, wSs_nil, s_ret, wI, wE, wEs, wT, wO, q_var, q_opt, List.getElem?_cons_zero, List.getElem?_cons_succ, q_slL, cu, newL, sb]
    refine lcM D.str (fun w => wD ((clk w).getD (0, 0))) trivial (fun _ _ z => z) (fun w hw => ⟨_, rfl, fun R z => ?_⟩) ?_
    · simp only [wipeD, List.set_cons_zero, List.set_cons_succ, List.length_cons, List.length_nil, q_var, q_opt, List.getElem?_cons_zero, List.getElem?_cons_succ]
      have is := List.all_eq_true.mp al w hw
      obtain ⟨c, hc⟩ := Option.isSome_iff_exists.mp is
      rw [q_getD, q_dct, ea, q_opt, show keyD (.str w) = some (.inr w) from rfl, q_opt, clk_get hP, hc, Option.map_some, q_opt]
      rw [hc] at z
      exact z
    · rw [q_tuple, sb, q_opt]
      rw [show ((ws.drop 1).map fun w => wD ((clk w).getD (0, 0))) = ((ws.drop 1).filterMap clk).map wD from ?_]
      · exact q
      · rw [← (clk_fil al).2.1]
        refine List.map_congr_left fun w hw => ?_
        obtain ⟨c, hc⟩ := Option.isSome_iff_exists.mp (List.all_eq_true.mp al w hw)
        rw [hc, clk_read hc]
        rfl
end Z
set_option Elab.async false
set_option linter.all false
set_option maxRecDepth 100000
set_option maxHeartbeats 4000000
namespace Z
open PySem PySem.Spec PyProof.Rows L2
local macro_rules | `(tactic| simp! only [$ls,*]) => `(tactic| try simp only [wSs_nil, wSs_cons, wJoin, s_expr, s_ret, s_retN, s_asg, s_exprX, s_asgX, s_retX, s_rs, r_fn, r_cv, r_mth, excAt_non, exiB_none, s_aug, s_setIx, s_if, s_for, s_while, s_pass, s_brk, s_par, s_par3, s_cont, s_setFld, s_setKey, s_setKey2, s_setIx2, s_setKeyN, s_augIx, s_augKey, wE, wEs, wO, wT, wI, q_asN, q_aoN, q_aoT, q_aoL, q_aoR, q_asT, q_asL, q_asC, q_asE, Option.bind_some, startD, List.map_cons, List.map_nil, List.length_cons, List.length_nil, List.replicate, List.cons_append, List.nil_append, List.getElem?_cons_zero, List.getElem?_cons_succ, List.set_cons_zero, List.set_cons_succ, wCmp, q_var, q_opt, q_dec, q_true, q_false, q_not, q_add, q_sub, q_mul, q_fdiv, q_mod, q_catT, q_catL, q_catRL, q_catLR, q_catRR, q_catS, q_mulT, q_mulL, q_min1, q_max1, q_sorted, q_sortS, q_lset, q_dctP, q_srtD, q_ins, q_insR, wIn, q_augI, q_eqI, q_eqB, q_eqS, q_ngF, q_ngT, q_ordI, q_isBB, q_isNN, q_isIN, q_isTN, q_isLN, q_truB, q_truI, q_wB, q_ix, q_ixc, q_seqT, q_seqW, q_seqL, q_seqK, q_seqR, q_lstL, q_lstR, q_lsrL, q_lsrK, q_lsrR, q_refL, q_at, q_up, q_len, q_abs, q_min, q_max, q_intI, q_intB, q_tuple, q_list, q_all, q_any, q_sum, q_newF, q_newT, q_tyI, q_tyB, q_tyT, q_tyL, q_tyS, q_tyN, isi_nonetype_int, isi_nonetype_bool, isi_nonetype_str, isi_nonetype_tuple, isi_nonetype_list, isi_nonetype_dict, isi_bool_int, isi_bool_bool, isi_bool_str, isi_bool_tuple, isi_bool_list, isi_bool_dict, isi_int_int, isi_int_bool, isi_int_str, isi_int_tuple, isi_int_list, isi_int_dict, isi_str_int, isi_str_bool, isi_str_str, isi_str_tuple, isi_str_list, isi_str_dict, isi_tuple_int, isi_tuple_bool, isi_tuple_str, isi_tuple_tuple, isi_tuple_list, isi_tuple_dict, isi_list_int, isi_list_bool, isi_list_str, isi_list_tuple, isi_list_list, isi_list_dict, isi_dict_int, isi_dict_bool, isi_dict_str, isi_dict_tuple, isi_dict_list, isi_dict_dict, q_app, q_ext, q_pop, q_popR, q_pop0, q_appR, q_extR, q_set, q_slT, q_slL, q_slK, q_ixN, q_fld, q_setFld, q_mth, q_dct, q_inD, q_getD, q_getOr, q_setKey, q_dcw, q_dcwA, q_dpop, q_dcn, q_dnw, q_inN, q_getN, q_getOrN, q_setKeyN, q_dcnA, q_dnwA, q_tab, q_inTab, q_fnV, q_splt, q_intT, q_lenT, q_ixT, q_sgn, q_keyI, q_keyS, q_sortK, q_cat, q_rep, q_cnt, q_getL, q_dctA, q_insA, ok_about, ok_again, ok_newer, ok_others, ok_own, ok_refute, ok_wait, ok_int, ok_ints, ok_nats, any_str, any_nat, any_int, List.length_set, Int.cast_ofNat_Int, Int.reduceToNat, Nat.reduceLT, Int.reduceLE, Int.reduceLT, Int.reduceNeg, true_and, and_true, beq_self_eq_true, Bool.not_true, Bool.not_false, reduceCtorEq, decide_true, decide_false, true_implies, not_true_eq_false, not_false_eq_true, false_implies, ite_true, ite_false, ↓reduceIte, eq_self, Bool.true_or, Bool.or_true, Bool.true_and, Bool.and_true, Nat.zero_add, Nat.reduceAdd, Nat.reduceSub, List.append_nil, $ls,*])
local macro_rules | `(tactic| dsimp! only [$ls,*]) => `(tactic| try simp only [wSs_nil, wJoin, s_expr, s_ret, s_retN, s_asg, s_exprX, s_asgX, s_retX, s_rs, r_fn, r_cv, r_mth, excAt_non, exiB_none, s_aug, s_setIx, s_if, s_for, s_while, s_pass, s_brk, s_par, s_par3, s_cont, s_setFld, s_setKey, s_setKey2, s_setIx2, s_setKeyN, s_augIx, s_augKey, wE, wEs, wO, wT, wI, q_asN, q_aoN, q_aoT, q_aoL, q_aoR, q_asT, q_asL, q_asC, q_asE, Option.bind_some, startD, List.map_cons, List.map_nil, List.length_cons, List.length_nil, List.replicate, List.cons_append, List.nil_append, List.getElem?_cons_zero, List.getElem?_cons_succ, List.set_cons_zero, List.set_cons_succ, wCmp, q_var, q_opt, q_dec, q_true, q_false, q_not, q_add, q_sub, q_mul, q_fdiv, q_mod, q_catT, q_catL, q_catRL, q_catLR, q_catRR, q_catS, q_mulT, q_mulL, q_min1, q_max1, q_sorted, q_sortS, q_lset, q_dctP, q_srtD, q_ins, q_insR, wIn, q_augI, q_eqI, q_eqB, q_eqS, q_ngF, q_ngT, q_ordI, q_isBB, q_isNN, q_isIN, q_isTN, q_isLN, q_truB, q_truI, q_wB, q_ix, q_ixc, q_seqT, q_seqW, q_seqL, q_seqK, q_seqR, q_lstL, q_lstR, q_lsrL, q_lsrK, q_lsrR, q_refL, q_at, q_up, q_len, q_abs, q_min, q_max, q_intI, q_intB, q_tuple, q_list, q_all, q_any, q_sum, q_newF, q_newT, q_tyI, q_tyB, q_tyT, q_tyL, q_tyS, q_tyN, isi_nonetype_int, isi_nonetype_bool, isi_nonetype_str, isi_nonetype_tuple, isi_nonetype_list, isi_nonetype_dict, isi_bool_int, isi_bool_bool, isi_bool_str, isi_bool_tuple, isi_bool_list, isi_bool_dict, isi_int_int, isi_int_bool, isi_int_str, isi_int_tuple, isi_int_list, isi_int_dict, isi_str_int, isi_str_bool, isi_str_str, isi_str_tuple, isi_str_list, isi_str_dict, isi_tuple_int, isi_tuple_bool, isi_tuple_str, isi_tuple_tuple, isi_tuple_list, isi_tuple_dict, isi_list_int, isi_list_bool, isi_list_str, isi_list_tuple, isi_list_list, isi_list_dict, isi_dict_int, isi_dict_bool, isi_dict_str, isi_dict_tuple, isi_dict_list, isi_dict_dict, q_app, q_ext, q_pop, q_popR, q_pop0, q_appR, q_extR, q_set, q_slT, q_slL, q_slK, q_ixN, q_fld, q_setFld, q_mth, q_dct, q_inD, q_getD, q_getOr, q_setKey, q_dcw, q_dcwA, q_dpop, q_dcn, q_dnw, q_inN, q_getN, q_getOrN, q_setKeyN, q_dcnA, q_dnwA, q_tab, q_inTab, q_fnV, q_splt, q_intT, q_lenT, q_ixT, q_sgn, q_keyI, q_keyS, q_sortK, q_cat, q_rep, q_cnt, q_getL, q_dctA, q_insA, ok_about, ok_again, ok_newer, ok_others, ok_own, ok_refute, ok_wait, ok_int, ok_ints, ok_nats, any_str, any_nat, any_int, List.length_set, Int.cast_ofNat_Int, Int.reduceToNat, Nat.reduceLT, Int.reduceLE, Int.reduceLT, Int.reduceNeg, true_and, and_true, beq_self_eq_true, Bool.not_true, Bool.not_false, reduceCtorEq, decide_true, decide_false, true_implies, not_true_eq_false, not_false_eq_true, false_implies, ite_true, ite_false, ↓reduceIte, eq_self, Bool.true_or, Bool.or_true, Bool.true_and, Bool.and_true, Nat.zero_add, Nat.reduceAdd, Nat.reduceSub, List.append_nil, $ls,*])
def bad14 : List Str := [Str.ofString "", Str.ofString "1/0", Str.ofString "4/3", Str.ofString "2/2", Str.ofString "5/0", Str.ofString "0/0", Str.ofString "1", Str.ofString "01/0", Str.ofString "1/0/0", Str.ofString "3/-1", Str.ofString "/", Str.ofString "1/", Str.ofString "town", Str.ofString "x/y"]
theorem bad_ok : ∀ w ∈ bad14, w.length ≤ 20 ∧ PyData.strOk w = true := by decide +kernel
theorem cut_mapS {α : Type} {f : α → D} {xs : List α} {lo hi : Option Int} : cut (xs.map f) lo hi = (cut xs lo hi).map f := by
  unfold cut
  rw [List.length_map, List.map_take, List.map_drop]
/-- a row of short words -/
structure Row (n : Nat) (xs : List Str) : Prop where
  len : xs.length ≤ n
  ok : ∀ p ∈ xs, p.length ≤ 20 ∧ PyData.strOk p = true
theorem Row.cut {n : Nat} {xs : List Str} (h : Row n xs) (lo hi : Option Int) : Row n (cut xs lo hi) := by
  refine ⟨?_, fun p hp => h.ok p (List.mem_of_mem_drop (List.mem_of_mem_take hp))⟩
  unfold Z.cut
  rw [List.length_take, List.length_drop]
  have := h.len
  omega
theorem Row.app {n m : Nat} {xs ys : List Str} (h : Row n xs) (g : Row m ys) : Row (n + m) (xs ++ ys) := by
  refine ⟨?_, fun p hp => (List.mem_append.mp hp).elim (h.ok p) (g.ok p)⟩
  rw [List.length_append]
  have := h.len
  have := g.len
  omega
theorem Row.rev {n : Nat} {xs : List Str} (h : Row n xs) : Row n xs.reverse := ⟨by rw [List.length_reverse]; exact h.len, fun p hp => h.ok p (List.mem_reverse.mp hp)⟩
theorem Row.one {w : Str} (h : w.length ≤ 20 ∧ PyData.strOk w = true) : Row 1 [w] := ⟨Nat.le_refl _, fun p hp => by rw [List.mem_singleton.mp hp]; exact h⟩
theorem Row.le {n m : Nat} {xs : List Str} (h : Row n xs) (l : n ≤ m) : Row m xs := ⟨Nat.le_trans h.len l, h.ok⟩
theorem Row.text {n : Nat} {xs : List Str} (h : Row n xs) : (Txt.join blank xs).length ≤ n * 21 ∧ PyData.strOk (Txt.join blank xs) = true := by
  refine ⟨Nat.le_trans (join_len (B := 20) sepBlank fun s hs => (h.ok s hs).1) (Nat.mul_le_mul_right _ h.len), ?_⟩
  rw [txt_join]
  exact ok_join (ok_of " ") fun t ht => (h.ok t ht).2
def rowD (xs : List Str) : D := .lst (xs.map .str)
set_option maxHeartbeats 16000000 in
theorem sp_spoilt {k : Nat} {b : Addr} {t : Str} {S : Sto} {Q : QK} {EX : EK} (hb : BoxAt S b) (ht : t.length ≤ 200) (hs : ∀ x ∈ TL.tl t, x < 128) (hn : (Txt.split t blank).length ≤ 12) (hw : ∀ p ∈ Txt.split t blank, p.length ≤ 19 ∧ PyData.strOk p = true)
   (q : ∀ z S', Ex b S S' → BoxAt S' b → ((∃ s : Str, z = .str s ∧ s.length ≤ 900 ∧ PyData.strOk s = true) ∨ z = .non ∨ (∃ i, z = .int i) ∨ (∃ xs, z = .lst xs) ∨ ∃ xs, z = .tup xs) → Q z S') : call PG (k+2) f_law_spoilt [.ref b, .str t] S Q EX := by
  have okt := ok_small hs
  have nw := split_ne (t := t) sepBlank
  refine enter ⟨2,8,i_law_spoilt⟩ rfl rfl ?_
  unfold i_law_spoilt
  refine ss_gen fun N1 hN1 => ?_
  dsimp! only []
  rw [show Str.ofString " " = blank from rfl]
  generalize Txt.split t blank = ws at nw hn hw
  have ln : 0 < ws.length := List.length_pos_iff.mpr nw
  refine ⟨⟨sepBlank.ne, by omega⟩, hN1 _ _ (ss_gen fun N2 hN2 => ?_)⟩
  clear hN1
  dsimp! only []
  refine sp_take hb (by rw [List.length_map]; omega) (by rw [List.length_map]; omega) fun at' S1 x1 hb1 r0 r1 => ?_
  rw [List.length_map] at r1
  refine hN2 _ _ (ss_gen fun N3 hN3 => ?_)
  clear hN2
  dsimp! only []
  rw [show [D.str (Str.ofString ""), D.str (Str.ofString "1/0"), D.str (Str.ofString "4/3"), D.str (Str.ofString "2/2"), D.str (Str.ofString "5/0"), D.str (Str.ofString "0/0"), D.str (Str.ofString "1"), D.str (Str.ofString "01/0"), D.str (Str.ofString "1/0/0"), D.str (Str.ofString "3/-1"), D.str (Str.ofString "/"), D.str (Str.ofString "1/"), D.str (Str.ofString "town"), D.str (Str.ofString "x/y")] = bad14.map D.str from rfl]
  refine hN3 _ _ (ss_gen fun N4 hN4 => ?_)
  clear hN3
  dsimp! only []
  refine sp_take hb1 (by decide) (by decide) fun j2 S2 x2 hb2 r2 r3 => ?_
  obtain ⟨wd, mw, _, ew⟩ := at_map (f := D.str) (xs := bad14) r2 (by show j2 < ((14 : Nat) : Int); omega)
  have ow := bad_ok wd mw
  rw [q_ix, show ∀ xs : List D, seqD (D.lst xs) S2 = some xs from fun _ => rfl, q_opt, ew, q_opt]
  refine hN4 _ _ (ss_gen fun N5 hN5 => ?_)
  clear hN4
  have rw12 : Row 12 ws := ⟨hn, fun p hp => ⟨Nat.le_succ_of_le (hw p hp).1, (hw p hp).2⟩⟩
  dsimp! only [cut_mapS]
  have ra := rw12.cut none (some at')
  have rb := rw12.cut (some (at' + 1)) none
  have rc := rw12.cut (some at') none
  generalize cut ws none (some at') = la at ra
  generalize cut ws (some (at' + 1)) none = lb at rb
  generalize cut ws (some at') none = lc at rc
  have la9 := ra.len
  have lb9 := rb.len
  have lc9 := rc.len
  simp only [List.length_append, List.length_map, List.length_cons, List.length_nil]
  refine ⟨by omega, by omega, by omega, by omega, by omega, hN5 _ _ (ss_gen fun N6 hN6 => ?_)⟩
  clear hN5
  rw [show [D.lst (List.map D.str la ++ [D.str wd] ++ List.map D.str lb), D.lst (List.map D.str la ++ List.map D.str lb), D.lst (List.map D.str la ++ [D.str wd] ++ List.map D.str lc)] = [la ++ [wd] ++ lb, la ++ lb, la ++ [wd] ++ lc].map rowD by simp only [List.map_cons, List.map_nil, rowD, List.map_append]]
  have r1' : Row 30 (la ++ [wd] ++ lb) := ((ra.app (Row.one ow)).app rb).le (by decide)
  have r2' : Row 30 (la ++ lb) := (ra.app rb).le (by decide)
  have r3' : Row 30 (la ++ [wd] ++ lc) := ((ra.app (Row.one ow)).app rc).le (by decide)
  generalize la ++ [wd] ++ lb = l1 at r1'
  generalize la ++ lb = l2 at r2'
  generalize la ++ [wd] ++ lc = l3 at r3'
  clear ra rb rc la9 lb9 lc9
  dsimp! only [cut_mapS]
  have rp := rw12.cut none (some 2)
  have rq := rw12.cut (some 1) none
  generalize cut ws none (some 2) = lp at rp
  generalize cut ws (some 1) none = lq at rq
  have lp9 := rp.len
  have lq9 := rq.len
  simp only [List.length_append, List.length_map, List.length_reverse, List.length_cons, List.length_nil]
  refine ⟨by omega, by omega, by omega, by omega, hN6 _ _ (ss_gen fun N7 hN7 => ?_)⟩
  clear hN6
  have re : Row 1 [Str.ofString ""] := Row.one (bad_ok _ (List.mem_cons_self ..))
  obtain ⟨Ls, hLs⟩ : ∃ Ls, Ls = [l1, l2, l3, ws ++ lq, ws.reverse, [Str.ofString ""] ++ ws, ws ++ [Str.ofString ""], lp] := ⟨_, rfl⟩
  rw [show [rowD l1, rowD l2, rowD l3, D.lst (List.map D.str ws ++ List.map D.str lq), D.lst (List.map D.str ws).reverse, D.lst (D.str (Str.ofString "") :: List.map D.str ws), D.lst (List.map D.str ws ++ [D.str (Str.ofString "")]), D.lst (List.map D.str lp)] = Ls.map rowD by rw [hLs]; simp only [List.map_cons, List.map_nil, rowD, List.map_append, List.map_reverse, List.cons_append, List.nil_append]]
  have hL : ∀ l ∈ Ls, Row 30 l := by
    intro l hl
    rw [hLs] at hl
    simp only [List.mem_cons, List.not_mem_nil, or_false] at hl
    rcases hl with rfl | rfl | rfl | rfl | rfl | rfl | rfl | rfl
    · exact r1'
    · exact r2'
    · exact r3'
    · exact (rw12.app rq).le (by decide)
    · exact rw12.rev.le (by decide)
    · exact (re.app rw12).le (by decide)
    · exact (rw12.app re).le (by decide)
    · exact rp.le (by decide)
  have lL : Ls.length = 8 := by rw [hLs]; rfl
  clear hLs r1' r2' r3' re rp rq lp9 lq9
  dsimp! only []
  refine sp_take hb2 (by decide) (by decide) fun j3 S3 x3 hb3 r4 r5 => ?_
  obtain ⟨row, mr, _, er⟩ := at_map (f := rowD) (xs := Ls) r4 (by rw [lL]; omega)
  have gr := hL row mr
  rw [q_ix, show ∀ xs : List D, seqD (D.lst xs) S3 = some xs from fun _ => rfl, q_opt, er, q_opt]
  have es := strs_map (f := id) row
  rw [List.map_id] at es
  have sl := sum_len (f := id) (B := 20) (xs := row) fun s hs => (gr.ok s hs).1
  rw [List.map_id] at sl
  have gl := gr.len
  unfold rowD
  rw [show ∀ xs : List D, seqD (D.lst xs) S3 = some xs from fun _ => rfl, q_opt, show row.map D.str = row.map fun x => D.str (id x) from rfl, es, q_opt, show (Str.ofString " ").length = 1 by decide +kernel]
  refine ⟨by omega, hN7 _ _ ?_⟩
  clear hN7
  rw [show Str.ofString " " = blank from rfl]
  obtain ⟨gt, go⟩ := gr.text
  generalize Txt.join blank row = tx at gt go
  simp! only []
  have ln1 : (Str.ofString "\n").length = 1 := by decide +kernel
  rw [ln1]
  refine ⟨by omega, by omega, ?_⟩
  refine sp_take hb3 (by decide) (by decide) fun j4 S4 x4 hb4 r6 r7 => ?_
  obtain ⟨z, mz, _, ez⟩ := at_some (xs := [D.str tx, D.str tx, D.str tx, D.str tx, D.str (tx ++ Str.ofString "\n"), D.str (Txt.upper t), D.str (Str.ofString ""), D.non, D.tup [D.str t], D.int 7]) r6 (by show j4 < ((10 : Nat) : Int); omega)
  rw [q_ix, show ∀ xs : List D, seqD (D.lst xs) S4 = some xs from fun _ => rfl, q_opt, ez, q_opt]
  refine q z S4 (((x1.trans x2).trans x3).trans x4) hb4 ?_
  have ut := up_len hs
  have u1 := ut.1
  have u2 := ut.2
  clear ez hL hw rw12 er sl es
  simp only [List.mem_cons, List.not_mem_nil, or_false] at mz
  rcases mz with rfl | rfl | rfl | rfl | rfl | rfl | rfl | rfl | rfl | rfl
  · exact .inl ⟨_, rfl, by omega, go⟩
  · exact .inl ⟨_, rfl, by omega, go⟩
  · exact .inl ⟨_, rfl, by omega, go⟩
  · exact .inl ⟨_, rfl, by omega, go⟩
  · exact .inl ⟨_, rfl, by rw [TL.len_tl, TL.tl_append, List.length_append, ← TL.len_tl, ← TL.len_tl, ln1]; omega, ok_app go (ok_of "\n")⟩
  · exact .inl ⟨_, rfl, by omega, u2⟩
  · exact .inl ⟨_, rfl, by decide +kernel, by decide +kernel⟩
  · exact .inr (.inl rfl)
  · exact .inr (.inr (.inr (.inr ⟨_, rfl⟩)))
  · exact .inr (.inr (.inl ⟨_, rfl⟩))
end Z
set_option Elab.async false
set_option linter.all false
set_option maxRecDepth 100000
set_option maxHeartbeats 4000000
namespace Z
open PySem PySem.Spec PyProof.Rows L2
local macro_rules | `(tactic| simp! only [$ls,*]) => `(tactic| try simp only [wSs_nil, wSs_cons, wJoin, s_expr, s_ret, s_retN, s_asg, s_exprX, s_asgX, s_retX, s_rs, r_fn, r_cv, r_mth, excAt_non, exiB_none, s_aug, s_setIx, s_if, s_for, s_while, s_pass, s_brk, s_par, s_par3, s_cont, s_setFld, s_setKey, s_setKey2, s_setIx2, s_setKeyN, s_augIx, s_augKey, wE, wEs, wO, wT, wI, q_asN, q_aoN, q_aoT, q_aoL, q_aoR, q_asT, q_asL, q_asC, q_asE, Option.bind_some, startD, List.map_cons, List.map_nil, List.length_cons, List.length_nil, List.replicate, List.cons_append, List.nil_append, List.getElem?_cons_zero, List.getElem?_cons_succ, List.set_cons_zero, List.set_cons_succ, wCmp, q_var, q_opt, q_dec, q_true, q_false, q_not, q_add, q_sub, q_mul, q_fdiv, q_mod, q_catT, q_catL, q_catRL, q_catLR, q_catRR, q_catS, q_mulT, q_mulL, q_min1, q_max1, q_sorted, q_sortS, q_lset, q_dctP, q_srtD, q_ins, q_insR, wIn, q_augI, q_eqI, q_eqB, q_eqS, q_ngF, q_ngT, q_ordI, q_isBB, q_isNN, q_isIN, q_isTN, q_isLN, q_truB, q_truI, q_wB, q_ix, q_ixc, q_seqT, q_seqW, q_seqL, q_seqK, q_seqR, q_lstL, q_lstR, q_lsrL, q_lsrK, q_lsrR, q_refL, q_at, q_up, q_len, q_abs, q_min, q_max, q_intI, q_intB, q_tuple, q_list, q_all, q_any, q_sum, q_newF, q_newT, q_tyI, q_tyB, q_tyT, q_tyL, q_tyS, q_tyN, isi_nonetype_int, isi_nonetype_bool, isi_nonetype_str, isi_nonetype_tuple, isi_nonetype_list, isi_nonetype_dict, isi_bool_int, isi_bool_bool, isi_bool_str, isi_bool_tuple, isi_bool_list, isi_bool_dict, isi_int_int, isi_int_bool, isi_int_str, isi_int_tuple, isi_int_list, isi_int_dict, isi_str_int, isi_str_bool, isi_str_str, isi_str_tuple, isi_str_list, isi_str_dict, isi_tuple_int, isi_tuple_bool, isi_tuple_str, isi_tuple_tuple, isi_tuple_list, isi_tuple_dict, isi_list_int, isi_list_bool, isi_list_str, isi_list_tuple, isi_list_list, isi_list_dict, isi_dict_int, isi_dict_bool, isi_dict_str, isi_dict_tuple, isi_dict_list, isi_dict_dict, q_app, q_ext, q_pop, q_popR, q_pop0, q_appR, q_extR, q_set, q_slT, q_slL, q_slK, q_ixN, q_fld, q_setFld, q_mth, q_dct, q_inD, q_getD, q_getOr, q_setKey, q_dcw, q_dcwA, q_dpop, q_dcn, q_dnw, q_inN, q_getN, q_getOrN, q_setKeyN, q_dcnA, q_dnwA, q_tab, q_inTab, q_fnV, q_splt, q_intT, q_lenT, q_ixT, q_sgn, q_keyI, q_keyS, q_sortK, q_cat, q_rep, q_cnt, q_getL, q_dctA, q_insA, ok_about, ok_again, ok_newer, ok_others, ok_own, ok_refute, ok_wait, ok_int, ok_ints, ok_nats, any_str, any_nat, any_int, List.length_set, Int.cast_ofNat_Int, Int.reduceToNat, Nat.reduceLT, Int.reduceLE, Int.reduceLT, Int.reduceNeg, true_and, and_true, beq_self_eq_true, Bool.not_true, Bool.not_false, reduceCtorEq, decide_true, decide_false, true_implies, not_true_eq_false, not_false_eq_true, false_implies, ite_true, ite_false, ↓reduceIte, eq_self, Bool.true_or, Bool.or_true, Bool.true_and, Bool.and_true, Nat.zero_add, Nat.reduceAdd, Nat.reduceSub, List.append_nil, $ls,*])
local macro_rules | `(tactic| dsimp! only [$ls,*]) => `(tactic| try simp only [wSs_nil, wJoin, s_expr, s_ret, s_retN, s_asg, s_exprX, s_asgX, s_retX, s_rs, r_fn, r_cv, r_mth, excAt_non, exiB_none, s_aug, s_setIx, s_if, s_for, s_while, s_pass, s_brk, s_par, s_par3, s_cont, s_setFld, s_setKey, s_setKey2, s_setIx2, s_setKeyN, s_augIx, s_augKey, wE, wEs, wO, wT, wI, q_asN, q_aoN, q_aoT, q_aoL, q_aoR, q_asT, q_asL, q_asC, q_asE, Option.bind_some, startD, List.map_cons, List.map_nil, List.length_cons, List.length_nil, List.replicate, List.cons_append, List.nil_append, List.getElem?_cons_zero, List.getElem?_cons_succ, List.set_cons_zero, List.set_cons_succ, wCmp, q_var, q_opt, q_dec, q_true, q_false, q_not, q_add, q_sub, q_mul, q_fdiv, q_mod, q_catT, q_catL, q_catRL, q_catLR, q_catRR, q_catS, q_mulT, q_mulL, q_min1, q_max1, q_sorted, q_sortS, q_lset, q_dctP, q_srtD, q_ins, q_insR, wIn, q_augI, q_eqI, q_eqB, q_eqS, q_ngF, q_ngT, q_ordI, q_isBB, q_isNN, q_isIN, q_isTN, q_isLN, q_truB, q_truI, q_wB, q_ix, q_ixc, q_seqT, q_seqW, q_seqL, q_seqK, q_seqR, q_lstL, q_lstR, q_lsrL, q_lsrK, q_lsrR, q_refL, q_at, q_up, q_len, q_abs, q_min, q_max, q_intI, q_intB, q_tuple, q_list, q_all, q_any, q_sum, q_newF, q_newT, q_tyI, q_tyB, q_tyT, q_tyL, q_tyS, q_tyN, isi_nonetype_int, isi_nonetype_bool, isi_nonetype_str, isi_nonetype_tuple, isi_nonetype_list, isi_nonetype_dict, isi_bool_int, isi_bool_bool, isi_bool_str, isi_bool_tuple, isi_bool_list, isi_bool_dict, isi_int_int, isi_int_bool, isi_int_str, isi_int_tuple, isi_int_list, isi_int_dict, isi_str_int, isi_str_bool, isi_str_str, isi_str_tuple, isi_str_list, isi_str_dict, isi_tuple_int, isi_tuple_bool, isi_tuple_str, isi_tuple_tuple, isi_tuple_list, isi_tuple_dict, isi_list_int, isi_list_bool, isi_list_str, isi_list_tuple, isi_list_list, isi_list_dict, isi_dict_int, isi_dict_bool, isi_dict_str, isi_dict_tuple, isi_dict_list, isi_dict_dict, q_app, q_ext, q_pop, q_popR, q_pop0, q_appR, q_extR, q_set, q_slT, q_slL, q_slK, q_ixN, q_fld, q_setFld, q_mth, q_dct, q_inD, q_getD, q_getOr, q_setKey, q_dcw, q_dcwA, q_dpop, q_dcn, q_dnw, q_inN, q_getN, q_getOrN, q_setKeyN, q_dcnA, q_dnwA, q_tab, q_inTab, q_fnV, q_splt, q_intT, q_lenT, q_ixT, q_sgn, q_keyI, q_keyS, q_sortK, q_cat, q_rep, q_cnt, q_getL, q_dctA, q_insA, ok_about, ok_again, ok_newer, ok_others, ok_own, ok_refute, ok_wait, ok_int, ok_ints, ok_nats, any_str, any_nat, any_int, List.length_set, Int.cast_ofNat_Int, Int.reduceToNat, Nat.reduceLT, Int.reduceLE, Int.reduceLT, Int.reduceNeg, true_and, and_true, beq_self_eq_true, Bool.not_true, Bool.not_false, reduceCtorEq, decide_true, decide_false, true_implies, not_true_eq_false, not_false_eq_true, false_implies, ite_true, ite_false, ↓reduceIte, eq_self, Bool.true_or, Bool.or_true, Bool.true_and, Bool.and_true, Nat.zero_add, Nat.reduceAdd, Nat.reduceSub, List.append_nil, $ls,*])
/-! ### what may be shown -/
def Wt (d : D) (n w : Nat) : Prop := d.pure = true ∧ d.py.showable = true ∧ d.py.depth ≤ n ∧ d.py.shown.length ≤ w
theorem wt_shown {d : D} {n w : Nat} (h : Wt d n w) (hn : n ≤ 60 := by decide) (hw : w ≤ 16777216 := by decide) : d.Shown := ⟨h.1, h.2.1, by have := h.2.2.1; omega, by have := h.2.2.2; omega⟩
theorem wt_mono {d : D} {n w n' w' : Nat} (h : Wt d n w) (hn : n ≤ n' := by decide) (hw : w ≤ w' := by decide) : Wt d n' w' := ⟨h.1, h.2.1, by have := h.2.2.1; omega, by have := h.2.2.2; omega⟩
theorem wt_int {i : Int} (h : i.natAbs < 10 ^ 19) : Wt (.int i) 1 20 := by
  refine ⟨rfl, ?_, by simp [D.py, PyData.depth], ?_⟩
  case refine_2 =>
    have q := int_text_length_le10 (k := 19) (by decide) h
    show (Str.ofString (toString i)).length ≤ 20
    rw [PySem.ofString_length]
    exact q
  simp only [D.py, PyData.showable, decide_eq_true_eq]
  rcases Nat.eq_zero_or_pos i.natAbs with e | e
  · rw [e]; decide
  · rw [Nat.log2_lt (by omega)]
    exact Nat.lt_of_lt_of_le h (by decide +kernel)
theorem wt_ints {n w : Nat} : ∀ xs : List D, (∀ x ∈ xs, Wt x n w) → D.pures xs = true ∧ PyData.showableAll (D.pys xs) = true ∧ PyData.depthAll (D.pys xs) ≤ n ∧ (PyData.shownAll (D.pys xs)).length = xs.length ∧ ((PyData.shownAll (D.pys xs)).map (·.length)).sum ≤ w * xs.length
  | [], _ => ⟨rfl, by simp [D.pys, PyData.showableAll], by simp [D.pys, PyData.depthAll], rfl, by simp [D.pys, PyData.shownAll]⟩
  | x :: xs, h => by
    have a := h x (List.mem_cons_self ..)
    have b := wt_ints xs fun y hy => h y (List.mem_cons_of_mem _ hy)
    refine ⟨?_, ?_, ?_, ?_, ?_⟩
    · show (D.pure x && D.pures xs) = true
      rw [a.1, b.1]; rfl
    · simp only [D.pys, PyData.showableAll, a.2.1, b.2.1, Bool.and_self]
    · simp only [D.pys, PyData.depthAll]
      have := a.2.2.1
      have := b.2.2.1
      omega
    · simp only [D.pys, PyData.shownAll, List.length_cons, b.2.2.2.1]
    · simp only [D.pys, PyData.shownAll, List.map_cons, List.sum_cons, List.length_cons, Nat.mul_add, Nat.mul_one]
      have := a.2.2.2
      have := b.2.2.2.2
      omega
theorem wt_tup {n w m : Nat} {xs : List D} (h : ∀ x ∈ xs, Wt x n w) (hm : xs.length ≤ m) : Wt (.tup xs) (n+1) ((w+2)*m+3) := by
  obtain ⟨a, b, c, d, e⟩ := wt_ints xs h
  refine ⟨a, by simpa [D.py, PyData.showable] using b, by simp only [D.py, PyData.depth]; omega, ?_⟩
  have q : (tupleText (PyData.shownAll (D.pys xs))).length ≤ _ := tupleText_len_le _
  show (tupleText (PyData.shownAll (D.pys xs))).length ≤ _
  rw [d] at q
  have z : (w+2)*xs.length ≤ (w+2)*m := Nat.mul_le_mul_left _ hm
  rw [Nat.add_mul] at z
  omega
theorem wt_lst {n w m : Nat} {xs : List D} (h : ∀ x ∈ xs, Wt x n w) (hm : xs.length ≤ m) : Wt (.lst xs) (n+1) ((w+2)*m+3) := by
  obtain ⟨a, b, c, d, e⟩ := wt_ints xs h
  refine ⟨a, by simpa [D.py, PyData.showable] using b, by simp only [D.py, PyData.depth]; omega, ?_⟩
  have q : (listText (PyData.shownAll (D.pys xs))).length ≤ _ := listText_len_le _
  show (listText (PyData.shownAll (D.pys xs))).length ≤ _
  rw [d] at q
  have z : (w+2)*xs.length ≤ (w+2)*m := Nat.mul_le_mul_left _ hm
  rw [Nat.add_mul] at z
  omega

def NonT (z : D) : Prop := z = .non ∨ (∃ i, z = .int i) ∨ (∃ xs, z = .lst xs) ∨ ∃ xs, z = .tup xs
theorem sp_readno {k : Nat} {z : D} {S : Sto} {Q : QK} {EX : EK} (h : NonT z) (q : EX (Str.ofString "NoText") .non S) : call PG (k+1) f_read_town [z] S Q EX := by
  refine enter ⟨1,4,i_read_town⟩ rfl rfl ?_
  unfold i_read_town
  refine ss_gen fun N1 hN1 => ?_
  clear hN1
  rcases h with rfl | ⟨i, rfl⟩ | ⟨xs, rfl⟩ | ⟨xs, rfl⟩ <;> · simp! only []; exact q
theorem sp_dueno {k : Nat} {z : D} {S : Sto} {Q : QK} {EX : EK} (h : NonT z) (q : Q .non S) : call PG (k+1) f_law_due [z] S Q EX := by
  refine enter ⟨1,4,i_law_due⟩ rfl rfl ?_
  unfold i_law_due
  refine ss_gen fun N1 hN1 => ?_
  clear hN1
  rcases h with rfl | ⟨i, rfl⟩ | ⟨xs, rfl⟩ | ⟨xs, rfl⟩ <;> · simp! only []; exact q
theorem xiNT : exiB [Str.ofString "NoText"] (some (Str.ofString "NoText")) = true := by decide +kernel
theorem xiVE : exiB [Str.ofString "ValueError"] (some (Str.ofString "NoText")) = true := by decide +kernel
theorem xiBL : exiB [Str.ofString "BadDoings", Str.ofString "NoLine"] (some (Str.ofString "NoText")) = false := by decide +kernel
set_option maxHeartbeats 8000000 in
theorem sp_right0 {k : Nat} {z due : D} {S : Sto} {Q : QK} {EX : EK} (hd : ∀ (k : Nat) (Q : QK) (EX : EK), (∀ S', Gr S S' → Q due S') → call PG (k+2) f_law_due [z] S Q EX)
   (hr : (due = .non ∧ ∀ (k : Nat) (S : Sto) (Q : QK) (EX : EK), EX (Str.ofString "NoText") .non S → call PG (k+5) f_read_town [z] S Q EX) ∨ ((∃ xs, due = .tup xs) ∧ due.Shown ∧ ∀ (k : Nat) (S : Sto) (Q : QK) (EX : EK), Q due S → call PG (k+5) f_read_town [z] S Q EX))
   (q : ∀ S', Gr S S' → Q (.bl true) S') : call PG (k+6) f_law_right [z] S Q EX := by
  refine enter ⟨1,5,i_law_right⟩ rfl rfl ?_
  unfold i_law_right
  refine ss_gen fun N1 hN1 => ?_
  dsimp! only []
  refine hd (k+3) _ _ fun S0 g0 => ?_
  refine hN1 _ _ (ss_gen fun N2 hN2 => ?_)
  clear hN1
  dsimp! only []
  refine hN2 _ _ (ss_gen fun N3 hN3 => ?_)
  clear hN2
  rw [s_tryX]
  rcases hr with ⟨rfl, hr⟩ | ⟨⟨xs, rfl⟩, sh, hr⟩
  · simp! only []
    refine hr k _ _ _ ?_
    refine ⟨by decide +kernel, fun a ha => hN3 _ _ ?_⟩
    have hx := excAt_of (S := supd S0 a (.exc (Str.ofString "NoText"))) supd_same (by decide +kernel)
    simp! only [hx, xiNT, xiVE, xiBL]
    exact q _ (Gr.new g0 ha)
  · simp! only []
    refine hr k _ _ _ ?_
    refine hN3 _ _ ?_
    simp! only []
    exact ⟨sh, sh, q _ g0⟩
theorem wt_clock {c : Int × Int} (h : ClockOk c) : Wt (wD c) 2 200 := by
  obtain ⟨h1, h2, h3, h4⟩ := h
  refine wt_mono (wt_tup (n := 1) (w := 20) (m := 2) (fun x hx => ?_) (Nat.le_refl _))
  simp only [List.mem_cons, List.not_mem_nil, or_false] at hx
  rcases hx with rfl | rfl
  · exact wt_int (by omega)
  · exact wt_int (by omega)
theorem wt_town {cs : List (Int × Int)} (n8 : cs.length ≤ 8) (h : ∀ c ∈ cs, ClockOk c) : (D.tup (cs.map wD)).Shown := by
  refine wt_shown (wt_tup (n := 2) (w := 200) (m := 8) (fun x hx => ?_) (by rw [List.length_map]; exact n8))
  obtain ⟨c, hc, rfl⟩ := List.mem_map.mp hx
  exact wt_clock (h c hc)
theorem sp_right {k : Nat} {z : D} {S : Sto} {Q : QK} {EX : EK} (h : (∃ s : Str, z = .str s ∧ s.length ≤ 900 ∧ PyData.strOk s = true) ∨ NonT z)
   (q : ∀ S', Gr S S' → Q (.bl true) S') : call PG (k+6) f_law_right [z] S Q EX := by
  rcases h with ⟨s, rfl, l, ok⟩ | h
  · cases e : rdT (Txt.split s blank) with
    | none =>
      exact sp_right0 (due := .non) (fun k Q EX q => sp_ldue l fun S' g => by rw [due_none e]; exact q S' g) (.inl ⟨rfl, fun k S Q EX q => sp_readT l (fun p ep => by rw [e] at ep; cases ep) fun _ => q⟩) q
    | some cs =>
      obtain ⟨n2, n8, hc⟩ := rd_shape e
      refine sp_right0 (due := .tup (cs.map wD)) (fun k Q EX q => sp_ldue l fun S' g => by rw [due_some e]; exact q S' g) (.inr ⟨⟨_, rfl⟩, wt_town n8 hc, fun k S Q EX q => sp_readT l (fun p ep => ?_) fun en => by rw [e] at en; cases en⟩) q
      rw [e] at ep
      injection ep with ep
      subst ep
      exact q
  · exact sp_right0 (due := .non) (fun k Q EX q => sp_dueno h (q _ Gr.refl)) (.inl ⟨rfl, fun k S Q EX q => sp_readno h q⟩) q
theorem read_townT {cs : List (Int × Int)} (n2 : 2 ≤ cs.length) (n8 : cs.length ≤ 8) (h : ∀ c ∈ cs, ClockOk c) : rdT (Txt.split (townT cs) blank) = some cs := by
  rw [town_split h]
  have e : ∀ cs : List (Int × Int), (∀ c ∈ cs, ClockOk c) → (cs.map clockT).all (fun w => (clk w).isSome) = true ∧ (cs.map clockT).filterMap clk = cs := by
    intro cs
    induction cs with
    | nil => exact fun _ => ⟨rfl, rfl⟩
    | cons c cs ih =>
      intro h
      have hc : clk (clockT c) = some c := clk_some.mpr ⟨h c (List.mem_cons_self ..), rfl⟩
      obtain ⟨i1, i2⟩ := ih fun d hd => h d (List.mem_cons_of_mem _ hd)
      rw [List.map_cons, List.all_cons, List.filterMap_cons_some hc, i1, i2, hc]
      exact ⟨rfl, rfl⟩
  obtain ⟨e1, e2⟩ := e cs h
  have l : (townW :: cs.map clockT).length = cs.length + 1 := by rw [List.length_cons, List.length_map]
  have := rd_some (ws := townW :: cs.map clockT) rfl (by omega) (by omega) e1
  rw [this]
  exact congrArg some e2
theorem town_small {cs : List (Int × Int)} (h : ∀ c ∈ cs, ClockOk c) : ∀ x ∈ TL.tl (townT cs), x < 128 := by
  intro x hx
  rcases tl_mem sepBlank hx with rfl | ⟨s, hs, hc⟩
  · decide
  · rcases List.mem_cons.mp hs with rfl | hs
    · rw [tl_townW] at hc
      simp only [List.mem_cons, List.not_mem_nil, or_false] at hc
      omega
    · obtain ⟨c, hc2, rfl⟩ := List.mem_map.mp hs
      have := clock_chars (by have := (h c hc2).1; omega) (h c hc2).2.2.1 hc
      omega
theorem town_ok {cs : List (Int × Int)} (h : ∀ c ∈ cs, ClockOk c) : ∀ p ∈ Txt.split (townT cs) blank, p.length ≤ 19 ∧ PyData.strOk p = true := fun p hp => by
  have hp2 := hp
  rw [town_split h] at hp2
  exact ⟨(town_words h p hp2).1, ok_split sepBlank (ok_small (town_small h)) hp⟩
end Z
set_option Elab.async false
set_option linter.all false
set_option maxRecDepth 100000
set_option maxHeartbeats 4000000
namespace Z
open PySem PySem.Spec PyProof.Rows L2
local macro_rules | `(tactic| simp! only [$ls,*]) => `(tactic| try simp only [wSs_nil, wSs_cons, wJoin, s_expr, s_ret, s_retN, s_asg, s_exprX, s_asgX, s_retX, s_rs, r_fn, r_cv, r_mth, excAt_non, exiB_none, s_aug, s_setIx, s_if, s_for, s_while, s_pass, s_brk, s_par, s_par3, s_cont, s_setFld, s_setKey, s_setKey2, s_setIx2, s_setKeyN, s_augIx, s_augKey, wE, wEs, wO, wT, wI, q_asN, q_aoN, q_aoT, q_aoL, q_aoR, q_asT, q_asL, q_asC, q_asE, Option.bind_some, startD, List.map_cons, List.map_nil, List.length_cons, List.length_nil, List.replicate, List.cons_append, List.nil_append, List.getElem?_cons_zero, List.getElem?_cons_succ, List.set_cons_zero, List.set_cons_succ, wCmp, q_var, q_opt, q_dec, q_true, q_false, q_not, q_add, q_sub, q_mul, q_fdiv, q_mod, q_catT, q_catL, q_catRL, q_catLR, q_catRR, q_catS, q_mulT, q_mulL, q_min1, q_max1, q_sorted, q_sortS, q_lset, q_dctP, q_srtD, q_ins, q_insR, wIn, q_augI, q_eqI, q_eqB, q_eqS, q_ngF, q_ngT, q_ordI, q_isBB, q_isNN, q_isIN, q_isTN, q_isLN, q_truB, q_truI, q_wB, q_ix, q_ixc, q_seqT, q_seqW, q_seqL, q_seqK, q_seqR, q_lstL, q_lstR, q_lsrL, q_lsrK, q_lsrR, q_refL, q_at, q_up, q_len, q_abs, q_min, q_max, q_intI, q_intB, q_tuple, q_list, q_all, q_any, q_sum, q_newF, q_newT, q_tyI, q_tyB, q_tyT, q_tyL, q_tyS, q_tyN, isi_nonetype_int, isi_nonetype_bool, isi_nonetype_str, isi_nonetype_tuple, isi_nonetype_list, isi_nonetype_dict, isi_bool_int, isi_bool_bool, isi_bool_str, isi_bool_tuple, isi_bool_list, isi_bool_dict, isi_int_int, isi_int_bool, isi_int_str, isi_int_tuple, isi_int_list, isi_int_dict, isi_str_int, isi_str_bool, isi_str_str, isi_str_tuple, isi_str_list, isi_str_dict, isi_tuple_int, isi_tuple_bool, isi_tuple_str, isi_tuple_tuple, isi_tuple_list, isi_tuple_dict, isi_list_int, isi_list_bool, isi_list_str, isi_list_tuple, isi_list_list, isi_list_dict, isi_dict_int, isi_dict_bool, isi_dict_str, isi_dict_tuple, isi_dict_list, isi_dict_dict, q_app, q_ext, q_pop, q_popR, q_pop0, q_appR, q_extR, q_set, q_slT, q_slL, q_slK, q_ixN, q_fld, q_setFld, q_mth, q_dct, q_inD, q_getD, q_getOr, q_setKey, q_dcw, q_dcwA, q_dpop, q_dcn, q_dnw, q_inN, q_getN, q_getOrN, q_setKeyN, q_dcnA, q_dnwA, q_tab, q_inTab, q_fnV, q_splt, q_intT, q_lenT, q_ixT, q_sgn, q_keyI, q_keyS, q_sortK, q_cat, q_rep, q_cnt, q_getL, q_dctA, q_insA, ok_about, ok_again, ok_newer, ok_others, ok_own, ok_refute, ok_wait, ok_int, ok_ints, ok_nats, any_str, any_nat, any_int, List.length_set, Int.cast_ofNat_Int, Int.reduceToNat, Nat.reduceLT, Int.reduceLE, Int.reduceLT, Int.reduceNeg, true_and, and_true, beq_self_eq_true, Bool.not_true, Bool.not_false, reduceCtorEq, decide_true, decide_false, true_implies, not_true_eq_false, not_false_eq_true, false_implies, ite_true, ite_false, ↓reduceIte, eq_self, Bool.true_or, Bool.or_true, Bool.true_and, Bool.and_true, Nat.zero_add, Nat.reduceAdd, Nat.reduceSub, List.append_nil, $ls,*])
local macro_rules | `(tactic| dsimp! only [$ls,*]) => `(tactic| try simp only [wSs_nil, wJoin, s_expr, s_ret, s_retN, s_asg, s_exprX, s_asgX, s_retX, s_rs, r_fn, r_cv, r_mth, excAt_non, exiB_none, s_aug, s_setIx, s_if, s_for, s_while, s_pass, s_brk, s_par, s_par3, s_cont, s_setFld, s_setKey, s_setKey2, s_setIx2, s_setKeyN, s_augIx, s_augKey, wE, wEs, wO, wT, wI, q_asN, q_aoN, q_aoT, q_aoL, q_aoR, q_asT, q_asL, q_asC, q_asE, Option.bind_some, startD, List.map_cons, List.map_nil, List.length_cons, List.length_nil, List.replicate, List.cons_append, List.nil_append, List.getElem?_cons_zero, List.getElem?_cons_succ, List.set_cons_zero, List.set_cons_succ, wCmp, q_var, q_opt, q_dec, q_true, q_false, q_not, q_add, q_sub, q_mul, q_fdiv, q_mod, q_catT, q_catL, q_catRL, q_catLR, q_catRR, q_catS, q_mulT, q_mulL, q_min1, q_max1, q_sorted, q_sortS, q_lset, q_dctP, q_srtD, q_ins, q_insR, wIn, q_augI, q_eqI, q_eqB, q_eqS, q_ngF, q_ngT, q_ordI, q_isBB, q_isNN, q_isIN, q_isTN, q_isLN, q_truB, q_truI, q_wB, q_ix, q_ixc, q_seqT, q_seqW, q_seqL, q_seqK, q_seqR, q_lstL, q_lstR, q_lsrL, q_lsrK, q_lsrR, q_refL, q_at, q_up, q_len, q_abs, q_min, q_max, q_intI, q_intB, q_tuple, q_list, q_all, q_any, q_sum, q_newF, q_newT, q_tyI, q_tyB, q_tyT, q_tyL, q_tyS, q_tyN, isi_nonetype_int, isi_nonetype_bool, isi_nonetype_str, isi_nonetype_tuple, isi_nonetype_list, isi_nonetype_dict, isi_bool_int, isi_bool_bool, isi_bool_str, isi_bool_tuple, isi_bool_list, isi_bool_dict, isi_int_int, isi_int_bool, isi_int_str, isi_int_tuple, isi_int_list, isi_int_dict, isi_str_int, isi_str_bool, isi_str_str, isi_str_tuple, isi_str_list, isi_str_dict, isi_tuple_int, isi_tuple_bool, isi_tuple_str, isi_tuple_tuple, isi_tuple_list, isi_tuple_dict, isi_list_int, isi_list_bool, isi_list_str, isi_list_tuple, isi_list_list, isi_list_dict, isi_dict_int, isi_dict_bool, isi_dict_str, isi_dict_tuple, isi_dict_list, isi_dict_dict, q_app, q_ext, q_pop, q_popR, q_pop0, q_appR, q_extR, q_set, q_slT, q_slL, q_slK, q_ixN, q_fld, q_setFld, q_mth, q_dct, q_inD, q_getD, q_getOr, q_setKey, q_dcw, q_dcwA, q_dpop, q_dcn, q_dnw, q_inN, q_getN, q_getOrN, q_setKeyN, q_dcnA, q_dnwA, q_tab, q_inTab, q_fnV, q_splt, q_intT, q_lenT, q_ixT, q_sgn, q_keyI, q_keyS, q_sortK, q_cat, q_rep, q_cnt, q_getL, q_dctA, q_insA, ok_about, ok_again, ok_newer, ok_others, ok_own, ok_refute, ok_wait, ok_int, ok_ints, ok_nats, any_str, any_nat, any_int, List.length_set, Int.cast_ofNat_Int, Int.reduceToNat, Nat.reduceLT, Int.reduceLE, Int.reduceLT, Int.reduceNeg, true_and, and_true, beq_self_eq_true, Bool.not_true, Bool.not_false, reduceCtorEq, decide_true, decide_false, true_implies, not_true_eq_false, not_false_eq_true, false_implies, ite_true, ite_false, ↓reduceIte, eq_self, Bool.true_or, Bool.or_true, Bool.true_and, Bool.and_true, Nat.zero_add, Nat.reduceAdd, Nat.reduceSub, List.append_nil, $ls,*])
set_option maxHeartbeats 16000000 in
theorem law_D (ns : List Int) (hl : ns.length ≤ 63) : call PG 20 f_law [.lsk (ns.map .int)] (fun _ => none) (fun d _ => d = .bl true) EX0 := by
  refine enter ⟨1,9,i_law⟩ rfl rfl ?_
  unfold i_law
  refine ss_gen fun N0 hN0 => ?_
  dsimp! only []
  refine ⟨⟨by split <;> omega, by split <;> omega⟩, ?_⟩
  refine for_rg0 (fun env _ => ∃ a1 a2 a3 a4 a5 a6 a7 a8, env = [some (.lsk (ns.map .int)), a1, a2, a3, a4, a5, a6, a7, a8]) ⟨_, _, _, _, _, _, _, _, rfl⟩ ?_ ?_
  · rintro i env S h0 h1 ⟨_, _, _, _, _, _, _, _, rfl⟩
    refine ⟨_, rfl, fun N Bk1 hN => ?_⟩
    clear hN0
    refine ss_gen fun N1 hN1 => ?_
    dsimp! only []
    refine sp_box h0 (by revert h1; split <;> omega) fun b S1 _ hb => ?_
    refine hN1 _ _ (ss_gen fun N2 hN2 => ?_)
    clear hN1
    dsimp! only []
    refine sp_town hb fun cs S2 _ hb n2 n8 hck => ?_
    refine hN2 _ _ (ss_gen fun N3 hN3 => ?_)
    clear hN2
    dsimp! only []
    refine sp_showtown n8 hck ?_
    refine hN3 _ _ (ss_gen fun N4 hN4 => ?_)
    clear hN3
    have tw := town_words hck
    dsimp! only []
    refine lcM wD (fun c => .str (clockT c)) trivial (fun _ _ z => z) (fun c hc => ⟨_, rfl, fun R z => ?_⟩) ?_
    · obtain ⟨b1, b2, b3, b4⟩ := hck c hc
      have l1 := strI_len9 (i := c.1) (by omega) (by omega)
      have l2 := strI_len9 (i := c.2) (by omega) (by omega)
      have ls : (Str.ofString "/").length = 1 := by decide +kernel
      have l3 : (strI c.1 ++ Str.ofString "/").length = (strI c.1).length + 1 := by rw [TL.len_tl, TL.tl_append, List.length_append, ← TL.len_tl, ← TL.len_tl, ls]
      dsimp! only [wipeD, wD]
      rw [q_str]
      refine ⟨strI_log (by omega) (by omega), ?_⟩
      dsimp! only []
      refine ⟨by omega, ?_⟩
      rw [q_str]
      refine ⟨strI_log (by omega) (by omega), ?_⟩
      dsimp! only []
      exact ⟨by omega, z⟩
    have es : asStrs (D.str (Str.ofString "town") :: List.map (fun c => D.str (clockT c)) cs) = some (townW :: cs.map clockT) := by
      have := strs_map (f := id) (townW :: cs.map clockT)
      rw [List.map_id, List.map_cons, List.map_map] at this
      exact this
    have sl := sum_len (f := id) (B := 19) (xs := townW :: cs.map clockT) fun s hs => (tw s hs).1
    rw [List.map_id, List.length_cons, List.length_map] at sl
    rw [es, q_opt]
    refine ⟨by rw [List.length_map]; omega, ?_, ?_⟩
    · rw [show (Str.ofString " ").length = 1 by decide +kernel, List.length_cons, List.length_map]
      omega
    rw [show Txt.join (Str.ofString " ") (townW :: cs.map clockT) = townT cs from rfl]
    refine hN4 _ _ (ss_gen fun N5 hN5 => ?_)
    clear hN4
    refine s_ifg fun X Y hX hY => ?_
    dsimp! only []
    have tok := ok_small (town_small hck)
    have tl := town_len n8 hck
    refine sp_readT (by omega) (fun p2 ep2 => ?_) fun en => by rw [read_townT n2 n8 hck] at en; cases en
    rw [read_townT n2 n8 hck] at ep2
    injection ep2 with ep2
    subst ep2
    refine ⟨wt_town n8 hck, wt_town n8 hck, fun _ => ?_, fun z => (z rfl).elim⟩
    refine hY _ _ (ss_nil (hN5 _ _ ?_))
    clear hX hY hN5
    refine ss_cons ?_
    dsimp! only []
    refine for_rg0 (fun env S => ∃ a6 a7 a8, env = [some (.lsk (ns.map .int)), some (.int i), some (.ref b), some (.tup (cs.map wD)), some (.str (townT cs)), some (.str (townT cs)), a6, a7, a8] ∧ BoxAt S b) ⟨_, _, _, rfl, hb⟩ ?_ ?_
    · rintro j env S3 g0 g1 ⟨_, _, _, rfl, hb3⟩
      refine ⟨_, rfl, fun M Bk2 hM => ?_⟩
      simp! only []
      refine sp_spoilt hb3 (by omega) (town_small hck) (by rw [town_split hck, List.length_cons, List.length_map]; omega) (town_ok hck) fun z S4 x4 hb4 hz => ?_
      refine sp_right hz fun S5 g5 => ?_
      simp! only []
      exact hM _ _ ⟨_, _, _, rfl, hb4.gr g5⟩
    · rintro env S3 ⟨_, _, _, rfl, hb3⟩
      simp! only []
      exact hN _ _ ⟨_, _, _, _, _, _, _, _, rfl⟩
  · rintro env S ⟨_, _, _, _, _, _, _, _, rfl⟩
    refine hN0 _ _ ?_
    simp! only []
    refine sp_right (.inl ⟨_, rfl, by decide +kernel, ok_of _⟩) fun S5 g5 => ?_
    simp! only []
    refine sp_right (.inl ⟨_, rfl, by decide +kernel, ok_of _⟩) fun S5 g5 => ?_
    simp! only []
end Z
open PySem PySem.W PyProof.Rows
set_option maxRecDepth 100000 in
set_option maxHeartbeats 0 in
theorem PySem.Challenge.cw_hearsaybook_k73_towns_written_holds : PySem.Challenge.rw_hearsaybook_k73_towns_written.Holds := by
  w_on; o_law
  refine HandSHeadRun.head_any (r := Z.lawR) (q := view Z.lawR.prog [29]) (H := Z.lawHook) (ob := Z.lawOb) (M := 1840) (loose := Z.loose) (d := HandSHeadRun.topDef Z.lawR.prog 29) (kwd := []) Z.lawOb_eq
    (by kernel_rfl) (fun s => by kernel_rfl) Z.lawRun (by kernel_rfl) (by kernel_rfl) (by kernel_rfl) (by rfl) (by first | assumption | decide +kernel) (by decide +kernel) ⟨rfl, rfl, rfl, rfl, rfl, by decide +kernel⟩ ?hw ?hc
  case hw => w_witness2
  case hc =>
    refine Z.walk_caller (l := PySem.Challenge.rw_hearsaybook_k73_towns_written) (n := 63) (x := "_law_script") rfl (by decide) (by kernel_rfl) ?F
    intro w mg fa h Y G hmg0
    obtain ⟨K, KX, c⟩ := Y
    have hmg : mg ("law" : PySem.Str) = some (.ref fa) := by
      have e : (HandSHeadRun.topDef Z.lawR.prog 29).name = ("law" : PySem.Str) := by kernel_rfl
      rw [← e]
      exact hmg0
    exact ⟨K, KX, Z.law_atC (i := 15) (dl := Z.d_law) (depth := 20) Z.allS rfl rfl rfl (by rfl) ⟨rfl, by decide, by decide⟩ Z.law_D KX c G hmg⟩
