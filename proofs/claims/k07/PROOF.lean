import PyProof.Rows.All
import Wide.All
import OpenK.AllK
import Wide.FinOn
import KE.KDictKeyed
import KE.KDictDisplayH
import HandS.ForMost
import HandS.More
import HandS.DictComp
import HandS.IsInst
import KE.KExcSuper
import HandS.ForExc
import HandS.ExcInit
import HandS.ExcField
import HandS.TryMany
import PyProof.NeKinds
import HandS.Defaults
import HandS.Property
import HandS.Evl
import KE.KStateDown
import HandS.Head0
import HandS.Head1
import HandS.Head2
import HandS.HeadEnd
import HandS.HeadHook1
import HandS.HeadHook2
import HandS.HeadNt
import PySem.Challenge.RW_handedacross_k07_whole_worths_of_terms
set_option Elab.async false
set_option linter.all false
set_option maxRecDepth 100000
set_option maxHeartbeats 4000000
/-! N1: dicts whose keys are pairs of a text and an int, or of a text and a tuple of ints: over HO.ext. -/
namespace L2.K7
open PySem PySem.Spec PyProof.Rows

/-! ### the keys -/
inductive DK where
  | ent (x : Str) (i : Int)
  | ask (x : Str) (is : List Int)
  deriving DecidableEq
def DK.toN : DK → NestedKey
  | .ent x i => .tup [.text x, .num i]
  | .ask x is => .tup [.text x, .tup (is.map NestedKey.num)]
theorem num_inj : ∀ {a b : List Int}, a.map NestedKey.num = b.map NestedKey.num → a = b
  | [], [], _ => rfl
  | [], _ :: _, h => nomatch h
  | _ :: _, [], h => nomatch h
  | x :: a, y :: b, h => by
    rw [List.map_cons, List.map_cons] at h
    injection h with h1 h2
    injection h1 with h1
    rw [h1, num_inj h2]
theorem toN_inj {a b : DK} (h : a.toN = b.toN) : a = b := by
  cases a with
  | ent x i =>
    cases b with
    | ent y j =>
      injection h with h
      injection h with h1 h2
      injection h1 with h1
      injection h2 with h2 _
      injection h2 with h2
      rw [h1, h2]
    | ask y js =>
      injection h with h
      injection h with h1 h2
      injection h2 with h2 _
      exact nomatch h2
  | ask x is =>
    cases b with
    | ent y j =>
      injection h with h
      injection h with h1 h2
      injection h2 with h2 _
      exact nomatch h2
    | ask y js =>
      injection h with h
      injection h with h1 h2
      injection h1 with h1
      injection h2 with h2 _
      injection h2 with h2
      rw [h1, num_inj h2]
theorem nums_depth : ∀ is : List Int, NestedKey.depthAll (is.map NestedKey.num) ≤ 2
  | [] => by simp [NestedKey.depthAll]
  | i :: is => by
    have := nums_depth is
    simp only [List.map_cons, NestedKey.depthAll, NestedKey.depth]
    omega
theorem toN_depth (k : DK) : k.toN.depth ≤ 8 := by
  cases k with
  | ent x i => simp [DK.toN, NestedKey.depth, NestedKey.depthAll]
  | ask x is =>
    have := nums_depth is
    simp only [DK.toN, NestedKey.depth, NestedKey.depthAll]
    omega
def dkKind (prog : Program) (w : World) : HeapKind prog w DK where
  is := fun h k a => (nestedKind prog w).is h k.toN a
  hash := fun k => (nestedKind prog w).hash k.toN
  draws := fun k => (nestedKind prog w).draws k.toN
  room := (nestedKind prog w).room
  inj := fun hx hy => toN_inj ((nestedKind prog w).inj hx hy)
  keeps := fun x ho hd hs => (nestedKind prog w).keeps x ho hd hs
  pyHash := fun hu hk h => (nestedKind prog w).pyHash hu hk h
  eqBool := fun {A E s x y a b Q} hu hx hy h => (nestedKind prog w).eqBool hu hx hy (by
    have e : decide (x.toN = y.toN) = decide (x = y) := by
      by_cases q : x = y
      · rw [decide_eq_true q, decide_eq_true (congrArg DK.toN q)]
      · rw [decide_eq_false q, decide_eq_false fun r => q (toN_inj r)]
    rw [e]
    exact h)
  quiet := fun hk h => (nestedKind prog w).quiet hk h
theorem dk_room {prog : Program} {w : World} {A : Around} (h : A.units + 64 < cLine) : (dkKind prog w).room A.in1 := by
  show A.in1.units + 8 < cLine
  have : A.in1.units = A.units + 1 := rfl
  omega
theorem dk_room0 {prog : Program} {w : World} {A : Around} (h : A.units + 64 < cLine) : (dkKind prog w).room A := by
  show A.units + 8 < cLine
  omega
theorem dk_room2 {prog : Program} {w : World} {A : Around} (h : A.units + 64 < cLine) : (dkKind prog w).room A.in1.in1 := by
  show A.in1.in1.units + 8 < cLine
  have : A.in1.in1.units = A.units + 2 := rfl
  omega

/-- the tuple at b is the key k -/
def DKAt (H : Hp) (b : Addr) : DK → Prop
  | .ent x i => H b = some (.tup [.str x, .int i])
  | .ask x is => ∃ c, H b = some (.tup [.str x, .ref c]) ∧ H c = some (.tup (is.map V.int))
theorem DKAt.keeps {H H' : Hp} {b : Addr} {k : DK} (x : DKAt H b k) (ht : ∀ c ys, H c = some (.tup ys) → H' c = some (.tup ys)) : DKAt H' b k := by
  cases k with
  | ent y i => exact ht _ _ x
  | ask y is =>
    obtain ⟨c, h1, h2⟩ := x
    exact ⟨c, ht _ _ h1, ht _ _ h2⟩
theorem nums_all {h : Heap} : ∀ {is : List Int} {us : List Value}, Vals (is.map V.int) us → NestedAll h (is.map NestedKey.num) us
  | [], _, r => by
    rw [List.map_nil] at r
    cases r
    exact .nil
  | i :: is, _, r => by
    rw [List.map_cons] at r
    cases r with
    | cons a t =>
      obtain ⟨tk, e⟩ := a
      subst e
      exact .cons (.int i tk) (nums_all t)
theorem dk_is {P : Program} {w : World} {H : Hp} {h : Heap} {b : Addr} {k : DK} (ok : HOk P w H h) (x : DKAt H b k) : (dkKind P w).is h k b := by
  refine ⟨?_, toN_depth k⟩
  cases k with
  | ent y i =>
    obtain ⟨_, its, r, o, h1, h2, n, h3⟩ := (show ObjOk P w H h b (.tup [.str y, .int i]) from ok b _ x)
    obtain ⟨u1, u2, e, r1, r2⟩ := vals2 r
    subst e
    obtain ⟨t1, e1⟩ := r1
    obtain ⟨t2, e2⟩ := r2
    subst e1 e2
    exact .tup h1 h2 h3 (.cons (.text _ _) (.cons (.int _ _) .nil))
  | ask y is =>
    obtain ⟨c, x1, x2⟩ := x
    obtain ⟨_, its, r, o, h1, h2, n, h3⟩ := (show ObjOk P w H h b (.tup [.str y, .ref c]) from ok b _ x1)
    obtain ⟨u1, u2, e, r1, r2⟩ := vals2 r
    subst e
    obtain ⟨t1, e1⟩ := r1
    obtain rfl : u2 = Value.ref c := r2
    subst e1
    obtain ⟨_, its2, r', o', k1, k2, n', k3⟩ := (show ObjOk P w H h c (.tup (is.map V.int)) from ok c _ x2)
    exact .tup h1 h2 h3 (.cons (.text _ _) (.cons (.tup k1 k2 k3 (by simpa using nums_all r')) .nil))

/-! ### what stands at such a dict -/
abbrev NL := List (DK × Addr × V)
def RelX : NL → List (DK × Addr × Value) → Prop := Paired fun (p : DK × Addr × V) (q : DK × Addr × Value) => p.1 = q.1 ∧ p.2.1 = q.2.1 ∧ RelV p.2.2 q.2.2
theorem RelX.length {xs : NL} {us : List (DK × Addr × Value)} (r : RelX xs us) : xs.length = us.length := Paired.length r
theorem RelX.keys {xs : NL} {us : List (DK × Addr × Value)} (r : RelX xs us) : xs.map (·.1) = us.map (·.1) := by
  unfold RelX at r
  induction r with
  | nil => rfl
  | cons h _ ih => rw [List.map_cons, List.map_cons, ih, h.1]
def valN (xs : NL) (k : DK) : Option V := (xs.find? fun x => decide (x.1 = k)).map (·.2.2)
def repN (xs : NL) (k : DK) (v : V) : NL := xs.map fun x => if x.1 = k then (x.1, x.2.1, v) else x
def putN (xs : NL) (k : DK) (b : Addr) (v : V) : NL := if (valN xs k).isSome then repN xs k v else xs ++ [(k, b, v)]
theorem valN_pos {p : DK × Addr × V} {r : NL} {k : DK} (e : p.1 = k) : valN (p :: r) k = some p.2.2 := by simp [valN, List.find?_cons, e]
theorem valN_neg {p : DK × Addr × V} {r : NL} {k : DK} (e : ¬ p.1 = k) : valN (p :: r) k = valN r k := by simp [valN, List.find?_cons, e]
theorem RelX.val {xs : NL} {us : List (DK × Addr × Value)} (r : RelX xs us) (k : DK) : RelO (valN xs k) ((atKey us k).map (·.2)) := by
  unfold RelX at r
  induction r with
  | nil => exact True.intro
  | @cons p q ps qs h t ih =>
    by_cases e : p.1 = k
    · have e2 : q.1 = k := h.1.symm.trans e
      rw [valN_pos e]
      have e3 : atKey (q :: qs) k = some q.2 := by simp [atKey, e2]
      rw [e3]
      exact h.2.2
    · have e2 : ¬ q.1 = k := fun z => e (h.1.trans z)
      rw [valN_neg e]
      have e3 : atKey (q :: qs) k = atKey qs k := by simp [atKey, List.find?_cons, e2]
      rw [e3]
      exact ih
theorem RelX.rep {xs : NL} {us : List (DK × Addr × Value)} (r : RelX xs us) (k : DK) {v : V} {u : Value} (rv : RelV v u) : RelX (repN xs k v) (us.map (putAt k u)) := by
  unfold RelX at r
  induction r with
  | nil => exact .nil
  | @cons p q ps qs h t ih =>
    show RelX ((if p.1 = k then (p.1, p.2.1, v) else p) :: repN ps k v) (putAt k u q :: qs.map (putAt k u))
    refine .cons ?_ ih
    by_cases e : p.1 = k
    · have e2 : q.1 = k := h.1.symm.trans e
      rw [if_pos e]
      unfold putAt
      rw [if_pos e2]
      exact ⟨h.1, h.2.1, rv⟩
    · have e2 : ¬ q.1 = k := fun z => e (h.1.trans z)
      rw [if_neg e]
      unfold putAt
      rw [if_neg e2]
      exact h
theorem RelX.snoc {xs : NL} {us : List (DK × Addr × Value)} (r : RelX xs us) (k : DK) (b : Addr) {v : V} {u : Value} (rv : RelV v u) : RelX (xs ++ [(k, b, v)]) (us ++ [(k, b, u)]) := by
  unfold RelX at r
  induction r with
  | nil => exact .cons ⟨rfl, rfl, rv⟩ .nil
  | @cons p q ps qs h t ih => exact .cons h ih
theorem RelX.put {xs : NL} {us : List (DK × Addr × Value)} (r : RelX xs us) (k : DK) (b : Addr) {v : V} {u : Value} (rv : RelV v u) : RelX (putN xs k b v) (storedH us k b u) := by
  have e : (valN xs k).isSome = (atKey us k).isSome := by
    have q := (r.val k).isSome_eq
    rw [Option.isSome_map] at q
    exact q
  unfold putN storedH
  rw [e]
  by_cases c : (atKey us k).isSome = true
  · rw [if_pos c, if_pos c]
    exact r.rep k rv
  · rw [if_neg c, if_neg c]
    exact r.snoc k b rv
theorem length_putN (xs : NL) (k : DK) (b : Addr) (v : V) : (putN xs k b v).length ≤ xs.length + 1 := by
  unfold putN repN
  by_cases c : (valN xs k).isSome = true
  · rw [if_pos c, List.length_map]
    omega
  · rw [if_neg c, List.length_append]
    exact Nat.le_refl _
theorem putN_new {xs : NL} {k : DK} (b : Addr) (v : V) (h : valN xs k = none) : putN xs k b v = xs ++ [(k, b, v)] := by
  unfold putN
  rw [h]
  rfl
theorem valN_none {xs : NL} {k : DK} (h : k ∉ xs.map (·.1)) : valN xs k = none := by
  induction xs with
  | nil => rfl
  | cons p r ih =>
    rw [List.map_cons, List.mem_cons, not_or] at h
    rw [valN_neg (fun e => h.1 e.symm)]
    exact ih h.2

/-- the dict at d: its keys' places and values, in order -/
def ndO (P : Program) (w : World) (d : Addr) (xs : NL) : HO := .ext fun h => (d == sysModules) = false ∧ xs.length ≤ sizeLine ∧ (xs.map (·.1)).Nodup ∧
  ∃ us, RelX xs us ∧ ∃ o es ep, h.get? d = some o ∧ o.ExactDict ∧ o.data = .dict es ep ∧ es.toList = us.map (entryOfKey (dkKind P w))
def KeysAt (H : Hp) (xs : NL) : Prop := ∀ x ∈ xs, DKAt H x.2.1 x.1
theorem KeysAt.keeps {H H' : Hp} {xs : NL} (k : KeysAt H xs) (ht : ∀ c ys, H c = some (.tup ys) → H' c = some (.tup ys)) : KeysAt H' xs := fun x hx => (k x hx).keeps ht
/-- such a dict may be read -/
structure NDr (P : Program) (w : World) (H : Hp) (d : Addr) (xs : NL) : Prop where
  rd : Rd H d (ndO P w d xs)
  ks : KeysAt H xs
section
variable {P : Program} {w : World} {H H' : Hp} {h : Heap} {d : Addr} {xs : NL}
theorem ndO_ok {us : List (DK × Addr × Value)} (h0 : (d == sysModules) = false) (h1 : xs.length ≤ sizeLine) (r : RelX xs us) (dd : h.DictOfH (dkKind P w) d us) : ObjOk P w H h d (ndO P w d xs) := by
  obtain ⟨o, es, ep, ho, hc, hd, he, _, hn⟩ := dd
  refine ⟨⟨h0, h1, by rw [r.keys]; exact hn, us, r, o, es, ep, ho, hc, hd, he⟩, ⟨o, ho⟩, fun ha hb z k => ?_⟩
  obtain ⟨z1, z2, z3, us, r, o, es, ep, ho, q⟩ := z
  exact ⟨z1, z2, z3, us, r, o, es, ep, k _ ho, q⟩
theorem nd_raw (ok : HOk P w H h) (e : Rd H d (ndO P w d xs)) : (d == sysModules) = false ∧ xs.length ≤ sizeLine ∧ (xs.map (·.1)).Nodup ∧
    ∃ us, RelX xs us ∧ ∃ o es ep, h.get? d = some o ∧ o.ExactDict ∧ o.data = .dict es ep ∧ es.toList = us.map (entryOfKey (dkKind P w)) := by
  have x : ObjOk P w H h d (ndO P w d xs) := e.ok ok
  exact (show _ ∧ _ ∧ _ from x).1
theorem nd_dict (ok : HOk P w H h) (e : NDr P w H d xs) : (d == sysModules) = false ∧ xs.length ≤ sizeLine ∧ ∃ us, RelX xs us ∧ h.DictOfH (dkKind P w) d us := by
  obtain ⟨h0, h1, h2, us, r, o, es, ep, ho, hc, hd, he⟩ := nd_raw ok e.rd
  refine ⟨h0, h1, us, r, o, es, ep, ho, hc, hd, he, ?_, by rw [← r.keys]; exact h2⟩
  have all : ∀ {l : NL} {m : List (DK × Addr × Value)}, RelX l m → (∀ x ∈ l, DKAt H x.2.1 x.1) → ∀ y ∈ m, (dkKind P w).is h y.1 y.2.1 := by
    intro l m q
    unfold RelX at q
    induction q with
    | nil => intro _ y hy; exact nomatch hy
    | @cons p q ps qs hq t ih =>
      intro hk y hy
      rcases List.mem_cons.mp hy with e | hy
      · subst e
        have := hk p List.mem_cons_self
        rw [hq.1, hq.2.1] at this
        exact dk_is ok this
      · exact ih (fun x hx => hk x (List.mem_cons_of_mem _ hx)) y hy
  exact all r e.ks
theorem ndO_tup {ys : List V} : HO.tup ys ≠ ndO P w d xs := fun z => by
  have z' : HO.tup ys = HO.ext _ := z
  cases z'
end

section
variable {X : Cx} {pins : List (Addr × Obj)} {σ : St} {H : Hp} {s : Shared} {a b d : Addr} {k : DK} {xs : NL} {v z : V} {u r : Value} {A : Around} {E : Value → Shared → Prop}
theorem n_getItem {Q : Value → Shared → Prop} (hu : A.units + 64 < cLine) (I : Inv X pins σ H s) (g : NDr X.prog X.w H d xs) (kb : DKAt H b k) (hv : valN xs k = some v) (h : ∀ w' s', Inv X pins σ H s' → RelV v w' → Q w' s') :
    wpAny (model X.prog X.w) A (getItem (.ref d) (.ref b)) Q E s := by
  obtain ⟨_, _, us, rel, dd⟩ := nd_dict I.hok g
  obtain ⟨w', hw, rw'⟩ := RelO.some_of (v := v) (o := (atKey us k).map (·.2)) (by rw [← hv]; exact rel.val k)
  obtain ⟨p, hp, hp2⟩ := Option.map_eq_some_iff.mp hw
  refine wpAny_getItem_heap (dk_room hu) (dk_is I.hok kb) dd hp ?_
  rw [hp2]
  exact h w' _ (I.tok _) rw'
theorem n_get2 {Q : Value → Shared → Prop} (hu : A.units + 64 < cLine) (I : Inv X pins σ H s) (g : NDr X.prog X.w H d xs) (kb : DKAt H b k) (rz : RelV z r) (h : ∀ w' s', Inv X pins σ H s' → RelV ((valN xs k).getD z) w' → Q w' s') :
    wpAny (model X.prog X.w) A (call (.builtin "dict.get") [.ref d, .ref b, r]) Q E s := by
  obtain ⟨hd, _, us, rel, dd⟩ := nd_dict I.hok g
  exact call_meetsIn PySem.F.slot_dict_get dd.typeIs PySem.F.entry_dict_get (PySem.F.args_dict_get_3 _ _ _) (meetsH_dict_get_default (dkKind X.prog X.w) d b hd r) ⟨dk_room hu, k, us, dk_is I.hok kb, dd, h _ _ (I.tok _) ((rel.val k).getD rz)⟩
theorem nd_wr {h' : Heap} {t' : Nat} {ys : NL} {us' : List (DK × Addr × Value)} (I : Inv X pins σ H s) (e : H d = some (ndO X.prog X.w d xs)) (h0 : (d == sysModules) = false) (hl : ys.length ≤ sizeLine) (r : RelX ys us') (dd : h'.DictOfH (dkKind X.prog X.w) d us')
    (hs : Heap.SameBut d s.heap h') : Inv X pins σ (upd H d (ndO X.prog X.w d ys)) { s with heap := h', toks := t' } := by
  have he : ∃ q, h'.get? d = some q := let ⟨q, _, _, hq, _⟩ := dd; ⟨q, hq⟩
  exact d_write I (by rw [e]; exact True.intro) hs he (ndO_ok h0 hl r dd)
theorem n_setItem {Q : Unit → Shared → Prop} (hu : A.units + 64 < cLine) (I : Inv X pins σ H s) (e : H d = some (ndO X.prog X.w d xs)) (ks : KeysAt H xs) (kb : DKAt H b k) (hl : xs.length < sizeLine) (rv : RelV v r)
    (h : ∀ s', Inv X pins σ (upd H d (ndO X.prog X.w d (putN xs k b v))) s' → Q () s') : wpAny (model X.prog X.w) A (setItem (.ref d) (.ref b) r) Q E s := by
  obtain ⟨h0, _, us, rel, dd⟩ := nd_dict I.hok ⟨.inl e, ks⟩
  have hz : us.length ≤ sizeLine := by rw [← rel.length]; omega
  have hl2 : (putN xs k b v).length ≤ sizeLine := by have := length_putN xs k b v; omega
  exact wpAny_setItem_heap (hsz := hz) (dk_room hu) (dk_is I.hok kb) dd fun h' dd' hs => h _ (nd_wr I e h0 hl2 (rel.put k b rv) dd' hs)
theorem n_dictSet {Q : Unit → Shared → Prop} (hu : A.units + 64 < cLine) (I : Inv X pins σ H s) (e : H d = some (ndO X.prog X.w d xs)) (ks : KeysAt H xs) (kb : DKAt H b k) (hl : xs.length < sizeLine) (rv : RelV v r)
    (h : ∀ s', Inv X pins σ (upd H d (ndO X.prog X.w d (putN xs k b v))) s' → Q () s') : wpAny (model X.prog X.w) A (dictSet d (.ref b) r) Q E s := by
  obtain ⟨h0, _, us, rel, dd⟩ := nd_dict I.hok ⟨.inl e, ks⟩
  have hz : us.length ≤ sizeLine := by rw [← rel.length]; omega
  have hl2 : (putN xs k b v).length ≤ sizeLine := by have := length_putN xs k b v; omega
  exact wpAny_dictSet_heap (hsz := hz) (dk_room0 hu) (dk_is I.hok kb) dd fun h' dd' hs => h _ (nd_wr I e h0 hl2 (rel.put k b rv) dd' hs)
theorem nd_noDict (I : Inv X pins σ H s) (g : Rd H d (ndO X.prog X.w d xs)) : s.TypeIs (.ref d) "dict" ∧ ∀ b, Value.ref d = .ref b → ∃ ob, s.heap.get? b = some ob ∧ ob.dict = none := by
  obtain ⟨_, _, _, us, _, o, es, ep, ho, hc, _⟩ := nd_raw I.hok g
  refine ⟨⟨o, ho, hc.1⟩, fun b q => ?_⟩
  cases q
  exact ⟨o, ho, hc.2.1⟩
end

/-! ### d[k], d.get(k, x), d[k] = v -/
def tNGet (P : Program) (w : World) (td ty : TE) : TE := fun σ H Q => td σ H fun x H1 => ty σ H1 fun y H2 => ∃ d xs b k v, x = .ref d ∧ y = .ref b ∧ NDr P w H2 d xs ∧ DKAt H2 b k ∧ valN xs k = some v ∧ Q v H2
def tNGet2 (P : Program) (w : World) (td ty tx : TE) : TE := fun σ H Q => td σ H fun x H1 => ∃ d xs, x = .ref d ∧ Rd H1 d (ndO P w d xs) ∧ ty σ H1 fun y H2 => tx σ H2 fun z H3 => ∃ b k, y = .ref b ∧ NDr P w H3 d xs ∧ DKAt H3 b k ∧ Q ((valN xs k).getD z) H3
def sNPut (P : Program) (w : World) (td ty tv : TE) : TS := fun D σ H => tv σ H fun v H1 => td σ H1 fun x H2 => ty σ H2 fun y H3 => ∃ d xs b k, x = .ref d ∧ y = .ref b ∧ H3 d = some (ndO P w d xs) ∧ KeysAt H3 xs ∧ DKAt H3 b k ∧ xs.length < sizeLine ∧
  D.nx σ (upd H3 d (ndO P w d (putN xs k b v)))
section
variable {X : Cx} {o i e f value : Expr} {pos pos' apos cpos : Pos} {td ty tx tv : TE}
theorem pe_nget (hu : X.A.units + 64 < cLine) (ho : PE X o td) (hi : PE X i ty) (hs : NoSl i) : PE X (.Subscript o i pos) (tNGet X.prog X.w td ty) := by
  refine ⟨fun pins s σ H Q I h => ?_⟩
  refine subD_of PySem.F.slot_dict_getitem.lookup hs (thn (ho.run pins s σ H _ I h) fun u s1 ⟨x, H1, I1, rx, q1⟩ => thn (hi.run pins s1 σ H1 _ I1 q1) fun iv s2 ⟨y, H2, I2, ry, d, xs, b, k, v, ex, ey, g, kb, hv, q2⟩ => ?_)
  subst ex ey
  obtain rfl : u = Value.ref d := rx
  obtain rfl : iv = Value.ref b := ry
  exact ⟨(nd_noDict I2 g.rd).1, n_getItem hu I2 g kb hv fun w' s3 I3 rw' => ⟨v, H2, I3, rw', q2⟩⟩
theorem pe_nget2 (hu : X.A.units + 64 < cLine) (ho : PE X o td) (he : PE X e ty) (hf : PE X f tx) (m : M2 X o "get" apos e f cpos) : PE X (.Call (.Attribute o "get" apos) [e, f] [] cpos) (tNGet2 X.prog X.w td ty tx) := by
  refine ⟨fun pins s σ H Q I h => ?_⟩
  refine wpAny_Call_method m.base m.few m.line PySem.F.plainAttrs_dict PySem.F.slot_dict_get PySem.F.type_dict_get (thn (ho.run pins s σ H _ I h) fun u s1 ⟨x, H1, I1, rx, d, xs, ex, rd, q1⟩ => ?_)
  subst ex
  obtain rfl : u = Value.ref d := rx
  obtain ⟨t1, t2⟩ := nd_noDict I1 rd
  refine ⟨t1, t2, ?_⟩
  rw [m.trees]
  refine Calls.callWith_builtin rfl (Calls.evalArgs_plain (Calls.spliced_cons (thn (he.run pins s1 σ H1 _ I1 q1) fun iv s2 ⟨y, H2, I2, ry, q2⟩ =>
    Calls.spliced_cons (thn (hf.run pins s2 σ H2 _ I2 q2) fun fv s3 ⟨z, H3, I3, rz, b, k, ey, g, kb, q3⟩ => Calls.spliced_nil ?_))))
  subst ey
  obtain rfl : iv = Value.ref b := ry
  exact n_get2 hu I3 g kb rz fun w' s4 I4 rw' => ⟨_, H3, I4, rw', q3⟩
theorem ps_nput (hu : X.A.units + 64 < cLine) (ho : PE X o td) (hi : PE X i ty) (hv : PE X value tv) (hs : swapsWith value (some (.Subscript o i pos')) pos.line X.env = pure false) :
    PS X (.Assign [.Subscript o i pos'] value pos) (sNPut X.prog X.w td ty tv) := by
  refine ⟨fun pins s σ H D I h => ?_⟩
  refine wpAny_Assign_Subscript (thn (hv.run pins s σ H _ I h) fun r s1 ⟨v, H1, I1, rv, q1⟩ => thn (ho.run pins s1 σ H1 _ I1 q1) fun u s2 ⟨x, H2, I2, rx, q2⟩ => thn (hi.run pins s2 σ H2 _ I2 q2) fun iv s3 ⟨y, H3, I3, ry, d, xs, b, k, ex, ey, e, ks, kb, hl, q3⟩ => ?_) hs
  subst ex ey
  obtain rfl : u = Value.ref d := rx
  obtain rfl : iv = Value.ref b := ry
  exact n_setItem hu I3 e ks kb hl rv fun s4 I4 => ⟨σ, _, I4, q3⟩
end

/-! ### for k in d, d locked -/
section
variable {X : Cx} {pins : List (Addr × Obj)} {σ : St} {H : Hp} {s : Shared} {d : Addr} {o : Obj} {xs : NL}
theorem frzN (I : Inv X pins σ H s) (h : H d = some (.frz o (ndO X.prog X.w d xs))) :
    (d == sysModules) = false ∧ s.heap.get? d = some o ∧ o.ExactDict ∧ ∃ (es : Array DictEntry) (ep : Nat), o.data = .dict es ep ∧ es.size = xs.length ∧
      ∀ (i : Nat) (x : DK × Addr × V), xs[i]? = some x → ∃ en : DictEntry, es[i]? = some en ∧ en.key = .ref x.2.1 := by
  obtain ⟨hd, q⟩ := (show s.heap.get? d = some o ∧ _ from I.hok d _ h)
  obtain ⟨h0, h1, h2, us, r, o', es, ep, ho, hc, hdt, he⟩ := nd_raw (P := X.prog) (w := X.w) I.hok (.inr ⟨o, h⟩)
  rw [hd] at ho
  cases ho
  refine ⟨h0, hd, hc, es, ep, hdt, ?_, fun i x e => ?_⟩
  · have l1 : es.size = us.length := size_of_entries he
    have l2 := r.length
    omega
  · obtain ⟨b, hb, e1, e2, _⟩ := paired_get r e
    have q := entry_at he i
    rw [hb] at q
    exact ⟨_, q, congrArg Value.ref e2.symm⟩
end
def Itn (P : Program) (w : World) (d : Addr) (o : Obj) (xs : NL) : It :=
  ⟨fun i H => H d = some (.frz o (ndO P w d xs)) ∧ i < xs.length, fun i H x H' => H' = H ∧ ∃ q, xs[i]? = some q ∧ x = .ref q.2.1, fun i H => H d = some (.frz o (ndO P w d xs)) ∧ xs.length ≤ i⟩
section
variable {P : Program} {w : World} {K : PySem.W.Frag} {tg : Expr} {d : Addr} {o : Obj} {es : Array DictEntry} {ep : Nat}
theorem turn_keysN {xs : NL} (it : Addr) (hod : o.data = .dict es ep) : Turn P w K tg (Itn P w d o xs) [it] it (fun i h => h.IsKeyIter it d i xs.length ep) where
  mem := by simp
  obj := fun i h st b hb => by
    have e : b = it := by simpa using hb
    subst e
    obtain ⟨oi, e, c, dd⟩ := st
    exact ⟨oi, e, fun v z => by rw [dd] at z; cases z⟩
  keep := fun i h h' st k => st.at fun oi e => k it (by simp) oi e
  item := by
    intro X hP hw hK hc i pins s σ H E I hf st hg
    subst hP hw hK
    obtain ⟨hd, hi⟩ := hg
    obtain ⟨f0, f1, f2, f3, f4, f5⟩ := hf it (by simp)
    obtain ⟨hs, hgd, hx, es', ep', hdt, hsz, ent⟩ := frzN I hd
    obtain ⟨rfl, rfl⟩ := dict_ep hod hdt
    obtain ⟨x, hkv⟩ : ∃ p, xs[i]? = some p := ⟨xs[i], List.getElem?_eq_getElem hi⟩
    obtain ⟨en, hen, hkey⟩ := ent i x hkv
    refine next_key_item st hgd hdt hsz hen fun h' st' sb => ?_
    have I1 : Inv X pins σ H { s with heap := h' } := I.turned (t' := s.toks) (fun b ob hb e => (sb.2 b hb).trans e) f0 f1 f3 f4 f5
    obtain ⟨oi, e, c, dd⟩ := id st'
    exact ⟨en.key, rfl, go_of (s := { s with heap := h' }) e c dd (by decide) ⟨.ref x.2.1, H, I1, hkey, ⟨rfl, x, hkv, rfl⟩, st', fun b hb => (hf b hb).1⟩⟩
  done := by
    intro X hP hw hK hc i pins s σ H E I hf st hg
    subst hP hw hK
    obtain ⟨hd, hi⟩ := hg
    obtain ⟨f0, f1, f2, f3, f4, f5⟩ := hf it (by simp)
    obtain ⟨hs, hgd, hx, es', ep', hdt, hsz, ent⟩ := frzN I hd
    obtain ⟨rfl, rfl⟩ := dict_ep hod hdt
    exact next_key_end (I.ok.hd hc) st hgd hdt hsz hi fun h' eb => ⟨rfl, I.turned (t' := s.toks) (fun b ob hb e => eb b ob hb e) f0 f1 f3 f4 f5⟩
  self := fun A i s Q E st h => by
    refine wpAny_pyIter_slot st.typeIs F.slot_dict_keyiterator_iter (wpAny_call_entry F.slot_dict_keyiterator_iter st.typeIs F.entry_dict_keyiterator_iter ?_ (F.args_dict_keyiterator_iter_1 _))
    show wpAny _ _ (ret (.ref it)) _ _ s
    exact wpAny_pure ⟨_, rfl, "dict_keyiterator", _, st.typeIs, F.slot_dict_keyiterator_next.lookup, h⟩
end
def iNKeys (P : Program) (w : World) (td : TE) : TI := fun σ H R => td σ H fun x H1 => ∃ d o xs, x = .ref d ∧ H1 d = some (.frz o (ndO P w d xs)) ∧ R (Itn P w d o xs) H1
theorem pi_nkeys {X : Cx} {tg e : Expr} {td : TE} (he : PE X e td) : PI X tg e (iNKeys X.prog X.w td) := by
  refine ⟨fun pins s σ H R I h => ?_⟩
  refine thn (he.run pins s σ H _ I h) fun u s1 ⟨x, H1, I1, rx, d, o, xs, ex, hd, q⟩ => ?_
  subst ex
  obtain rfl : u = Value.ref d := rx
  obtain ⟨hs, hgd, hx, es, ep, hdt, hsz, ent⟩ := frzN I1 hd
  refine iter_keys hs hgd hx hdt (pi_one (tk := s1.toks) I1 _ (turn_keysN _ hdt) ⟨_, Heap.get?_push_size _ rfl, rfl, ?_⟩ q)
  rw [hsz] <;> rfl

/-! ### {k: v for x in .. if ..} -/
def tNDc (P : Program) (w : World) (wi : TI) (g : TG) (tt : TT) (tk tv : TE) (vs : List Nat) : TE := fun σ H Q => wi σ H fun J H1 => ∀ D, H1 D = none → ∃ W : Nat → Nat → Hp → Prop, (∃ m, W 0 m (upd H1 D (ndO P w D []))) ∧ ∀ i m H, W i m H →
  (J.stop i H ∧ Q (.ref D) H) ∨ (J.go i H ∧ ∃ Nx : Hp → Prop, (∀ H', Nx H' → ∃ m', m' < m ∧ W (i + 1) m' H') ∧ ∀ x H', J.yld i H x H' → g x (wipe σ vs) H' fun σ2 H2 => wipe σ2 vs = wipe σ vs ∧ tt σ2 H2 fun b H3 =>
    if b = true then tk σ2 H3 fun y H4 => tv σ2 H4 fun z H5 => ∃ xs k q, y = .ref q ∧ DKAt H5 q k ∧ H5 D = some (ndO P w D xs) ∧ KeysAt H5 xs ∧ xs.length < sizeLine ∧ Nx (upd H5 D (ndO P w D (putN xs k q z))) else Nx H3)
theorem nd_empty {P : Program} {w : World} {H : Hp} (h : Heap) (hb : sysModules < h.objs.size) : ObjOk P w H (h.push { cls := .type "dict", data := .dict #[] }) h.objs.size (ndO P w h.objs.size []) :=
  ndO_ok (us := []) (beq_eq_false_iff_ne.mpr (Ne.symm (Nat.ne_of_lt hb))) (Nat.zero_le _) .nil (Heap.DictOfH.new h)
section
variable {X : Cx}
theorem ndc_core {pins : List (Addr × Obj)} {s : Shared} {σ : St} {H : Hp} {Q : VK} {kx vx tg iter : Expr} {ifs : List Expr} {scope : Scope} {own : List (Str × Nat)} {pos pos' : Pos} {wi : TI} {g : TG} {tt : TT} {tk tv : TE} {use : Option (Value → Sem Unit)} {Qf : Value → Shared → Prop}
    (hc : X.calm = true) (hN : X.N.Nodup) (hu : X.A.units + 64 < cLine) (I : Inv X pins σ H s) (hi : PI X tg iter wi) (ok : BlkOk X.N X.env.scope scope own)
    (hg : ∀ (s : Shared) (H : Hp) (C : Addr) (cl : List (Str × Addr)) (fp : List Addr), PG (X.blk s H scope (compEnvC scope cl C X.env) fp) tg g) (ht : ∀ (s : Shared) (H : Hp) (C : Addr) (cl : List (Str × Addr)) (fp : List Addr), PTs (X.blk s H scope (compEnvC scope cl C X.env) fp) ifs tt)
    (hk : ∀ (s : Shared) (H : Hp) (C : Addr) (cl : List (Str × Addr)) (fp : List Addr), PE (X.blk s H scope (compEnvC scope cl C X.env) fp) kx tk)
    (he : ∀ (s : Shared) (H : Hp) (C : Addr) (cl : List (Str × Addr)) (fp : List Addr), PE (X.blk s H scope (compEnvC scope cl C X.env) fp) vx tv) (hs : ∀ x, foldedSetIterable iter X.env x = pure x)
    (h : tNDc X.prog X.w wi g tt tk tv (own.map (·.2)) σ H Q)
    (hRR : ∀ D C s' m H', Inv X pins σ H' s' → Q (.ref D) H' → s'.heap.Ns C m → FpOk X pins H' C → compPost (model X.prog X.w) X.A X.xe use Qf (.ref D) C (.ok .next) s') :
    wpAny (model X.prog X.w) X.A (comprehension (.DictComp kx vx [⟨tg, iter, ifs, 0⟩] scope pos) scope X.env pos' newDict false (eval iter X.env) use) Qf X.xe s := by
  have hfree : ∀ y ∈ scope.names, y.2 = .free → ∃ c, X.env.cells.lookup y.1 = some c := fun y hy e => by
    rcases ok.free y hy e with k | k
    · exact I.ok.has _ (.inl k)
    · exact I.ok.has _ (.inr k)
  refine wpAny_comprehension_free (use := use) rfl hs (closure_ok hfree) ok.kind (fun y hy e => by rw [ok.uniq y hy, e])
    (thn (hi.run pins s σ H _ I h) fun xv s1 hx => thn hx fun itv s2 h2 => ?_)
  obtain ⟨it, fp, tn, J, H2, e, I2, T, st2, f2, q⟩ := h2
  subst e
  refine wpAny_newObj_type (newEnv_comp ?_)
  generalize hD : s2.heap.objs.size = D
  have hDn : H2 D = none := I2.hok.fresh (Nat.le_of_eq hD)
  obtain ⟨W, ⟨m0, w0⟩, turn⟩ := q D hDn
  generalize hs3 : ({ s2 with heap := s2.heap.push { cls := .type "dict", data := .dict #[] } } : Shared) = s3
  have I3 : Inv X pins σ (upd H2 D (ndO X.prog X.w D [])) s3 := by
    rw [← hs3]
    refine I2.laid (t' := s2.toks) (fun b o e => Heap.get?_push_of_some _ e) (Nat.le_of_eq hD) ?_
    rw [← hD]
    exact nd_empty s2.heap I2.big
  have h3 : s3.heap = s2.heap.push { cls := .type "dict", data := .dict #[] } := by rw [← hs3]
  have sz : ∀ b ∈ fp, b < s2.heap.objs.size := fun b hb => by
    obtain ⟨o, e, _⟩ := T.obj _ _ st2 b hb
    exact Heap.lt_size e
  have f3 : ∀ b ∈ fp, FpOk X pins (upd H2 D (ndO X.prog X.w D [])) b ∧ b < s3.heap.objs.size := fun b hb => by
    have hlt := sz b hb
    refine ⟨⟨?_, (f2 b hb).2⟩, by rw [h3, Heap.size_push]; exact Nat.lt_succ_of_lt hlt⟩
    rw [upd_ne (by rw [← hD]; exact Nat.ne_of_lt hlt)]
    exact (f2 b hb).1
  have st3 : tn 0 s3.heap := T.keep _ _ _ st2 fun b _ o e => by rw [h3]; exact Heap.get?_push_of_some _ e
  have I4 := block_start I3 ok hN f3
  have pg := hg s3 (upd H2 D (ndO X.prog X.w D [])) s3.heap.objs.size (cellsFrom (s3.heap.objs.size + 1) scope.names (cloFrom X.env.cells scope.names [])) fp
  have pt := ht s3 (upd H2 D (ndO X.prog X.w D [])) s3.heap.objs.size (cellsFrom (s3.heap.objs.size + 1) scope.names (cloFrom X.env.cells scope.names [])) fp
  have pk := hk s3 (upd H2 D (ndO X.prog X.w D [])) s3.heap.objs.size (cellsFrom (s3.heap.objs.size + 1) scope.names (cloFrom X.env.cells scope.names [])) fp
  have pe := he s3 (upd H2 D (ndO X.prog X.w D [])) s3.heap.objs.size (cellsFrom (s3.heap.objs.size + 1) scope.names (cloFrom X.env.cells scope.names [])) fp
  show codeAny _ _ (.compStart (.DictComp kx vx [⟨tg, iter, ifs, 0⟩] scope pos) 0 (.ref it) (.ref D) (compEnvC scope (cellsFrom (s3.heap.objs.size + 1) scope.names (cloFrom X.env.cells scope.names [])) s3.heap.objs.size X.env)) (compPost (model X.prog X.w) X.A X.xe use Qf (.ref D) s3.heap.objs.size) { s3 with heap := pushCells (s3.heap.push { cls := .type "dict", data := .dict #[] }) scope.names }
  have nfp : ∀ b ∈ fp, (upd H2 D (ndO X.prog X.w D [])) b = none := fun b hb => (f3 b hb).1.1
  generalize hce : compEnvC scope (cellsFrom (s3.heap.objs.size + 1) scope.names (cloFrom X.env.cells scope.names [])) s3.heap.objs.size X.env = ce at I4 pg pt pk pe ⊢
  have cL : ce.locals = s3.heap.objs.size := by subst hce; rfl
  generalize hH3 : upd H2 D (ndO X.prog X.w D []) = H3 at I3 I4 pg pt pk pe w0 nfp f3
  generalize hs4 : ({ s3 with heap := pushCells (s3.heap.push { cls := .type "dict", data := .dict #[] }) scope.names } : Shared) = s4 at I4 ⊢
  have st4 : tn 0 s4.heap := T.keep _ _ _ st3 fun b _ o e => by rw [← hs4]; exact pushCells_keeps _ _ _ _ (Heap.get?_push_of_some _ e)
  have stat : ∀ {σ' : St} {H' : Hp} {s' : Shared}, Inv (X.blk s3 H3 scope ce fp) [] σ' H' s' → (∀ b ∈ fp, H' b = none) → ∀ b ∈ fp, FpOk (X.blk s3 H3 scope ce fp) [] H' b := fun {σ' H' s'} I' hn b hb =>
    ⟨hn b hb, (I'.ok.exf b hb).1, I'.ok.exfs b hb, .inl hb, fun x c e => (I'.ok.exf b hb).2 x c e, fun p hp => absurd (show p ∈ ([] : List (Addr × Obj)) ++ [] from hp) (by simp)⟩
  have loop : codeAny (model X.prog X.w) X.A (.compLoop (.DictComp kx vx [⟨tg, iter, ifs, 0⟩] scope pos) 0 (.ref it) (.ref D) ce) (compPost (model X.prog X.w) X.A X.xe use Qf (.ref D) s3.heap.objs.size) s4 := by
    refine compLoop_anyD (fun n s' => ∃ i H', Inv (X.blk s3 H3 scope ce fp) [] (wipe σ (own.map (·.2))) H' s' ∧ tn i s'.heap ∧ (∀ b ∈ fp, H' b = none) ∧ W i n H') ?_ m0 ⟨0, H3, I4, st4, nfp, w0⟩
    rintro n s5 ⟨i, H5, I5, st5, n5, w5⟩
    rcases turn i n H5 w5 with ⟨stop, qq⟩ | ⟨go, Nx, hNx, step⟩
    · have td := T.done (X.blk s3 H3 scope ce fp) rfl rfl rfl hc i [] s5 _ H5 (fun _ _ => False) I5 (stat I5 n5) st5 stop
      refine thnF td fun r s6 ⟨hr, I6⟩ => ?_
      subst hr
      have I7 : Inv X pins σ H5 s6 := I3.call' (ch := fp) I6.os I6.base I6.hok I6.bare fun b hb => ⟨(f3 b hb).1.2.2.2.1, (f3 b hb).1.2.1, (f3 b hb).1.2.2.2.2.1, (f3 b hb).1.2.2.2.2.2⟩
      have nC : H5 s3.heap.objs.size = none := by
        have z : H5 ce.locals = none := I6.free
        rw [cL] at z
        exact z
      obtain ⟨m, hn, _⟩ := I6.loc
      have hn : s6.heap.Ns ce.locals m := hn
      rw [cL] at hn
      exact hRR D s3.heap.objs.size s6 m H5 I7 qq hn (I3.fpOk (Nat.le_refl _) nC)
    · have ti := T.item (X.blk s3 H3 scope ce fp) rfl rfl rfl hc i [] s5 _ H5 (fun _ _ => False) I5 (stat I5 n5) st5 go
      refine thnF ti fun r s6 ⟨u, hr, h6⟩ => ?_
      subst hr
      refine thnF h6 fun _ s7 ⟨x, H7, I7, r7, y7, st7, n7⟩ => ?_
      have I7' := I7.pinned (stat I7 n7) (T.obj _ _ st7)
      refine thnF (pg.run _ s7 _ H7 x u _ I7' r7 (step x H7 y7)) fun _ s8 ⟨σ8, H8, I8, hw8, q8⟩ => ?_
      refine thnF (pt.run _ s8 σ8 H8 _ I8 q8) fun b s9 ⟨H9, I9, q9⟩ => ?_
      have fin : ∀ {s' : Shared} {H' : Hp}, Inv (X.blk s3 H3 scope ce fp) ([] ++ pinsAt fp s7.heap) σ8 H' s' → Nx H' → ∃ m, m < n ∧ ∃ i H', Inv (X.blk s3 H3 scope ce fp) [] (wipe σ (own.map (·.2))) H' s' ∧ tn i s'.heap ∧ (∀ b ∈ fp, H' b = none) ∧ W i m H' := fun {s' H'} I' nx => by
        obtain ⟨m', hm, w'⟩ := hNx H' nx
        have pin' : ∀ b ∈ fp, ∀ o, s7.heap.get? b = some o → s'.heap.get? b = some o ∧ H' b = none := fun b hb o e =>
          let z := I'.pin (b, o) (List.mem_append_right _ (List.mem_append_right _ (mem_pinsAt hb e)))
          ⟨z.1, z.2.1⟩
        have hl : (wipe σ (own.map (·.2))).length = σ8.length := by rw [← hw8, wipe_length]
        refine ⟨m', hm, i + 1, H', (I'.unpinned (pins := [])).weak hl (fun j v e => ?_), T.keep _ _ _ st7 fun b hb o e => (pin' b hb o e).1, fun b hb => ?_, w'⟩
        · rw [← hw8] at e
          exact (wipe_some e).1
        · obtain ⟨o, e, _⟩ := T.obj _ _ st7 b hb
          exact (pin' b hb o e).2
      cases b with
      | false =>
        simp only [Bool.false_eq_true, if_false] at q9 ⊢
        exact fin I9 q9
      | true =>
        simp only [if_true] at q9 ⊢
        refine thnF (pk.run _ s9 σ8 H9 _ I9 q9) fun z s10 ⟨yk, H10, I10, r10, q10⟩ => ?_
        refine thnF (pe.run _ s10 σ8 H10 _ I10 q10) fun z2 s11 ⟨yv, H11, I11, r11, xs, k, qa, ek, kb, hD11, hks, hz11, nx⟩ => ?_
        subst ek
        obtain rfl : z = Value.ref qa := r10
        exact n_dictSet (X := X.blk s3 H3 scope ce fp) hu I11 hD11 hks kb hz11 r11 fun s12 I12 => fin I12 nx
  exact codeAny_compStart_dict loop (T.self X.A 0 _ _ _ st4 loop)
theorem pe_ndc {kx vx tg iter : Expr} {ifs : List Expr} {scope : Scope} {own : List (Str × Nat)} {pos : Pos} {wi : TI} {g : TG} {tt : TT} {tk tv : TE} (hc : X.calm = true) (hN : X.N.Nodup) (hu : X.A.units + 64 < cLine) (hi : PI X tg iter wi) (ok : BlkOk X.N X.env.scope scope own)
    (hg : ∀ (s : Shared) (H : Hp) (C : Addr) (cl : List (Str × Addr)) (fp : List Addr), PG (X.blk s H scope (compEnvC scope cl C X.env) fp) tg g) (ht : ∀ (s : Shared) (H : Hp) (C : Addr) (cl : List (Str × Addr)) (fp : List Addr), PTs (X.blk s H scope (compEnvC scope cl C X.env) fp) ifs tt)
    (hk : ∀ (s : Shared) (H : Hp) (C : Addr) (cl : List (Str × Addr)) (fp : List Addr), PE (X.blk s H scope (compEnvC scope cl C X.env) fp) kx tk)
    (he : ∀ (s : Shared) (H : Hp) (C : Addr) (cl : List (Str × Addr)) (fp : List Addr), PE (X.blk s H scope (compEnvC scope cl C X.env) fp) vx tv) (hs : ∀ x, foldedSetIterable iter X.env x = pure x := by intro _; rfl) :
    PE X (.DictComp kx vx [⟨tg, iter, ifs, 0⟩] scope pos) (tNDc X.prog X.w wi g tt tk tv (own.map (·.2))) := by
  refine ⟨fun pins s σ H Q I h => ?_⟩
  rw [arm_eval_DictComp]
  refine ndc_core hc hN hu I hi ok hg ht hk he hs h fun D C s' m H' I' q hn f => ⟨m, hn, fun h'' sb => ?_⟩
  obtain ⟨f0, f1, f2, f3, f4, f5⟩ := f
  exact ⟨.ref D, H', I'.turned (t' := s'.toks) (fun b o hb e => (sb.2 b hb).trans e) f0 f1 f3 f4 f5, rfl, q⟩
end

/-! ### dict(xs), xs a list of pairs; {k: v, ..}; isinstance -/
def mergeN (xs : NL) : NL → NL
  | [] => xs
  | p :: r => mergeN (putN xs p.1 p.2.1 p.2.2) r
theorem RelX.merge : ∀ {more : NL} {us : List (DK × Addr × Value)} {xs : NL} {ws : List (DK × Addr × Value)}, RelX more us → RelX xs ws → RelX (mergeN xs more) (storedAllH ws us)
  | [], us, xs, ws, r, r0 => by
    cases r
    exact r0
  | p :: more, us, xs, ws, r, r0 => by
    unfold RelX at r
    cases r with
    | @cons _ q _ qs h t =>
      have e : RelX (putN xs p.1 p.2.1 p.2.2) (storedH ws q.1 q.2.1 q.2.2) := by
        have := r0.put p.1 p.2.1 h.2.2
        rw [← h.1, ← h.2.1]
        exact this
      show RelX (mergeN (putN xs p.1 p.2.1 p.2.2) more) (storedAllH (storedH ws q.1 q.2.1 q.2.2) qs)
      exact RelX.merge (show RelX more qs from t) e
theorem length_mergeN : ∀ (more xs : NL), (mergeN xs more).length ≤ xs.length + more.length
  | [], xs => by show xs.length ≤ xs.length + 0; omega
  | p :: r, xs => by
    have h1 := length_mergeN r (putN xs p.1 p.2.1 p.2.2)
    have h2 := length_putN xs p.1 p.2.1 p.2.2
    show (mergeN (putN xs p.1 p.2.1 p.2.2) r).length ≤ _
    rw [List.length_cons]; omega
theorem mergeN_app : ∀ (more xs : NL), ((xs ++ more).map (·.1)).Nodup → mergeN xs more = xs ++ more
  | [], xs, _ => by rw [List.append_nil]; rfl
  | p :: r, xs, hn => by
    have hnot : p.1 ∉ xs.map (·.1) := by
      rw [List.map_append, List.map_cons, List.nodup_append] at hn
      exact fun hm => hn.2.2 p.1 hm p.1 List.mem_cons_self rfl
    show mergeN (putN xs p.1 p.2.1 p.2.2) r = xs ++ p :: r
    rw [putN_new _ _ (valN_none hnot)]
    have e : xs ++ p :: r = (xs ++ [(p.1, p.2.1, p.2.2)]) ++ r := by simp
    rw [e] at hn ⊢
    exact mergeN_app r _ hn
theorem mergeN_nil (more : NL) (hn : (more.map (·.1)).Nodup) : mergeN [] more = more := by
  have := mergeN_app more [] (by simpa using hn)
  simpa using this
section
variable {X : Cx}
/-- the pairs of the list, told by their places -/
def PairsN (K : PySem.W.Frag) (H : Hp) : List Addr → NL → Prop := Paired fun (p : Addr) (x : DK × Addr × V) => SqT K H p [.ref x.2.1, x.2.2] ∧ DKAt H x.2.1 x.1
theorem pairsN_of {pins : List (Addr × Obj)} {σ : St} {H : Hp} {s : Shared} (I : Inv X pins σ H s) : ∀ {ps : List Addr} {xs : NL}, PairsN X.K H ps xs →
    ∃ us : List (DK × Addr × Value), RelX xs us ∧ us.length = ps.length ∧ (∀ y ∈ us, (dkKind X.prog X.w).is s.heap y.1 y.2.1) ∧ ∀ (j : Nat) (q : DK × Addr × Value), us[j]? = some q → ∃ b : Addr, ps[j]? = some b ∧ IsTup s.heap b #[.ref q.2.1, q.2.2]
  | _, _, .nil => ⟨[], .nil, rfl, (fun y hy => nomatch hy), fun j q e => by simp at e⟩
  | _, _, .cons (a := p) (b := x) h t => by
    obtain ⟨us, r, hl, hk, hp⟩ := pairsN_of I t
    obtain ⟨its, rv, ht, _⟩ := I.tuple h.1
    obtain ⟨u, y, ei, ru, ry⟩ := vals2 rv
    subst ei
    obtain rfl : u = Value.ref x.2.1 := ru
    refine ⟨(x.1, x.2.1, y) :: us, .cons ⟨rfl, rfl, ry⟩ r, by rw [List.length_cons, List.length_cons, hl], fun z hz => ?_, fun j q e => ?_⟩
    · rcases List.mem_cons.mp hz with e | hz
      · subst e
        exact dk_is I.hok h.2
      · exact hk z hz
    · cases j with
      | zero =>
        have e' : (x.1, x.2.1, y) = q := Option.some.inj e
        subst e'
        exact ⟨p, rfl, ht⟩
      | succ j =>
        obtain ⟨b, e1, e2⟩ := hp j q (by simpa using e)
        exact ⟨b, by simpa using e1, e2⟩
def rDictN (P : Program) (w : World) (K : PySem.W.Frag) : List V → Hp → VK → Prop := fun vs H Q => ∃ (a : Addr) (ps : List Addr) (xs : NL), vs = [.ref a] ∧ SqL K H a (ps.map V.ref) ∧ PairsN K H ps xs ∧ ∀ p, H p = none → Q (.ref p) (upd H p (ndO P w p (mergeN [] xs)))
theorem call_dictN (hcalm : X.calm = true) (hu : X.A.units + 64 < cLine) : CallR X (.type "dict") (rDictN X.prog X.w X.K) := by
  intro pins s σ H vs us Q I r q
  obtain ⟨a, ps, xs, ex, hq, hp, q⟩ := q
  subst ex
  obtain ⟨u, eu, rx⟩ := vals1 r
  subst eu
  obtain rfl : u = Value.ref a := rx
  obtain ⟨its, rv, pl, hz⟩ := I.list hq
  have ei := refs_at rv
  subst ei
  rw [List.length_map] at hz
  obtain ⟨ws, rel, hl, hk, hpr⟩ := pairsN_of I hp
  obtain ⟨o, n, ho, hc, hd, hdat⟩ := pl
  have hfresh := I.hok.fresh (Nat.le_refl s.heap.objs.size)
  refine call_dict_pairsH (knd := dkKind X.prog X.w) (ps := ws) (PairArg.list a ((ps.map Value.ref).toArray) (fun j => ps.getD j 0) (ws.map fun x => (Value.ref x.2.1, x.2.2))) (I.ok.hd hcalm) (dk_room2 hu) ⟨⟨o, n, ho, hc, hd, hdat⟩, ?_⟩ ?_ ?_ (by rw [List.length_map, hl]; exact hz) fun h' tk dd' k => ?_
  · refine ⟨by simp [hl], fun j kk v e => ?_⟩
    rw [List.getElem?_map] at e
    obtain ⟨y, hy, e⟩ := Option.map_eq_some_iff.mp e
    injection e with e1 e2
    subst e1 e2
    obtain ⟨b, h1, h2⟩ := hpr j y hy
    have hb : ps.getD j 0 = b := by simp [List.getD, h1]
    refine ⟨by simp [h1, hb], ?_⟩
    show PairAt s.heap (ps.getD j 0) (.ref y.2.1) y.2.2
    rw [hb]
    exact .inl h2
  · refine ⟨by rw [List.length_map], fun i key v e => ?_⟩
    have e : (ws.map fun x => (Value.ref x.2.1, x.2.2))[i]? = some (key, v) := e
    rw [List.getElem?_map] at e
    obtain ⟨y, hy, e⟩ := Option.map_eq_some_iff.mp e
    injection e with e1 e2
    subst e1 e2
    exact ⟨y.1, y.2.1, hy, rfl⟩
  · intro h' hk' x hx
    show (nestedKind X.prog X.w).is h' x.1.toN x.2.1
    exact (nestedKind_stays (prog := X.prog) (w := X.w)).stays (h := s.heap) (fun b o vs m e _ => hk' b o (Nat.ne_of_lt (Heap.lt_size e)) (fun q => nomatch q) e) (hk x hx)
  · have hm : (s.heap.objs.size == sysModules) = false := beq_eq_false_iff_ne.mpr (Nat.ne_of_gt I.big)
    have hlen : (mergeN [] xs).length ≤ sizeLine := by
      refine Nat.le_trans (length_mergeN xs []) ?_
      rw [List.length_nil, Nat.zero_add, rel.length, hl]
      exact hz
    exact ⟨.ref s.heap.objs.size, upd H s.heap.objs.size (ndO X.prog X.w s.heap.objs.size (mergeN [] xs)), I.laid (t' := tk) (fun b o e => k b o (fun q => nomatch q) e) (Nat.le_refl _) (ndO_ok hm hlen (rel.merge .nil) dd'), rfl, q _ hfresh⟩

/-- {k: v, ..} -/
def NVV (H : Hp) : List (V × V) → NL → Prop := Paired fun (p : V × V) (x : DK × Addr × V) => p.1 = .ref x.2.1 ∧ p.2 = x.2.2 ∧ DKAt H x.2.1 x.1
def tNDisp (P : Program) (w : World) (trs : List (TE × TE)) : TE := fun σ H Q => ∀ p, H p = none → tPairs trs σ (upd H p (ndO P w p [])) fun ps H2 => H2 p = some (ndO P w p []) ∧ ∃ xs : NL, NVV H2 ps xs ∧ xs.length ≤ 15 ∧ Q (.ref p) (upd H2 p (ndO P w p (mergeN [] xs)))
theorem carriesN {H : Hp} {h : Heap} {P : Program} {w : World} (ok : HOk P w H h) : ∀ {ps : List (V × V)} {xs : NL} {ws : List (Value × Value)}, NVV H ps xs → VV ps ws → ∃ us, CarriesH (dkKind P w) h ws us ∧ RelX xs us
  | _, _, _, .nil, r => by
    cases r
    exact ⟨[], True.intro, .nil⟩
  | _, _, _, .cons (a := p) (b := x) hq t, r => by
    cases r with
    | @cons _ b _ bs h t2 =>
      obtain ⟨us, c, rr⟩ := carriesN ok t t2
      obtain ⟨b1, b2⟩ := b
      have h1 : RelV p.1 b1 := h.1
      rw [hq.1] at h1
      obtain rfl : b1 = Value.ref x.2.1 := h1
      have h2 : RelV p.2 b2 := h.2
      rw [hq.2.1] at h2
      exact ⟨(x.1, x.2.1, b2) :: us, ⟨rfl, rfl, dk_is ok hq.2.2, c⟩, .cons ⟨rfl, rfl, h2⟩ rr⟩
end
theorem pe_ndisp {X : Cx} {pos : Pos} {keys : List (Option Expr)} {values : List Expr} {trs : List (TE × TE)} (hu : X.A.units + 64 < cLine) (h : PPs X pos keys values trs) (hall : keys.all (·.isSome) = true) (hl : keys.length = values.length) (h0 : keys ≠ [])
    (h15 : keys.length ≤ 15) : PE X (.Dict keys values pos) (tNDisp X.prog X.w trs) := by
  refine ⟨fun pins s σ H Q I q => ?_⟩
  have hn := I.hok.fresh (Nat.le_refl s.heap.objs.size)
  have I1 := I.laid (a := s.heap.objs.size) (o := ndO X.prog X.w s.heap.objs.size []) (h' := s.heap.push { cls := .type "dict", data := .dict #[] }) (t' := s.toks) (fun _ _ q => Heap.get?_push_of_some _ q) (Nat.le_refl _) (nd_empty s.heap I.big)
  have hlen := pairTrees_length keys values X.env pos hall hl
  have hne : pairTrees keys values X.env pos ≠ [] := fun he => by
    rw [he] at hlen
    exact h0 (List.length_eq_zero_iff.mp hlen.symm)
  rw [arm_eval_Dict, zip_pairTrees keys values X.env pos hall hl, dictDisplay_pairs _ hne (by rw [hlen]; omega)]
  refine wpAny_bind (wpAny_standAt (wpAny_bind (wpAny_subDictH (knd := dkKind X.prog X.w) (Q := fun d s' => wpAny (model X.prog X.w) X.A (pure (Value.ref d)) (EP X pins σ Q) X.xe s') (dk_room0 hu) (by rw [hlen]; exact h15) ?_)))
  refine thn (h.run pins _ σ _ _ I1 (q _ hn)) fun ws s2 ⟨ps, H2, I2, rel, e, xs, nv, lk, q2⟩ => ?_
  obtain ⟨us, c, rr⟩ := carriesN I2.hok nv rel
  obtain ⟨hd0, _, us0, r0, dd⟩ := nd_dict I2.hok ⟨.inl e, fun x hx => nomatch hx⟩
  unfold RelX at r0
  cases r0
  refine ⟨us, c, dd, fun h' tk dd' hs => wpAny_pure ⟨.ref s.heap.objs.size, _, ?_, rfl, q2⟩⟩
  have hz : (mergeN [] xs).length ≤ sizeLine := by
    have h1 := length_mergeN xs []
    rw [List.length_nil] at h1
    rw [sizeLine_eq]; omega
  exact nd_wr I2 e hd0 hz (rr.merge .nil) dd' hs
def rIsiN (P : Program) (w : World) (K : PySem.W.Frag) : List V → Hp → VK → Prop := fun vs H Q => ∃ (d : Addr) (c : V) (xs : NL) (u : Value) (b : Bool), vs = [.ref d, c] ∧ ClsV c u ∧ Rd H d (ndO P w d xs) ∧ PySem.W.kitOne K (.type "dict") u = some b ∧ Q (.bl b) H
theorem call_isiN {X : Cx} : CallR X (.builtin "isinstance") (rIsiN X.prog X.w X.K) := by
  intro pins s σ H vs us Q I r h
  obtain ⟨d, c, xs, u, b, rfl, k, rd, e, q⟩ := h
  obtain ⟨u1, u2, rfl, r1, r2⟩ := vals2 r
  have e2 := k.eq r2
  subst e2
  obtain rfl : u1 = Value.ref d := r1
  obtain ⟨_, _, _, us, _, o, es, ep, ho, hc, _⟩ := nd_raw I.hok rd
  exact PySem.W.kia_one PySem.W.kitx_dict I.kIn ⟨o, ho, hc.1⟩ e (fun z => nomatch z) fun tk => ⟨.bl b, H, I.tok tk, rfl, q⟩
end L2.K7

/-! N2: own exceptions over an own base over ValueError whose __init__(self, value) says super().__init__() and then self.value = value; several clauses «except X as e». -/
namespace PySem
namespace InvX
open PySem.W PySem.Calls PyProof.Rows PySem.HandSPX
/-! ### the text of __init__ -/
def iA (p1 p2 : Pos) : Arguments := { posonlyargs := [], args := [{ arg := "self", annotation := none, pos := p1 }, { arg := "value", annotation := none, pos := p2 }], vararg := none, kwonlyargs := [], kw_defaults := [], kwarg := none, defaults := [] }
def iB (q1 q2 q3 q4 q5 q6 q7 q8 q9 : Pos) : List Stmt := [.Expr (.Call (.Attribute (.Call (.Name "super" q1) [] [] q2) "__init__" q3) [] [] q4) q5, .Assign [.Attribute (.Name "self" q6) "value" q7] (.Name "value" q8) q9]
def iS : Scope := { kind := .function, names := [(PySem.Str.ofString "self", .local), (PySem.Str.ofString "value", .local), (PySem.Str.ofString "__class__", .free), (PySem.Str.ofString "super", .globalImplicit)], isGenerator := false, isCoroutine := false, more := [] }
/-- what the written part says of the class at C, of its __init__ at fI, of the cell at cc, of the code object at cda -/
structure InvTxt (prog : Program) (K : Frag) (C fI cc cda : Addr) : Prop where
  cls : ∃ nm q N bs bm sn sub ab col dd k0 k1 k2 k3 k5, K.lookup C = some (excClassObj nm q C N bs bm true sn sub ab col dd k0 k1 k2 k3 k5 "ValueError.__new__") ∧ refsVE bm = true
  sa : findIn K (.ref C) "__setattr__" = some (some (.builtin "object.__setattr__"))
  noN : findIn K (.ref C) "value" = some none
  iC : findIn K (.ref C) "__init__" = some (some (.ref fI))
  tC : typeIn K (.ref fI) = some (.type "function")
  kC : keepIn K (.ref C) = true
  exC : subIn K (.ref C) (.type "BaseException") = some true
  tyC : typeIn K (.ref C) = some (.type "type")
  sup : ks_superIn K C C "__init__" = some (some (.builtin "ValueError.__init__"))
  ve : subIn K (.ref C) (.type "ValueError") = some true
  own : mroIn K C (.ref C) = some true
  opq : nsIn K cStatics "thirdparty.any" = some none
  fn : ∃ (qual : Str) (oc : Value) (od : Option Addr) (doc pm : Value) (an : Option Addr) (ct : Value) (osl : Array (Option Value)) (p1 p2 q1 q2 q3 q4 q5 q6 q7 q8 q9 : Pos),
    K.lookup fI = some ⟨oc, od, .func (ksFn "__init__" qual (iA p1 p2) (iB q1 q2 q3 q4 q5 q6 q7 q8 q9) iS .none .none doc pm an (.ref cda) ct cc), osl⟩ ∧ codeIn K (.ref cda) qual = true ∧ (q3.endLine == q4.line) = true
  cell : ∃ cl cld csl, K.lookup cc = some ⟨cl, cld, .cell (some (.ref C)), csl⟩
  code : ∃ ccl cdd vs ccs file tf, K.lookup cda = some ⟨ccl, cdd, .fields vs, ccs⟩ ∧ vs[2]? = some (.str file tf) ∧ ((prog.main.file : Str) == file) = true
  top : (prog.main.scope.names.lookup ("super" : Str)).isSome = false
/-- what __init__ leaves of a fresh exception at x -/
structure InitEnd (h h' : Heap) (x C dx t1 : Addr) (v : Value) : Prop where
  keep : ∀ b o, b ≠ x → h.get? b = some o → h'.get? b = some o
  obj : h'.get? x = some { cls := .ref C, dict := some dx, data := .fields #[.ref t1, .none, .none, .none, .bool false, .none] }
  dbig : h.objs.size ≤ dx
  dne : dx ≠ x
  ns : h'.Ns1 dx (fun y => if y = "value" then some v else none)
/-- a made exception -/
structure OwnMade (h h' : Heap) (e C d : Addr) (v : Value) : Prop where
  keep : ∀ b o, h.get? b = some o → h'.get? b = some o
  new : h.objs.size ≤ e
  obj : ∃ oe vs, h'.get? e = some oe ∧ oe.cls = .ref C ∧ oe.dict = some d ∧ oe.data = .fields vs ∧ vs[1]? = some .none
  dbig : h.objs.size ≤ d
  dne : d ≠ e
  ns : h'.Ns1 d (fun y => if y = "value" then some v else none)
theorem one_size (v : Value) : [v].length ≤ sizeLine := by
  rw [sizeLine_eq]
  exact (by decide : 1 ≤ 16777216)
theorem zero_size : ([] : List Value).length ≤ sizeLine := Nat.zero_le _
section
variable {prog : Program} {w : World} {A : Around} {E : Value → Shared → Prop} {R : Result → Shared → Prop} {s : Shared} {K : Frag} {mg : Str → Option Value} {C fI cc cda : Addr}
def plainOf (o : Expr) (env : Env) : Sem Bool := do return (← importBound o env).getD true
/-- a method call on one line, few arguments -/
theorem mcall_line {o : Expr} {m : Str} {apos pos : Pos} {env : Env} {ov : Value} {n : Nat} {args : List (Bool × Sem Value)} {kws : List (Option Str × Sem Value)} (hf : methodCallForm n args kws = true) (hl : (apos.endLine == pos.line) = true) :
    methodCall o m apos pos env ov n args kws = (do
      let (f, first) ← holding [ov] (getMethod ov m (plainOf o env))
      callWith pos f first args kws) := by
  have e1 : calleeOf (methodCallForm n args kws) o env ov m = getMethod ov m (plainOf o env) := by
    rw [hf] <;> rfl
  have e2 : methodCallPos (methodCallForm n args kws) o env apos pos = pure pos := by
    unfold methodCallPos
    exact if_pos (by rw [hl, Bool.or_true])
  unfold methodCall
  rw [e1, e2]
  first
    | rfl
    | simp only [pure_bind]
theorem mcall0 {o : Expr} {name : Str} {apos pos : Pos} {env : Env} (hl : (apos.endLine == pos.line) = true) : eval (.Call (.Attribute o name apos) [] [] pos) env = (do
      let ov ← attributeBase o name env (eval o env)
      standAt apos.atName
      let (f, first) ← holding [ov] (getMethod ov name (plainOf o env))
      callWith pos f first (backTo pos (starEach [] env)) []) := by
  rw [arm_eval_Call]
  have e : ∀ ov, methodCall o name apos pos env ov 0 (backTo pos (starEach [] env)) (backToKw pos (keywordEach [] env)) = (do
      let (f, first) ← holding [ov] (getMethod ov name (plainOf o env))
      callWith pos f first (backTo pos (starEach [] env)) []) := fun ov => mcall_line rfl hl
  show (attributeBase o name env (eval o env) >>= fun ov => standAt apos.atName >>= fun _ => methodCall o name apos pos env ov 0 (backTo pos (starEach [] env)) (backToKw pos (keywordEach [] env))) = _
  simp only [e]
/-- the bound __init__ of ValueError, called without arguments -/
theorem call_mw {nm q : Str} {N : Addr} {bs bm : List Value} {sn : List Str} {sub : List Value} {ab : Bool} {col : Option Bool} {dd : Option Addr} {k0 k1 k2 k3 k5 : Option Value} {h : Heap} {g : Array GenState} {d : Drawn} {t : Nat} {os : OsState} {u e t0 : Addr} {Q : Value → Shared → Prop}
    (hC : h.get? C = some (excClassObj nm q C N bs bm true sn sub ab col dd k0 k1 k2 k3 k5 "ValueError.__new__")) (he : h.get? e = some (excO C t0)) (hu : h.get? u = some (kxs_mw "ValueError.__init__" e))
    (hq : ∀ h' t1, (∀ b o, b ≠ e → h.get? b = some o → h'.get? b = some o) → h'.get? e = some (excO C t1) → Q .none ⟨h', g, d, t, os⟩) :
    wpAny (model prog w) A (call (.ref u) []) Q E ⟨h, g, d, t, os⟩ := by
  refine wpAny_call (codeAny_of_tree ?_)
  show wpAny _ A.in1 (callAny (.ref u) ⟨[], []⟩) _ _ _
  simp only [callAny]
  refine wpAny_bind (wpAny_load hu ?_)
  simp only [kxs_mw, show (Value.type "method-wrapper" == Value.type "method" || Value.type "method-wrapper" == Value.type "builtin_function_or_method" || Value.type "method-wrapper" == Value.type "method-wrapper") = true by decide, if_true]
  refine KFB.if_so (by decide) ?_
  refine wpAny_bind (check_bound_init F.excBase_ValueError.toExcCallFacts hC he rfl ?_)
  refine wpAny_bind (wpAny_pure (wpAny_pure ?_))
  refine ⟨Code.quiet_builtin _ (by decide +kernel), codeAny_builtin F.excBase_ValueError.initEntry ?_⟩
  rw [Around.under_plainId F.excBase_ValueError.init.plain _]
  exact exc_init_tree (cls := .ref C) (t0 := t0) (dv := none) (c2 := .none) (c3 := .none) (b4 := .bool false) he zero_size fun h' k e' _ => hq h' h.objs.size k e'

theorem inv_init (T : InvTxt prog K C fI cc cda) {x t0 : Addr} {v : Value} (X : K.In s.heap) (hlim : s.heap.NoLimit) (G : s.heap.Ns mainGlobals mg) (hsup : mg "super" = none) (B : ∃ mb, s.heap.Ns builtinsNs mb ∧ ∀ x : Str, x ≠ "__name__" → mb x = bootBuiltins x)
    (hx : s.heap.get? x = some (excO C t0)) (hnx : K.lookup x = none) (hroom : A.depth < recursionLimit)
    (hq : ∀ h' tk dx t1, InitEnd s.heap h' x C dx t1 v → R (.ok (.ret .none)) { s with heap := h', toks := tk }) :
    codeAny (model prog w) A (.call (.ref fI) ⟨[.ref x, v], []⟩) R s := by
  obtain ⟨qual, oc, od, doc, pm, an, ct, osl, p1, p2, q1, q2, q3, q4, q5, q6, q7, q8, q9, ho, hcd, hline⟩ := T.fn
  obtain ⟨nm, q, N, bs, bm, sn, sub, ab, col, dd, k0, k1, k2, k3, k5, hC, hbm⟩ := T.cls
  obtain ⟨cl, cld, csl, hcell⟩ := T.cell
  obtain ⟨ccl, cdd, vs, ccs, file, tf, hcode, hvs, hfile⟩ := T.code
  obtain ⟨mb, hmb, hbb⟩ := B
  have hcl : clsIn K C = some { name := nm, bases := bs, mro := .ref C :: bm, ns := N, qualname := q, hasDict := true, slotNames := sn, subclasses := sub, abstract := ab, collection := col, hasDel := false } := by unfold clsIn; rw [hC] <;> rfl
  have hxC : x ≠ C := fun z => by rw [z, hC] at hnx; cases hnx
  refine ks_codeAny_call_defAt (fd := ksFn "__init__" qual (iA p1 p2) (iB q1 q2 q3 q4 q5 q6 q7 q8 q9) iS .none .none doc pm an (.ref cda) ct cc) (body := iB q1 q2 q3 q4 q5 q6 q7 q8 q9) (binds := [("self", .ref x), ("value", v)])
    hroom (X _ _ ho) rfl hlim (codeRec_of X hcd) rfl (BindsTo.of_eq (by first | rfl | with_unfolding_all rfl)) (by show ∀ x ∈ iS.names, x.2 ≠ .cell; decide) ?_ (fun h1 hns k => ?_) rfl rfl rfl
  · intro y hy
    rcases List.mem_cons.mp hy with e | hy
    · subst e
      rfl
    · rcases List.mem_cons.mp hy with e | hy
      · subst e
        rfl
      · cases hy
  obtain ⟨hp, g, d, t, os⟩ := s
  have X1 : K.In h1 := X.keeps k
  have hx1 := k _ _ hx
  have hC1 := X1 _ _ hC
  -- super().__init__()
  show _root_.PySem.wpAt _ _ _ (execs _ _) _ _ _
  refine ks_wpAt_execs_cons (ks_wpAt_Expr_any (ks_wpAt_MethodCall (ks_wpAt_super_base rfl rfl (by decide) rfl (X1 _ _ ho) rfl rfl rfl (X1 _ _ hcode) rfl hvs hfile T.top ?_) (mcall0 hline)))
  refine ks_loadName_global rfl rfl (loadGlobal_builtin (G.keeps k) hsup (hmb.keeps k) ((hbb _ (by decide +kernel)).trans (by decide +kernel : bootBuiltins "super" = some (.type "super"))) ⟨rfl, ?_⟩)
  refine wpAny_loadName_free rfl rfl rfl ⟨_, X1 _ _ hcell, rfl⟩ ?_
  refine wpAny_loadName_local rfl rfl hns (v := .ref x) (by first | rfl | with_unfolding_all rfl | kernel_rfl) ?_
  refine ks_wpAny_isType_cls hC1 rfl ⟨rfl, ?_⟩
  refine ks_wpAny_call_super hC1 rfl hx1 rfl (fun c e => nomatch e) (looks_mroIn X1 T.own) (fun h2 e2 kk2 => ?_)
  have X2 : K.In h2 := X1.keeps kk2
  have hx2 := kk2 _ _ hx1
  have hf : alongIn K "__init__" bm = some (some (.builtin "ValueError.__init__")) := by
    have z := T.sup
    unfold ks_superIn at z
    rw [hcl] at z
    simpa [List.dropWhile_cons] using z
  have hI : Looks (model prog w) h2 (isInstance (.ref x) (.type "ValueError")) true := (show Looks (model prog w) h2 (typeOf (.ref x)) (.ref C) from fun A Q E s kq q => wpAny_typeOf_ref (kq _ _ hx2) q).andThen (looks_subIn X2 T.ve)
  refine kxs_getMethod kxs_ValueError e2 (looks_opaque X2 T.opq) (l₀ := .ref C :: bm) (l := bm) (fun A Q E s kq q => wpAny_bind ((looks_clsIn X2 hcl) A _ E s kq (wpAny_pure q))) (by simp [List.dropWhile_cons]) X2 hf hI hxC (by decide) ?_
  have hsz : h2.objs.size ≠ x := Nat.ne_of_gt (Heap.lt_size hx2)
  have hx3 : (h2.push (kxs_mw "ValueError.__init__" x)).get? x = some (excO C t0) := Heap.get?_push_of_some _ hx2
  have hu3 : (h2.push (kxs_mw "ValueError.__init__" x)).get? h2.objs.size = some (kxs_mw "ValueError.__init__" x) := Heap.get?_push_at rfl rfl
  refine kxs_callWith (i := "ValueError.__init__") (x := x) rfl (evalArgs_empty ⟨hu3, ?_⟩)
  have k3 : ∀ b o, h1.get? b = some o → (h2.push (kxs_mw "ValueError.__init__" x)).get? b = some o := fun b o e => Heap.get?_push_of_some _ (kk2 _ _ e)
  refine call_mw (k3 _ _ hC1) hx3 hu3 (fun h4 t1 k4 hx4 => ?_)
  -- self.value = value
  have k14 : ∀ b o, b ≠ x → h1.get? b = some o → h4.get? b = some o := fun b o hb e => k4 b o hb (k3 b o e)
  have X4 : K.In h4 := fun a o e => k14 a o (fun z => by rw [z, hnx] at e; cases e) (X1 a o e)
  have hL : hp.objs.size ≠ x := Nat.ne_of_gt (Heap.lt_size hx)
  obtain ⟨oL, es, ep, hoL, hr⟩ := hns
  have hns4 : h4.Ns hp.objs.size (fun y => ([("self", Value.ref x), ("value", v)] : List (Str × Value)).reverse.lookup y) := ⟨oL, es, ep, k14 _ _ hL hoL, hr⟩
  refine wpAt_of_wpAny ?_
  show wpAny _ _ (execs _ _) _ _ _
  refine wpAny_execs_cons (plainObj_wpAny_Assign_Attribute ?_)
  refine wpAny_Name (wpAny_loadName_local rfl rfl hns4 (v := v) (by first | rfl | with_unfolding_all rfl | kernel_rfl) ?_) (by decide)
  refine wpAny_Name (wpAny_loadName_local rfl rfl hns4 (v := .ref x) (by first | rfl | with_unfolding_all rfl | kernel_rfl) ?_) (by decide)
  refine set_plain X4 (ox := excO C t1) (od := none) ⟨hx4, rfl, rfl, trivial⟩ T.sa ?_
  refine exc_osa X4 hx4 hcl (show refsVE (.ref C :: bm) = true from hbm) rfl T.noN (fun h5 tk5 dx k5' dn dne hx5 hn5 => ?_)
  show wpAny _ _ (execs _ _) _ _ _
  have z : hp.objs.size < h4.objs.size := hns4.lt
  exact wpAny_execs_nil (hq h5 tk5 dx t1 ⟨fun b o hb e => k5' b o hb (k14 b o hb (k b o e)), hx5, Nat.le_of_lt (Nat.lt_of_lt_of_le z dn), dne, hn5⟩)
theorem inv_made (T : InvTxt prog K C fI cc cda) {v : Value} (X : K.In s.heap) (hlim : s.heap.NoLimit) (G : s.heap.Ns mainGlobals mg) (hsup : mg "super" = none) (B : ∃ mb, s.heap.Ns builtinsNs mb ∧ ∀ x : Str, x ≠ "__name__" → mb x = bootBuiltins x) (hroom : A.depth + 1 < recursionLimit)
    (hq : ∀ h' tk e d, OwnMade s.heap h' e C d v → R (.ok (.ret (.ref e))) { s with heap := h', toks := tk }) :
    codeAny (model prog w) A (.call (.ref C) ⟨[v], []⟩) R s := by
  obtain ⟨nm, q, N, bs, bm, sn, sub, ab, col, dd, k0, k1, k2, k3, k5, hC, hbm⟩ := T.cls
  obtain ⟨hp, g, dr, tk, os⟩ := s
  have k : ∀ b o, hp.get? b = some o → ((hp.push (kdv_tup [v])).push (excO C hp.objs.size)).get? b = some o := fun b o e => Heap.get?_push_of_some _ (Heap.get?_push_of_some _ e)
  have hget : ((hp.push (kdv_tup [v])).push (excO C hp.objs.size)).get? (hp.objs.size + 1) = some (excO C hp.objs.size) := by heap_get
  have hnx : K.lookup (hp.objs.size + 1) = none := by
    cases e : K.lookup (hp.objs.size + 1) with
    | none => rfl
    | some o =>
      have z : hp.get? (hp.objs.size + 1) = some o := X _ _ e
      exact absurd (Nat.lt_of_succ_lt (Heap.lt_size z)) (Nat.lt_irrefl _)
  refine call_own F.excBase_ValueError (fun X => refsVE_contains X bm hbm) (X _ _ hC) (looks_findIn X T.iC) (fun self => bind_fn X self T.tC) (one_size v) ?_
  obtain ⟨mb, hmb, hbb⟩ := B
  refine inv_init (s := ⟨(hp.push (kdv_tup [v])).push (excO C hp.objs.size), g, dr, tk, os⟩) T (X.keeps k) (hlim.keeps k) (G.keeps k) hsup ⟨mb, hmb.keeps k, hbb⟩ hget hnx ?_ fun h' tk' dx t1 ⟨k', hx, dn, dne, hns⟩ => ?_
  · show A.depth + 1 < recursionLimit
    exact hroom
  · have old : ∀ b o, hp.get? b = some o → h'.get? b = some o := fun b o e => k' b o (Nat.ne_of_lt (Nat.lt_succ_of_lt (Heap.lt_size e))) (k b o e)
    have z : hp.objs.size + 1 + 1 ≤ dx := by
      first
        | (simpa only [Heap.size_push] using dn)
        | exact dn
        | (have q := dn; rw [Heap.size_push, Heap.size_push] at q; exact q)
    exact ⟨rfl, hq h' tk' (hp.objs.size + 1) dx ⟨old, Nat.le_succ _, ⟨_, _, hx, rfl, rfl, rfl, rfl⟩, Nat.le_trans (Nat.le_trans (Nat.le_succ _) (Nat.le_succ _)) z, dne, hns⟩⟩
end
end InvX
end PySem
namespace L2.K7
open PySem PySem.Spec PyProof.Rows
theorem relO_inv {v : V} {v' : Value} (r : RelV v v') (f : Str) : RelO (List.lookup f [(("value" : Str), v)]) (if f = "value" then some v' else none) := by
  by_cases hw : f = "value"
  · subst hw
    rw [if_pos rfl]
    have q : List.lookup ("value" : Str) [(("value" : Str), v)] = some v := by simp [List.lookup]
    rw [q]
    exact r
  · rw [if_neg hw]
    have qw : (f == ("value" : Str)) = false := by simpa using hw
    have q2 : List.lookup f [(("value" : Str), v)] = none := by simp [List.lookup, qw]
    rw [q2]
    trivial
/-- the exception's own dict -/
abbrev exF (v : V) : HO := .xd [(("value" : Str), v)]
section
variable {X : Cx} {C fI cc cda : Addr} {x : Str}
/-- X(e) -/
def tMkInv (C : Addr) (ta : TA) : St → Hp → XK → Prop := fun σ H Q => ta σ H fun vs H1 => ∃ v, vs = [v] ∧ ∀ d, H1 d = none → Q (.ref C) (some d) (upd H1 d (exF v))
theorem pmk_inv {a : Expr} {ta : TA} {p pos : Pos} {k : Nat} (T : PySem.InvX.InvTxt X.prog X.K C fI cc cda) (gC : X.mg x = some (.ref C)) (hsup : X.mg "super" = none) (hr : Room k X.A) (ha : PA X [a] ta) (hg : Gl X x)
    (hd : (x == ("__debug__" : Str)) = false := by decide) (he : starEach (a :: []) X.env = (false, eval a X.env) :: starEach [] X.env := by rfl) (hpl : (backTo pos (starEach [] X.env)).any (·.1) = false := by rfl) :
    PMk X (.Call (.Name x p) [a] [] pos) (tMkInv C ta) := by
  intro pins s σ H Q I h
  refine wpAny_Call_Name_kw (ld_glob I hg gC ?_ hd)
  refine PySem.W.callWith_K (h₀ := X.base) I.ok.mod.kin T.kC (thn (ha.run pos pins s σ H _ I h) fun us s1 hh => ?_) he hpl
  obtain ⟨vs, H1, I1, r1, v, ev, q1⟩ := hh
  subst ev
  refine ⟨I1.kIn, ?_⟩
  cases r1 with
  | cons rv rn =>
    rename_i v' us'
    cases rn
    show wpAny _ _ (call (.ref C) [v']) _ _ _
    have hlim := I1.nolimit
    have hG : s1.heap.Ns mainGlobals X.mg := I1.mod.glob.keeps I1.bk
    obtain ⟨mb, hm1, hm2⟩ := I1.mod.blt
    have hB : ∃ mb, s1.heap.Ns builtinsNs mb ∧ ∀ x : Str, x ≠ "__name__" → mb x = bootBuiltins x := ⟨mb, hm1.keeps I1.bk, hm2⟩
    obtain ⟨hp, g, dr, tk, os⟩ := s1
    refine wpAny_call (PySem.InvX.inv_made T I1.kIn hlim hG hsup hB (by have := hr.dp; omega) fun h' tk' e d M => ?_)
    show MkP X pins σ Q (.ref e) ⟨h', g, dr, tk', os⟩
    obtain ⟨oe, fv, hoe, hc, hd, hdat, h1⟩ := M.obj
    have hns := M.ns
    obtain ⟨G', g1, g2⟩ := restrict h' fun b => decide (b ≠ e)
    have gk : ∀ b, b ≠ e → G'.get? b = h'.get? b := fun b hb => g1 b (decide_eq_true hb)
    have ge : G'.get? e = none := g2 e (by simp)
    have old : ∀ b o, hp.get? b = some o → G'.get? b = some o := fun b o q => (gk b (Nat.ne_of_lt (Nat.lt_of_lt_of_le (Heap.lt_size q) M.new))).trans (M.keep b o q)
    have ob : ObjOk X.prog X.w (upd H1 d (exF v)) G' d (exF v) :=
      ⟨_, hns.at (fun o q => (gk d M.dne).trans q), fun f => relO_inv rv f⟩
    have J : Inv X pins σ (upd H1 d (exF v)) ⟨G', g, dr, tk', os⟩ := I1.laid (t' := tk') old M.dbig ob
    refine ⟨e, oe, fv, ⟨G', g, dr, tk', os⟩, _, .ref C, some d, rfl, J, fun b o q => ?_, ge, hoe, ⟨hc, hd⟩, hdat, h1, ?_, rfl, I1.bare, raises_own T.exC T.tyC, q1 d (I1.hok.fresh M.dbig)⟩
    · by_cases hb : b = e
      · have q' : G'.get? b = some o := q
        rw [hb, ge] at q'; cases q'
      · exact (gk b hb).symm.trans q
    · rw [upd_ne (Ne.symm M.dne)]
      exact I1.hok.fresh M.new
/-- raise X(e) -/
def tRaiseInv (C : Addr) (W : WX) (ta : TA) : TS := fun _ σ H => tMkInv C ta σ H fun cls d H' => W cls d σ H'
theorem ps_raiseInv {a : Expr} {ta : TA} {W : WX} {p pos pos2 : Pos} {k : Nat} (hc : X.calm = true) (T : PySem.InvX.InvTxt X.prog X.K C fI cc cda) (gC : X.mg x = some (.ref C)) (hsup : X.mg "super" = none) (hr : Room k X.A) (tk : Takes X W) (ha : PA X [a] ta) (hg : Gl X x)
    (hd : (x == ("__debug__" : Str)) = false := by decide) (he : starEach (a :: []) X.env = (false, eval a X.env) :: starEach [] X.env := by rfl) (hpl : (backTo pos (starEach [] X.env)).any (·.1) = false := by rfl) :
    PS X (.Raise (some (.Call (.Name x p) [a] [] pos)) none pos2) (tRaiseInv C W ta) := ps_raise hc tk (pmk_inv T gC hsup hr ha hg hd he hpl)
end

/-! ### several clauses «except x as n» -/
/-- what the clauses wish of an exception of the body, one after the other: slot i is n's -/
def wManyA (K : PySem.W.Frag) (i : Nat) (Wout : WX) (D : Ends) : List (Value × (Addr → Value → Option Addr → TS)) → WX
  | [] => Wout
  | (c, ts) :: r => fun cls d σ H => ∃ b, PySem.W.exmOne K cls c = some b ∧
    (b = true → ∀ a, H a = none → ts a cls d { nx := fun σ' H' => D.nx (σ'.set i none) H', rt := D.rt, bk := fun σ' H' => D.bk (σ'.set i none) H', ct := fun σ' H' => D.ct (σ'.set i none) H' } (σ.set i (some (.ref a))) H) ∧ (b = false → wManyA K i Wout D r cls d σ H)
inductive HdsOkA (X : Cx) (n : Str) : List ExceptHandler → List (Value × (Addr → Value → Option Addr → TS)) → Prop
  | nil : HdsOkA X n [] []
  | cons {x : Str} {c : Value} {ts : Addr → Value → Option Addr → TS} {b₀ : Stmt} {suite : List Stmt} {np pos' : Pos} {hds : List ExceptHandler} {l : List (Value × (Addr → Value → Option Addr → TS))} (hc : Names X x c)
      (hsu : ∀ (a : Addr) (oe : Obj) (cls : Value) (d : Option Addr) (pn : List (Addr × Obj)), Zc cls d oe → (∃ vs, oe.data = .fields vs) → PSs (X.suite a ((a, oe) :: pn)) (b₀ :: suite) (ts a cls d)) (r : HdsOkA X n hds l) :
      HdsOkA X n (.ExceptHandler (some (.Name x np)) (some n) (b₀ :: suite) pos' :: hds) ((c, ts) :: l)
section
variable {X : Cx} {n : Str} {i : Nat} {body : List Stmt} {h₀ : ExceptHandler} {hds : List ExceptHandler} {l : List (Value × (Addr → Value → Option Addr → TS))} {pos : Pos} {tb : WX → TS} {Wout : WX}
theorem ps_try_manyA (hs : X.stack = X.env :: X.outer) (hf : X.env.frame = some X.env.locals) (hN : X.N.Nodup) (hi : X.N[i]? = some n) (hln : X.env.kindOf n = some .local) (tk : Takes X Wout)
    (hb : ∀ (W : WX) (pn : List (Addr × Obj)) (xe : Value → Shared → Prop), Takes (X.tr pn xe) W → PassesOwn (model X.prog X.w) X.A X.env xe → PSs (X.tr pn xe) body (tb W))
    (hh : HdsOkA X n (h₀ :: hds) l) : PS X (.Try body (h₀ :: hds) [] [] pos) (fun D σ H => tb (wManyA X.K i Wout D l) D σ H) := by
  refine ⟨fun pins s σ H D I h => ?_⟩
  have ok := I.ok
  have hfr : X.A.frames = some (X.env :: X.outer) := by rw [ok.frames, hs]
  have hloc : Loc X.env.scope n := .inl hln
  refine wpAny_Try_except ?_
  refine wpAny_mono ((hb (wManyA X.K i Wout D l) (X.pn ++ pins) (fun e s₁ => wpAny (model X.prog X.w) X.A (noteFrame e X.env) (fun _ s₂ => wpAny (model X.prog X.w) X.A (setFlight e none) (fun _ s₃ =>
    wpAny (model X.prog X.w) X.A (handleBy e X.env (h₀ :: hds)) (SP X pins D) X.xe s₃) X.xe s₂) X.xe s₁) (fun u s' xx => ?_) PassesOwn.looking).run [] s σ H D (I.toTry _) h) (fun f s1 hsp => ?_) (fun e s1 he => he)
  · obtain ⟨a, B, sI, pins', σ', H', cls, d, rfl, J', nb, up, sky, na, os, ag, w⟩ := xx
    have J : Inv X pins σ' H' sI := J'.ofTry ok
    have sky' : Sky B (X.env :: X.outer) a (Zc cls d) X.env.locals s'.heap := by rw [← hs]; exact sky
    show wpAny (model X.prog X.w) X.A (noteFrame (.ref a) X.env) _ _ _
    refine Sky.land Zc.steady hfr hf sky' fun h3 fl3 up3 => ?_
    have J3 : Inv X pins σ' H' { s' with heap := h3 } := J.landed nb fl3.1 (up.trans up3) os ag
    obtain ⟨oe3, vs3, he3, hz3, hd3⟩ := fl3.there
    have notFr : ∀ {h : Heap} {o : Obj} {vs : Array Value}, h.FunFrames B (X.env :: X.outer) → h.get? a = some o → o.data = .fields vs → a ∉ frs (X.env :: X.outer) := fun {h o vs} ff e dd hm => by
      obtain ⟨_, o', e', hnf⟩ := ff.mem hm
      rw [e] at e'; cases e'
      exact hnf _ dd
    have nfr := notFr fl3.2.2.1 he3 hd3
    have nL : a ≠ X.env.locals := fun z => nfr (List.mem_filterMap.mpr ⟨X.env, List.mem_cons_self, by rw [hf, z]⟩)
    have nF : a ∉ X.fs := fun hm => by
      obtain ⟨e, he, q⟩ := List.mem_filterMap.mp hm
      exact nfr (List.mem_filterMap.mpr ⟨e, List.mem_cons_of_mem _ he, q⟩)
    have S3 := J3.suite he3 hd3 na nL nF
    have go : ∀ {hds' : List ExceptHandler} {l' : List (Value × (Addr → Value → Option Addr → TS))}, HdsOkA X n hds' l' → wManyA X.K i Wout D l' cls d σ' H' →
        wpAny (model X.prog X.w) X.A (handleBy (.ref a) X.env hds') (SP X pins D) X.xe { s' with heap := h3 } := by
      intro hds' l' hk
      induction hk with
      | nil =>
        intro w
        refine wpAny_handleBy_nil ?_
        obtain ⟨k1, k2, k3, oe, vs, T, oT, ts', he, hz, hd, h1, hr⟩ := id fl3
        unfold PySem.passOn
        refine wpAny_bind (wpAny_field he hd h1 ?_)
        rw [if_neg (show ¬ ((Value.ref T == Value.none) = true) from by simp)]
        have fin : wpAny (model X.prog X.w) X.A (setFlight (.ref a) X.env.frame) (fun _ s4 => wpAny (model X.prog X.w) X.A (throw (.ref a) : Sem Flow) (SP X pins D) X.xe s4) X.xe { s' with heap := h3 } := by
          rw [hf]
          refine HandSPX.setFlight_upZ fl3 fun h4 hh4 up4 => wpAny_throw (tk _ _ ?_)
          exact ⟨a, B, sI, pins, σ', H', cls, d, rfl, J, nb, (up.trans up3).trans up4, .inr (.inr (by rw [hs]; exact hh4)), na, os, ag, w⟩
        first
          | exact wpAny_bind (wpAny_pure (wpAny_bind fin))
          | exact wpAny_bind fin
      | @cons x c ts b₀ suite np pos' hds2 l2 hc hsu r ih =>
        intro w
        obtain ⟨b, hb1, hyes, hno⟩ := w
        refine wpAny_handleBy_cons (codeAny_handlers_test ?_) (by intro q; cases q)
        have LT : PySem.W.Looks (model X.prog X.w) h3 (typeOf (.ref a)) cls := fun A Q E s k q => wpAny_typeOf_ref (k _ _ he3) (by rw [hz3.1]; exact q)
        have LM := PySem.W.exm_one (M := model X.prog X.w) (J3.kIn) LT hb1
        have test : ∀ {Q : Value → Shared → Prop} {E : Value → Shared → Prop}, Q c { s' with heap := h3 } → wpAny (model X.prog X.w) (X.A.mark (some (.ref a))) (eval (.Name x np) X.env) Q E { s' with heap := h3 } := fun {Q E} q => by
          obtain ⟨hg, hdbg, hm | ⟨hm, hv, hnn⟩⟩ := hc
          · exact ld_glob (X := X.suite a ((a, oe3) :: (X.pn ++ pins))) S3 hg hm q hdbg
          · exact ld_blt (X := X.suite a ((a, oe3) :: (X.pn ++ pins))) S3 hg hm hv q hnn hdbg
        refine test (LM.here ?_)
        cases b with
        | true =>
          refine codeAny_handlers_suite_as ?_
          refine HandSPX.lands_againZ fl3 fun h4 fl4 up4 => ?_
          have J4 : Inv X pins σ' H' { s' with heap := h4 } := J.landed nb fl4.1 ((up.trans up3).trans up4) os ag
          obtain ⟨oe4, vs4, he4, hz4, hd4⟩ := fl4.there
          have S4 := J4.suite he4 hd4 na nL nF
          refine store_ok (X := X.suite a ((a, oe4) :: (X.pn ++ pins))) (v := .ref a) S4 hN hi hloc rfl (fun s5 S5 => ?_) (.inr hln)
          refine wpAny_mono ((hsu a oe4 cls d (X.pn ++ pins) hz4 ⟨_, hd4⟩).run [] s5 _ H' _ S5 (hyes rfl a na)) (fun f s6 hsp => ?_) (fun _ _ z => False.elim z)
          have end_ : ∀ {σ6 : St} {H6 : Hp} {Q : Shared → Prop}, Inv (X.suite a ((a, oe4) :: (X.pn ++ pins))) [] σ6 H6 s6 → (∀ s7, Inv X pins (σ6.set i none) H6 s7 → Q s7) →
              wpAny (model X.prog X.w) X.A (do bindName X.env n .none; unbindBehindTheSuite X.env n pos') (fun _ s7 => Q s7) X.xe s6 := fun {σ6 H6 Q} S6 hq => gone_ok (S6.unsuite ok) hN hi hln hq
          cases f with
          | next =>
            obtain ⟨σ6, H6, S6, q6⟩ := hsp
            exact end_ S6 fun s7 J7 => ⟨_, _, J7, q6⟩
          | brk =>
            obtain ⟨σ6, H6, S6, q6⟩ := hsp
            exact end_ S6 fun s7 J7 => ⟨_, _, J7, q6⟩
          | cont =>
            obtain ⟨σ6, H6, S6, q6⟩ := hsp
            exact end_ S6 fun s7 J7 => ⟨_, _, J7, q6⟩
          | ret u =>
            obtain ⟨v6, σ6, H6, S6, r6, q6⟩ := hsp
            exact end_ S6 fun s7 J7 => ⟨_, _, _, J7, r6, q6⟩
        | false =>
          show wpAny _ X.A (handleBy (.ref a) X.env hds2) _ _ _
          exact ih (hno rfl)
    exact go hh w
  · cases f with
    | next =>
      obtain ⟨σ', H', J', q⟩ := hsp
      exact wpAny_execs_nil ⟨σ', H', J'.ofTry ok, q⟩
    | brk =>
      obtain ⟨σ', H', J', q⟩ := hsp
      exact ⟨σ', H', J'.ofTry ok, q⟩
    | cont =>
      obtain ⟨σ', H', J', q⟩ := hsp
      exact ⟨σ', H', J'.ofTry ok, q⟩
    | ret u =>
      obtain ⟨v, σ', H', J', r, q⟩ := hsp
      exact ⟨v, σ', H', J'.ofTry ok, r, q⟩
end
end L2.K7

/-! N3: small rules: lists of the same things compared, an empty list compared, a comprehension over a text, {} as such a dict. -/
namespace L2.K7
open PySem PySem.Spec PyProof.Rows
section
variable {X : Cx}
/-- what is == itself without a look (or by value) -/
def sameV : V → Bool
  | .non => true
  | .bl _ => true
  | .int _ => true
  | .str _ => true
  | .ref _ => true
  | _ => false
theorem eqAt_same {A : Around} {s : Shared} {x : V} {u v : Value} (h : sameV x = true) (r1 : RelV x u) (r2 : RelV x v) : SeqAt.EqAt A s u v true := by
  cases x with
  | non =>
    cases r1
    cases r2
    exact SeqAt.EqAt.same _
  | bl b =>
    cases r1
    cases r2
    exact SeqAt.EqAt.same _
  | int i =>
    obtain ⟨t1, rfl⟩ := r1
    obtain ⟨t2, rfl⟩ := r2
    have := SeqAt.EqAt.int_int (A := A) (s := s) i t1 i t2
    rw [beq_self_eq_true] at this
    exact this
  | str z =>
    obtain ⟨t1, rfl⟩ := r1
    obtain ⟨t2, rfl⟩ := r2
    have := SeqAt.EqAt.str_str (A := A) (s := s) z t1 z t2
    rw [beq_self_eq_true] at this
    exact this
  | ref a =>
    cases r1
    cases r2
    exact SeqAt.EqAt.same _
  | byt _ => cases h
  | flt _ => cases h
  | ty _ => cases h
def rNeSame (K : PySem.W.Frag) : R2 := fun x y H Q => ∃ (p q : Addr) (xs : List V), x = .ref p ∧ y = .ref q ∧ SqL K H p xs ∧ SqL K H q xs ∧ xs.all sameV = true ∧ Q (.bl false) H
theorem op_neSame (hu : X.A.units < cLine) : OpR X (compareOp .NotEq) (rNeSame X.K) := by
  intro pins s σ H x y v u Q I rx ry h
  obtain ⟨p, q, xs, rfl, rfl, hp, hq, hall, k⟩ := h
  obtain rfl : v = Value.ref p := rx
  obtain rfl : u = Value.ref q := ry
  obtain ⟨i1, r1, l1, _⟩ := I.list hp
  obtain ⟨i2, r2, l2, _⟩ := I.list hq
  have hl : i1.toArray.size = i2.toArray.size := by
    have e1 := r1.length
    have e2 := r2.length
    simp only [List.size_toArray]
    omega
  refine SeqAt.RcNeAt.lists (e := fun _ => true) l1.isList l2.isList hl hu (fun j h1 h2 => ?_) _ _ _ _ ⟨.bl false, H, I, ?_, k⟩
  · have hj : j < xs.length := by
      have e1 := r1.length
      rw [List.size_toArray] at h1
      omega
    obtain ⟨u1, hu1, ru1⟩ := r1.get (List.getElem?_eq_getElem hj)
    obtain ⟨u2, hu2, ru2⟩ := r2.get (List.getElem?_eq_getElem hj)
    have e1 : i1.toArray[j] = u1 := by
      rw [List.getElem_toArray]
      rw [List.getElem?_eq_getElem (by simpa using h1)] at hu1
      exact Option.some.inj hu1
    have e2 : i2.toArray[j] = u2 := by
      rw [List.getElem_toArray]
      rw [List.getElem?_eq_getElem (by simpa using h2)] at hu2
      exact Option.some.inj hu2
    rw [e1, e2]
    exact eqAt_same (List.all_eq_true.mp hall _ (List.getElem_mem hj)) ru1 ru2
  · have e : (List.range i1.toArray.size).all (fun _ => true) = true := by simp
    rw [e]
    rfl
/-- xs == ys, ys empty -/
def rEqNil (K : PySem.W.Frag) : R2 := fun x y H Q => ∃ (p q : Addr) (xs : List V), x = .ref p ∧ y = .ref q ∧ SqL K H p xs ∧ SqL K H q [] ∧ Q (.bl xs.isEmpty) H
theorem op_eqNil (hu : X.A.units < cLine) : OpR X (compareOp .Eq) (rEqNil X.K) := by
  intro pins s σ H x y v u Q I rx ry h
  obtain ⟨p, q, xs, rfl, rfl, hp, hq, k⟩ := h
  obtain rfl : v = Value.ref p := rx
  obtain rfl : u = Value.ref q := ry
  obtain ⟨i1, r1, l1, _⟩ := I.list hp
  obtain ⟨i2, r2, l2, _⟩ := I.list hq
  cases r2
  cases xs with
  | nil =>
    cases r1
    exact SeqAt.eq_listAt (e := fun _ => true) l1.isList l2.isList rfl hu (fun j h1 h2 => absurd h1 (by simp)) ⟨.bl true, H, I, rfl, k⟩
  | cons a t =>
    cases r1 with
    | cons ra rt =>
      exact SeqAt.eq_list_lengthsAt l1.isList l2.isList (by simp) hu ⟨.bl false, H, I, rfl, k⟩
/-- {} as such a dict -/
def tNNew (P : Program) (w : World) : TE := fun _ H Q => ∀ p, H p = none → Q (.ref p) (upd H p (ndO P w p []))
theorem pe_dnewN {pos : Pos} : PE X (.Dict [] [] pos) (tNNew X.prog X.w) := ⟨fun pins s σ H Q I h =>
  wpAny_Dict_empty ⟨.ref s.heap.objs.size, _, I.laid (a := s.heap.objs.size) (o := ndO X.prog X.w s.heap.objs.size []) (t' := s.toks) (fun _ _ q => Heap.get?_push_of_some _ q) (Nat.le_refl _) (nd_empty s.heap I.big), rfl, h _ (I.hok.fresh (Nat.le_refl _))⟩⟩
end
/-- a comprehension over a text, sign by sign -/
theorem lc_str {x : Str} {g : TG} {tt : TT} {te : TE} {vs : List Nat} {σ : St} {H1 : Hp} {D : Addr} {Qd : Hp → Prop} (Pv : Nat → Hp → Prop) (h0 : Pv 0 (upd H1 D (.lst [])))
    (hs : ∀ i c H, x.cps[i]? = some c → Pv i H → g (.str ⟨#[c]⟩) (wipe σ vs) H fun σ2 H2 => wipe σ2 vs = wipe σ vs ∧ tt σ2 H2 fun b H3 =>
      if b = true then te σ2 H3 fun y H4 => ∃ acc, H4 D = some (.lst acc) ∧ acc.length < sizeLine ∧ Pv (i + 1) (upd H4 D (.lst (acc ++ [y]))) else Pv (i + 1) H3) (hd : ∀ H, Pv x.cps.size H → Qd H) :
    ∃ W : Nat → Nat → Hp → Prop, (∃ m, W 0 m (upd H1 D (.lst []))) ∧ ∀ i m H, W i m H →
      ((Its x).stop i H ∧ Qd H) ∨ ((Its x).go i H ∧ ∃ Nx : Hp → Prop, (∀ H', Nx H' → ∃ m', m' < m ∧ W (i + 1) m' H') ∧ ∀ y H', (Its x).yld i H y H' → g y (wipe σ vs) H' fun σ2 H2 => wipe σ2 vs = wipe σ vs ∧ tt σ2 H2 fun b H3 =>
        if b = true then te σ2 H3 fun y H4 => ∃ acc, H4 D = some (.lst acc) ∧ acc.length < sizeLine ∧ Nx (upd H4 D (.lst (acc ++ [y]))) else Nx H3) := by
  refine ⟨fun i m H => m = x.cps.size - i ∧ i ≤ x.cps.size ∧ Pv i H, ⟨x.cps.size, by simp, Nat.zero_le _, h0⟩, ?_⟩
  rintro i m H ⟨rfl, hi, p⟩
  by_cases hlt : i < x.cps.size
  · refine .inr ⟨hlt, Pv (i + 1), fun H' p' => ⟨x.cps.size - (i + 1), by omega, rfl, hlt, p'⟩, fun y H' yl => ?_⟩
    obtain ⟨e, c, hc, ey⟩ := yl
    subst e ey
    exact hs i c _ hc p
  · have e : i = x.cps.size := by omega
    subst e
    exact .inl ⟨Nat.le_refl _, hd H p⟩
end L2.K7

/-! N4: the text by places; defs, methods, properties, classes that may be called; what the module's names hold. -/
namespace L2.K7
open PySem PySem.Spec PyProof.Rows
open Evl (Ex)
abbrev PR : Program := PySem.Challenge.pw_handedacross_k07_whole_worths_of_terms
def top (i : Nat) : Stmt := PySem.Challenge.pw_handedacross_k07_whole_worths_of_terms.main.body.getD i (.Pass ⟨0, 0, 0, 0⟩)

/-! ### what may be called -/
structure Cal (P : Program) (w : World) (K : PySem.W.Frag) (mg : Str → Option Value) (base : Heap) (CX : CXT) (k : Nat) (x : Str) (sp : Sp) : Prop where
  ex : ∃ (f : Addr) (fd : FuncData) (ps : List Str), FnOk P w K mg base CX k f fd ps sp ∧ mg x = some (.ref f) ∧ PySem.W.keepIn K (.ref f) = true ∧ Binds K fd ps []
structure Met (P : Program) (w : World) (K : PySem.W.Frag) (mg : Str → Option Value) (base : Heap) (k : Nat) (C : Addr) (m : Str) (sp : Sp) : Prop where
  ex : ∃ (f : Addr) (fd : FuncData) (ps : List Str), Cls K C ∧ Meth K C m f ∧ FnOk P w K mg base CX0 k f fd ps sp ∧ Binds K fd ps []
structure Prp (P : Program) (w : World) (K : PySem.W.Frag) (mg : Str → Option Value) (base : Heap) (k : Nat) (C : Addr) (m : Str) (sp : Sp) : Prop where
  ex : ∃ (p g : Addr) (fd : FuncData) (ps : List Str), Cls K C ∧ PropOf K C m p g ∧ FnOk P w K mg base CX0 k g fd ps sp ∧ Binds K fd ps []
structure Mak (P : Program) (w : World) (K : PySem.W.Frag) (mg : Str → Option Value) (base : Heap) (k : Nat) (x : Str) (C : Addr) (sp : Sp) (dvs : List V) : Prop where
  ex : ∃ (f : Addr) (fd : FuncData) (ps : List Str) (ds : List Value), Mk K C f ∧ FnOk P w K mg base CX0 k f fd ps sp ∧ mg x = some (.ref C) ∧ Binds K fd ps ds ∧ Vals dvs ds
/-- a def of the top | a method | a property, as it stands behind the top -/
structure Df (K : PySem.W.Frag) (mg : Str → Option Value) (x : Str) (st : Stmt) : Prop where
  ex : ∃ (f : Addr) (fd : FuncData), mg x = some (.ref f) ∧ FunD K x x (defArgs st) (defBody st) (defScope st) [] [] f fd
structure Dm (K : PySem.W.Frag) (C : Addr) (m qual : Str) (st : Stmt) : Prop where
  ex : ∃ (f : Addr) (fd : FuncData), Meth K C m f ∧ FunD K m qual (defArgs st) (defBody st) (defScope st) [] [] f fd
structure Dp (K : PySem.W.Frag) (C : Addr) (m qual : Str) (st : Stmt) : Prop where
  ex : ∃ (p f : Addr) (fd : FuncData), PropOf K C m p f ∧ FunD K m qual (defArgs st) (defBody st) (defScope st) [] [] f fd
section
variable {P : Program} {w : World} {K : PySem.W.Frag} {mg : Str → Option Value} {base : Heap} {CX : CXT} {C : Addr} {x m qual : Str} {st : Stmt} {N ps : List Str} {k : Nat} {sp : Sp}
/-- the shape of a def's walk -/
abbrev Walks (P : Program) (w : World) (K : PySem.W.Frag) (mg : Str → Option Value) (base : Heap) (CX : CXT) (k : Nat) (qual : Str) (st : Stmt) (N : List Str) (sp : Sp) : Prop :=
  ∀ (f : Addr) (cdv : Value) (A : Around) (outer : List Env) (s : Shared) (H : Hp) (vs : List V) (Q : VK) (E : XK), Room k (A.deeper (envOfC qual (defScope st) s.heap.objs.size f cdv)) → sp vs H Q E →
      ∃ t, PSs (cxOf CX P w K mg base N qual (defScope st) f cdv A outer s H E) (defBody st) t ∧ t { nx := fun _ H' => Q .non H', rt := Q } (start N vs) H
theorem cal_of (D : Df K mg x st) (S : FnScope N ps (defScope st))
    (hb : ∀ (kV doc pm : Value) (an : Option Addr) (cdv ct : Value) (us : List Value), us.length = ps.length → bindArgs (PySem.W.fnOf x x (defArgs st) (defBody st) (defScope st) .none kV doc pm an cdv ct) ⟨us, []⟩ = pure (ps.zip us))
    (len : ∀ vs H Q E, sp vs H Q E → vs.length = ps.length) (hw : Walks P w K mg base CX k x st N sp) : Cal P w K mg base CX (k + 1) x sp := by
  obtain ⟨f, fd, hm, F⟩ := D.ex
  exact ⟨f, fd, ps, F.ok S len (hw f), hm, F.kp, F.bindsN hb⟩
theorem met_of (c : Cls K C) (D : Dm K C m qual st) (S : FnScope N ps (defScope st))
    (hb : ∀ (kV doc pm : Value) (an : Option Addr) (cdv ct : Value) (us : List Value), us.length = ps.length → bindArgs (PySem.W.fnOf m qual (defArgs st) (defBody st) (defScope st) .none kV doc pm an cdv ct) ⟨us, []⟩ = pure (ps.zip us))
    (len : ∀ vs H Q E, sp vs H Q E → vs.length = ps.length) (hw : Walks P w K mg base CX0 k qual st N sp) : Met P w K mg base (k + 1) C m sp := by
  obtain ⟨f, fd, hm, F⟩ := D.ex
  exact ⟨f, fd, ps, c, hm, F.ok S len (hw f), F.bindsN hb⟩
theorem prp_of (c : Cls K C) (D : Dp K C m qual st) (S : FnScope N ps (defScope st))
    (hb : ∀ (kV doc pm : Value) (an : Option Addr) (cdv ct : Value) (us : List Value), us.length = ps.length → bindArgs (PySem.W.fnOf m qual (defArgs st) (defBody st) (defScope st) .none kV doc pm an cdv ct) ⟨us, []⟩ = pure (ps.zip us))
    (len : ∀ vs H Q E, sp vs H Q E → vs.length = ps.length) (hw : Walks P w K mg base CX0 k qual st N sp) : Prp P w K mg base (k + 1) C m sp := by
  obtain ⟨p, f, fd, hp, F⟩ := D.ex
  exact ⟨p, f, fd, ps, c, hp, F.ok S len (hw f), F.bindsN hb⟩
end
section
variable {X : Cx} {CX : CXT} {k j : Nat} {C : Addr} {x m f : Str} {sp : Sp} {dvs : List V} {E : XK} {p pos apos : Pos} {e o : Expr} {es : List Expr} {ta : TE} {t : TA}
theorem pe_c (c : Cal X.prog X.w X.K X.mg X.base CX0 k x sp) (hr : Room j X.A) (hk : k ≤ j) (ha : PA X (e :: es) t) (hg : Gl X x := by rfl)
    (hdb : (x == ("__debug__" : Str)) = false := by decide) (he : starEach (e :: es) X.env = (false, eval e X.env) :: starEach es X.env := by rfl) (hpl : (backTo pos (starEach es X.env)).any (·.1) = false := by rfl) :
    PE X (.Call (.Name x p) (e :: es) [] pos) (tCall sp [] E0 t) := by
  obtain ⟨f, fd, ps, F, hm, kp, b⟩ := c.ex
  exact pe_call F (hr.mono hk) hg hm kp b .nil pass0 ha hdb he hpl
/-- a def that may raise -/
theorem pe_cX (c : Cal X.prog X.w X.K X.mg X.base CX k x sp) (hx : Passes CX X E) (hr : Room j X.A) (hk : k ≤ j) (ha : PA X (e :: es) t) (hg : Gl X x := by rfl)
    (hdb : (x == ("__debug__" : Str)) = false := by decide) (he : starEach (e :: es) X.env = (false, eval e X.env) :: starEach es X.env := by rfl) (hpl : (backTo pos (starEach es X.env)).any (·.1) = false := by rfl) :
    PE X (.Call (.Name x p) (e :: es) [] pos) (tCall sp [] E t) := by
  obtain ⟨f, fd, ps, F, hm, kp, b⟩ := c.ex
  exact pe_call F (hr.mono hk) hg hm kp b .nil hx ha hdb he hpl
/-- .. within a try -/
theorem pe_cS {E : St → XK} (c : Cal X.prog X.w X.K X.mg X.base CX k x sp) (hx : ∀ σ, PassesAt CX X σ (E σ)) (hr : Room j X.A) (hk : k ≤ j) (ha : PA X (e :: es) t) (hg : Gl X x := by rfl)
    (hdb : (x == ("__debug__" : Str)) = false := by decide) (he : starEach (e :: es) X.env = (false, eval e X.env) :: starEach es X.env := by rfl) (hpl : (backTo pos (starEach es X.env)).any (·.1) = false := by rfl) :
    PE X (.Call (.Name x p) (e :: es) [] pos) (tCallS sp E t) := by
  obtain ⟨f, fd, ps, F, hm, kp, b⟩ := c.ex
  exact pe_callS F (hr.mono hk) hg hm kp b hx ha hdb he hpl
theorem pe_mt {pl : Sem Bool} (c : Met X.prog X.w X.K X.mg X.base k C m sp) (hr : Room j X.A) (hk : k ≤ j) (he : PE X o ta) (ha : PA X (e :: es) t)
    (hst : starEach (e :: es) X.env = (false, eval e X.env) :: starEach es X.env := by rfl) (hpl : (backTo pos (starEach es X.env)).any (·.1) = false := by rfl)
    (ht : eval (.Call (.Attribute o m apos) (e :: es) [] pos) X.env = (do
      let ov ← eval o X.env
      standAt apos.atName
      let (f, first) ← holding [ov] (getMethod ov m pl)
      callWith pos f first (backTo pos (starEach (e :: es) X.env)) (backToKw pos (keywordEach [] X.env))) := by rfl) :
    PE X (.Call (.Attribute o m apos) (e :: es) [] pos) (tMeth C m sp [] E0 ta t) := by
  obtain ⟨f, fd, ps, hc, hm, F, b⟩ := c.ex
  exact pe_meth (pl := pl) he hc hm F (hr.mono hk) b .nil pass0 ha hst hpl ht
theorem pe_pr (c : Prp X.prog X.w X.K X.mg X.base k C f sp) (hr : Room j X.A) (hk : k + 1 ≤ j) (he : PE X o ta) (hab : attributeBase o f X.env (eval o X.env) = eval o X.env := by rfl) : PE X (.Attribute o f pos) (tProp C sp [] E0 ta) := by
  obtain ⟨p, g, fd, ps, hc, hp, F, b⟩ := c.ex
  exact pe_prop he hc hp F (hr.mono hk) b .nil pass0 hab
theorem pe_mk (c : Mak X.prog X.w X.K X.mg X.base k x C sp dvs) (hr : Room j X.A) (hk : k + 1 ≤ j) (ha : PA X (e :: es) t) (hg : Gl X x := by rfl)
    (hdb : (x == ("__debug__" : Str)) = false := by decide) (he : starEach (e :: es) X.env = (false, eval e X.env) :: starEach es X.env := by rfl) (hpl : (backTo pos (starEach es X.env)).any (·.1) = false := by rfl) :
    PE X (.Call (.Name x p) (e :: es) [] pos) (tMake C sp dvs E0 t) := by
  obtain ⟨f, fd, ps, ds, M, F, hm, b, d⟩ := c.ex
  exact pe_make M F (hr.mono hk) hg hm b d pass0 ha hdb he hpl
theorem pe_mk0 (c : Mak X.prog X.w X.K X.mg X.base k x C sp dvs) (hr : Room j X.A) (hk : k + 1 ≤ j) (hg : Gl X x := by rfl) (hdb : (x == ("__debug__" : Str)) = false := by decide) :
    PE X (.Call (.Name x p) [] [] pos) (tMake C sp dvs E0 tNil) := by
  obtain ⟨f, fd, ps, ds, M, F, hm, b, d⟩ := c.ex
  exact pe_make0 M F (hr.mono hk) hg hm b d pass0 hdb
/-- a module's constant -/
theorem pe_gc {v : V} (h : ∃ u, X.mg x = some u ∧ RelV v u) (hg : Gl X x := by rfl) (hd : (x == ("__debug__" : Str)) = false := by decide) : PE X (.Name x pos) (tC v) := by
  obtain ⟨u, hm, r⟩ := h
  exact pe_glob hg hm r hd
/-- a built-in by its name, called -/
theorem pe_b {id : String} {r : List V → Hp → VK → Prop} (hc : CallR X (.builtin id) r) (hm : X.mg x = none) (hv : bootBuiltins x = some (.builtin id)) (ha : PA X (e :: es) t) (hg : Gl X x := by rfl) (hn : x ≠ "__name__" := by decide) (hdb : (x == ("__debug__" : Str)) = false := by decide)
    (he : starEach (e :: es) X.env = (false, eval e X.env) :: starEach es X.env := by rfl) (hpl : (backTo pos (starEach es X.env)).any (·.1) = false := by rfl) :
    PE X (.Call (.Name x p) (e :: es) [] pos) (tCB r t) := pe_callB hc hg hm hv ha hn hdb he hpl
theorem pe_t {T : String} {r : List V → Hp → VK → Prop} (hc : CallR X (.type T) r) (hm : X.mg x = none) (hv : bootBuiltins x = some (.type T)) (ha : PA X (e :: es) t) (hg : Gl X x := by rfl) (hn : x ≠ "__name__" := by decide) (hdb : (x == ("__debug__" : Str)) = false := by decide)
    (he : starEach (e :: es) X.env = (false, eval e X.env) :: starEach es X.env := by rfl) (hpl : (backTo pos (starEach es X.env)).any (·.1) = false := by rfl) :
    PE X (.Call (.Name x p) (e :: es) [] pos) (tCB r t) := pe_callTy hc hg hm hv ha hn hdb he hpl
/-- a built-in class as a value -/
theorem pe_ty {T : String} (hm : X.mg x = none) (hv : bootBuiltins x = some (.type T)) (hg : Gl X x := by rfl) (hn : x ≠ "__name__" := by decide) (hd : (x == ("__debug__" : Str)) = false := by decide) : PE X (.Name x pos) (tC (.ty T)) := pe_bltn hg hm hv rfl hn hd
end
theorem b_isi : bootBuiltins "isinstance" = some (.builtin "isinstance") := by decide +kernel
theorem b_len : bootBuiltins "len" = some (.builtin "len") := by decide +kernel
theorem b_all : bootBuiltins "all" = some (.builtin "all") := by decide +kernel
theorem b_abs : bootBuiltins "abs" = some (.builtin "abs") := by decide +kernel
theorem b_max : bootBuiltins "max" = some (.builtin "max") := by decide +kernel
theorem b_min : bootBuiltins "min" = some (.builtin "min") := by decide +kernel
theorem b_int : bootBuiltins "int" = some (.type "int") := by decide +kernel
theorem b_bool : bootBuiltins "bool" = some (.type "bool") := by decide +kernel
theorem b_str : bootBuiltins "str" = some (.type "str") := by decide +kernel
theorem b_tuple : bootBuiltins "tuple" = some (.type "tuple") := by decide +kernel
theorem b_dict : bootBuiltins "dict" = some (.type "dict") := by decide +kernel

abbrev wordsL : List V := [.str "if", .str "else", .str "end", .str "proc", .str "main", .str "stop"]
abbrev lettersS : Str := "abcdefghijklmnopqrstuvwxyz"
/-- what the module's names hold -/
structure Txt (K : PySem.W.Frag) (mg : Str → Option Value) : Prop where
  isinstance : mg "isinstance" = none
  len : mg "len" = none
  all : mg "all" = none
  abs : mg "abs" = none
  max : mg "max" = none
  min : mg "min" = none
  int : mg "int" = none
  bool : mg "bool" = none
  str : mg "str" = none
  tuple : mg "tuple" = none
  dict : mg "dict" = none
  range : mg "range" = none
  super : mg "super" = none
  maxName : ∃ u, mg "MAX_NAME" = some u ∧ RelV (.int 8) u
  maxArgs : ∃ u, mg "MAX_ARGS" = some u ∧ RelV (.int 8) u
  maxSize : ∃ u, mg "MAX_SIZE" = some u ∧ RelV (.int 200) u
  maxDepth : ∃ u, mg "MAX_DEPTH" = some u ∧ RelV (.int 30) u
  letters : ∃ u, mg "LETTERS" = some u ∧ RelV (.str lettersS) u
  words : ∃ a : Addr, mg "WORDS" = some (.ref a) ∧ ∀ H, SqT K H a wordsL
/-- no name twice, parameters first .. -/
theorem Ex.same {H H' : Hp} (e : Ex H H') : Same H H' := e
end L2.K7

/-! N5: data; evaluation lemmas; is_integer, is_name, are_args, has_form, parts_of. -/
namespace L2.K7
open PySem PySem.Spec PyProof.Rows
open Evl

/-! ### data: None, ints, texts, tuples of such -/
inductive Dt where
  | non
  | int (i : Int)
  | str (x : Str)
  | tup (ds : List Dt)
mutual
inductive DtAt (H : Hp) : Dt → V → Prop
  | non : DtAt H .non .non
  | int (i : Int) : DtAt H (.int i) (.int i)
  | str (x : Str) : x.length ≤ 1000 → DtAt H (.str x) (.str x)
  | tup {a : Addr} {ds : List Dt} {vs : List V} : H a = some (.tup vs) → DtsAt H ds vs → DtAt H (.tup ds) (.ref a)
inductive DtsAt (H : Hp) : List Dt → List V → Prop
  | nil : DtsAt H [] []
  | cons {d : Dt} {v : V} {ds : List Dt} {vs : List V} : DtAt H d v → DtsAt H ds vs → DtsAt H (d :: ds) (v :: vs)
end
mutual
theorem DtAt.mono {H H' : Hp} (e : Ex H H') : ∀ (d : Dt) (v : V), DtAt H d v → DtAt H' d v
  | .non, _, h => by cases h; exact .non
  | .int i, _, h => by cases h; exact .int i
  | .str x, _, h => by
    cases h with
    | str _ hl => exact .str x hl
  | .tup ds, _, h => by
    cases h with
    | tup h1 h2 => exact .tup (e _ _ h1) (DtsAt.mono e ds _ h2)
theorem DtsAt.mono {H H' : Hp} (e : Ex H H') : ∀ (ds : List Dt) (vs : List V), DtsAt H ds vs → DtsAt H' ds vs
  | [], _, h => by cases h; exact .nil
  | d :: ds, _, h => by
    cases h with
    | cons h1 h2 => exact .cons (DtAt.mono e d _ h1) (DtsAt.mono e ds _ h2)
end
theorem DtAt.ex {H H' : Hp} {d : Dt} {v : V} (h : DtAt H d v) (e : Ex H H') : DtAt H' d v := DtAt.mono e d v h
theorem DtsAt.ex {H H' : Hp} {ds : List Dt} {vs : List V} (h : DtsAt H ds vs) (e : Ex H H') : DtsAt H' ds vs := DtsAt.mono e ds vs h
theorem DtsAt.length {H : Hp} : ∀ {ds : List Dt} {vs : List V}, DtsAt H ds vs → vs.length = ds.length
  | [], _, h => by cases h; rfl
  | d :: ds, _, h => by
    cases h with
    | cons h1 h2 => rw [List.length_cons, List.length_cons, h2.length]
theorem DtsAt.get {H : Hp} : ∀ {ds : List Dt} {vs : List V} {i : Nat} {v : V}, DtsAt H ds vs → vs[i]? = some v → ∃ d, ds[i]? = some d ∧ DtAt H d v
  | [], _, i, v, h, e => by cases h; simp at e
  | d :: ds, _, 0, v, h, e => by
    cases h with
    | cons h1 h2 =>
      simp only [List.getElem?_cons_zero, Option.some.injEq] at e
      subst e
      exact ⟨d, rfl, h1⟩
  | d :: ds, _, i + 1, v, h, e => by
    cases h with
    | cons h1 h2 =>
      simp only [List.getElem?_cons_succ] at e
      obtain ⟨d', e', h'⟩ := DtsAt.get h2 e
      exact ⟨d', by simpa using e', h'⟩
theorem DtsAt.app {H : Hp} : ∀ {ds es : List Dt} {vs us : List V}, DtsAt H ds vs → DtsAt H es us → DtsAt H (ds ++ es) (vs ++ us)
  | [], _, _, _, h, k => by cases h; exact k
  | d :: ds, es, _, us, h, k => by
    cases h with
    | cons h1 h2 => exact .cons h1 (h2.app k)

/-! ### more evaluation -/
section
variable {K : PySem.W.Frag} {σ : L2.St} {H H' : Hp} {ta tb tc te : TE} {x y z v : V} {r r' : R2}
theorem ev_chain {a b : Bool} (ha : Ev ta σ H x) (hb : Ev tb σ H y) (hr : RV r x y H (.bl a)) (hc : a = true → Ev tc σ H z) (hr' : a = true → RV r' y z H (.bl b)) : Ev (tChain r r' ta tb tc) σ H (.bl (a && b)) := fun H1 e Q q =>
  ha H1 e _ fun H2 e2 => hb H2 (e.trans e2) _ fun H3 e3 => hr H3 ((e.trans e2).trans e3) _ fun H4 e4 => ⟨a, rfl, by
    cases a with
    | true =>
      show tc σ H4 fun w' H5 => r' y w' H5 Q
      exact hc rfl H4 (((e.trans e2).trans e3).trans e4) _ fun H5 e5 => hr' rfl H5 ((((e.trans e2).trans e3).trans e4).trans e5) Q fun H6 e6 => q H6 ((((e2.trans e3).trans e4).trans e5).trans e6)
    | false =>
      show Q (.bl false) H4
      exact q H4 ((e2.trans e3).trans e4)⟩
theorem TyOf.ex {t : Value} (e : Ex H H') (h : TyOf K H x t) : TyOf K H' x t := by
  cases h with
  | non => exact .non
  | bl b => exact .bl b
  | int i => exact .int i
  | str z => exact .str z
  | flt z => exact .flt z
  | lst q => exact .lst (e _ _ q)
  | frz q => exact .frz (e _ _ q)
  | tup q => exact .tup (e _ _ q)
  | dK q => exact .dK (e _ _ q)
  | dT q => exact .dT (e _ _ q)
  | ins q h1 h2 h3 h4 h5 => exact .ins (e _ _ q) h1 h2 h3 h4 h5
theorem ev_isi {c : V} {t u : Value} {b : Bool} (ha : Ev ta σ H x) (hc : Ev tc σ H c) (k : ClsV c u) (ty : TyOf K H x t) (hk : PySem.W.kitOne K t u = some b) : Ev (tCB (rIsi K) (tCons ta (tCons tc tNil))) σ H (.bl b) := fun H1 e Q q =>
  ha H1 e _ fun H2 e2 => hc H2 (e.trans e2) _ fun H3 e3 => ⟨x, c, t, u, b, rfl, k, .base (TyOf.ex ((e.trans e2).trans e3) ty), hk, q H3 (e2.trans e3)⟩
theorem ev_lenT {p : Addr} {xs : List V} (ha : Ev ta σ H (.ref p)) (h : SqT K H p xs) : Ev (tCB (rLenS K) (tCons ta tNil)) σ H (.int (xs.length : Int)) := fun H1 e Q q =>
  ha H1 e _ fun H2 e2 => ⟨p, xs, rfl, Or.inr (ex_t (e.trans e2) h), q H2 e2⟩
def rLenX : List V → Hp → VK → Prop := fun xs H Q => ∃ z, xs = [.str z] ∧ z.length ≤ sizeLine ∧ Q (.int z.length) H
theorem ev_lenS {w : Str} (ha : Ev ta σ H (.str w)) (hl : w.length ≤ 1000) : Ev (tCB rLenX (tCons ta tNil)) σ H (.int (w.length : Int)) := fun H1 e Q q =>
  ha H1 e _ fun H2 e2 => ⟨w, rfl, Nat.le_trans hl (by decide), q H2 e2⟩
/-- what a comprehension over n things has made behind i of them -/
def Cz (H : Hp) (ys : List V) (Dl : Addr) (i : Nat) (H' : Hp) : Prop := H Dl = none ∧ Ex H H' ∧ H' Dl = some (.lst (ys.take i))
theorem take_snoc {α : Type} {ys : List α} {i : Nat} {y : α} (h : ys[i]? = some y) : ys.take (i + 1) = ys.take i ++ [y] := by
  rw [List.take_succ, h]
  rfl
theorem cz_turn {ys : List V} {Dl : Addr} {i : Nat} {σ2 : L2.St} (p : Cz H ys Dl i H') (hz : ys.length ≤ 40000) (hy : ys[i]? = some y) (he : Ev te σ2 H y) :
    tYes σ2 H' fun b H3 => if b = true then te σ2 H3 fun y H4 => ∃ acc, H4 Dl = some (.lst acc) ∧ acc.length < sizeLine ∧ Cz H ys Dl (i + 1) (upd H4 Dl (.lst (acc ++ [y]))) else Cz H ys Dl (i + 1) H3 := by
  obtain ⟨p1, p2, p3⟩ := p
  show te σ2 H' fun y H4 => ∃ acc, H4 Dl = some (.lst acc) ∧ acc.length < sizeLine ∧ Cz H ys Dl (i + 1) (upd H4 Dl (.lst (acc ++ [y])))
  refine he H' p2 _ fun H4 e4 => ⟨ys.take i, e4 Dl _ p3, ?_, p1, Ex.mut (p2.trans e4) p1, ?_⟩
  · have : (ys.take i).length ≤ ys.length := List.length_take_le' _ _
    exact Nat.lt_of_le_of_lt (Nat.le_trans this hz) (by decide)
  · rw [take_snoc hy]
    exact upd_same
theorem cz_end {ys : List V} {Dl : Addr} {n : Nat} (p : Cz H ys Dl n H') (hn : ys.length = n) : H' Dl = some (.lst ys) := by
  have h := p.2.2
  rw [← hn, List.take_length] at h
  exact h
/-- [e for x in t], t a tuple -/
theorem el_lcT {a : Addr} {xs : List V} {tl : TE} {j : Nat} {vs : List Nat} (ys : List V) (h : Ev tl σ H (.ref a)) (hx : SqT K H a xs) (hl : ys.length = xs.length) (hz : ys.length ≤ 40000) (hw : ∀ x, wipe ((wipe σ vs).set j (some x)) vs = wipe σ vs)
    (he : ∀ (i : Nat) (x y : V) H1, Ex H H1 → xs[i]? = some x → ys[i]? = some y → Ev te ((wipe σ vs).set j (some x)) H1 y) :
    EvL (tLc (iTup K tl) (gName j) tYes te vs) σ H ys := fun H0 e Q q => h H0 e _ fun H1 e1 => ⟨a, rfl, ⟨xs, ex_t (e.trans e1) hx⟩, fun Dl hD =>
  lc_tup (K := K) (a := a) (xs := xs) (Cz H1 ys Dl) ⟨hD, Ex.new hD, upd_same⟩ (fun i H' _ p => ex_t ((e.trans e1).trans p.2.1) hx)
    (fun i x H' hi p => by
      have hlt : i < ys.length := by rw [hl]; exact (List.getElem?_eq_some_iff.mp hi).1
      exact ⟨hw x, cz_turn p hz (List.getElem?_eq_getElem hlt) (he i x _ H1 (e.trans e1) hi (List.getElem?_eq_getElem hlt))⟩)
    (fun H' p => q Dl H' (fresh_back e1 p.1) (e1.trans p.2.1) (cz_end p hl))⟩
/-- over a list -/
theorem el_lcL2 {a : Addr} {xs : List V} {tl : TE} {j : Nat} {vs : List Nat} (ys : List V) (h : Ev tl σ H (.ref a)) (hx : SqL K H a xs) (hl : ys.length = xs.length) (hz : ys.length ≤ 40000) (hw : ∀ x, wipe ((wipe σ vs).set j (some x)) vs = wipe σ vs)
    (he : ∀ (i : Nat) (x y : V) H1, Ex H H1 → xs[i]? = some x → ys[i]? = some y → Ev te ((wipe σ vs).set j (some x)) H1 y) :
    EvL (tLc (iList K tl) (gName j) tYes te vs) σ H ys := fun H0 e Q q => h H0 e _ fun H1 e1 => ⟨a, rfl, ⟨xs, ex_l (e.trans e1) hx⟩, fun Dl hD =>
  lc_list (K := K) (a := a) (xs := xs) (Cz H1 ys Dl) ⟨hD, Ex.new hD, upd_same⟩ (fun i H' _ p => ex_l ((e.trans e1).trans p.2.1) hx)
    (fun i x H' hi p => by
      have hlt : i < ys.length := by rw [hl]; exact (List.getElem?_eq_some_iff.mp hi).1
      exact ⟨hw x, cz_turn p hz (List.getElem?_eq_getElem hlt) (he i x _ H1 (e.trans e1) hi (List.getElem?_eq_getElem hlt))⟩)
    (fun H' p => q Dl H' (fresh_back e1 p.1) (e1.trans p.2.1) (cz_end p hl))⟩
/-- over a text -/
theorem el_lcS {w : Str} {tl : TE} {j : Nat} {vs : List Nat} (ys : List V) (h : Ev tl σ H (.str w)) (hl : ys.length = w.cps.size) (hz : ys.length ≤ 40000) (hw : ∀ x, wipe ((wipe σ vs).set j (some x)) vs = wipe σ vs)
    (he : ∀ (i : Nat) (c : Nat) (y : V) H1, Ex H H1 → w.cps[i]? = some c → ys[i]? = some y → Ev te ((wipe σ vs).set j (some (.str ⟨#[c]⟩))) H1 y) :
    EvL (tLc (iStr tl) (gName j) tYes te vs) σ H ys := fun H0 e Q q => h H0 e _ fun H1 e1 => ⟨w, rfl, fun Dl hD =>
  lc_str (x := w) (Cz H1 ys Dl) ⟨hD, Ex.new hD, upd_same⟩
    (fun i c H' hi p => by
      have hlt : i < ys.length := by
        rw [hl]
        exact (Array.getElem?_eq_some_iff.mp hi).1
      exact ⟨hw _, cz_turn p hz (List.getElem?_eq_getElem hlt) (he i c _ H1 (e.trans e1) hi (List.getElem?_eq_getElem hlt))⟩)
    (fun H' p => q Dl H' (fresh_back e1 p.1) (e1.trans p.2.1) (cz_end p hl))⟩
/-- all(xs), xs a new list of truths -/
theorem ev_all {bs : List Bool} (h : EvL te σ H (bs.map V.bl)) : Ev (tCB (rAll K) (tCons te tNil)) σ H (.bl (bs.all id)) := fun H1 e Q q =>
  h H1 e _ fun p H2 _ e2 hp => ⟨p, bs, rfl, sq_of hp, q H2 e2⟩
/-- tuple(xs), xs a new list -/
def rTupOf (K : PySem.W.Frag) : List V → Hp → VK → Prop := fun xs H Q => ∃ p ys, xs = [.ref p] ∧ ((SqL K H p ys ∧ ∀ l, H l = none → Q (.ref l) (upd H l (.tup ys))) ∨ (SqT K H p ys ∧ Q (.ref p) H))
theorem eu_tupN {xs : List V} (h : EvL te σ H xs) : EvU (tCB (rTupOf K) (tCons te tNil)) σ H xs := fun H1 e Q q =>
  h H1 e _ fun p H2 _ e2 hp => ⟨p, xs, rfl, Or.inl ⟨sq_of hp, fun l hl => q l _ (fresh_back e2 hl) (e2.trans (Ex.new hl)) upd_same⟩⟩
theorem rv_inSg {c : Nat} {w : Str} : RV (fun x y H Q => ∃ (c : Nat) (z : Str), x = .str ⟨#[c]⟩ ∧ y = .str z ∧ Q (.bl (decide (c ∈ z.cps.toList))) H) (.str ⟨#[c]⟩) (.str w) H (.bl (decide (c ∈ w.cps.toList))) := fun H1 _ _ q => ⟨c, w, rfl, rfl, q H1 (Ex.refl H1)⟩
theorem rv_eqS {a b : Str} : RV rEq (.str a) (.str b) H (.bl (decide (a = b))) := fun H1 _ Q q => by
  have e : decide (V.str a = V.str b) = decide (a = b) := by
    by_cases h : a = b
    · subst h
      simp
    · rw [decide_eq_false h, decide_eq_false (fun z => h (V.str.inj z))]
  exact ⟨rfl, by rw [e]; exact q H1 (Ex.refl H1)⟩
theorem rv_neS {a b : Str} : RV rNe (.str a) (.str b) H (.bl (!decide (a = b))) := fun H1 _ Q q => by
  have e : decide (V.str a = V.str b) = decide (a = b) := by
    by_cases h : a = b
    · subst h
      simp
    · rw [decide_eq_false h, decide_eq_false (fun z => h (V.str.inj z))]
  exact ⟨rfl, by rw [e]; exact q H1 (Ex.refl H1)⟩
theorem rv_eqI {a b : Int} : RV rEq (.int a) (.int b) H (.bl (decide (a = b))) := fun H1 _ Q q => by
  have e : decide (V.int a = V.int b) = decide (a = b) := by
    by_cases h : a = b
    · subst h
      simp
    · rw [decide_eq_false h, decide_eq_false (fun z => h (V.int.inj z))]
  exact ⟨rfl, by rw [e]; exact q H1 (Ex.refl H1)⟩
/-- the end of a def that only reads: what it gives -/
theorem spv {sp : Sp} {vs : List V} (h : ∀ H1, Ex H H1 → ∀ (Q : VK) (E : XK), RetV z H1 Q → sp vs H1 Q E) : SpV sp vs H z := fun H1 e Q q E => h H1 e Q E q
theorem RetV.ret {D : Ends} {t : TE} (h : Ev t σ H v) (k : RetV v H D.rt) : tRet t D σ H := s_ret h k
end
end L2.K7

/-! N6: the functions of terms. -/
namespace L2.K7
open PySem PySem.Spec PyProof.Rows
open Evl

/-! ### what they compute -/
def isStr : Dt → Bool
  | .str _ => true
  | _ => false
def isTup : Dt → Bool
  | .tup _ => true
  | _ => false
def tyD : Dt → String
  | .non => "NoneType"
  | .int _ => "int"
  | .str _ => "str"
  | .tup _ => "tuple"
def lenB (x : Str) : Bool := decide ((1 : Int) ≤ (x.length : Int)) && decide ((x.length : Int) ≤ 8)
def letB (x : Str) : Bool := (x.cps.toList.map fun c => decide (c ∈ lettersS.cps.toList)).all id
def nameB (x : Str) : Bool := lenB x && (!inV (.str x) wordsL && letB x)
def nameD : Dt → Bool
  | .str x => nameB x
  | _ => false
def argsD : Dt → Bool
  | .tup ds => decide ((ds.length : Int) ≤ 8)
  | _ => false
def sEq (d : Dt) (x : Str) : Bool := match d with
  | .str y => decide (y = x)
  | _ => false
def itm (ds : List Dt) (i : Nat) : Dt := ds.getD i .non
def formD : Dt → Bool
  | .tup ds => (decide ((2 : Int) ≤ (ds.length : Int)) && decide ((ds.length : Int) ≤ 3)) && ((isStr (itm ds 0) && nameD (itm ds 1)) &&
      (if sEq (itm ds 0) "var" = true then decide ((ds.length : Int) = 2) else (decide ((ds.length : Int) = 3) && (sEq (itm ds 0) "item" || (sEq (itm ds 0) "op" && argsD (itm ds 2))))))
  | _ => false
def partsD : Dt → List Dt
  | .tup ds => if sEq (itm ds 0) "var" = true then [] else if sEq (itm ds 0) "item" = true then [itm ds 2] else match itm ds 2 with
    | .tup es => es
    | _ => []
  | _ => []
def bfs : Nat → Int → List Dt → Bool
  | 0, _, layer => layer.isEmpty
  | n + 1, count, layer => if (decide ((200 : Int) < count + (layer.length : Int)) || !(layer.map formD).all id) = true then false else bfs n (count + (layer.length : Int)) (layer.flatMap partsD)
def termD (d : Dt) : Bool := bfs 30 0 [d]
def atomD : Dt → Bool
  | .tup ds => if (decide ((ds.length : Int) = 3) && isStr (itm ds 0)) = true then (if sEq (itm ds 0) "same" = true then ((ds.drop 1).map termD).all id else
      (sEq (itm ds 0) "test" && nameD (itm ds 1) && argsD (itm ds 2)) && (match itm ds 2 with
        | .tup es => (es.map termD).all id
        | _ => false)) else false
  | _ => false

/-! ### the promises -/
def spInteger : Sp := fun vs H Q _ => ∃ i, vs = [.int i] ∧ RetV (.bl true) H Q
def spName : Sp := fun vs H Q _ => ∃ d v, vs = [v] ∧ DtAt H d v ∧ RetV (.bl (nameD d)) H Q
def spArgs : Sp := fun vs H Q _ => ∃ d v, vs = [v] ∧ DtAt H d v ∧ RetV (.bl (argsD d)) H Q
def spForm : Sp := fun vs H Q _ => ∃ d v, vs = [v] ∧ DtAt H d v ∧ RetV (.bl (formD d)) H Q
def spParts : Sp := fun vs H Q _ => ∃ d v, vs = [v] ∧ DtAt H d v ∧ formD d = true ∧ ∀ p H2 us, Ex H H2 → H2 p = some (.tup us) → DtsAt H2 (partsD d) us → Q (.ref p) H2
def spWithin : Sp := fun vs H Q _ => ∃ d v, vs = [v, .int 200, .int 30] ∧ DtAt H d v ∧ RetV (.bl (termD d)) H Q
def spAtomW : Sp := fun vs H Q _ => ∃ d v, vs = [v, .int 200, .int 30] ∧ DtAt H d v ∧ RetV (.bl (atomD d)) H Q
def spTerm : Sp := fun vs H Q _ => ∃ d v, vs = [v] ∧ DtAt H d v ∧ RetV (.bl (termD d)) H Q
def spAtom : Sp := fun vs H Q _ => ∃ d v, vs = [v] ∧ DtAt H d v ∧ RetV (.bl (atomD d)) H Q

/-! ### data, more -/
theorem DtAt.ty {K : PySem.W.Frag} {H : Hp} {d : Dt} {v : V} (h : DtAt H d v) : TyOf K H v (.type (tyD d)) := by
  cases h with
  | non => exact .non
  | int i => exact .int i
  | str x _ => exact .str x
  | tup h _ => exact .tup h
theorem DtsAt.at {H : Hp} : ∀ {ds : List Dt} {vs : List V} {i : Nat}, DtsAt H ds vs → i < ds.length → ∃ v, vs[i]? = some v ∧ DtAt H (itm ds i) v
  | [], _, i, h, e => absurd e (Nat.not_lt_zero _)
  | d :: ds, _, 0, h, e => by
    cases h with
    | cons h1 h2 => exact ⟨_, rfl, h1⟩
  | d :: ds, _, i + 1, h, e => by
    cases h with
    | cons h1 h2 =>
      obtain ⟨v, e', h'⟩ := DtsAt.at h2 (Nat.lt_of_succ_lt_succ e)
      exact ⟨v, e', h'⟩
theorem isStr_of {d : Dt} (h : isStr d = true) : ∃ x, d = .str x := by
  cases d with
  | str x => exact ⟨x, rfl⟩
  | _ => exact absurd h (by intro z; cases z)
theorem isTup_of {d : Dt} (h : isTup d = true) : ∃ x, d = .tup x := by
  cases d with
  | tup x => exact ⟨x, rfl⟩
  | _ => exact absurd h (by intro z; cases z)
section
variable {K : PySem.W.Frag} {σ : L2.St} {H H' : Hp} {ta tb tc te : TE} {x y z v v' : V} {d : Dt}
theorem ev_isStr (ha : Ev ta σ H v) (hc : Ev tc σ H (.ty "str")) (h : DtAt H d v) : Ev (tCB (rIsi K) (tCons ta (tCons tc tNil))) σ H (.bl (isStr d)) := by
  refine ev_isi ha hc (.ty _) h.ty (kit_ty ?_)
  cases d with
  | non => show kitB "NoneType" "str" = some false; decide +kernel
  | int _ => show kitB "int" "str" = some false; decide +kernel
  | str _ => show kitB "str" "str" = some true; decide +kernel
  | tup _ => show kitB "tuple" "str" = some false; decide +kernel
theorem ev_isTup (ha : Ev ta σ H v) (hc : Ev tc σ H (.ty "tuple")) (h : DtAt H d v) : Ev (tCB (rIsi K) (tCons ta (tCons tc tNil))) σ H (.bl (isTup d)) := by
  refine ev_isi ha hc (.ty _) h.ty (kit_ty ?_)
  cases d with
  | non => show kitB "NoneType" "tuple" = some false; decide +kernel
  | int _ => show kitB "int" "tuple" = some false; decide +kernel
  | str _ => show kitB "str" "tuple" = some false; decide +kernel
  | tup _ => show kitB "tuple" "tuple" = some true; decide +kernel
theorem rets {D : Ends} {t : TE} {H1 : Hp} (h : Ev t σ H1 v) (e : Ex H H1) (k : RetV v' H D.rt) (he : v = v') : tRet t D σ H1 := by
  subst he
  exact s_ret h fun H2 e2 => k H2 (e.trans e2)
/-- v[i] where v is a tuple of data -/
theorem ev_itm {ds : List Dt} {i : Nat} (ha : Ev ta σ H v) (hb : Ev tb σ H (.int (i : Int))) (h : DtAt H (.tup ds) v) (hi : i < ds.length) : ∃ u, DtAt H (itm ds i) u ∧ Ev (tOp (rIxT K) ta tb) σ H u := by
  cases h with
  | @tup a _ vs h1 h2 =>
    obtain ⟨u, e, hu⟩ := h2.at hi
    exact ⟨u, hu, ev_op ha hb (rv_ixT (st_of h1) (atI_nat e))⟩
/-- == with a text -/
theorem ev_sEq {w : Str} (ha : Ev ta σ H v) (hb : Ev tb σ H (.str w)) (h : DtAt H d v) (hs : isStr d = true) : Ev (tOp rEq ta tb) σ H (.bl (sEq d w)) := by
  obtain ⟨x, rfl⟩ := isStr_of hs
  cases h with
  | str _ _ => exact ev_op ha hb rv_eqS
theorem ev_lenD {ds : List Dt} (ha : Ev ta σ H v) (h : DtAt H (.tup ds) v) : Ev (tCB (rLenS K) (tCons ta tNil)) σ H (.int (ds.length : Int)) := by
  cases h with
  | tup h1 h2 =>
    have e := ev_lenT (K := K) ha (st_of h1)
    rw [h2.length] at e
    exact e
end
section
variable {P : Program} {w : World} {K : PySem.W.Frag} {mg : Str → Option Value} {base : Heap}
theorem walk_integer (T : Txt K mg) : Walks P w K mg base CX0 0 "is_integer" (top 12) ["value"] spInteger := by
  intro f cdv A outer s H vs Q E hr hsp
  obtain ⟨i, rfl, q⟩ := hsp
  refine ⟨_, pss_one (ps_ret (pe_and (pe_b call_isi T.isinstance b_isi (pa_cons (pv 0) (pa_cons (pe_ty T.int b_int) pa_nil))) (pe_one (pe_not (pe_b call_isi T.isinstance b_isi (pa_cons (pv 0) (pa_cons (pe_ty T.bool b_bool) pa_nil))))))), ?_⟩
  exact rets (ev_andV (ev_isi (ev_var rfl) ev_c (.ty _) (.int i) (kit_ty (r := true) (by decide +kernel))) fun _ => ev_notV (ev_isi (ev_var rfl) ev_c (.ty _) (.int i) (kit_ty (r := false) (by decide +kernel)))) (Ex.refl H) q rfl
theorem walk_name (T : Txt K mg) : Walks P w K mg base CX0 0 "is_name" (top 13) ["value", "letter"] spName := by
  intro f cdv A outer s H vs Q E hr hsp
  obtain ⟨d, v, rfl, hd, q⟩ := hsp
  obtain ⟨aw, mw, hw⟩ := T.words
  have nd : (["value", "letter"] : List Str).Nodup := by decide +kernel
  refine ⟨_, pss_cons (ps_if (PW.pt (pw_or (pt_not (pt_val (pe_b call_isi T.isinstance b_isi (pa_cons (pv 0) (pa_cons (pe_ty T.str b_str) pa_nil))))) (pw_or1 (pt_not (pt_chain op_le op_le pe_int (pe_b call_len_str T.len b_len (pa_cons (pv 0) pa_nil)) (pe_gc T.maxName)))))) (pss_one (ps_ret pe_bl)) pss_nil)
    (pss_one (ps_ret (pe_and (pe_cmpR op_notIn_seq (pv 0) (pe_gc (v := .ref aw) ⟨_, mw, rfl⟩) rfl) (pe_one (pe_b (cr_all rfl) T.all b_all (pa_cons
      (pe_lc (own := [("letter", 1)]) (g := gName 1) (tt := tYes) rfl nd (pi_str (pv 0)) (blkOk_by (N := ["value", "letter"]) (sc := defScope (top 13)) (by decide +kernel)) (fun _ _ _ _ _ => pg_name (i := 1) nd rfl (Or.inl rfl)) (fun _ _ _ _ _ => pts_nil)
        (fun _ _ _ _ _ => pe_cmpR op_in_sign (pv 1) (pe_gc T.letters) rfl)) pa_nil)))))), ?_⟩
  cases hs : isStr d with
  | false =>
    refine q_when (b := true) (et_or (a := true) (b := false) (et_not (a := false) (et_B (by have h := ev_isStr (K := K) (σ := start ["value", "letter"] [v]) (ta := tVar 0) (tc := tC (.ty "str")) (ev_var rfl) ev_c hd; rw [hs] at h; exact h))) (fun z => by cases z)) (fun _ H1 e1 => ?_) (fun z => by cases z)
    refine rets (v := .bl false) ev_c e1 q ?_
    cases d with
    | str x => cases hs
    | _ => rfl
  | true =>
    obtain ⟨x, rfl⟩ := isStr_of hs
    cases hd with
    | str _ hl =>
      refine q_when (b := !lenB x) (et_or (a := false) (b := !lenB x) (et_not (a := true) (et_B (ev_isStr (K := K) (d := .str x) (ev_var rfl) ev_c (.str x hl)))) fun _ => et_not (et_test (ev_chain (a := decide ((1 : Int) ≤ (x.length : Int))) (b := decide ((x.length : Int) ≤ 8)) ev_c (ev_lenS (ev_var rfl) hl) rv_I0 (fun _ => ev_c) (fun _ => rv_I0)))) (fun hb H1 e1 => ?_) (fun hb H1 e1 => ?_)
      · refine rets (v := .bl false) ev_c e1 q ?_
        show V.bl false = .bl (nameB x)
        unfold nameB
        have hb' : lenB x = false := by simpa using hb
        rw [hb'] <;> rfl
      · refine rets (v := .bl (!inV (.str x) wordsL && letB x)) (ev_andV (ev_op (ev_var rfl) ev_c (rv_niT (hw H1) rfl rfl)) fun _ => ev_all (el_lcS ((x.cps.toList.map fun c => decide (c ∈ lettersS.cps.toList)).map V.bl) (ev_var rfl) ?_ ?_ ?_ ?_)) e1 q ?_
        · rw [List.length_map, List.length_map, Array.length_toList]
        · rw [List.length_map, List.length_map, Array.length_toList]
          have : x.cps.size ≤ 1000 := hl
          omega
        · intro x; rfl
        · intro i c y H2 e2 hc hy
          have e : y = .bl (decide (c ∈ lettersS.cps.toList)) := by
            rw [List.getElem?_map, List.getElem?_map, Array.getElem?_toList, hc] at hy
            exact (Option.some.inj hy).symm
          subst e
          exact ev_op (ev_var rfl) ev_c rv_inSg
        · show V.bl _ = .bl (nameB x)
          unfold nameB
          have hb' : lenB x = true := by simpa using hb
          rw [hb'] <;> rfl
end
end L2.K7

/-! N7: are_args, has_form, parts_of, is_term_within, is_atom_within, is_term, is_atom. -/
namespace L2.K7
open PySem PySem.Spec PyProof.Rows
open Evl

/-- tuples stay -/
def ExT (H H' : Hp) : Prop := ∀ a vs, H a = some (.tup vs) → H' a = some (.tup vs)
theorem _root_.Evl.Ex.tt {H H' : Hp} (e : Ex H H') : ExT H H' := fun a vs h => e a _ h
theorem ExT.refl (H : Hp) : ExT H H := fun _ _ h => h
theorem ExT.trans {H H1 H2 : Hp} (a : ExT H H1) (b : ExT H1 H2) : ExT H H2 := fun x o h => b x o (a x o h)
theorem ExT.at {H H1 : Hp} {p : Addr} {u : HO} (e : ExT H H1) (h : ∀ vs, H1 p ≠ some (.tup vs)) : ExT H (upd H1 p u) := fun a vs q => by
  have e1 := e a vs q
  rw [upd_ne (by intro z; subst z; exact h _ e1)]
  exact e1
mutual
theorem DtAt.mt {H H' : Hp} (e : ExT H H') : ∀ (d : Dt) (v : V), DtAt H d v → DtAt H' d v
  | .non, _, h => by cases h; exact .non
  | .int i, _, h => by cases h; exact .int i
  | .str x, _, h => by
    cases h with
    | str _ hl => exact .str x hl
  | .tup ds, _, h => by
    cases h with
    | tup h1 h2 => exact .tup (e _ _ h1) (DtsAt.mt e ds _ h2)
theorem DtsAt.mt {H H' : Hp} (e : ExT H H') : ∀ (ds : List Dt) (vs : List V), DtsAt H ds vs → DtsAt H' ds vs
  | [], _, h => by cases h; exact .nil
  | d :: ds, _, h => by
    cases h with
    | cons h1 h2 => exact .cons (DtAt.mt e d _ h1) (DtsAt.mt e ds _ h2)
end
theorem DtAt.xt {H H' : Hp} {d : Dt} {v : V} (h : DtAt H d v) (e : ExT H H') : DtAt H' d v := DtAt.mt e d v h
theorem DtsAt.xt {H H' : Hp} {ds : List Dt} {vs : List V} (h : DtsAt H ds vs) (e : ExT H H') : DtsAt H' ds vs := DtsAt.mt e ds vs h

section
variable {H : Hp} {d : Dt} {v : V}
theorem sv_name (h : DtAt H d v) : SpV spName [v] H (.bl (nameD d)) := fun H1 e Q q E => ⟨d, v, rfl, h.ex e, q⟩
theorem sv_args (h : DtAt H d v) : SpV spArgs [v] H (.bl (argsD d)) := fun H1 e Q q E => ⟨d, v, rfl, h.ex e, q⟩
theorem sv_form (h : DtAt H d v) : SpV spForm [v] H (.bl (formD d)) := fun H1 e Q q E => ⟨d, v, rfl, h.ex e, q⟩
theorem sv_within (h : DtAt H d v) : SpV spWithin [v, .int 200, .int 30] H (.bl (termD d)) := fun H1 e Q q E => ⟨d, v, rfl, h.ex e, q⟩
theorem sv_atomW (h : DtAt H d v) : SpV spAtomW [v, .int 200, .int 30] H (.bl (atomD d)) := fun H1 e Q q E => ⟨d, v, rfl, h.ex e, q⟩
theorem sv_term (h : DtAt H d v) : SpV spTerm [v] H (.bl (termD d)) := fun H1 e Q q E => ⟨d, v, rfl, h.ex e, q⟩
theorem sv_atom (h : DtAt H d v) : SpV spAtom [v] H (.bl (atomD d)) := fun H1 e Q q E => ⟨d, v, rfl, h.ex e, q⟩
end
section
variable {K : PySem.W.Frag} {σ : L2.St} {H H' : Hp} {ta tb tc te : TE} {D : Ends} {x y z v v' : V} {d : Dt}
theorem s_retIf {t : TT} {b : Bool} (h : EvT t σ H b) (h1 : b = true → ∀ H1, Ex H H1 → tRet ta D σ H1) (h2 : b = false → ∀ H1, Ex H H1 → tRet tb D σ H1) : tRet (tIf t ta tb) D σ H := h H (Ex.refl H) _ fun H1 e => by
  cases b with
  | true => exact h1 rfl H1 e
  | false => exact h2 rfl H1 e
/-- the inner walk of a comprehension over tuples -/
theorem lc_in {a : Addr} {xs : List V} {g : TG} {vs : List Nat} {Dl : Addr} {Nx : Hp → Prop} (Pv : Nat → Hp → Prop) (h0 : Pv 0 H) (hl : ∀ i H, i ≤ xs.length → Pv i H → SqT K H a xs)
    (hs : ∀ i x H, xs[i]? = some x → Pv i H → g x (wipe σ vs) H fun σ2 H2 => wipe σ2 vs = wipe σ vs ∧ tYes σ2 H2 fun b H3 =>
      if b = true then te σ2 H3 fun y H4 => ∃ acc, H4 Dl = some (.lst acc) ∧ acc.length < sizeLine ∧ Pv (i + 1) (upd H4 Dl (.lst (acc ++ [y]))) else Pv (i + 1) H3) (hd : ∀ H, Pv xs.length H → Nx H) :
    ∃ W : Nat → Nat → Hp → Prop, (∃ m, W 0 m H) ∧ ∀ i m H, W i m H →
      ((Itt K a).stop i H ∧ Nx H) ∨ ((Itt K a).go i H ∧ ∃ N1 : Hp → Prop, (∀ H', N1 H' → ∃ m', m' < m ∧ W (i + 1) m' H') ∧ ∀ x H', (Itt K a).yld i H x H' → g x (wipe σ vs) H' fun σ2 H2 => wipe σ2 vs = wipe σ vs ∧ tYes σ2 H2 fun b H3 =>
        if b = true then te σ2 H3 fun y H4 => ∃ acc, H4 Dl = some (.lst acc) ∧ acc.length < sizeLine ∧ N1 (upd H4 Dl (.lst (acc ++ [y]))) else N1 H3) := by
  refine ⟨fun i m H => m = xs.length - i ∧ i ≤ xs.length ∧ Pv i H, ⟨xs.length, by simp, Nat.zero_le _, h0⟩, ?_⟩
  rintro i m H ⟨rfl, hi, p⟩
  have q := hl i H hi p
  by_cases hlt : i < xs.length
  · refine .inr ⟨⟨xs, xs[i], q, by simp [hlt]⟩, Pv (i + 1), fun H' p' => ⟨xs.length - (i + 1), by omega, rfl, hlt, p'⟩, fun x H' y => ?_⟩
    obtain ⟨e, y⟩ := y
    subst e
    exact hs i x _ (y xs q) p
  · have e : i = xs.length := by omega
    subst e
    exact .inl ⟨⟨xs, q, Nat.le_refl _⟩, hd H p⟩
end
/-! ### forms -/
theorem form_tup {d : Dt} (h : formD d = true) : ∃ ds, d = .tup ds ∧ 2 ≤ ds.length ∧ ds.length ≤ 3 ∧ isStr (itm ds 0) = true ∧ nameD (itm ds 1) = true ∧ (sEq (itm ds 0) "var" = true → ds.length = 2) ∧
    (sEq (itm ds 0) "var" = false → ds.length = 3 ∧ (sEq (itm ds 0) "item" = true ∨ (sEq (itm ds 0) "op" = true ∧ argsD (itm ds 2) = true))) := by
  cases d with
  | tup ds =>
    unfold formD at h
    simp only [Bool.and_eq_true, decide_eq_true_eq] at h
    obtain ⟨⟨h1, h2⟩, ⟨h3, h4⟩, h5⟩ := h
    refine ⟨ds, rfl, by omega, by omega, h3, h4, fun e => ?_, fun e => ?_⟩
    · rw [if_pos e] at h5
      simp only [decide_eq_true_eq] at h5
      omega
    · rw [if_neg (by rw [e]; decide)] at h5
      simp only [Bool.and_eq_true, Bool.or_eq_true, decide_eq_true_eq] at h5
      exact ⟨by omega, h5.2⟩
  | _ => exact absurd h (by intro z; cases z)
theorem sEq_of {d : Dt} {w : Str} (h : sEq d w = true) : d = .str w := by
  cases d with
  | str y =>
    have e : y = w := by simpa [sEq] using h
    rw [e]
  | _ => exact absurd h (by intro z; cases z)
theorem parts_var {ds : List Dt} (hv : sEq (itm ds 0) "var" = true) : partsD (.tup ds) = [] := by simp [partsD, hv]
theorem parts_item {ds : List Dt} (hv : sEq (itm ds 0) "var" = false) (hi : sEq (itm ds 0) "item" = true) : partsD (.tup ds) = [itm ds 2] := by simp [partsD, hv, hi]
theorem parts_op {ds es : List Dt} (hv : sEq (itm ds 0) "var" = false) (hi : sEq (itm ds 0) "item" = false) (he : itm ds 2 = .tup es) : partsD (.tup ds) = es := by simp [partsD, hv, hi, he]
theorem parts_le {d : Dt} (h : formD d = true) : (partsD d).length ≤ 8 := by
  obtain ⟨ds, rfl, h1, h2, h3, h4, h5, h6⟩ := form_tup h
  unfold partsD
  by_cases hv : sEq (itm ds 0) "var" = true
  · simp [hv]
  · have hv' : sEq (itm ds 0) "var" = false := by simpa using hv
    obtain ⟨h7, h8⟩ := h6 hv'
    simp only [hv']
    by_cases hi : sEq (itm ds 0) "item" = true
    · simp [hi]
    · have hi' : sEq (itm ds 0) "item" = false := by simpa using hi
      simp only [hi']
      rcases h8 with z | ⟨_, z⟩
      · exact absurd z hi
      · cases e : itm ds 2 with
        | tup es =>
          rw [e] at z
          simp only [argsD, decide_eq_true_eq] at z
          simp only [Bool.false_eq_true, if_false]
          omega
        | _ => simp
section
variable {P : Program} {w : World} {K : PySem.W.Frag} {mg : Str → Option Value} {base : Heap}
theorem walk_args (T : Txt K mg) : Walks P w K mg base CX0 0 "are_args" (top 15) ["value"] spArgs := by
  intro f cdv A outer s H vs Q E hr hsp
  obtain ⟨d, v, rfl, hd, q⟩ := hsp
  refine ⟨_, pss_one (ps_ret (pe_and (pe_b call_isi T.isinstance b_isi (pa_cons (pv 0) (pa_cons (pe_ty T.tuple b_tuple) pa_nil))) (pe_one (pe_cmpR op_le (pe_b call_len_seq T.len b_len (pa_cons (pv 0) pa_nil)) (pe_gc T.maxArgs) (nomark _))))), ?_⟩
  cases ht : isTup d with
  | false =>
    refine rets (ev_andV (a := false) (b := false) (by have h := ev_isTup (K := K) (σ := start ["value"] [v]) (ta := tVar 0) (tc := tC (.ty "tuple")) (ev_var rfl) ev_c hd; rw [ht] at h; exact h) fun z => by cases z) (Ex.refl H) q ?_
    cases d with
    | tup x => cases ht
    | _ => rfl
  | true =>
    obtain ⟨ds, rfl⟩ := isTup_of ht
    exact rets (ev_andV (ev_isTup (ev_var rfl) ev_c hd) fun _ => ev_op (ev_lenD (ev_var rfl) hd) ev_c rv_I0) (Ex.refl H) q rfl
theorem walk_form (T : Txt K mg) (cn : Cal P w K mg base CX0 1 "is_name" spName) (ca : Cal P w K mg base CX0 1 "are_args" spArgs) : Walks P w K mg base CX0 1 "has_form" (top 16) ["value"] spForm := by
  intro f cdv A outer s H vs Q E hr hsp
  obtain ⟨d, v, rfl, hd, q⟩ := hsp
  refine ⟨_, pss_cons (ps_if (PW.pt (pw_or (pt_not (pt_val (pe_b call_isi T.isinstance b_isi (pa_cons (pv 0) (pa_cons (pe_ty T.tuple b_tuple) pa_nil))))) (pw_or1 (pt_not (pt_chain op_le op_le pe_int (pe_b call_len_seq T.len b_len (pa_cons (pv 0) pa_nil)) pe_int))))) (pss_one (ps_ret pe_bl)) pss_nil)
    (pss_cons (ps_if (PW.pt (pw_or (pt_not (pt_val (pe_b call_isi T.isinstance b_isi (pa_cons (pe_ix ix_tup (pv 0) pe_int (fun _ _ => rfl)) (pa_cons (pe_ty T.str b_str) pa_nil))))) (pw_or1 (pt_not (pt_val (pe_c cn hr (Nat.le_refl _) (pa_cons (pe_ix ix_tup (pv 0) pe_int (fun _ _ => rfl)) pa_nil))))))) (pss_one (ps_ret pe_bl)) pss_nil)
    (pss_cons (ps_if (pt_cmpR op_eq (pe_ix ix_tup (pv 0) pe_int (fun _ _ => rfl)) pe_str (nomark _)) (pss_one (ps_ret (pe_cmpR op_eq (pe_b call_len_seq T.len b_len (pa_cons (pv 0) pa_nil)) pe_int (nomark _)))) pss_nil)
    (pss_one (ps_ret (pe_and (pe_cmpR op_eq (pe_b call_len_seq T.len b_len (pa_cons (pv 0) pa_nil)) pe_int (nomark _)) (pe_one (pe_or (pe_cmpR op_eq (pe_ix ix_tup (pv 0) pe_int (fun _ _ => rfl)) pe_str (nomark _))
      (pe_one (pe_and (pe_cmpR op_eq (pe_ix ix_tup (pv 0) pe_int (fun _ _ => rfl)) pe_str (nomark _)) (pe_one (pe_c ca hr (Nat.le_refl _) (pa_cons (pe_ix ix_tup (pv 0) pe_int (fun _ _ => rfl)) pa_nil)))))))))))), ?_⟩
  cases ht : isTup d with
  | false =>
    refine q_when (b := true) (et_or (a := true) (b := false) (et_not (a := false) (et_B (by have h := ev_isTup (K := K) (σ := start ["value"] [v]) (ta := tVar 0) (tc := tC (.ty "tuple")) (ev_var rfl) ev_c hd; rw [ht] at h; exact h))) (fun z => by cases z)) (fun _ H1 e1 => ?_) (fun z => by cases z)
    refine rets (v := .bl false) ev_c e1 q ?_
    cases d with
    | tup x => cases ht
    | _ => rfl
  | true =>
    obtain ⟨ds, rfl⟩ := isTup_of ht
    refine q_when (b := !(decide ((2 : Int) ≤ (ds.length : Int)) && decide ((ds.length : Int) ≤ 3))) (et_or (a := false) (et_not (a := true) (et_B (ev_isTup (d := .tup ds) (ev_var rfl) ev_c hd))) fun _ => et_not (et_test (ev_chain ev_c (ev_lenD (ev_var rfl) hd) rv_I0 (fun _ => ev_c) (fun _ => rv_I0)))) (fun hb H1 e1 => ?_) (fun hb H1 e1 => ?_)
    · refine rets (v := .bl false) ev_c e1 q ?_
      have hb' : (decide ((2 : Int) ≤ (ds.length : Int)) && decide ((ds.length : Int) ≤ 3)) = false := by simpa only [Bool.not_eq_true'] using hb
      show V.bl false = .bl (_ && _)
      rw [hb'] <;> rfl
    · have hb' : (decide ((2 : Int) ≤ (ds.length : Int)) && decide ((ds.length : Int) ≤ 3)) = true := by simpa only [Bool.not_eq_false'] using hb
      have hb2 := hb'
      simp only [Bool.and_eq_true, decide_eq_true_eq] at hb2
      obtain ⟨l2, l3⟩ := hb2
      have hd1 := hd.ex e1
      obtain ⟨u0, h0, E0'⟩ := ev_itm (K := K) (σ := start ["value"] [v]) (ta := tVar 0) (tb := tC (.int 0)) (i := 0) (ev_var rfl) ev_c hd1 (by omega)
      obtain ⟨u1, h1, E1'⟩ := ev_itm (K := K) (σ := start ["value"] [v]) (ta := tVar 0) (tb := tC (.int 1)) (i := 1) (ev_var rfl) ev_c hd1 (by omega)
      refine q_when (b := !isStr (itm ds 0) || !nameD (itm ds 1)) (et_or (et_not (et_B (ev_isStr E0' ev_c h0))) fun _ => et_not (et_B (ev_call (ea_cons E1' ea_nil) (sv_name h1)))) (fun hc H2 e2 => ?_) (fun hc H2 e2 => ?_)
      · refine rets (v := .bl false) ev_c (e1.trans e2) q ?_
        have hc' : (isStr (itm ds 0) && nameD (itm ds 1)) = false := by rw [← Bool.not_and] at hc; simpa only [Bool.not_eq_true'] using hc
        show V.bl false = .bl (_ && (_ && _))
        rw [hc', hb'] <;> rfl
      · have hc' : (isStr (itm ds 0) && nameD (itm ds 1)) = true := by rw [← Bool.not_and] at hc; simpa only [Bool.not_eq_false'] using hc
        have hs : isStr (itm ds 0) = true := (Bool.and_eq_true_iff.mp hc').1
        refine q_when (b := sEq (itm ds 0) "var") (et_test (ev_sEq (E0'.mono e2) ev_c (h0.ex e2) hs)) (fun hv H3 e3 => ?_) (fun hv H3 e3 => ?_)
        · refine rets (ev_op (ev_lenD (ev_var rfl) (hd1.ex (e2.trans e3))) ev_c rv_eqI) (e1.trans (e2.trans e3)) q ?_
          show V.bl _ = .bl (_ && (_ && _))
          rw [hc', hb', if_pos hv] <;> rfl
        · refine rets (v := .bl (decide ((ds.length : Int) = 3) && (sEq (itm ds 0) "item" || (sEq (itm ds 0) "op" && argsD (itm ds 2))))) (ev_andV (ev_op (ev_lenD (ev_var rfl) (hd1.ex (e2.trans e3))) ev_c rv_eqI) fun h3 => ev_orV (ev_sEq (E0'.mono (e2.trans e3)) ev_c (h0.ex (e2.trans e3)) hs) fun _ => ev_andV (ev_sEq (E0'.mono (e2.trans e3)) ev_c (h0.ex (e2.trans e3)) hs) fun _ => ?_) (e1.trans (e2.trans e3)) q ?_
          · have h3' : (ds.length : Int) = 3 := by simpa using h3
            obtain ⟨u2, h2, E2'⟩ := ev_itm (K := K) (σ := start ["value"] [v]) (ta := tVar 0) (tb := tC (.int 2)) (i := 2) (ev_var rfl) ev_c (hd1.ex (e2.trans e3)) (by omega)
            exact ev_call (ea_cons E2' ea_nil) (sv_args h2)
          · show V.bl _ = .bl (_ && (_ && _))
            rw [hc', hb', if_neg (by rw [hv]; decide)] <;> rfl
theorem walk_parts (T : Txt K mg) : Walks P w K mg base CX0 0 "parts_of" (top 14) ["term"] spParts := by
  intro f cdv A outer s H vs Q E hr hsp
  obtain ⟨d, v, rfl, hd, hf, q⟩ := hsp
  refine ⟨_, pss_cons (ps_if (pt_cmpR op_eq (pe_ix ix_tup (pv 0) pe_int (fun _ _ => rfl)) pe_str (nomark _)) (pss_one (ps_ret (pe_tup pa_nil))) pss_nil)
    (pss_cons (ps_if (pt_cmpR op_eq (pe_ix ix_tup (pv 0) pe_int (fun _ _ => rfl)) pe_str (nomark _)) (pss_one (ps_ret (pe_slice sl_tup (pv 0) (po_some pe_int) po_none))) pss_nil)
    (pss_one (ps_ret (pe_ifExp (pt_cmpR op_eq (pe_ix ix_tup (pv 0) pe_int (fun _ _ => rfl)) pe_str (nomark _)) (pe_tup (pa_cons (pe_ix ix_tup (pv 0) pe_int (fun _ _ => rfl)) pa_nil)) (pe_ix ix_tup (pv 0) pe_int (fun _ _ => rfl)))))), ?_⟩
  obtain ⟨ds, rfl, h1, h2, h3, h4, h5, h6⟩ := form_tup hf
  obtain ⟨u0, h0, E0'⟩ := ev_itm (K := K) (σ := start ["term"] [v]) (ta := tVar 0) (tb := tC (.int 0)) (i := 0) (ev_var rfl) ev_c hd (by omega)
  refine q_when (b := sEq (itm ds 0) "var") (et_test (ev_sEq E0' ev_c h0 h3)) (fun hv H3 e3 => ?_) (fun hv H3 e3 => ?_)
  · refine s_retU (eu_tup ea_nil (by decide)) fun p H4 _ e4 hp => q p H4 [] (e3.trans e4) hp ?_
    rw [parts_var hv]
    exact .nil
  · obtain ⟨l3, hc⟩ := h6 hv
    have hns : sEq (itm ds 0) "same" = false := by
      rcases hc with z | ⟨z, _⟩ <;> rw [sEq_of z] <;> decide
    refine q_when (b := false) (et_test (by have h := ev_sEq (w := "same") (E0'.mono e3) (ev_c (v := .str "same")) (h0.ex e3) h3; rw [hns] at h; exact h)) (fun z => by cases z) (fun _ H4 e4 => ?_)
    have e34 := e3.trans e4
    obtain ⟨u2, g2, E2'⟩ := ev_itm (K := K) (σ := start ["term"] [v]) (ta := tVar 0) (tb := tC (.int 2)) (i := 2) (ev_var rfl) ev_c (hd.ex e34) (by omega)
    refine s_retIf (b := sEq (itm ds 0) "item") (et_test (ev_sEq (E0'.mono e34) ev_c (h0.ex e34) h3)) (fun hi H5 e5 => ?_) (fun hi H5 e5 => ?_)
    · refine s_retU (eu_tup (ea_cons (E2'.mono e5) ea_nil) (by show 1 ≤ 100000; decide)) fun p H6 _ e6 hp => q p H6 [u2] (e34.trans (e5.trans e6)) hp ?_
      rw [parts_item hv hi]
      exact .cons (g2.ex (e5.trans e6)) .nil
    · rcases hc with z | ⟨z, ha⟩
      · rw [hi] at z; cases z
      · cases e : itm ds 2 with
        | tup es =>
          rw [e] at g2
          cases g2 with
          | @tup a _ us k1 k2 =>
            refine s_ret (E2'.mono e5) fun H6 e6 => q a H6 us (e34.trans (e5.trans e6)) ((e5.trans e6) _ _ k1) ?_
            rw [parts_op hv hi e]
            exact k2.ex (e5.trans e6)
        | _ => rw [e] at ha; cases ha
end
end L2.K7

/-! N8: is_term_within, is_atom_within, is_term, is_atom. -/
namespace L2.K7
open PySem PySem.Spec PyProof.Rows
open Evl

section
variable {K : PySem.W.Frag} {H H' : Hp} {D : Ends} {v : V} {d : Dt}
theorem tYes_if {σ : St} {A B : Hp → Prop} (h : A H) : tYes σ H fun b H3 => if b = true then A H3 else B H3 := (if_pos rfl : (if true = true then A H else B H) = A H).mpr h
/-- [part for one in layer for part in parts_of(one)] -/
theorem lc2_parts {layer : List Dt} {us : List V} {a : Addr} {tl : TE} {x0 x1 x2 x3 x4 x5 : Option V} (σ : St) (hσ : σ = [x0, x1, x2, x3, x4, x5, none, none]) (h : Ev tl σ H (.ref a)) (hx : H a = some (.lst us)) (hd : DtsAt H layer us) (hf : ∀ d ∈ layer, formD d = true) (hz : layer.length ≤ 200) {Q : VK}
    (q : ∀ p H2 ws, Ex H H2 → H2 p = some (.lst ws) → DtsAt H2 (layer.flatMap partsD) ws → (layer.flatMap partsD).length ≤ 1600 → Q (.ref p) H2) :
    tLc2 (iList K tl) (gName 6) tYes (iTup K (tCall spParts [] E0 (tCons (tVar 6) tNil))) (gName 7) tYes (tVar 7) [6, 7] [7] σ H Q := by
  subst hσ
  refine h H (Ex.refl H) _ fun H1 e1 => ⟨a, rfl, ⟨us, sq_of (e1 a _ hx)⟩, fun Dl hD => ?_⟩
  have hul := hd.length
  have hP : ∀ i, i ≤ layer.length → ((layer.take i).flatMap partsD).length ≤ 8 * i := by
    intro i hi
    induction i with
    | zero => simp
    | succ i ih =>
      have hlt : i < layer.length := by omega
      rw [take_snoc (List.getElem?_eq_getElem hlt), List.flatMap_append, List.length_append, List.flatMap_singleton]
      have h1 := ih (by omega)
      have h2 := parts_le (hf _ (List.getElem_mem hlt))
      omega
  let Pv : Nat → Hp → Prop := fun i H' => H1 Dl = none ∧ Ex H1 H' ∧ i ≤ layer.length ∧ ∃ acc, H' Dl = some (.lst acc) ∧ DtsAt H' ((layer.take i).flatMap partsD) acc
  refine ⟨fun i m H' => m = us.length - i ∧ i ≤ us.length ∧ Pv i H', ⟨us.length, by simp, Nat.zero_le _, hD, Ex.new hD, Nat.zero_le _, [], upd_same, .nil⟩, ?_⟩
  rintro i m H' ⟨rfl, hi, p1, p2, p3, acc, pa, pd⟩
  have hq : SqL K H' a us := sq_of (p2 a _ (e1 a _ hx))
  by_cases hlt : i < us.length
  · refine .inr ⟨⟨us, us[i], hq, by simp [hlt]⟩, Pv (i + 1), fun H'' p' => ⟨us.length - (i + 1), by omega, rfl, hlt, p'⟩, fun x H'' y => ?_⟩
    obtain ⟨e, y⟩ := y
    subst e
    have hxi := y us hq
    refine ⟨rfl, ?_⟩
    obtain ⟨di, hdi, hdx⟩ := hd.get hxi
    have hfi := hf di (List.mem_of_getElem? hdi)
    refine tYes_if ?_
    refine ⟨x, rfl, di, x, rfl, hdx.ex (e1.trans p2), hfi, fun p H4 ws e4 hp hw => ?_⟩
    refine ⟨p, rfl, ⟨ws, st_of hp⟩, ?_⟩
    have hpD : p ≠ Dl := by
      intro z
      subst z
      have := e4 _ _ pa
      rw [hp] at this
      cases this
    have hal : acc.length ≤ 8 * i := by
      rw [pd.length]
      exact hP i p3
    have hwl : ws.length ≤ 8 := by
      rw [hw.length]
      exact parts_le hfi
    refine lc_in (K := K) (a := p) (xs := ws) (fun j H5 => ExT H4 H5 ∧ Ex H1 H5 ∧ j ≤ ws.length ∧ H5 Dl = some (.lst (acc ++ ws.take j))) ⟨ExT.refl H4, p2.trans e4, Nat.zero_le _, by rw [List.take_zero, List.append_nil]; exact e4 _ _ pa⟩ (fun j H5 _ r => st_of (r.1 _ _ hp)) (fun j x H5 hj r => ⟨rfl, ?_⟩) (fun H5 r => ?_)
    · obtain ⟨r1, r2, r3, r4⟩ := r
      refine tYes_if ?_
      have hjl : j < ws.length := (List.getElem?_eq_some_iff.mp hj).1
      refine ⟨x, rfl, acc ++ ws.take j, r4, ?_, ExT.at r1 (by intro vs z; rw [r4] at z; cases z), Ex.mut r2 p1, by omega, ?_⟩
      · have h1 : (ws.take j).length ≤ ws.length := List.length_take_le' _ _
        rw [List.length_append]
        exact Nat.lt_of_lt_of_le (show acc.length + (ws.take j).length < 1700 by omega) (by decide)
      · rw [take_snoc hj, List.append_assoc]
        exact upd_same
    · obtain ⟨r1, r2, r3, r4⟩ := r
      rw [List.take_length] at r4
      refine ⟨p1, r2, by omega, acc ++ ws, r4, ?_⟩
      rw [take_snoc hdi, List.flatMap_append, List.flatMap_singleton]
      exact ((pd.ex e4).xt r1).app (hw.xt r1)
  · have e : i = us.length := by omega
    subst e
    refine .inl ⟨⟨us, hq, Nat.le_refl _⟩, ?_⟩
    have hf2 := hP layer.length (Nat.le_refl _)
    rw [hul, List.take_length] at pd
    rw [List.take_length] at hf2
    exact q Dl H' acc (e1.trans p2) pa pd (by omega)
end
theorem rv_neI {a b : Int} {H : Hp} : RV rNe (.int a) (.int b) H (.bl (!decide (a = b))) := fun H1 _ Q q => by
  have e : decide (V.int a = V.int b) = decide (a = b) := by
    by_cases h : a = b
    · subst h
      simp
    · rw [decide_eq_false h, decide_eq_false (fun z => h (V.int.inj z))]
  exact ⟨rfl, by rw [e]; exact q H1 (Ex.refl H1)⟩
theorem ev_sNe {σ : St} {H : Hp} {ta tb : TE} {v : V} {d : Dt} {w : Str} (ha : Ev ta σ H v) (hb : Ev tb σ H (.str w)) (h : DtAt H d v) (hs : isStr d = true) : Ev (tOp rNe ta tb) σ H (.bl (!sEq d w)) := by
  obtain ⟨x, rfl⟩ := isStr_of hs
  cases h with
  | str _ _ => exact ev_op ha hb rv_neS
/-- [e for x in t], t a new tuple -/
theorem el_lcNT {K : PySem.W.Frag} {σ : St} {H : Hp} {te tl : TE} {xs : List V} {j : Nat} {vs : List Nat} (ys : List V) (h : EvU tl σ H xs) (hl : ys.length = xs.length) (hz : ys.length ≤ 40000) (hw : ∀ x, wipe ((wipe σ vs).set j (some x)) vs = wipe σ vs)
    (he : ∀ (i : Nat) (x y : V) H1, Ex H H1 → xs[i]? = some x → ys[i]? = some y → Ev te ((wipe σ vs).set j (some x)) H1 y) :
    EvL (tLc (iTup K tl) (gName j) tYes te vs) σ H ys := fun H0 e Q q => h H0 e _ fun a H1 _ e1 hx => ⟨a, rfl, ⟨xs, st_of hx⟩, fun Dl hD =>
  lc_tup (K := K) (a := a) (xs := xs) (Cz H1 ys Dl) ⟨hD, Ex.new hD, upd_same⟩ (fun i H' _ p => st_of (p.2.1 _ _ hx))
    (fun i x H' hi p => by
      have hlt : i < ys.length := by rw [hl]; exact (List.getElem?_eq_some_iff.mp hi).1
      exact ⟨hw x, cz_turn p hz (List.getElem?_eq_getElem hlt) (he i x _ H1 (e.trans e1) hi (List.getElem?_eq_getElem hlt))⟩)
    (fun H' p => q Dl H' (fresh_back e1 p.1) (e1.trans p.2.1) (cz_end p hl))⟩
theorem eu_sl3 {K : PySem.W.Frag} {σ : St} {H : Hp} {te : TE} {a : Addr} {x y z : V} (h : Ev te σ H (.ref a)) (hs : SqT K H a [x, y, z]) : EvU (tSl (rSlT K) te (tPart (tC (.int 1))) tNoPart) σ H [y, z] := fun H1 e _ q =>
  h H1 e _ fun H2 e2 => ⟨1, rfl, a, [x, y, z], rfl, ex_t (e.trans e2) hs, by intro h; exact absurd (show (1 : Nat) = 0 from h.1) (by decide), fun p hp => q p _ (fresh_back e2 hp) (e2.trans (Ex.new hp)) upd_same⟩
theorem s_parL {i j : Nat} {σ : St} {H : Hp} {D : Ends} {ta tb : TE} {xs : List V} {w : V} (ha : EvL ta σ H xs) (hb : ∀ H1, Ex H H1 → Ev tb σ H1 w) (k : ∀ p H1, H p = none → Ex H H1 → H1 p = some (.lst xs) → D.nx ((σ.set i (some (.ref p))).set j (some w)) H1) :
    tPar i j (tCons ta (tCons tb tNil)) D σ H := ha H (Ex.refl H) _ fun p H1 hp e1 h1 => hb H1 e1 H1 (Ex.refl H1) _ fun H2 e2 => ⟨_, _, rfl, k p H2 hp (e1.trans e2) (e2 _ _ h1)⟩
theorem q_parL {i j : Nat} {σ : St} {H : Hp} {D : Ends} {ta tb : TE} {tz : TS} {xs : List V} {w : V} (ha : EvL ta σ H xs) (hb : ∀ H1, Ex H H1 → Ev tb σ H1 w) (k : ∀ p H1, H p = none → Ex H H1 → H1 p = some (.lst xs) → tz D ((σ.set i (some (.ref p))).set j (some w)) H1) :
    tSeq (tPar i j (tCons ta (tCons tb tNil))) tz D σ H := s_parL (D := { D with nx := tz D }) ha hb k
theorem forms_all {layer : List Dt} (h : (layer.map formD).all id = true) : ∀ d ∈ layer, formD d = true := fun d hd => by
  rw [List.all_map, List.all_eq_true] at h
  exact h d hd
section
variable {P : Program} {w : World} {K : PySem.W.Frag} {mg : Str → Option Value} {base : Heap}
abbrev NW : List Str := ["value", "size", "depth", "layer", "count", "rest", "one", "part"]
theorem walk_within (T : Txt K mg) (cf : Cal P w K mg base CX0 2 "has_form" spForm) (cp : Cal P w K mg base CX0 1 "parts_of" spParts) : Walks P w K mg base CX0 2 "is_term_within" (top 17) NW spWithin := by
  intro f cdv A outer s H vs Q E hr hsp
  obtain ⟨d, v, rfl, hd, q⟩ := hsp
  have nd : NW.Nodup := by decide +kernel
  have hu := hr.units
  refine ⟨_, pss_cons (ps_par (i := 3) (j := 4) (by rfl) nd rfl rfl (by decide) rfl rfl (pa_cons (pe_lst (pa_cons (pv 0) pa_nil)) (pa_cons pe_int pa_nil)) (by rfl))
    (pss_cons (ps_for (passes_of rfl) rfl (pi_range1 rfl T.range (pa_cons (pv 2) pa_nil)) (pg_name (i := 5) nd rfl (Or.inl rfl))
      (pss_cons (ps_set (i := 4) nd rfl (Or.inl rfl) (pe_op op_add (pv 4) (pe_b call_len_seq T.len b_len (pa_cons (pv 3) pa_nil))))
      (pss_cons (ps_if (PW.pt (pw_or (pt_cmpR op_gt (pv 4) (pv 1) (nomark _)) (pw_or1 (pt_not (pt_val (pe_b (cr_all rfl) T.all b_all (pa_cons
          (pe_lc (own := [("one", 6)]) (g := gName 6) (tt := tYes) rfl nd (pi_list (pv 3)) (blkOk_by (N := NW) (sc := defScope (top 17)) (by decide +kernel)) (fun _ _ _ _ _ => pg_name (i := 6) nd rfl (Or.inl rfl)) (fun _ _ _ _ _ => pts_nil)
            (fun _ _ _ _ _ => pe_c cf hr (by decide) (pa_cons (pv 6) pa_nil))) pa_nil))))))) (pss_one (ps_ret pe_bl)) pss_nil)
      (pss_one (ps_setLc2 (i := 3) (own := [("one", 6), ("part", 7)]) (vs1 := [7]) (g := gName 6) (g1 := gName 7) (tt := tYes) (tt1 := tYes) (wi1 := iTup K (tCall spParts [] E0 (tCons (tVar 6) tNil))) rfl nd rfl rfl (sw_true rfl rfl rfl (by decide +kernel)) (pi_list (pv 3)) (blkOk_by (N := NW) (sc := defScope (top 17)) (by decide +kernel)) (by decide)
        (fun _ _ _ _ _ => pg_name (i := 6) nd rfl (Or.inl rfl)) (fun _ _ _ _ _ => pts_nil) (fun _ _ _ _ _ => pi_tup (pe_c cp hr (by decide) (pa_cons (pv 6) pa_nil))) (fun _ _ _ _ _ => pg_name (i := 7) nd rfl (Or.inl rfl)) (fun _ _ _ _ _ => pts_nil) (fun _ _ _ _ _ => pv 7))))))
    (pss_one (ps_ret (pe_cmpR (op_eqNil (Nat.lt_of_le_of_lt (Nat.le_add_right _ 64) hr.units)) (pv 3) (pe_lst pa_nil) (nomark _))))), ?_⟩
  have E1 : EvL (tLst (tCons (tVar 0) tNil)) (start NW [v, .int 200, .int 30]) H [v] := el_lst (ea_cons (ev_var rfl) ea_nil) (by show 1 ≤ 100000; decide)
  refine q_parL (w := .int 0) E1 (fun _ _ => ev_c) fun p0 H0 hp0 e0 h0 => ?_
  refine q_forR1 (n := 30) (ea_cons (ev_var rfl) ea_nil) (by omega) (fun i σ' H' => ∃ (layer : List Dt) (us : List V) (p : Addr) (cnt : Int) (r : Option V), σ' = [some v, some (.int 200), some (.int 30), some (.ref p), some (.int cnt), r, none, none] ∧ Ex H H' ∧ H' p = some (.lst us) ∧ DtsAt H' layer us ∧ bfs (30 - i) cnt layer = termD d ∧ layer.length ≤ 1600 ∧ 0 ≤ cnt)
    (fun H1 e1 => ⟨[d], [v], p0, 0, none, rfl, e0.trans e1, e1 _ _ h0, .cons (hd.ex (e0.trans e1)) .nil, rfl, by show 1 ≤ 1600; decide, Int.le_refl _⟩) (fun i σ' H' hi hI => ?_) (fun σ' H' hI => ?_)
  · obtain ⟨layer, us, p, cnt, r, rfl, e1, hp, hds, hb, hz, hcn⟩ := hI
    have hul := hds.length
    refine q_asg (v := .int (cnt + (layer.length : Int))) (ev_op (ev_var rfl) (ev_len (ev_var rfl) (sq_of hp)) (by rw [hul]; exact rv_I0)) fun H2 e2 => ?_
    have hb1 : 30 - i = (30 - (i + 1)) + 1 := by omega
    rw [hb1] at hb
    have hlc : EvL (tLc (iList K (tVar 3)) (gName 6) tYes (tCall spForm [] E0 (tCons (tVar 6) tNil)) [6]) [some v, some (.int 200), some (.int 30), some (.ref p), some (.int (cnt + (layer.length : Int))), some (.int (i : Int)), none, none] H2 ((layer.map formD).map V.bl) := by
      refine el_lcL2 _ (ev_var rfl) (sq_of (e2 _ _ hp)) (by rw [List.length_map, List.length_map, hul]) (by rw [List.length_map, List.length_map]; omega) (fun x => rfl) fun i x y H3 e3 hx hy => ?_
      obtain ⟨di, hdi, hdx⟩ := hds.get hx
      have e : y = .bl (formD di) := by
        rw [List.getElem?_map, List.getElem?_map, hdi] at hy
        exact (Option.some.inj hy).symm
      subst e
      exact ev_call (ea_cons (ev_var rfl) ea_nil) (sv_form (hdx.ex (e2.trans e3)))
    refine q_when (b := decide ((200 : Int) < cnt + (layer.length : Int)) || !(layer.map formD).all id) (et_or (et_test (ev_op (ev_var rfl) (ev_var rfl) rv_I0)) fun _ => et_not (et_B (ev_all hlc))) (fun hc H3 e3 => ?_) (fun hc H3 e3 => ?_)
    · refine rets (v := .bl false) ev_c (e1.trans (e2.trans e3)) q ?_
      rw [← hb]
      unfold bfs
      rw [if_pos hc]
    · unfold bfs at hb
      rw [if_neg (by rw [hc]; decide)] at hb
      have hc2 := hc
      rw [Bool.or_eq_false_iff] at hc2
      obtain ⟨c1, c2⟩ := hc2
      have c1' : ¬ ((200 : Int) < cnt + (layer.length : Int)) := by simpa using c1
      have c2' : (layer.map formD).all id = true := by simpa using c2
      have c3 := forms_all c2'
      refine lc2_parts (K := K) _ rfl (ev_var rfl) ((e2.trans e3) _ _ hp) (hds.ex (e2.trans e3)) c3 ?_ fun p4 H4 ws e4 hp4 hw hz4 => ?_
      · omega
      · exact ⟨_, ws, p4, cnt + (layer.length : Int), some (.int (i : Int)), rfl, e1.trans ((e2.trans e3).trans e4), hp4, hw, hb, hz4, by omega⟩
  · obtain ⟨layer, us, p, cnt, r, rfl, e1, hp, hds, hb, hz, hcn⟩ := hI
    refine rets (v := .bl us.isEmpty) ?_ e1 q ?_
    · refine ev_opL (ev_var rfl) (el_lst ea_nil (by decide)) fun p2 H2 hp2 e2 => rv_val fun H3 e3 Q2 q2 => ⟨p, p2, us, rfl, rfl, sq_of (e3 _ _ (e2 _ _ hp)), sq_of (e3 _ _ hp2), q2⟩
    · have hb2 : layer.isEmpty = termD d := hb
      rw [← hb2]
      have hl := hds.length
      cases us <;> cases layer <;> first | rfl | (simp at hl)
/-- is_atom_within -/
abbrev awN : List Str := ["value", "size", "depth", "term"]
abbrev awS : Scope := defScope (top 18)
theorem walk_atomW (T : Txt K mg) (ct : Cal P w K mg base CX0 3 "is_term_within" spWithin) (c_is_name : Cal P w K mg base CX0 1 "is_name" spName) (c_are_args : Cal P w K mg base CX0 1 "are_args" spArgs) : Walks P w K mg base CX0 3 "is_atom_within" (top 18) awN spAtomW := by
  intro f cdv A outer s H vs Q E hr hsp
  obtain ⟨d, v, rfl, hd, q⟩ := hsp
  have nd : awN.Nodup := by decide +kernel
  refine ⟨_, (pss_cons (ps_if (PW.pt (pw_or (pt_not (pt_val (pe_b call_isi T.isinstance b_isi (pa_cons (pv 0) (pa_cons (pe_ty T.tuple b_tuple) pa_nil))))) (pw_or (pt_cmpR op_ne (pe_b call_len_seq T.len b_len (pa_cons (pv 0) pa_nil)) pe_int (nomark _)) (pw_or1 (pt_not (pt_val (pe_b call_isi T.isinstance b_isi (pa_cons (pe_ix ix_tup (pv 0) pe_int (fun _ _ => rfl)) (pa_cons (pe_ty T.str b_str) pa_nil))))))))) (pss_one (ps_ret pe_bl)) pss_nil)
    (pss_cons (ps_if (pt_cmpR op_eq (pe_ix ix_tup (pv 0) pe_int (fun _ _ => rfl)) pe_str (nomark _)) (pss_one (ps_ret (pe_b (cr_all rfl) T.all b_all (pa_cons (pe_lc (own := [("term", 3)]) (g := gName 3) (tt := tYes) rfl nd (pi_tup (pe_slice sl_tup (pv 0) (po_some pe_int) po_none)) (blkOk_by (N := awN) (sc := awS) (by decide +kernel)) (fun _ _ _ _ _ => pg_name (i := 3) nd rfl (Or.inl rfl)) (fun _ _ _ _ _ => pts_nil) (fun _ _ _ _ _ => (pe_c ct hr (by decide) (pa_cons (pv 3) (pa_cons (pv 1) (pa_cons (pv 2) pa_nil)))))) pa_nil)))) pss_nil)
    (pss_cons (ps_if (PW.pt (pw_or (pt_cmpR op_ne (pe_ix ix_tup (pv 0) pe_int (fun _ _ => rfl)) pe_str (nomark _)) (pw_or (pt_not (pt_val (pe_c c_is_name hr (by decide) (pa_cons (pe_ix ix_tup (pv 0) pe_int (fun _ _ => rfl)) pa_nil)))) (pw_or1 (pt_not (pt_val (pe_c c_are_args hr (by decide) (pa_cons (pe_ix ix_tup (pv 0) pe_int (fun _ _ => rfl)) pa_nil)))))))) (pss_one (ps_ret pe_bl)) pss_nil)
    (pss_one (ps_ret (pe_b (cr_all rfl) T.all b_all (pa_cons (pe_lc (own := [("term", 3)]) (g := gName 3) (tt := tYes) rfl nd (pi_tup (pe_ix ix_tup (pv 0) pe_int (fun _ _ => rfl))) (blkOk_by (N := awN) (sc := awS) (by decide +kernel)) (fun _ _ _ _ _ => pg_name (i := 3) nd rfl (Or.inl rfl)) (fun _ _ _ _ _ => pts_nil) (fun _ _ _ _ _ => (pe_c ct hr (by decide) (pa_cons (pv 3) (pa_cons (pv 1) (pa_cons (pv 2) pa_nil)))))) pa_nil))))))), ?_⟩
  have hall : ∀ (ds : List Dt) (us : List V) (a : Addr) (tl : TE) (H1 : Hp), Ev tl (start awN [v, .int 200, .int 30]) H1 (.ref a) → SqT K H1 a us → DtsAt H1 ds us → us.length ≤ 1000 →
      EvL (tLc (iTup K tl) (gName 3) tYes (tCall spWithin [] E0 (tCons (tVar 3) (tCons (tVar 1) (tCons (tVar 2) tNil)))) [3]) (start awN [v, .int 200, .int 30]) H1 ((ds.map termD).map V.bl) := by
    intro ds us a tl H1 h1 h2 h3 hz
    refine el_lcT _ h1 h2 (by rw [List.length_map, List.length_map, h3.length]) (by rw [List.length_map, List.length_map, ← h3.length]; omega) (fun x => rfl) fun i x y H3 e3 hx hy => ?_
    obtain ⟨di, hdi, hdx⟩ := h3.get hx
    have e : y = .bl (termD di) := by
      rw [List.getElem?_map, List.getElem?_map, hdi] at hy
      exact (Option.some.inj hy).symm
    subst e
    exact ev_call (ea_cons (ev_var rfl) (ea_cons (ev_var rfl) (ea_cons (ev_var rfl) ea_nil))) (sv_within (hdx.ex e3))
  cases ht : isTup d with
  | false =>
    refine q_when (b := true) (et_or (a := true) (b := false) (et_not (a := false) (et_B (by have h := ev_isTup (K := K) (σ := start awN [v, .int 200, .int 30]) (ta := tVar 0) (tc := tC (.ty "tuple")) (ev_var rfl) ev_c hd; rw [ht] at h; exact h))) (fun z => by cases z)) (fun _ H1 e1 => ?_) (fun z => by cases z)
    refine rets (v := .bl false) ev_c e1 q ?_
    cases d with
    | tup x => cases ht
    | _ => rfl
  | true =>
    obtain ⟨ds, rfl⟩ := isTup_of ht
    refine q_when (b := !decide ((ds.length : Int) = 3) || !isStr (itm ds 0)) (et_or (a := false) (et_not (a := true) (et_B (ev_isTup (d := .tup ds) (ev_var rfl) ev_c hd))) fun _ => et_or (et_test (ev_op (ev_lenD (ev_var rfl) hd) ev_c (rv_neI))) fun hb => ?_) (fun hb H1 e1 => ?_) (fun hb H1 e1 => ?_)
    · have l3 : (ds.length : Int) = 3 := by simpa using hb
      obtain ⟨u0, h0, E0'⟩ := ev_itm (K := K) (σ := start awN [v, .int 200, .int 30]) (ta := tVar 0) (tb := tC (.int 0)) (i := 0) (ev_var rfl) ev_c hd (by omega)
      exact et_not (et_B (ev_isStr E0' ev_c h0))
    · refine rets (v := .bl false) ev_c e1 q ?_
      have hc' : (decide ((ds.length : Int) = 3) && isStr (itm ds 0)) = false := by rw [← Bool.not_and] at hb; simpa only [Bool.not_eq_true'] using hb
      unfold atomD
      show V.bl false = .bl (ite _ _ _)
      rw [if_neg (by rw [hc']; decide)]
    · have hc' : (decide ((ds.length : Int) = 3) && isStr (itm ds 0)) = true := by rw [← Bool.not_and] at hb; simpa only [Bool.not_eq_false'] using hb
      have hc2 := Bool.and_eq_true_iff.mp hc'
      have hs := hc2.2
      have l3 : (ds.length : Int) = 3 := by simpa using hc2.1
      have hd1 := hd.ex e1
      have hA : atomD (.tup ds) = (if sEq (itm ds 0) "same" = true then ((ds.drop 1).map termD).all id else
      (sEq (itm ds 0) "test" && nameD (itm ds 1) && argsD (itm ds 2)) && (match itm ds 2 with
        | .tup es => (es.map termD).all id
        | _ => false)) := by
        exact if_pos hc'
      obtain ⟨u0, h0, E0'⟩ := ev_itm (K := K) (σ := start awN [v, .int 200, .int 30]) (ta := tVar 0) (tb := tC (.int 0)) (i := 0) (ev_var rfl) ev_c hd1 (by omega)
      obtain ⟨u1, h1, E1'⟩ := ev_itm (K := K) (σ := start awN [v, .int 200, .int 30]) (ta := tVar 0) (tb := tC (.int 1)) (i := 1) (ev_var rfl) ev_c hd1 (by omega)
      obtain ⟨u2, h2, E2'⟩ := ev_itm (K := K) (σ := start awN [v, .int 200, .int 30]) (ta := tVar 0) (tb := tC (.int 2)) (i := 2) (ev_var rfl) ev_c hd1 (by omega)
      refine q_when (b := sEq (itm ds 0) "same") (et_test (ev_sEq E0' ev_c h0 hs)) (fun hv H3 e3 => ?_) (fun hv H3 e3 => ?_)
      · cases hd1 with
        | @tup a _ us g1 g2 =>
          have hl3 : us.length = 3 := by rw [g2.length]; omega
          match us, g2, g1, hl3 with
          | [y0, y1, y2], g2, g1, _ =>
            cases g2 with
            | @cons d0 _ ds1 _ q0 g3 =>
              have hL : EvL (tLc (iTup K (tSl (rSlT K) (tVar 0) (tPart (tC (.int 1))) tNoPart)) (gName 3) tYes (tCall spWithin [] E0 (tCons (tVar 3) (tCons (tVar 1) (tCons (tVar 2) tNil)))) [3]) (start awN [.ref a, .int 200, .int 30]) H3 ((ds1.map termD).map V.bl) := by
                refine el_lcNT _ (eu_sl3 (ev_var rfl) (st_of (e3 _ _ g1))) (by rw [List.length_map, List.length_map, g3.length]) (by rw [List.length_map, List.length_map, ← g3.length]; show 2 ≤ 40000; decide) (fun x => rfl) fun i x y H4 e4 hx hy => ?_
                obtain ⟨di, hdi, hdx⟩ := g3.get hx
                have e : y = .bl (termD di) := by
                  rw [List.getElem?_map, List.getElem?_map, hdi] at hy
                  exact (Option.some.inj hy).symm
                subst e
                exact ev_call (ea_cons (ev_var rfl) (ea_cons (ev_var rfl) (ea_cons (ev_var rfl) ea_nil))) (sv_within (hdx.ex (e3.trans e4)))
              refine rets (ev_all hL) (e1.trans e3) q ?_
              rw [hA, if_pos hv] <;> rfl
      · refine q_when (b := !sEq (itm ds 0) "test" || (!nameD (itm ds 1) || !argsD (itm ds 2))) (et_or (et_test (ev_sNe (E0'.mono e3) ev_c (h0.ex e3) hs)) fun _ => et_or (et_not (et_B (ev_call (ea_cons (E1'.mono e3) ea_nil) (sv_name (h1.ex e3))))) fun _ => et_not (et_B (ev_call (ea_cons (E2'.mono e3) ea_nil) (sv_args (h2.ex e3))))) (fun hc H4 e4 => ?_) (fun hc H4 e4 => ?_)
        · refine rets (v := .bl false) ev_c (e1.trans (e3.trans e4)) q ?_
          rw [hA, if_neg (by rw [hv]; decide)]
          cases e5 : sEq (itm ds 0) "test" <;> cases e6 : nameD (itm ds 1) <;> cases e7 : argsD (itm ds 2) <;> first | rfl | (rw [e5, e6, e7] at hc; cases hc)
        · have hc3 : sEq (itm ds 0) "test" = true ∧ nameD (itm ds 1) = true ∧ argsD (itm ds 2) = true := by simpa using hc
          obtain ⟨k1, k2, k3⟩ := hc3
          cases e : itm ds 2 with
          | tup es =>
            rw [e] at h2 k3
            cases h2 with
            | @tup a _ us g1 g2 =>
              have e34 := e3.trans e4
              have hel : (es.length : Int) ≤ 8 := by simpa [argsD] using k3
              refine rets (ev_all (hall es us a _ H4 (E2'.mono e34) (st_of (e34 _ _ g1)) (g2.ex e34) (by rw [g2.length]; omega))) (e1.trans e34) q ?_
              rw [hA, if_neg (by rw [hv]; decide), k1, k2, e, k3] <;> rfl
          | _ => rw [e] at k3; cases k3
theorem walk_term (T : Txt K mg) (c_is_term_within : Cal P w K mg base CX0 3 "is_term_within" spWithin) : Walks P w K mg base CX0 3 "is_term" (top 19) ["value"] spTerm := by
  intro f cdv A outer s H vs Q E hr hsp
  obtain ⟨d, v, rfl, hd, q⟩ := hsp
  refine ⟨_, (pss_one (ps_ret (pe_c c_is_term_within hr (by decide) (pa_cons (pv 0) (pa_cons (pe_gc T.maxSize) (pa_cons (pe_gc T.maxDepth) pa_nil)))))), ?_⟩
  exact rets (ev_call (ea_cons (ev_var rfl) (ea_cons ev_c (ea_cons ev_c ea_nil))) (sv_within hd)) (Ex.refl H) q rfl
theorem walk_atom (T : Txt K mg) (c_is_atom_within : Cal P w K mg base CX0 4 "is_atom_within" spAtomW) : Walks P w K mg base CX0 4 "is_atom" (top 20) ["value"] spAtom := by
  intro f cdv A outer s H vs Q E hr hsp
  obtain ⟨d, v, rfl, hd, q⟩ := hsp
  refine ⟨_, (pss_one (ps_ret (pe_c c_is_atom_within hr (by decide) (pa_cons (pv 0) (pa_cons (pe_gc T.maxSize) (pa_cons (pe_gc T.maxDepth) pa_nil)))))), ?_⟩
  exact rets (ev_call (ea_cons (ev_var rfl) (ea_cons ev_c (ea_cons ev_c ea_nil))) (sv_atomW hd)) (Ex.refl H) q rfl
end
end L2.K7

/-! N9: walks over locked dicts; comprehensions that make dicts; values by keys. -/
namespace L2.K7
open PySem PySem.Spec PyProof.Rows
open Evl

/-- an iterator over the keys zs of the object o at d -/
structure KIt (J : It) (d : Addr) (o : HO) (zs : List V) : Prop where
  go : ∀ i H, H d = some o → i < zs.length → J.go i H
  st : ∀ i H, H d = some o → zs.length ≤ i → J.stop i H
  yl : ∀ i H x H', H d = some o → J.yld i H x H' → H' = H ∧ zs[i]? = some x
theorem kit_k {d : Addr} {od : Obj} {kvs : List (Key × V)} : KIt (Itk d od kvs) d (.frz od (.dK kvs)) (kvs.map fun p => kV p.1) where
  go := fun i H h hi => ⟨h, by rw [List.length_map] at hi; exact hi⟩
  st := fun i H h hi => ⟨h, by rw [List.length_map] at hi; exact hi⟩
  yl := fun i H x H' h y => by
    obtain ⟨e, k, v, hk, rfl⟩ := y
    exact ⟨e, by rw [List.getElem?_map, hk] <;> rfl⟩
theorem kit_n {P : Program} {w : World} {d : Addr} {od : Obj} {xs : NL} : KIt (Itn P w d od xs) d (.frz od (ndO P w d xs)) (xs.map fun q => V.ref q.2.1) where
  go := fun i H h hi => ⟨h, by rw [List.length_map] at hi; exact hi⟩
  st := fun i H h hi => ⟨h, by rw [List.length_map] at hi; exact hi⟩
  yl := fun i H x H' h y => by
    obtain ⟨e, q, hk, rfl⟩ := y
    exact ⟨e, by rw [List.getElem?_map, hk] <;> rfl⟩
section
variable {J : It} {d : Addr} {o : HO} {zs : List V} {g : TG} {tt : TT} {te tk tv : TE} {vs : List Nat} {σ : St} {H1 : Hp} {D : Addr} {Qd : Hp → Prop} {P : Program} {w : World}
theorem lc_it (hJ : KIt J d o zs) (Pv : Nat → Hp → Prop) (h0 : Pv 0 (upd H1 D (.lst []))) (hl : ∀ i H, Pv i H → H d = some o)
    (hs : ∀ i x H, zs[i]? = some x → Pv i H → g x (wipe σ vs) H fun σ2 H2 => wipe σ2 vs = wipe σ vs ∧ tt σ2 H2 fun b H3 =>
      if b = true then te σ2 H3 fun y H4 => ∃ acc, H4 D = some (.lst acc) ∧ acc.length < sizeLine ∧ Pv (i + 1) (upd H4 D (.lst (acc ++ [y]))) else Pv (i + 1) H3) (hd : ∀ H, Pv zs.length H → Qd H) :
    ∃ W : Nat → Nat → Hp → Prop, (∃ m, W 0 m (upd H1 D (.lst []))) ∧ ∀ i m H, W i m H →
      (J.stop i H ∧ Qd H) ∨ (J.go i H ∧ ∃ Nx : Hp → Prop, (∀ H', Nx H' → ∃ m', m' < m ∧ W (i + 1) m' H') ∧ ∀ x H', J.yld i H x H' → g x (wipe σ vs) H' fun σ2 H2 => wipe σ2 vs = wipe σ vs ∧ tt σ2 H2 fun b H3 =>
        if b = true then te σ2 H3 fun y H4 => ∃ acc, H4 D = some (.lst acc) ∧ acc.length < sizeLine ∧ Nx (upd H4 D (.lst (acc ++ [y]))) else Nx H3) := by
  refine ⟨fun i m H => m = zs.length - i ∧ i ≤ zs.length ∧ Pv i H, ⟨zs.length, by simp, Nat.zero_le _, h0⟩, ?_⟩
  rintro i m H ⟨rfl, hi, p⟩
  have q := hl i H p
  by_cases hlt : i < zs.length
  · refine .inr ⟨hJ.go i H q hlt, Pv (i + 1), fun H' p' => ⟨zs.length - (i + 1), by omega, rfl, hlt, p'⟩, fun x H' y => ?_⟩
    obtain ⟨e, hy⟩ := hJ.yl i H x H' q y
    subst e
    exact hs i x _ hy p
  · have e : i = zs.length := by omega
    subst e
    exact .inl ⟨hJ.st _ H q (Nat.le_refl _), hd H p⟩
theorem dc_it (hJ : KIt J d o zs) (Pv : Nat → Hp → Prop) (h0 : Pv 0 (upd H1 D (.dK []))) (hl : ∀ i H, Pv i H → H d = some o)
    (hs : ∀ i x H, zs[i]? = some x → Pv i H → g x (wipe σ vs) H fun σ2 H2 => wipe σ2 vs = wipe σ vs ∧ tt σ2 H2 fun b H3 =>
      if b = true then tk σ2 H3 fun y H4 => tv σ2 H4 fun z H5 => ∃ kvs k, y = kV k ∧ H5 D = some (.dK kvs) ∧ kvs.length < sizeLine ∧ Pv (i + 1) (upd H5 D (.dK (putK kvs k z))) else Pv (i + 1) H3) (hd : ∀ H, Pv zs.length H → Qd H) :
    ∃ W : Nat → Nat → Hp → Prop, (∃ m, W 0 m (upd H1 D (.dK []))) ∧ ∀ i m H, W i m H →
      (J.stop i H ∧ Qd H) ∨ (J.go i H ∧ ∃ Nx : Hp → Prop, (∀ H', Nx H' → ∃ m', m' < m ∧ W (i + 1) m' H') ∧ ∀ x H', J.yld i H x H' → g x (wipe σ vs) H' fun σ2 H2 => wipe σ2 vs = wipe σ vs ∧ tt σ2 H2 fun b H3 =>
        if b = true then tk σ2 H3 fun y H4 => tv σ2 H4 fun z H5 => ∃ kvs k, y = kV k ∧ H5 D = some (.dK kvs) ∧ kvs.length < sizeLine ∧ Nx (upd H5 D (.dK (putK kvs k z))) else Nx H3) := by
  refine ⟨fun i m H => m = zs.length - i ∧ i ≤ zs.length ∧ Pv i H, ⟨zs.length, by simp, Nat.zero_le _, h0⟩, ?_⟩
  rintro i m H ⟨rfl, hi, p⟩
  have q := hl i H p
  by_cases hlt : i < zs.length
  · refine .inr ⟨hJ.go i H q hlt, Pv (i + 1), fun H' p' => ⟨zs.length - (i + 1), by omega, rfl, hlt, p'⟩, fun x H' y => ?_⟩
    obtain ⟨e, hy⟩ := hJ.yl i H x H' q y
    subst e
    exact hs i x _ hy p
  · have e : i = zs.length := by omega
    subst e
    exact .inl ⟨hJ.st _ H q (Nat.le_refl _), hd H p⟩
theorem ndc_it (hJ : KIt J d o zs) (Pv : Nat → Hp → Prop) (h0 : Pv 0 (upd H1 D (ndO P w D []))) (hl : ∀ i H, Pv i H → H d = some o)
    (hs : ∀ i x H, zs[i]? = some x → Pv i H → g x (wipe σ vs) H fun σ2 H2 => wipe σ2 vs = wipe σ vs ∧ tt σ2 H2 fun b H3 =>
      if b = true then tk σ2 H3 fun y H4 => tv σ2 H4 fun z H5 => ∃ xs k q, y = .ref q ∧ DKAt H5 q k ∧ H5 D = some (ndO P w D xs) ∧ KeysAt H5 xs ∧ xs.length < sizeLine ∧ Pv (i + 1) (upd H5 D (ndO P w D (putN xs k q z))) else Pv (i + 1) H3) (hd : ∀ H, Pv zs.length H → Qd H) :
    ∃ W : Nat → Nat → Hp → Prop, (∃ m, W 0 m (upd H1 D (ndO P w D []))) ∧ ∀ i m H, W i m H →
      (J.stop i H ∧ Qd H) ∨ (J.go i H ∧ ∃ Nx : Hp → Prop, (∀ H', Nx H' → ∃ m', m' < m ∧ W (i + 1) m' H') ∧ ∀ x H', J.yld i H x H' → g x (wipe σ vs) H' fun σ2 H2 => wipe σ2 vs = wipe σ vs ∧ tt σ2 H2 fun b H3 =>
        if b = true then tk σ2 H3 fun y H4 => tv σ2 H4 fun z H5 => ∃ xs k q, y = .ref q ∧ DKAt H5 q k ∧ H5 D = some (ndO P w D xs) ∧ KeysAt H5 xs ∧ xs.length < sizeLine ∧ Nx (upd H5 D (ndO P w D (putN xs k q z))) else Nx H3) := by
  refine ⟨fun i m H => m = zs.length - i ∧ i ≤ zs.length ∧ Pv i H, ⟨zs.length, by simp, Nat.zero_le _, h0⟩, ?_⟩
  rintro i m H ⟨rfl, hi, p⟩
  have q := hl i H p
  by_cases hlt : i < zs.length
  · refine .inr ⟨hJ.go i H q hlt, Pv (i + 1), fun H' p' => ⟨zs.length - (i + 1), by omega, rfl, hlt, p'⟩, fun x H' y => ?_⟩
    obtain ⟨e, hy⟩ := hJ.yl i H x H' q y
    subst e
    exact hs i x _ hy p
  · have e : i = zs.length := by omega
    subst e
    exact .inl ⟨hJ.st _ H q (Nat.le_refl _), hd H p⟩
end
/-! ### text keys, whole worths -/
def kvsOf (vs : List (Str × Int)) : List (Key × V) := vs.map fun p => (Sum.inr p.1, V.int p.2)
def look (vs : List (Str × Int)) (x : Str) : Option Int := (vs.find? fun p => decide (p.1 = x)).map (·.2)
theorem valV_kvs : ∀ (vs : List (Str × Int)) (x : Str), valV (kvsOf vs) (Sum.inr x : Key) = (look vs x).map V.int
  | [], x => rfl
  | p :: r, x => by
    by_cases h : p.1 = x
    · have e : (Sum.inr p.1 : Key) = Sum.inr x := by rw [h]
      rw [show kvsOf (p :: r) = (Sum.inr p.1, V.int p.2) :: kvsOf r from rfl, valV_pos e]
      simp [look, List.find?_cons, h]
    · have e : ¬ (Sum.inr p.1 : Key) = Sum.inr x := fun z => h (Sum.inr.inj z)
      rw [show kvsOf (p :: r) = (Sum.inr p.1, V.int p.2) :: kvsOf r from rfl, valV_neg e, valV_kvs r x]
      simp [look, List.find?_cons, h]
theorem look_none {vs : List (Str × Int)} {x : Str} (h : x ∉ vs.map (·.1)) : look vs x = none := by
  unfold look
  rw [List.find?_eq_none.mpr fun p hp => ?_] <;> try rfl
  intro z
  exact h (List.mem_map.mpr ⟨p, hp, by simpa using z⟩)
theorem look_at : ∀ {vs : List (Str × Int)} {i : Nat} {p : Str × Int}, (vs.map (·.1)).Nodup → vs[i]? = some p → look vs p.1 = some p.2
  | [], i, p, _, h => by simp at h
  | q :: r, 0, p, hn, h => by
    have e : q = p := by simpa using h
    subst e
    simp [look]
  | q :: r, i + 1, p, hn, h => by
    have h' : r[i]? = some p := by simpa using h
    rw [List.map_cons, List.nodup_cons] at hn
    have hm : p ∈ r := List.mem_of_getElem? h'
    have hne : ¬ q.1 = p.1 := fun z => hn.1 (List.mem_map.mpr ⟨p, hm, z.symm⟩)
    have ih := look_at hn.2 h'
    unfold look at ih ⊢
    rw [List.find?_cons, decide_eq_false hne]
    exact ih
theorem valN_at : ∀ {xs : NL} {i : Nat} {p : DK × Addr × V}, (xs.map (·.1)).Nodup → xs[i]? = some p → valN xs p.1 = some p.2.2
  | [], i, p, _, h => by simp at h
  | q :: r, 0, p, hn, h => by
    have e : q = p := by simpa using h
    subst e
    exact valN_pos rfl
  | q :: r, i + 1, p, hn, h => by
    have h' : r[i]? = some p := by simpa using h
    rw [List.map_cons, List.nodup_cons] at hn
    have hm : p ∈ r := List.mem_of_getElem? h'
    have hne : ¬ q.1 = p.1 := fun z => hn.1 (List.mem_map.mpr ⟨p, hm, z.symm⟩)
    rw [valN_neg hne]
    exact valN_at hn.2 h'
theorem putK_new {kvs : List (Key × V)} {k : Key} {v : V} (h : k ∉ kvs.map (·.1)) : putK kvs k v = kvs ++ [(k, v)] := by
  unfold putK
  rw [if_neg]
  intro z
  obtain ⟨p, hp, e⟩ := List.any_eq_true.mp z
  exact h (List.mem_map.mpr ⟨p, hp, by simpa using e⟩)
/-! ### new objects -/
def EvN (te : TE) (σ : L2.St) (H : Hp) (mk : Addr → HO) : Prop := ∀ H1, Ex H H1 → ∀ Q : VK, (∀ p H2, H1 p = none → Ex H1 H2 → H2 p = some (mk p) → Q (.ref p) H2) → te σ H1 Q
theorem EvN.mono {te : TE} {σ : L2.St} {H H' : Hp} {mk : Addr → HO} (e : Ex H H') (h : EvN te σ H mk) : EvN te σ H' mk := fun H1 a Q q => h H1 (e.trans a) Q q
theorem Ex.upd2 {H H1 : Hp} {d : Addr} {o : HO} (e : Ex H H1) : Ex (upd H d o) (upd H1 d o) := fun a u h => by
  by_cases z : a = d
  · subst z
    rw [upd_same] at h ⊢
    exact h
  · rw [upd_ne z] at h ⊢
    exact e a u h
theorem Ex.back {H1 H' : Hp} {d : Addr} {o u : HO} (hd : H1 d = some u) (e : Ex (upd H1 d o) H') : Ex H1 (upd H' d u) := fun a v h => by
  by_cases z : a = d
  · subst z
    rw [upd_same]
    rw [hd] at h
    exact h
  · rw [upd_ne z]
    exact e a v (by rw [upd_ne z]; exact h)
theorem fresh_lock {H1 : Hp} {d p : Addr} {o : HO} (h : upd H1 d o p = none) : p ≠ d ∧ H1 p = none := by
  have z : p ≠ d := by
    intro z
    subst z
    rw [upd_same] at h
    cases h
  rw [upd_ne z] at h
  exact ⟨z, h⟩
section
variable {σ : L2.St} {H : Hp} {wi : TI} {d : Addr} {u : HO} {zs : List V} {te tk tv : TE} {tt : TT} {j : Nat} {vs : List Nat} {P : Program} {w : World}
/-- [e for k in d] -/
theorem el_lock (ys : List V) (mu : Mut (some u)) (hd : H d = some u) (hwi : ∀ od H1 (R : It → Hp → Prop), Ex (upd H d (.frz od u)) H1 → H1 d = some (.frz od u) → (∀ J, KIt J d (.frz od u) zs → R J H1) → wi σ H1 R)
    (hl : ys.length = zs.length) (hz : ys.length ≤ 40000) (hw : ∀ x, wipe ((wipe σ vs).set j (some x)) vs = wipe σ vs)
    (he : ∀ (od : Obj) (i : Nat) (x y : V), zs[i]? = some x → ys[i]? = some y → Ev te ((wipe σ vs).set j (some x)) (upd H d (.frz od u)) y) : EvL (tLockE (tLc wi (gName j) tYes te vs)) σ H ys := fun H1 e Q q =>
  ⟨d, u, e d u hd, mu, fun od => hwi od _ _ (Ex.upd2 e) upd_same fun J hJ Dl hD => lc_it hJ (Cz (upd H1 d (.frz od u)) ys Dl) ⟨hD, Ex.new hD, upd_same⟩ (fun i H' p => p.2.1 d _ upd_same)
    (fun i x H' hi p => by
      have hlt : i < ys.length := by rw [hl]; exact (List.getElem?_eq_some_iff.mp hi).1
      exact ⟨hw x, cz_turn p hz (List.getElem?_eq_getElem hlt) ((he od i x _ hi (List.getElem?_eq_getElem hlt)).mono (Ex.upd2 e))⟩)
    (fun H' p => ⟨p.2.1 d _ upd_same, by
      obtain ⟨z1, z2⟩ := fresh_lock hD
      exact q Dl _ z2 (Ex.back (e d u hd) p.2.1) (by rw [upd_ne z1]; exact cz_end p hl)⟩)⟩
/-- {k: v for k in d if t}, text keys -/
theorem en_lockK {vars : List (Str × Int)} (f : Str × Int → Bool) (mu : Mut (some u)) (hd : H d = some u) (hwi : ∀ od H1 (R : It → Hp → Prop), Ex (upd H d (.frz od u)) H1 → H1 d = some (.frz od u) → (∀ J, KIt J d (.frz od u) (vars.map fun p => V.str p.1) → R J H1) → wi σ H1 R)
    (hn : (vars.map (·.1)).Nodup) (hz : vars.length ≤ 40000) (hw : ∀ x, wipe ((wipe σ vs).set j (some x)) vs = wipe σ vs)
    (ht : ∀ (od : Obj) (i : Nat) (p : Str × Int), vars[i]? = some p → EvT tt ((wipe σ vs).set j (some (.str p.1))) (upd H d (.frz od u)) (f p))
    (hk : ∀ (od : Obj) (i : Nat) (p : Str × Int), vars[i]? = some p → Ev tk ((wipe σ vs).set j (some (.str p.1))) (upd H d (.frz od u)) (.str p.1))
    (hv : ∀ (od : Obj) (i : Nat) (p : Str × Int), vars[i]? = some p → Ev tv ((wipe σ vs).set j (some (.str p.1))) (upd H d (.frz od u)) (.int p.2)) : EvN (tLockE (tDc wi (gName j) tt tk tv vs)) σ H (fun _ => .dK (kvsOf (vars.filter f))) := fun H1 e Q q =>
  ⟨d, u, e d u hd, mu, fun od => hwi od _ _ (Ex.upd2 e) upd_same fun J hJ Dl hD =>
    dc_it hJ (fun i H' => Ex (upd H1 d (.frz od u)) H' ∧ H' Dl = some (.dK (kvsOf ((vars.take i).filter f)))) ⟨Ex.new hD, upd_same⟩ (fun i H' p => p.1 d _ upd_same)
    (fun i x H' hi p => by
      obtain ⟨p1, p2⟩ := p
      rw [List.getElem?_map] at hi
      obtain ⟨pr, hpr, rfl⟩ := Option.map_eq_some_iff.mp hi
      refine ⟨hw _, (ht od i pr hpr) H' ((Ex.upd2 e).trans p1) _ fun H3 e3 => ?_⟩
      cases hf : f pr with
      | true =>
        show tk _ H3 _
        refine (hk od i pr hpr) H3 (((Ex.upd2 e).trans p1).trans e3) _ fun H4 e4 => (hv od i pr hpr) H4 ((((Ex.upd2 e).trans p1).trans e3).trans e4) _ fun H5 e5 => ?_
        have hlen : ((vars.take i).filter f).length ≤ 40000 := Nat.le_trans (List.length_filter_le _ _) (Nat.le_trans (List.length_take_le' _ _) hz)
        refine ⟨_, Sum.inr pr.1, rfl, e5 _ _ (e4 _ _ (e3 _ _ p2)), ?_, Ex.mut (((p1.trans e3).trans e4).trans e5) hD, ?_⟩
        · rw [kvsOf, List.length_map]
          exact Nat.lt_of_le_of_lt hlen (by decide)
        · rw [upd_same, putK_new, take_snoc hpr, List.filter_append, List.filter_cons, if_pos hf]
          · simp [kvsOf]
          · intro z
            have hlt := (List.getElem?_eq_some_iff.mp hpr).1
            rw [kvsOf, List.map_map] at z
            obtain ⟨r, hr, hre⟩ := List.mem_map.mp z
            have hre' : r.1 = pr.1 := Sum.inr.inj hre
            have hr2 := (List.mem_filter.mp hr).1
            have hnod : (((vars.take (i + 1)).map (·.1))).Nodup := by
              rw [List.map_take]
              exact hn.sublist (List.take_sublist _ _)
            rw [take_snoc hpr, List.map_append, List.nodup_append] at hnod
            exact hnod.2.2 _ (List.mem_map.mpr ⟨r, hr2, hre'⟩) _ (by simp) rfl
      | false =>
        show _ ∧ _
        refine ⟨p1.trans e3, ?_⟩
        rw [take_snoc hpr, List.filter_append, List.filter_cons, if_neg (by rw [hf]; decide)]
        simp only [List.filter_nil, List.append_nil]
        exact e3 _ _ p2)
    (fun H' p => ⟨p.1 d _ upd_same, by
      obtain ⟨z1, z2⟩ := fresh_lock hD
      refine q Dl _ z2 (Ex.back (e d u hd) p.1) ?_
      rw [upd_ne z1, p.2, List.length_map, List.take_length]⟩)⟩
/-- {k: v for k in d if t}, nested keys -/
theorem en_lockN {xs : NL} (f : DK × Addr × V → Bool) (mu : Mut (some u)) (hd : H d = some u) (hwi : ∀ od H1 (R : It → Hp → Prop), Ex (upd H d (.frz od u)) H1 → H1 d = some (.frz od u) → (∀ J, KIt J d (.frz od u) (xs.map fun q => V.ref q.2.1) → R J H1) → wi σ H1 R)
    (hK : ∀ vs, u ≠ .tup vs) (ks : KeysAt H xs) (hn : (xs.map (·.1)).Nodup) (hz : xs.length ≤ 40000) (hw : ∀ x, wipe ((wipe σ vs).set j (some x)) vs = wipe σ vs)
    (ht : ∀ (od : Obj) (i : Nat) (p : DK × Addr × V), xs[i]? = some p → EvT tt ((wipe σ vs).set j (some (.ref p.2.1))) (upd H d (.frz od u)) (f p))
    (hk : ∀ (od : Obj) (i : Nat) (p : DK × Addr × V), xs[i]? = some p → Ev tk ((wipe σ vs).set j (some (.ref p.2.1))) (upd H d (.frz od u)) (.ref p.2.1))
    (hv : ∀ (od : Obj) (i : Nat) (p : DK × Addr × V), xs[i]? = some p → Ev tv ((wipe σ vs).set j (some (.ref p.2.1))) (upd H d (.frz od u)) p.2.2) : EvN (tLockE (tNDc P w wi (gName j) tt tk tv vs)) σ H (fun p => ndO P w p (xs.filter f)) := fun H1 e Q q =>
  ⟨d, u, e d u hd, mu, fun od => hwi od _ _ (Ex.upd2 e) upd_same fun J hJ Dl hD => by
    have kl : KeysAt (upd H1 d (.frz od u)) xs := ks.keeps fun c ys h => by
      have hne : c ≠ d := by
        intro z
        subst z
        rw [hd] at h
        exact hK _ (Option.some.inj h)
      rw [upd_ne hne]
      exact e _ _ h
    have kk : ∀ H5, Ex (upd H1 d (.frz od u)) H5 → ∀ q ∈ xs, DKAt H5 q.2.1 q.1 := fun H5 e5 q hq => (kl q hq).keeps fun c ys h => e5 _ _ h
    refine ndc_it hJ (fun i H' => Ex (upd H1 d (.frz od u)) H' ∧ H' Dl = some (ndO P w Dl ((xs.take i).filter f))) ⟨Ex.new hD, upd_same⟩ (fun i H' p => p.1 d _ upd_same)
      (fun i x H' hi p => ?_) (fun H' p => ⟨p.1 d _ upd_same, ?_⟩)
    · obtain ⟨p1, p2⟩ := p
      rw [List.getElem?_map] at hi
      obtain ⟨pr, hpr, rfl⟩ := Option.map_eq_some_iff.mp hi
      refine ⟨hw _, (ht od i pr hpr) H' ((Ex.upd2 e).trans p1) _ fun H3 e3 => ?_⟩
      cases hf : f pr with
      | true =>
        show tk _ H3 _
        refine (hk od i pr hpr) H3 (((Ex.upd2 e).trans p1).trans e3) _ fun H4 e4 => (hv od i pr hpr) H4 ((((Ex.upd2 e).trans p1).trans e3).trans e4) _ fun H5 e5 => ?_
        have hlen : ((xs.take i).filter f).length ≤ 40000 := Nat.le_trans (List.length_filter_le _ _) (Nat.le_trans (List.length_take_le' _ _) hz)
        have e15 := ((p1.trans e3).trans e4).trans e5
        refine ⟨_, pr.1, pr.2.1, rfl, kk H5 e15 pr (List.mem_of_getElem? hpr), e5 _ _ (e4 _ _ (e3 _ _ p2)), fun r hr => kk H5 e15 r (List.mem_of_mem_take (List.mem_filter.mp hr).1), Nat.lt_of_le_of_lt hlen (by decide), Ex.mut e15 hD, ?_⟩
        rw [upd_same, putN_new, take_snoc hpr, List.filter_append, List.filter_cons, if_pos hf] <;> try rfl
        refine valN_none fun z => ?_
        obtain ⟨r, hr, hre⟩ := List.mem_map.mp z
        have hr2 := (List.mem_filter.mp hr).1
        have hnod : (((xs.take (i + 1)).map (·.1))).Nodup := by
          rw [List.map_take]
          exact hn.sublist (List.take_sublist _ _)
        rw [take_snoc hpr, List.map_append, List.nodup_append] at hnod
        exact hnod.2.2 _ (List.mem_map.mpr ⟨r, hr2, hre⟩) _ (by simp) rfl
      | false =>
        show _ ∧ _
        refine ⟨p1.trans e3, ?_⟩
        rw [take_snoc hpr, List.filter_append, List.filter_cons, if_neg (by rw [hf]; decide)]
        simp only [List.filter_nil, List.append_nil]
        exact e3 _ _ p2
    · obtain ⟨z1, z2⟩ := fresh_lock hD
      refine q Dl _ z2 (Ex.back (e d u hd) p.1) ?_
      rw [upd_ne z1, p.2, List.length_map, List.take_length]⟩
end
end L2.K7

/-! N10: are_variables .. without_zeros, on what is well formed. -/
namespace L2.K7
open PySem PySem.Spec PyProof.Rows
open Evl

/-! ### what is well formed -/
structure VOk (vars : List (Str × Int)) : Prop where
  nd : (vars.map (·.1)).Nodup
  nm : ∀ p ∈ vars, nameB p.1 = true
  sz : vars.length ≤ 60
structure XOk (φ : DK → V → Prop) (xs : NL) : Prop where
  nd : (xs.map (·.1)).Nodup
  ok : ∀ q ∈ xs, φ q.1 q.2.2
  sz : xs.length ≤ 60
def phE (k : DK) (v : V) : Prop := ∃ x i z, k = .ent x i ∧ nameB x = true ∧ v = .int z
def phO (k : DK) (v : V) : Prop := ∃ f is z, k = .ask f is ∧ nameB f = true ∧ is.length ≤ 8 ∧ v = .int z
def phT (k : DK) (v : V) : Prop := ∃ f is z, k = .ask f is ∧ nameB f = true ∧ is.length ≤ 8 ∧ v = .bl z
def tru : V → Bool
  | .int i => i != 0
  | .bl b => b
  | _ => false
theorem VOk.filter {vars : List (Str × Int)} (h : VOk vars) (f : Str × Int → Bool) : VOk (vars.filter f) where
  nd := h.nd.sublist (List.filter_sublist.map _)
  nm := fun p hp => h.nm p (List.mem_filter.mp hp).1
  sz := Nat.le_trans (List.length_filter_le _ _) h.sz
theorem XOk.filter {φ : DK → V → Prop} {xs : NL} (h : XOk φ xs) (f : DK × Addr × V → Bool) : XOk φ (xs.filter f) where
  nd := h.nd.sublist (List.filter_sublist.map _)
  ok := fun p hp => h.ok p (List.mem_filter.mp hp).1
  sz := Nat.le_trans (List.length_filter_le _ _) h.sz
theorem VOk.nil : VOk [] := ⟨List.nodup_nil, fun _ h => (List.not_mem_nil h).elim, Nat.zero_le _⟩
theorem XOk.nil {φ : DK → V → Prop} : XOk φ [] := ⟨List.nodup_nil, fun _ h => (List.not_mem_nil h).elim, Nat.zero_le _⟩
theorem name_len {x : Str} (h : nameB x = true) : x.length ≤ 1000 := by
  unfold nameB lenB at h
  simp only [Bool.and_eq_true, decide_eq_true_eq] at h
  omega
theorem ints_at {H : Hp} : ∀ is : List Int, DtsAt H (is.map Dt.int) (is.map V.int)
  | [] => .nil
  | i :: is => .cons (.int i) (ints_at is)
theorem ent_at {H : Hp} {b : Addr} {x : Str} {i : Int} (h : DKAt H b (.ent x i)) (hx : nameB x = true) : DtAt H (.tup [.str x, .int i]) (.ref b) := .tup h (.cons (.str x (name_len hx)) (.cons (.int i) .nil))
theorem ask_at {H : Hp} {b : Addr} {x : Str} {is : List Int} (h : DKAt H b (.ask x is)) (hx : nameB x = true) : DtAt H (.tup [.str x, .tup (is.map Dt.int)]) (.ref b) := by
  obtain ⟨c, h1, h2⟩ := h
  exact .tup h1 (.cons (.str x (name_len hx)) (.cons (.tup h2 (ints_at is)) .nil))
theorem u1 {k : Nat} {A : Around} (hr : Room k A) : A.units + 1 < cLine := by
  have := hr.units
  omega
theorem DKAt.ex {H H' : Hp} {b : Addr} {k : DK} (h : DKAt H b k) (e : Ex H H') : DKAt H' b k := h.keeps fun c ys q => e _ _ q
theorem KeysAt.ex {H H' : Hp} {xs : NL} (h : KeysAt H xs) (e : Ex H H') : KeysAt H' xs := h.keeps fun c ys q => e _ _ q
theorem NDr.ex {P : Program} {w : World} {H H' : Hp} {d : Addr} {xs : NL} (h : NDr P w H d xs) (e : Ex H H') : NDr P w H' d xs := ⟨ex_rd e h.rd, h.ks.ex e⟩
theorem DKAt.lock {H : Hp} {b d : Addr} {k : DK} {u o : HO} (h : DKAt H b k) (hd : H d = some u) (hK : ∀ vs, u ≠ .tup vs) : DKAt (upd H d o) b k := h.keeps fun c ys q => by
  have hne : c ≠ d := by
    intro z
    subst z
    rw [hd] at q
    exact hK _ (Option.some.inj q)
  rw [upd_ne hne]
  exact q
theorem ndO_nt {P : Program} {w : World} {d : Addr} {xs : NL} : ∀ vs, ndO P w d xs ≠ .tup vs := fun vs z => ndO_tup z.symm
section
variable {K : PySem.W.Frag} {P : Program} {w : World} {σ : L2.St} {H : Hp} {ta tb td ty te : TE} {v : V}
theorem ev_dget {d : Addr} {kvs : List (Key × V)} {k : Key} (hd : Ev td σ H (.ref d)) (hy : Ev ty σ H (kV k)) (h : Rd H d (.dK kvs)) (hv : valV kvs k = some v) : Ev (tDGet td ty) σ H v := fun H1 e Q q =>
  hd H1 e _ fun H2 e2 => hy H2 (e.trans e2) _ fun H3 e3 => ⟨d, v, rfl, .inl ⟨kvs, k, ex_rd ((e.trans e2).trans e3) h, rfl, hv.symm⟩, q H3 (e2.trans e3)⟩
theorem ev_nget {d b : Addr} {xs : NL} {k : DK} (hd : Ev td σ H (.ref d)) (hy : Ev ty σ H (.ref b)) (h : NDr P w H d xs) (hb : DKAt H b k) (hv : valN xs k = some v) : Ev (tNGet P w td ty) σ H v := fun H1 e Q q =>
  hd H1 e _ fun H2 e2 => hy H2 (e.trans e2) _ fun H3 e3 => ⟨d, xs, b, k, v, rfl, rfl, h.ex ((e.trans e2).trans e3), hb.ex ((e.trans e2).trans e3), hv, q H3 (e2.trans e3)⟩
theorem et_tru {b : Bool} (h : Ev ta σ H v) (ht : ∀ H', TruV K v H' b) : EvT (fun σ H Q => ta σ H fun x H' => ∃ k, TruV K x H' k ∧ Q k H') σ H b := fun H1 e Q q => h H1 e _ fun H2 e2 => ⟨b, ht H2, q H2 e2⟩
theorem ev_isiN {d : Addr} {xs : NL} (ha : Ev ta σ H (.ref d)) (hc : Ev tb σ H (.ty "dict")) (h : Rd H d (ndO P w d xs)) : Ev (tCB (rIsiN P w K) (tCons ta (tCons tb tNil))) σ H (.bl true) := fun H1 e Q q =>
  ha H1 e _ fun H2 e2 => hc H2 (e.trans e2) _ fun H3 e3 => ⟨d, _, xs, _, true, rfl, .ty _, ex_rd ((e.trans e2).trans e3) h, kit_ty (by decide +kernel), q H3 (e2.trans e3)⟩
theorem all_true (n : Nat) : ((List.replicate n true).map V.bl).length = n := by simp
theorem rep_at {n i : Nat} {y : V} (h : ((List.replicate n true).map V.bl)[i]? = some y) : y = .bl true := by
  rw [List.getElem?_map, List.getElem?_replicate] at h
  by_cases hi : i < n
  · rw [if_pos hi] at h
    exact (Option.some.inj h).symm
  · rw [if_neg hi] at h
    cases h
theorem rep_all (n : Nat) : (List.replicate n true).all id = true := by
  rw [List.all_eq_true]
  intro x hx
  exact (List.mem_replicate.mp hx).2
end
/-! ### promises -/
def spVars : Sp := fun vs H Q _ => ∃ d vars, vs = [.ref d] ∧ H d = some (.dK (kvsOf vars)) ∧ VOk vars ∧ RetV (.bl true) H Q
def spDict (P : Program) (w : World) (φ : DK → V → Prop) : Sp := fun vs H Q _ => ∃ d xs, vs = [.ref d] ∧ H d = some (ndO P w d xs) ∧ KeysAt H xs ∧ XOk φ xs ∧ RetV (.bl true) H Q
def spEntry : Sp := fun vs H Q _ => ∃ b x i, vs = [.ref b] ∧ DKAt H b (.ent x i) ∧ nameB x = true ∧ RetV (.bl true) H Q
def spAsked : Sp := fun vs H Q _ => ∃ b f is, vs = [.ref b] ∧ DKAt H b (.ask f is) ∧ nameB f = true ∧ is.length ≤ 8 ∧ RetV (.bl true) H Q
def spZerosK : Sp := fun vs H Q _ => ∃ d vars, vs = [.ref d] ∧ H d = some (.dK (kvsOf vars)) ∧ VOk vars ∧ ∀ p H2, H p = none → Ex H H2 → H2 p = some (.dK (kvsOf (vars.filter fun p => p.2 != 0))) → Q (.ref p) H2
def spZerosN (P : Program) (w : World) (φ : DK → V → Prop) : Sp := fun vs H Q _ => ∃ d xs, vs = [.ref d] ∧ H d = some (ndO P w d xs) ∧ KeysAt H xs ∧ XOk φ xs ∧ ∀ p H2, H p = none → Ex H H2 → H2 p = some (ndO P w p (xs.filter fun q => tru q.2.2)) → Q (.ref p) H2
section
variable {P : Program} {w : World} {K : PySem.W.Frag} {mg : Str → Option Value} {base : Heap}
abbrev vaN : List Str := ["value", "name"]
abbrev vaS : Scope := defScope (top 22)
theorem walk_vars (T : Txt K mg) (c_is_name : Cal P w K mg base CX0 1 "is_name" spName) (c_is_integer : Cal P w K mg base CX0 1 "is_integer" spInteger) : Walks P w K mg base CX0 1 "are_variables" (top 22) vaN spVars := by
  intro f cdv A outer s H vs Q E hr hsp
  obtain ⟨d, vars, rfl, hd, ok, q⟩ := hsp
  have nd : vaN.Nodup := by decide +kernel
  refine ⟨_, (pss_cons (ps_if (pt_not (pt_val (pe_b call_isi T.isinstance b_isi (pa_cons (pv 0) (pa_cons (pe_ty T.dict b_dict) pa_nil))))) (pss_one (ps_ret pe_bl)) pss_nil)
    (pss_one (ps_ret (pe_b (cr_all rfl) T.all b_all (pa_cons (pe_lock (pe_lc (own := [("name", 1)]) (g := gName 1) (tt := tYes) rfl nd (pi_keys (pv 0)) (blkOk_by (N := vaN) (sc := vaS) (by decide +kernel)) (fun _ _ _ _ _ => pg_name (i := 1) nd rfl (Or.inl rfl)) (fun _ _ _ _ _ => pts_nil) (fun _ _ _ _ _ => (pe_and (pe_c c_is_name hr (by decide) (pa_cons (pv 1) pa_nil)) (pe_one (pe_c c_is_integer hr (by decide) (pa_cons (pe_dget (u1 hr) (pv 0) (pv 1) (fun _ _ => rfl)) pa_nil))))))) pa_nil))))), ?_⟩
  refine q_when (b := false) (et_not (a := true) (et_B (ev_isi (ev_var rfl) ev_c (.ty _) (.dK hd) (kit_ty (by decide +kernel))))) (fun z => by cases z) (fun _ H1 e1 => ?_)
  refine rets (ev_all (bs := List.replicate vars.length true) ?_) e1 q (by rw [rep_all])
  have hd1 := e1 _ _ hd
  refine el_lock (d := d) (u := .dK (kvsOf vars)) (zs := vars.map fun p => V.str p.1) _ True.intro hd1 (fun od H2 R _ h2 k => ⟨_, rfl, d, od, rfl, .inl ⟨kvsOf vars, h2, k _ ?_⟩⟩) (by rw [all_true, List.length_map]) (by rw [all_true]; have := ok.sz; omega) (fun x => rfl) (fun od i x y hx hy => ?_)
  · have h := kit_k (d := d) (od := od) (kvs := kvsOf vars)
    rw [kvsOf, List.map_map] at h
    exact h
  · rw [List.getElem?_map] at hx
    obtain ⟨p, hp, rfl⟩ := Option.map_eq_some_iff.mp hx
    rw [rep_at hy]
    have hm := List.mem_of_getElem? hp
    refine ev_andV (a := true) (b := true) (ev_is (ev_call (ea_cons (ev_var rfl) ea_nil) (sv_name (.str p.1 (name_len (ok.nm p hm))))) (by show V.bl (nameB p.1) = _; rw [ok.nm p hm])) fun _ => ev_call (z := .bl true) (ea_cons (ev_dget (k := Sum.inr p.1) (ev_var rfl) (ev_var rfl) (.inr ⟨od, upd_same⟩) (by rw [valV_kvs, look_at ok.nd hp]; rfl)) ea_nil) fun H1 e Q q E => ⟨p.2, rfl, q⟩
theorem walk_entry (T : Txt K mg) (c_is_name : Cal P w K mg base CX0 1 "is_name" spName) (c_is_integer : Cal P w K mg base CX0 1 "is_integer" spInteger) : Walks P w K mg base CX0 1 "is_entry" (top 23) ["value"] spEntry := by
  intro f cdv A outer s H vs Q E hr hsp
  obtain ⟨b, x, i, rfl, hb, hx, q⟩ := hsp
  refine ⟨_, (pss_one (ps_ret (pe_and (pe_b call_isi T.isinstance b_isi (pa_cons (pv 0) (pa_cons (pe_ty T.tuple b_tuple) pa_nil))) (pe_and (pe_cmpR op_eq (pe_b call_len_seq T.len b_len (pa_cons (pv 0) pa_nil)) pe_int (nomark _)) (pe_and (pe_c c_is_name hr (by decide) (pa_cons (pe_ix ix_tup (pv 0) pe_int (fun _ _ => rfl)) pa_nil)) (pe_one (pe_c c_is_integer hr (by decide) (pa_cons (pe_ix ix_tup (pv 0) pe_int (fun _ _ => rfl)) pa_nil)))))))), ?_⟩
  have hd := ent_at hb hx
  obtain ⟨u0, h0, E0'⟩ := ev_itm (K := K) (σ := start ["value"] [.ref b]) (ta := tVar 0) (tb := tC (.int 0)) (i := 0) (ev_var rfl) ev_c hd (by show 0 < 2; decide)
  obtain ⟨u1, h1, E1'⟩ := ev_itm (K := K) (σ := start ["value"] [.ref b]) (ta := tVar 0) (tb := tC (.int 1)) (i := 1) (ev_var rfl) ev_c hd (by show 1 < 2; decide)
  refine rets (v := .bl true) (ev_is (ev_andV (a := true) (b := true) (ev_isTup (ev_var rfl) ev_c hd) fun _ => ev_andV (a := true) (b := true) (ev_is (ev_op (ev_lenD (ev_var rfl) hd) ev_c rv_eqI) (by rfl)) fun _ => ev_andV (a := true) (b := true) (ev_is (ev_call (ea_cons E0' ea_nil) (sv_name h0)) (by show V.bl (nameB x) = _; rw [hx])) fun _ => ev_call (z := .bl true) (ea_cons E1' ea_nil) fun H1 e Q q E => ?_) rfl) (Ex.refl H) q rfl
  cases h1
  exact ⟨i, rfl, q⟩
abbrev iaN : List Str := ["value", "worth_in"]
abbrev iaS : Scope := defScope (top 25)
theorem walk_asked (T : Txt K mg) (c_is_name : Cal P w K mg base CX0 1 "is_name" spName) (c_is_integer : Cal P w K mg base CX0 1 "is_integer" spInteger) : Walks P w K mg base CX0 1 "is_asked" (top 25) iaN spAsked := by
  intro f cdv A outer s H vs Q E hr hsp
  obtain ⟨b, g, is, rfl, hb, hx, hl, q⟩ := hsp
  have nd : iaN.Nodup := by decide +kernel
  refine ⟨_, (pss_cons (ps_if (PW.pt (pw_or (pt_not (pt_val (pe_b call_isi T.isinstance b_isi (pa_cons (pv 0) (pa_cons (pe_ty T.tuple b_tuple) pa_nil))))) (pw_or (pt_cmpR op_ne (pe_b call_len_seq T.len b_len (pa_cons (pv 0) pa_nil)) pe_int (nomark _)) (pw_or1 (pt_not (pt_val (pe_c c_is_name hr (by decide) (pa_cons (pe_ix ix_tup (pv 0) pe_int (fun _ _ => rfl)) pa_nil)))))))) (pss_one (ps_ret pe_bl)) pss_nil)
    (pss_one (ps_ret (pe_and (pe_b call_isi T.isinstance b_isi (pa_cons (pe_ix ix_tup (pv 0) pe_int (fun _ _ => rfl)) (pa_cons (pe_ty T.tuple b_tuple) pa_nil))) (pe_one (pe_b (cr_all rfl) T.all b_all (pa_cons (pe_lc (own := [("worth_in", 1)]) (g := gName 1) (tt := tYes) rfl nd (pi_tup (pe_ix ix_tup (pv 0) pe_int (fun _ _ => rfl))) (blkOk_by (N := iaN) (sc := iaS) (by decide +kernel)) (fun _ _ _ _ _ => pg_name (i := 1) nd rfl (Or.inl rfl)) (fun _ _ _ _ _ => pts_nil) (fun _ _ _ _ _ => (pe_c c_is_integer hr (by decide) (pa_cons (pv 1) pa_nil)))) pa_nil))))))), ?_⟩
  have hd := ask_at hb hx
  obtain ⟨u0, h0, E0'⟩ := ev_itm (K := K) (σ := start iaN [.ref b]) (ta := tVar 0) (tb := tC (.int 0)) (i := 0) (ev_var rfl) ev_c hd (by show 0 < 2; decide)
  obtain ⟨u1, h1, E1'⟩ := ev_itm (K := K) (σ := start iaN [.ref b]) (ta := tVar 0) (tb := tC (.int 1)) (i := 1) (ev_var rfl) ev_c hd (by show 1 < 2; decide)
  refine q_when (b := false) (et_or (a := false) (b := false) (et_not (a := true) (et_B (ev_isTup (ev_var rfl) ev_c hd))) fun _ => et_or (a := false) (b := false) (et_test (ev_is (ev_op (ev_lenD (ev_var rfl) hd) ev_c rv_neI) rfl)) fun _ => et_not (a := true) (et_B (ev_is (ev_call (ea_cons E0' ea_nil) (sv_name h0)) (by show V.bl (nameB g) = _; rw [hx])))) (fun z => by cases z) (fun _ H1 e1 => ?_)
  have hu1 := h1
  cases hu1 with
  | @tup a _ us k1 k2 =>
    refine rets (v := .bl true) (ev_is (ev_andV (a := true) (b := (List.replicate is.length true).all id) (ev_isTup (E1'.mono e1) ev_c (h1.ex e1)) fun _ => ev_all (el_lcT _ (E1'.mono e1) (st_of (e1 _ _ k1)) ?_ ?_ (fun x => rfl) fun i x y H2 e2 hx hy => ?_)) (by rw [rep_all] <;> rfl)) e1 q rfl
    · rw [all_true, k2.length, List.length_map]
    · rw [all_true]; omega
    · obtain ⟨dd, hdd, hda⟩ := k2.get hx
      rw [List.getElem?_map] at hdd
      obtain ⟨z, hz, rfl⟩ := Option.map_eq_some_iff.mp hdd
      cases hda
      rw [rep_at hy]
      exact ev_call (z := .bl true) (ea_cons (ev_var rfl) ea_nil) fun H1 e Q q E => ⟨z, rfl, q⟩
end
end L2.K7

/-! N11: are_entries, are_operations, are_tests, without_zeros. -/
namespace L2.K7
open PySem PySem.Spec PyProof.Rows
open Evl
theorem call_isiC {X : Cx} {K : PySem.W.Frag} (hK : X.K = K) : CallR X (.builtin "isinstance") (rIsi K) := by
  subst hK
  exact call_isi
theorem ix_tupC {X : Cx} {K : PySem.W.Frag} (hK : X.K = K) : IxR X (rIxT K) := by
  subst hK
  exact ix_tup
theorem ix_listC {X : Cx} {K : PySem.W.Frag} (hK : X.K = K) : IxR X (rIxL K) := by
  subst hK
  exact ix_list
theorem pt_truthC {X : Cx} {K : PySem.W.Frag} {a : Expr} {ta : TE} (hK : X.K = K) (ha : PE X a ta) (he : ∀ whole, isTrue a X.env whole = (do let v ← whole; standAt a.pos; holding [v] (truthy v))) :
    PT X a (fun σ H Q => ta σ H fun x H' => ∃ k, TruV K x H' k ∧ Q k H') := by
  subst hK
  exact pt_truth ha he
theorem pe_ngetP {X : Cx} {P : Program} {w : World} {o i : Expr} {pos : Pos} {td ty : TE} (hP : X.prog = P) (hw : X.w = w) (hu : X.A.units + 64 < cLine) (ho : PE X o td) (hi : PE X i ty) (hs : NoSl i) : PE X (.Subscript o i pos) (tNGet P w td ty) := by
  subst hP hw
  exact pe_nget hu ho hi hs
section
variable {P : Program} {w : World} {K : PySem.W.Frag} {mg : Str → Option Value} {base : Heap}
theorem sv_entry {H : Hp} {b : Addr} {x : Str} {i : Int} (h : DKAt H b (.ent x i)) (hx : nameB x = true) : SpV spEntry [.ref b] H (.bl true) := fun H1 e Q q E => ⟨b, x, i, rfl, h.ex e, hx, q⟩
theorem sv_asked {H : Hp} {b : Addr} {x : Str} {is : List Int} (h : DKAt H b (.ask x is)) (hx : nameB x = true) (hl : is.length ≤ 8) : SpV spAsked [.ref b] H (.bl true) := fun H1 e Q q E => ⟨b, x, is, rfl, h.ex e, hx, hl, q⟩
theorem sv_integer {H : Hp} {i : Int} : SpV spInteger [.int i] H (.bl true) := fun H1 e Q q E => ⟨i, rfl, q⟩
abbrev aeN : List Str := ["value", "pair"]
abbrev aeS : Scope := defScope (top 24)
abbrev aoS : Scope := defScope (top 26)
abbrev atS : Scope := defScope (top 27)
abbrev aoN : List Str := ["value", "pair"]
abbrev atN : List Str := ["value", "pair"]
/-- the walk over such a dict, each key well -/
theorem all_keys {d : Addr} {xs : NL} {σ : St} {H : Hp} {te : TE} {j : Nat} {vs : List Nat} {td : TE} (hd : H d = some (ndO P w d xs)) (htd : ∀ od H1, H1 d = some (.frz od (ndO P w d xs)) → ∀ Q : VK, Q (.ref d) H1 → td σ H1 Q) (hz : xs.length ≤ 60) (hw : ∀ x, wipe ((wipe σ vs).set j (some x)) vs = wipe σ vs)
    (he : ∀ (od : Obj) (i : Nat) (p : DK × Addr × V), xs[i]? = some p → Ev te ((wipe σ vs).set j (some (.ref p.2.1))) (upd H d (.frz od (ndO P w d xs))) (.bl true)) :
    Ev (tCB (rAll K) (tCons (tLockE (tLc (iNKeys P w td) (gName j) tYes te vs)) tNil)) σ H (.bl true) := by
  refine ev_is (ev_all (bs := List.replicate xs.length true) ?_) (by rw [rep_all])
  refine el_lock (d := d) (u := ndO P w d xs) (zs := xs.map fun q => V.ref q.2.1) _ True.intro hd (fun od H2 R _ h2 k => htd od H2 h2 _ ⟨d, od, xs, rfl, h2, k _ kit_n⟩) (by rw [all_true, List.length_map]) (by rw [all_true]; omega) hw (fun od i x y hx hy => ?_)
  rw [List.getElem?_map] at hx
  obtain ⟨p, hp, rfl⟩ := Option.map_eq_some_iff.mp hx
  rw [rep_at hy]
  exact he od i p hp
theorem walk_entries (T : Txt K mg) (c_is_entry : Cal P w K mg base CX0 2 "is_entry" spEntry) (c_is_integer : Cal P w K mg base CX0 1 "is_integer" spInteger) : Walks P w K mg base CX0 2 "are_entries" (top 24) aeN (spDict P w phE) := by
  intro f cdv A outer s H vs Q E hr hsp
  obtain ⟨d, xs, rfl, hd, ks, ok, q⟩ := hsp
  have nd : aeN.Nodup := by decide +kernel
  refine ⟨_, (pss_cons (ps_if (pt_not (pt_val (pe_b call_isiN T.isinstance b_isi (pa_cons (pv 0) (pa_cons (pe_ty T.dict b_dict) pa_nil))))) (pss_one (ps_ret pe_bl)) pss_nil)
    (pss_one (ps_ret (pe_b (cr_all rfl) T.all b_all (pa_cons (pe_lock (pe_lc (own := [("pair", 1)]) (g := gName 1) (tt := tYes) rfl nd (pi_nkeys (pv 0)) (blkOk_by (N := aeN) (sc := aeS) (by decide +kernel)) (fun _ _ _ _ _ => pg_name (i := 1) nd rfl (Or.inl rfl)) (fun _ _ _ _ _ => pts_nil) (fun _ _ _ _ _ => (pe_and (pe_c c_is_entry hr (by decide) (pa_cons (pv 1) pa_nil)) (pe_one (pe_c c_is_integer hr (by decide) (pa_cons (pe_ngetP (P := P) (w := w) rfl rfl hr.units (pv 0) (pv 1) (fun _ _ => rfl)) pa_nil))))))) pa_nil))))), ?_⟩
  refine q_when (b := false) (et_not (a := true) (et_B (ev_isiN (ev_var rfl) ev_c (.inl hd)))) (fun z => by cases z) (fun _ H1 e1 => ?_)
  refine rets (all_keys (e1 _ _ hd) (fun od H1 _ Q q => ⟨_, rfl, q⟩) ok.sz (fun x => rfl) fun od i p hp => ?_) e1 q rfl
  have hm := List.mem_of_getElem? hp
  obtain ⟨x, z, y, hk, hx, hv⟩ := ok.ok p hm
  have kb := ((ks.ex e1) p hm)
  rw [hk] at kb
  have kl := kb.lock (o := .frz od (ndO P w d xs)) (e1 _ _ hd) ndO_nt
  refine ev_andV (a := true) (b := true) (ev_call (ea_cons (ev_var rfl) ea_nil) (sv_entry kl hx)) fun _ => ev_call (ea_cons (ev_nget (k := .ent x z) (v := .int y) (ev_var rfl) (ev_var rfl) ⟨.inr ⟨od, upd_same⟩, fun r hr => ((ks.ex e1) r hr).lock (e1 _ _ hd) ndO_nt⟩ kl (by rw [← hk, valN_at ok.nd hp, hv])) ea_nil) sv_integer
theorem walk_operations (T : Txt K mg) (c_is_asked : Cal P w K mg base CX0 2 "is_asked" spAsked) (c_is_integer : Cal P w K mg base CX0 1 "is_integer" spInteger) : Walks P w K mg base CX0 2 "are_operations" (top 26) aoN (spDict P w phO) := by
  intro f cdv A outer s H vs Q E hr hsp
  obtain ⟨d, xs, rfl, hd, ks, ok, q⟩ := hsp
  have nd : aoN.Nodup := by decide +kernel
  refine ⟨_, (pss_cons (ps_if (pt_not (pt_val (pe_b call_isiN T.isinstance b_isi (pa_cons (pv 0) (pa_cons (pe_ty T.dict b_dict) pa_nil))))) (pss_one (ps_ret pe_bl)) pss_nil)
    (pss_one (ps_ret (pe_b (cr_all rfl) T.all b_all (pa_cons (pe_lock (pe_lc (own := [("pair", 1)]) (g := gName 1) (tt := tYes) rfl nd (pi_nkeys (pv 0)) (blkOk_by (N := aoN) (sc := aoS) (by decide +kernel)) (fun _ _ _ _ _ => pg_name (i := 1) nd rfl (Or.inl rfl)) (fun _ _ _ _ _ => pts_nil) (fun _ _ _ _ _ => (pe_and (pe_c c_is_asked hr (by decide) (pa_cons (pv 1) pa_nil)) (pe_one (pe_c c_is_integer hr (by decide) (pa_cons (pe_ngetP (P := P) (w := w) rfl rfl hr.units (pv 0) (pv 1) (fun _ _ => rfl)) pa_nil))))))) pa_nil))))), ?_⟩
  refine q_when (b := false) (et_not (a := true) (et_B (ev_isiN (ev_var rfl) ev_c (.inl hd)))) (fun z => by cases z) (fun _ H1 e1 => ?_)
  refine rets (all_keys (e1 _ _ hd) (fun od H1 _ Q q => ⟨_, rfl, q⟩) ok.sz (fun x => rfl) fun od i p hp => ?_) e1 q rfl
  have hm := List.mem_of_getElem? hp
  obtain ⟨x, z, y, hk, hx, hl, hv⟩ := ok.ok p hm
  have kb := ((ks.ex e1) p hm)
  rw [hk] at kb
  have kl := kb.lock (o := .frz od (ndO P w d xs)) (e1 _ _ hd) ndO_nt
  refine ev_andV (a := true) (b := true) (ev_call (ea_cons (ev_var rfl) ea_nil) (sv_asked kl hx hl)) fun _ => ev_call (ea_cons (ev_nget (k := .ask x z) (v := .int y) (ev_var rfl) (ev_var rfl) ⟨.inr ⟨od, upd_same⟩, fun r hr => ((ks.ex e1) r hr).lock (e1 _ _ hd) ndO_nt⟩ kl (by rw [← hk, valN_at ok.nd hp, hv])) ea_nil) sv_integer
theorem walk_tests (T : Txt K mg) (c_is_asked : Cal P w K mg base CX0 2 "is_asked" spAsked) : Walks P w K mg base CX0 2 "are_tests" (top 27) atN (spDict P w phT) := by
  intro f cdv A outer s H vs Q E hr hsp
  obtain ⟨d, xs, rfl, hd, ks, ok, q⟩ := hsp
  have nd : atN.Nodup := by decide +kernel
  refine ⟨_, (pss_cons (ps_if (pt_not (pt_val (pe_b call_isiN T.isinstance b_isi (pa_cons (pv 0) (pa_cons (pe_ty T.dict b_dict) pa_nil))))) (pss_one (ps_ret pe_bl)) pss_nil)
    (pss_one (ps_ret (pe_b (cr_all rfl) T.all b_all (pa_cons (pe_lock (pe_lc (own := [("pair", 1)]) (g := gName 1) (tt := tYes) rfl nd (pi_nkeys (pv 0)) (blkOk_by (N := atN) (sc := atS) (by decide +kernel)) (fun _ _ _ _ _ => pg_name (i := 1) nd rfl (Or.inl rfl)) (fun _ _ _ _ _ => pts_nil) (fun _ _ _ _ _ => (pe_and (pe_c c_is_asked hr (by decide) (pa_cons (pv 1) pa_nil)) (pe_one (pe_b (call_isiC (K := K) rfl) T.isinstance b_isi (pa_cons (pe_ngetP (P := P) (w := w) rfl rfl hr.units (pv 0) (pv 1) (fun _ _ => rfl)) (pa_cons (pe_ty T.bool b_bool) pa_nil)))))))) pa_nil))))), ?_⟩
  refine q_when (b := false) (et_not (a := true) (et_B (ev_isiN (ev_var rfl) ev_c (.inl hd)))) (fun z => by cases z) (fun _ H1 e1 => ?_)
  refine rets (all_keys (e1 _ _ hd) (fun od H1 _ Q q => ⟨_, rfl, q⟩) ok.sz (fun x => rfl) fun od i p hp => ?_) e1 q rfl
  have hm := List.mem_of_getElem? hp
  obtain ⟨x, z, y, hk, hx, hl, hv⟩ := ok.ok p hm
  have kb := ((ks.ex e1) p hm)
  rw [hk] at kb
  have kl := kb.lock (o := .frz od (ndO P w d xs)) (e1 _ _ hd) ndO_nt
  refine ev_andV (a := true) (b := true) (ev_call (ea_cons (ev_var rfl) ea_nil) (sv_asked kl hx hl)) fun _ => ev_isi (ev_nget (k := .ask x z) (v := .bl y) (ev_var rfl) (ev_var rfl) ⟨.inr ⟨od, upd_same⟩, fun r hr => ((ks.ex e1) r hr).lock (e1 _ _ hd) ndO_nt⟩ kl (by rw [← hk, valN_at ok.nd hp, hv])) ev_c (.ty _) (.bl y) (kit_ty (by decide +kernel))
abbrev wzN : List Str := ["table", "key"]
abbrev wzS : Scope := defScope (top 28)
theorem walk_zerosK (T : Txt K mg) : Walks P w K mg base CX0 0 "without_zeros" (top 28) wzN spZerosK := by
  intro f cdv A outer s H vs Q E hr hsp
  obtain ⟨d, vars, rfl, hd, ok, q⟩ := hsp
  have nd : wzN.Nodup := by decide +kernel
  refine ⟨_, (pss_one (ps_ret (pe_lock (pe_dc (own := [("key", 1)]) (g := gName 1) (tt := _) rfl nd (pi_keys (pv 0)) (blkOk_by (N := wzN) (sc := wzS) (by decide +kernel)) (fun _ _ _ _ _ => pg_name (i := 1) nd rfl (Or.inl rfl)) (fun _ _ _ _ _ => pts_one (pt_truthC (K := K) rfl (pe_dget (u1 hr) (pv 0) (pv 1) (fun _ _ => rfl)) (by intro _; rfl))) (fun _ _ _ _ _ => (pv 1)) (fun _ _ _ _ _ => (pe_dget (u1 hr) (pv 0) (pv 1) (fun _ _ => rfl))))))), ?_⟩
  have hget : ∀ (od : Obj) (i : Nat) (p : Str × Int), vars[i]? = some p → Ev (tDGet (tVar 0) (tVar 1)) ((wipe (start wzN [.ref d]) [1]).set 1 (some (.str p.1))) (upd H d (.frz od (.dK (kvsOf vars)))) (.int p.2) := fun od i p hp =>
    ev_dget (k := Sum.inr p.1) (ev_var rfl) (ev_var rfl) (.inr ⟨od, upd_same⟩) (by rw [valV_kvs, look_at ok.nd hp]; rfl)
  refine en_lockK (d := d) (u := .dK (kvsOf vars)) (vars := vars) (fun p => p.2 != 0) True.intro hd (fun od H2 R _ h2 k => ⟨_, rfl, d, od, rfl, .inl ⟨kvsOf vars, h2, k _ ?_⟩⟩) ok.nd (by have := ok.sz; omega) (fun x => rfl) (fun od i p hp => et_tru (hget od i p hp) (fun H' => rfl)) (fun od i p hp => ev_var rfl) hget H (Ex.refl H) Q q
  have h := kit_k (d := d) (od := od) (kvs := kvsOf vars)
  rw [kvsOf, List.map_map] at h
  exact h
theorem walk_zerosN {φ : DK → V → Prop} (hφ : ∀ k v, φ k v → (∃ i, v = .int i) ∨ ∃ b, v = .bl b) (T : Txt K mg) : Walks P w K mg base CX0 0 "without_zeros" (top 28) wzN (spZerosN P w φ) := by
  intro f cdv A outer s H vs Q E hr hsp
  obtain ⟨d, xs, rfl, hd, ks, ok, q⟩ := hsp
  have nd : wzN.Nodup := by decide +kernel
  refine ⟨_, (pss_one (ps_ret (pe_lock (pe_ndc (own := [("key", 1)]) (g := gName 1) (tt := _) rfl nd hr.units (pi_nkeys (pv 0)) (blkOk_by (N := wzN) (sc := wzS) (by decide +kernel)) (fun _ _ _ _ _ => pg_name (i := 1) nd rfl (Or.inl rfl)) (fun _ _ _ _ _ => pts_one (pt_truthC (K := K) rfl (pe_ngetP (P := P) (w := w) rfl rfl hr.units (pv 0) (pv 1) (fun _ _ => rfl)) (by intro _; rfl))) (fun _ _ _ _ _ => (pv 1)) (fun _ _ _ _ _ => (pe_ngetP (P := P) (w := w) rfl rfl hr.units (pv 0) (pv 1) (fun _ _ => rfl))))))), ?_⟩
  have hget : ∀ (od : Obj) (i : Nat) (p : DK × Addr × V), xs[i]? = some p → Ev (tNGet P w (tVar 0) (tVar 1)) ((wipe (start wzN [.ref d]) [1]).set 1 (some (.ref p.2.1))) (upd H d (.frz od (ndO P w d xs))) p.2.2 := fun od i p hp =>
    ev_nget (k := p.1) (ev_var rfl) (ev_var rfl) ⟨.inr ⟨od, upd_same⟩, fun r hr => (ks r hr).lock hd ndO_nt⟩ ((ks p (List.mem_of_getElem? hp)).lock hd ndO_nt) (valN_at ok.nd hp)
  refine en_lockN (d := d) (u := ndO P w d xs) (xs := xs) (fun q => tru q.2.2) True.intro hd (fun od H2 R _ h2 k => ⟨_, rfl, d, od, xs, rfl, h2, k _ kit_n⟩) ndO_nt ks ok.nd (by have := ok.sz; omega) (fun x => rfl) (fun od i p hp => et_tru (hget od i p hp) (fun H' => ?_)) (fun od i p hp => ev_var rfl) hget H (Ex.refl H) Q q
  rcases hφ _ _ (ok.ok p (List.mem_of_getElem? hp)) with ⟨z, hz⟩ | ⟨z, hz⟩ <;> rw [hz] <;> rfl
end
end L2.K7

/-! N12: Start, Meaning. -/
namespace L2.K7
open PySem PySem.Spec PyProof.Rows
open Evl

/-- all but a stays -/
def ExP (a : Addr) (H H' : Hp) : Prop := ∀ b o, b ≠ a → H b = some o → H' b = some o
theorem _root_.Evl.Ex.p {a : Addr} {H H' : Hp} (e : Ex H H') : ExP a H H' := fun b o _ h => e b o h
theorem ExP.trans {a : Addr} {H H1 H2 : Hp} (x : ExP a H H1) (y : ExP a H1 H2) : ExP a H H2 := fun b o n h => y b o n (x b o n h)
theorem ExP.at {a : Addr} {H H1 : Hp} {u : HO} (x : ExP a H H1) : ExP a H (upd H1 a u) := fun b o n h => by
  rw [upd_ne n]
  exact x b o n h
theorem ExP.tt {a : Addr} {H H' : Hp} (x : ExP a H H') (h : ∀ vs, H a ≠ some (.tup vs)) : ExT H H' := fun b vs q => x b _ (by intro z; subst z; exact h _ q) q

abbrev cS (j : Nat) : Stmt := inClass (top 29) j
abbrev cM (j : Nat) : Stmt := inClass (top 30) j
abbrev sF (d1 d2 : Addr) : List (Str × V) := [("own_named", .ref d1), ("own_placed", .ref d2)]
abbrev mF (d1 d2 : Addr) : List (Str × V) := [("own_worths", .ref d1), ("own_truth", .ref d2)]
/-- a start, a meaning -/
structure StAt (P : Program) (w : World) (S : Addr) (H : Hp) (a : Addr) (vars : List (Str × Int)) (xs : NL) : Prop where
  ex : ∃ dx d1 d2, H a = some (.ins S dx (sF d1 d2)) ∧ H d1 = some (.dK (kvsOf vars)) ∧ H d2 = some (ndO P w d2 xs)
  ks : KeysAt H xs
  vo : VOk vars
  xo : XOk phE xs
structure MeAt (P : Program) (w : World) (M : Addr) (H : Hp) (a : Addr) (ws ts : NL) : Prop where
  ex : ∃ dx d1 d2, H a = some (.ins M dx (mF d1 d2)) ∧ H d1 = some (ndO P w d1 ws) ∧ H d2 = some (ndO P w d2 ts)
  kw : KeysAt H ws
  kt : KeysAt H ts
  wo : XOk phO ws
  to_ : XOk phT ts
theorem StAt.mono {P : Program} {w : World} {S : Addr} {H H' : Hp} {a : Addr} {vars : List (Str × Int)} {xs : NL} (h : StAt P w S H a vars xs) (e : Ex H H') : StAt P w S H' a vars xs := by
  obtain ⟨⟨dx, d1, d2, h1, h2, h3⟩, k, v, x⟩ := h
  exact ⟨⟨dx, d1, d2, e _ _ h1, e _ _ h2, e _ _ h3⟩, k.ex e, v, x⟩
theorem MeAt.mono {P : Program} {w : World} {M : Addr} {H H' : Hp} {a : Addr} {ws ts : NL} (h : MeAt P w M H a ws ts) (e : Ex H H') : MeAt P w M H' a ws ts := by
  obtain ⟨⟨dx, d1, d2, h1, h2, h3⟩, k, k2, v, x⟩ := h
  exact ⟨⟨dx, d1, d2, e _ _ h1, e _ _ h2, e _ _ h3⟩, k.ex e, k2.ex e, v, x⟩
/-- facts of the two classes -/
structure Cts (K : PySem.W.Frag) (mg : Str → Option Value) (S M : Addr) : Prop where
  clS : Cls K S
  clM : Cls K M
  n1 : NoAttr K S "own_named"
  n2 : NoAttr K S "own_placed"
  n3 : NoAttr K M "own_worths"
  n4 : NoAttr K M "own_truth"
  gS : mg "Start" = some (.ref S)
  gM : mg "Meaning" = some (.ref M)
  kS : PySem.W.keepIn K (.ref S) = true
  kM : PySem.W.keepIn K (.ref M) = true
  aS : PySem.W.findIn K (.ref S) "__class__" = some (some (.builtin "object.__class__"))
  aM : PySem.W.findIn K (.ref M) "__class__" = some (some (.builtin "object.__class__"))
  sp : PySem.W.specialIn K (.builtin "object.__class__") "__get__" = some (some (.builtin "getset_descriptor.__get__"))
  tk : PySem.W.takesIn K (.builtin "object.__class__") = some true
  mS : PySem.W.mroIn K S (.type "object") = some true
  mM : PySem.W.mroIn K M (.type "object") = some true
  ss : PySem.W.kitOne K (.ref S) (.ref S) = some true
  mm : PySem.W.kitOne K (.ref M) (.ref M) = some true
  ms : PySem.W.kitOne K (.ref M) (.ref S) = some false
  sm : PySem.W.kitOne K (.ref S) (.ref M) = some false
  nS : PySem.W.kitOne K (.type "NoneType") (.ref S) = some false
  iS : PySem.W.kitOne K (.type "int") (.ref S) = some false
  dS : PySem.W.kitOne K (.type "dict") (.ref S) = some false
  nM : PySem.W.kitOne K (.type "NoneType") (.ref M) = some false
  iM : PySem.W.kitOne K (.type "int") (.ref M) = some false
  dM : PySem.W.kitOne K (.type "dict") (.ref M) = some false

section
variable {K : PySem.W.Frag} {P : Program} {w : World} {σ : L2.St} {H : Hp} {D : Ends} {ta tb td te tv : TE} {v : V} {C a dx : Addr} {fs : List (Str × V)} {f : Str}
theorem ev_fld (ha : Ev ta σ H (.ref a)) (h : H a = some (.ins C dx fs)) (c : Cls K C) (n : NoAttr K C f) (l : fs.lookup f = some v) : Ev (tFld K ta f) σ H v := fun H1 e Q q =>
  ha H1 e _ fun H2 e2 => ⟨a, C, dx, fs, v, rfl, e2 _ _ (e _ _ h), c, n, l, q H2 e2⟩
theorem en_newK : EvN tDNewK σ H (fun _ => .dK []) := fun H1 e Q q p hp => q p _ hp (Ex.new hp) upd_same
theorem en_newN : EvN (tNNew P w) σ H (fun p => ndO P w p []) := fun H1 e Q q p hp => q p _ hp (Ex.new hp) upd_same
theorem en_if {t : TT} {b : Bool} {mk : Addr → HO} (h : EvT t σ H b) (h1 : b = true → EvN ta σ H mk) (h2 : b = false → EvN tb σ H mk) : EvN (tIf t ta tb) σ H mk := fun H1 e Q q => h H1 e _ fun H2 e2 => by
  cases b with
  | true =>
    show ta σ H2 Q
    exact h1 rfl H2 (e.trans e2) Q fun p H3 hp e3 h3 => q p H3 (fresh_back e2 hp) (e2.trans e3) h3
  | false =>
    show tb σ H2 Q
    exact h2 rfl H2 (e.trans e2) Q fun p H3 hp e3 h3 => q p H3 (fresh_back e2 hp) (e2.trans e3) h3
theorem s_fldN {mk : Addr → HO} (hv : EvN tv σ H mk) (ha : ∀ H1, Ex H H1 → Ev ta σ H1 (.ref a)) (h : H a = some (.ins C dx fs)) (c : Cls K C) (n : NoAttr K C f) (hl : fs.length < 1000)
    (k : ∀ p H1, H p = none → Ex H H1 → H1 p = some (mk p) → D.nx σ (upd H1 a (.ins C dx (putF f (.ref p) fs)))) : sFld K ta tv f D σ H :=
  hv H (Ex.refl H) _ fun p H1 hp e1 h1 => ha H1 e1 H1 (Ex.refl H1) _ fun H2 e2 => ⟨a, C, dx, fs, rfl, e2 _ _ (e1 _ _ h), c, n, hl, k p H2 hp (e1.trans e2) (e2 _ _ h1)⟩
theorem q_fldN {tz : TS} {mk : Addr → HO} (hv : EvN tv σ H mk) (ha : ∀ H1, Ex H H1 → Ev ta σ H1 (.ref a)) (h : H a = some (.ins C dx fs)) (c : Cls K C) (n : NoAttr K C f) (hl : fs.length < 1000)
    (k : ∀ p H1, H p = none → Ex H H1 → H1 p = some (mk p) → tz D σ (upd H1 a (.ins C dx (putF f (.ref p) fs)))) : tSeq (sFld K ta tv f) tz D σ H := s_fldN (D := { D with nx := tz D }) hv ha h c n hl k
theorem s_retN {mk : Addr → HO} (h : EvN te σ H mk) (k : ∀ p H1, H p = none → Ex H H1 → H1 p = some (mk p) → D.rt (.ref p) H1) : tRet te D σ H := h H (Ex.refl H) _ fun p H1 hp e h1 => k p H1 hp e h1
theorem en_call {sp : Sp} {dvs vs : List V} {E : XK} {ta : TA} {mk : Addr → HO} (h : EvA ta σ H vs) (hs : ∀ H1, Ex H H1 → ∀ Q : VK, (∀ p H2, H1 p = none → Ex H1 H2 → H2 p = some (mk p) → Q (.ref p) H2) → sp (vs ++ dvs) H1 Q E) : EvN (tCall sp dvs E ta) σ H mk := fun H1 e Q q =>
  h H1 e _ fun H2 e2 => hs H2 (e.trans e2) Q fun p H3 hp e3 h3 => q p H3 (fresh_back e2 hp) (e2.trans e3) h3
end
/-! ### what is handed to __init__ -/
def VArg (H : Hp) (v : V) (vars : List (Str × Int)) : Prop := (v = .non ∧ vars = []) ∨ ∃ d, v = .ref d ∧ H d = some (.dK (kvsOf vars))
def XArg (P : Program) (w : World) (H : Hp) (v : V) (xs : NL) : Prop := (v = .non ∧ xs = []) ∨ ∃ d, v = .ref d ∧ H d = some (ndO P w d xs) ∧ KeysAt H xs
theorem VArg.keep {a : Addr} {H H' : Hp} {v : V} {vars : List (Str × Int)} (h : VArg H v vars) (e : ExP a H H') (ha : ∃ C dx fs, H a = some (.ins C dx fs)) : VArg H' v vars := by
  rcases h with h | ⟨d, h1, h2⟩
  · exact .inl h
  · obtain ⟨C, dx, fs, ha⟩ := ha
    exact .inr ⟨d, h1, e d _ (by intro z; subst z; rw [ha] at h2; cases h2) h2⟩
theorem XArg.keep {P : Program} {w : World} {a : Addr} {H H' : Hp} {v : V} {xs : NL} (h : XArg P w H v xs) (e : ExP a H H') (ha : ∃ C dx fs, H a = some (.ins C dx fs)) : XArg P w H' v xs := by
  obtain ⟨C, dx, fs, ha⟩ := ha
  rcases h with h | ⟨d, h1, h2, h3⟩
  · exact .inl h
  · refine .inr ⟨d, h1, e d _ ?_ h2, h3.keeps fun c ys q => e c _ ?_ q⟩
    · intro z
      subst z
      rw [ha] at h2
      have z' : HO.ins C dx fs = HO.ext _ := Option.some.inj h2
      cases z'
    · intro z
      subst z
      rw [ha] at q
      cases q
abbrev nz : Str × Int → Bool := fun p => p.2 != 0
abbrev nt : DK × Addr × V → Bool := fun q => tru q.2.2
def spInitS (P : Program) (w : World) (S : Addr) : Sp := fun vs H Q _ => ∃ a dx v1 v2 vars xs, vs = [.ref a, v1, v2] ∧ H a = some (.ins S dx []) ∧ VArg H v1 vars ∧ XArg P w H v2 xs ∧ VOk vars ∧ XOk phE xs ∧
  ∀ d1 d2 H2, ExP a H H2 → H2 a = some (.ins S dx (sF d1 d2)) → H2 d1 = some (.dK (kvsOf (vars.filter nz))) → H2 d2 = some (ndO P w d2 (xs.filter nt)) → Q .non H2
def spInitM (P : Program) (w : World) (M : Addr) : Sp := fun vs H Q _ => ∃ a dx v1 v2 ws ts, vs = [.ref a, v1, v2] ∧ H a = some (.ins M dx []) ∧ XArg P w H v1 ws ∧ XArg P w H v2 ts ∧ XOk phO ws ∧ XOk phT ts ∧
  ∀ d1 d2 H2, ExP a H H2 → H2 a = some (.ins M dx (mF d1 d2)) → H2 d1 = some (ndO P w d1 (ws.filter nt)) → H2 d2 = some (ndO P w d2 (ts.filter nt)) → Q .non H2
def spVariables (P : Program) (w : World) (S : Addr) : Sp := fun vs H Q _ => ∃ a vars xs, vs = [.ref a] ∧ StAt P w S H a vars xs ∧ ∀ p H2, H p = none → Ex H H2 → H2 p = some (.dK (kvsOf vars)) → Q (.ref p) H2
def spEntries (P : Program) (w : World) (S : Addr) : Sp := fun vs H Q _ => ∃ a vars xs, vs = [.ref a] ∧ StAt P w S H a vars xs ∧ ∀ p H2, H p = none → Ex H H2 → H2 p = some (ndO P w p xs) → Q (.ref p) H2
def spOperations (P : Program) (w : World) (M : Addr) : Sp := fun vs H Q _ => ∃ a ws ts, vs = [.ref a] ∧ MeAt P w M H a ws ts ∧ ∀ p H2, H p = none → Ex H H2 → H2 p = some (ndO P w p ws) → Q (.ref p) H2
def spTests (P : Program) (w : World) (M : Addr) : Sp := fun vs H Q _ => ∃ a ws ts, vs = [.ref a] ∧ MeAt P w M H a ws ts ∧ ∀ p H2, H p = none → Ex H H2 → H2 p = some (ndO P w p ts) → Q (.ref p) H2
def gI : Option V → Int
  | some (.int i) => i
  | _ => 0
def gB : Option V → Bool
  | some (.bl b) => b
  | _ => false
def varW (vars : List (Str × Int)) (x : Str) : Int := (look vars x).getD 0
def entW (xs : NL) (x : Str) (i : Int) : Int := gI (valN xs (.ent x i))
def opW (ws : NL) (f : Str) (is : List Int) : Int := gI (valN ws (.ask f is))
def teW (ts : NL) (f : Str) (is : List Int) : Bool := gB (valN ts (.ask f is))
def spVariable (P : Program) (w : World) (S : Addr) : Sp := fun vs H Q _ => ∃ a vars xs x, vs = [.ref a, .str x] ∧ StAt P w S H a vars xs ∧ RetV (.int (varW vars x)) H Q
def spEntryOf (P : Program) (w : World) (S : Addr) : Sp := fun vs H Q _ => ∃ a vars xs x i, vs = [.ref a, .str x, .int i] ∧ StAt P w S H a vars xs ∧ RetV (.int (entW xs x i)) H Q
def spOf (P : Program) (w : World) (M : Addr) : Sp := fun vs H Q _ => ∃ a ws ts f c is, vs = [.ref a, .str f, .ref c] ∧ MeAt P w M H a ws ts ∧ H c = some (.tup (is.map V.int)) ∧ RetV (.int (opW ws f is)) H Q
def spHolds (P : Program) (w : World) (M : Addr) : Sp := fun vs H Q _ => ∃ a ws ts f c is, vs = [.ref a, .str f, .ref c] ∧ MeAt P w M H a ws ts ∧ H c = some (.tup (is.map V.int)) ∧ RetV (.bl (teW ts f is)) H Q
section
variable {P : Program} {w : World} {K : PySem.W.Frag} {mg : Str → Option Value} {base : Heap} {S M : Addr}
theorem ph_E : ∀ k v, phE k v → (∃ i, v = .int i) ∨ ∃ b, v = .bl b := fun k v h => let ⟨_, _, z, _, _, h⟩ := h; .inl ⟨z, h⟩
theorem ph_O : ∀ k v, phO k v → (∃ i, v = .int i) ∨ ∃ b, v = .bl b := fun k v h => let ⟨_, _, z, _, _, _, h⟩ := h; .inl ⟨z, h⟩
theorem ph_T : ∀ k v, phT k v → (∃ i, v = .int i) ∨ ∃ b, v = .bl b := fun k v h => let ⟨_, _, z, _, _, _, h⟩ := h; .inr ⟨z, h⟩
theorem et_notN {σ : St} {H : Hp} {ta : TE} {v : V} (h : Ev ta σ H v) : EvT (tTest (tOp (fun x y H Q => y = .non ∧ Q (.bl (!decide (x = .non))) H) ta (tC .non))) σ H (!decide (v = .non)) :=
  et_test (ev_op h ev_c fun H1 _ Q q => ⟨rfl, q H1 (Ex.refl H1)⟩)
theorem et_isN {σ : St} {H : Hp} {ta : TE} {v : V} (h : Ev ta σ H v) : EvT (tTest (tOp (fun x y H Q => y = .non ∧ Q (.bl (decide (x = .non))) H) ta (tC .non))) σ H (decide (v = .non)) :=
  et_test (ev_op h ev_c fun H1 _ Q q => ⟨rfl, q H1 (Ex.refl H1)⟩)
theorem lk2 {k g : Str} {v x : V} {r : List (Str × V)} (h : (k == g) = false) : List.lookup k ((g, x) :: (k, v) :: r) = some v := by
  have e : (k == k) = true := beq_self_eq_true k
  simp only [List.lookup, h, e]
abbrev siN : List Str := ["self", "variables", "entries"]
theorem walk_initS (T : Txt K mg) (C : Cts K mg S M) (c_are_variables : Cal P w K mg base CX0 2 "are_variables" spVars) (c_are_entries : Cal P w K mg base CX0 3 "are_entries" (spDict P w phE))
    (c_zK : Cal P w K mg base CX0 1 "without_zeros" spZerosK) (c_zN : Cal P w K mg base CX0 1 "without_zeros" (spZerosN P w phE)) : Walks P w K mg base CX0 3 "Start.__init__" (cS 0) siN (spInitS P w S) := by
  intro f cdv A outer s H vs Q E hr hsp
  obtain ⟨a, dx, v1, v2, vars, xs, rfl, ha, hv, hx, vo, xo, q⟩ := hsp
  have nd : siN.Nodup := by decide +kernel
  refine ⟨_, (pss_cons (ps_if (PW.pt (pw_and (pt_cmpR op_notN (pv 1) pe_non (nomark _)) (pw_and1 (pt_not (pt_val (pe_c c_are_variables hr (by decide) (pa_cons (pv 1) pa_nil))))))) (pss_one ps_never) pss_nil)
    (pss_cons (ps_if (PW.pt (pw_and (pt_cmpR op_notN (pv 2) pe_non (nomark _)) (pw_and1 (pt_not (pt_val (pe_c c_are_entries hr (by decide) (pa_cons (pv 2) pa_nil))))))) (pss_one ps_never) pss_nil)
    (pss_cons (ps_fld (pv 0) (pe_ifExp (pt_cmpR op_isN (pv 1) pe_non (nomark _)) pe_dnewK (pe_c c_zK hr (by decide) (pa_cons (pv 1) pa_nil))) rfl)
    (pss_one (ps_fld (pv 0) (pe_ifExp (pt_cmpR op_isN (pv 2) pe_non (nomark _)) pe_dnewN (pe_c c_zN hr (by decide) (pa_cons (pv 2) pa_nil))) rfl))))), ?_⟩
  refine q_when (b := false) (et_is (et_and (b := false) (et_notN (ev_var rfl)) fun hb => et_not (a := true) (et_B (ev_call (ea_cons (ev_var rfl) ea_nil) fun H1 e Q q E => ?_))) (Bool.and_false _)) (fun z => by cases z) (fun _ H1 e1 => ?_)
  · rcases hv with ⟨rfl, _⟩ | ⟨d, rfl, hd⟩
    · exact absurd hb (by decide)
    · exact ⟨d, vars, rfl, e _ _ hd, vo, q⟩
  have hv1 := hv.keep e1.p ⟨S, dx, _, ha⟩
  have hx1 := hx.keep e1.p ⟨S, dx, _, ha⟩
  refine q_when (b := false) (et_is (et_and (b := false) (et_notN (ev_var rfl)) fun hb => et_not (a := true) (et_B (ev_call (ea_cons (ev_var rfl) ea_nil) fun H1 e Q q E => ?_))) (Bool.and_false _)) (fun z => by cases z) (fun _ H2 e2 => ?_)
  · rcases hx1 with ⟨rfl, _⟩ | ⟨d, rfl, hd, hk⟩
    · exact absurd hb (by decide)
    · exact ⟨d, xs, rfl, e _ _ hd, hk.ex e, xo, q⟩
  have e12 := e1.trans e2
  refine q_fldN (a := a) (C := S) (dx := dx) (fs := []) (mk := fun _ => .dK (kvsOf (vars.filter nz))) ?_ (fun _ _ => ev_var rfl) (e12 _ _ ha) C.clS C.n1 (by decide) fun d1 H3 hd1 e3 hd => ?_
  · rcases hv with ⟨rfl, rfl⟩ | ⟨d, rfl, hd⟩
    · exact en_if (b := true) (et_is (et_isN (ev_var rfl)) (by rfl)) (fun _ => en_newK) (fun z => by cases z)
    · exact en_if (b := false) (et_is (et_isN (ev_var rfl)) (by rfl)) (fun z => by cases z) (fun _ => en_call (ea_cons (ev_var rfl) ea_nil) fun H4 e4 Q q => ⟨d, vars, rfl, e4 _ _ (e12 _ _ hd), vo, q⟩)
  have e13 := e12.trans e3
  have x3 : ExP a H (upd H3 a (.ins S dx (putF "own_named" (.ref d1) []))) := (e13.p).at
  have ned : d1 ≠ a := by
    intro z
    subst z
    rw [e12 _ _ ha] at hd1
    cases hd1
  have hx3 := hx.keep x3 ⟨S, dx, _, ha⟩
  refine s_fldN (a := a) (C := S) (dx := dx) (fs := [("own_named", .ref d1)]) (mk := fun p => ndO P w p (xs.filter nt)) ?_ (fun _ _ => ev_var rfl) upd_same C.clS C.n2 (by show 1 < 1000; decide) fun d2 H4 hd2 e4 hdd => ?_
  · rcases hx3 with ⟨rfl, rfl⟩ | ⟨d, rfl, hd, hk⟩
    · exact en_if (b := true) (et_is (et_isN (ev_var rfl)) (by rfl)) (fun _ => en_newN) (fun z => by cases z)
    · exact en_if (b := false) (et_is (et_isN (ev_var rfl)) (by rfl)) (fun z => by cases z) (fun _ => en_call (ea_cons (ev_var rfl) ea_nil) fun H4 e4 Q q => ⟨d, xs, rfl, e4 _ _ hd, hk.ex e4, xo, q⟩)
  have ned2 : d2 ≠ a := by
    intro z
    subst z
    rw [upd_same] at hd2
    cases hd2
  refine q d1 d2 _ ((x3.trans e4.p).at) ?_ ?_ ?_
  · rw [upd_same]
    rfl
  · rw [upd_ne ned]
    refine e4 _ _ ?_
    rw [upd_ne ned]
    exact hd
  · rw [upd_ne ned2]
    exact hdd
abbrev miN : List Str := ["self", "operations", "tests"]
theorem walk_initM (T : Txt K mg) (C : Cts K mg S M) (c_are_operations : Cal P w K mg base CX0 3 "are_operations" (spDict P w phO)) (c_are_tests : Cal P w K mg base CX0 3 "are_tests" (spDict P w phT))
    (c_zO : Cal P w K mg base CX0 1 "without_zeros" (spZerosN P w phO)) (c_zT : Cal P w K mg base CX0 1 "without_zeros" (spZerosN P w phT)) : Walks P w K mg base CX0 3 "Meaning.__init__" (cM 0) miN (spInitM P w M) := by
  intro f cdv A outer s H vs Q E hr hsp
  obtain ⟨a, dx, v1, v2, ws, ts, rfl, ha, hv, hx, vo, xo, q⟩ := hsp
  have nd : miN.Nodup := by decide +kernel
  refine ⟨_, (pss_cons (ps_if (PW.pt (pw_and (pt_cmpR op_notN (pv 1) pe_non (nomark _)) (pw_and1 (pt_not (pt_val (pe_c c_are_operations hr (by decide) (pa_cons (pv 1) pa_nil))))))) (pss_one ps_never) pss_nil)
    (pss_cons (ps_if (PW.pt (pw_and (pt_cmpR op_notN (pv 2) pe_non (nomark _)) (pw_and1 (pt_not (pt_val (pe_c c_are_tests hr (by decide) (pa_cons (pv 2) pa_nil))))))) (pss_one ps_never) pss_nil)
    (pss_cons (ps_fld (pv 0) (pe_ifExp (pt_cmpR op_isN (pv 1) pe_non (nomark _)) pe_dnewN (pe_c c_zO hr (by decide) (pa_cons (pv 1) pa_nil))) rfl)
    (pss_one (ps_fld (pv 0) (pe_ifExp (pt_cmpR op_isN (pv 2) pe_non (nomark _)) pe_dnewN (pe_c c_zT hr (by decide) (pa_cons (pv 2) pa_nil))) rfl))))), ?_⟩
  refine q_when (b := false) (et_is (et_and (b := false) (et_notN (ev_var rfl)) fun hb => et_not (a := true) (et_B (ev_call (ea_cons (ev_var rfl) ea_nil) fun H1 e Q q E => ?_))) (Bool.and_false _)) (fun z => by cases z) (fun _ H1 e1 => ?_)
  · rcases hv with ⟨rfl, _⟩ | ⟨d, rfl, hd, hk⟩
    · exact absurd hb (by decide)
    · exact ⟨d, ws, rfl, e _ _ hd, hk.ex e, vo, q⟩
  have hv1 := hv.keep e1.p ⟨M, dx, _, ha⟩
  have hx1 := hx.keep e1.p ⟨M, dx, _, ha⟩
  refine q_when (b := false) (et_is (et_and (b := false) (et_notN (ev_var rfl)) fun hb => et_not (a := true) (et_B (ev_call (ea_cons (ev_var rfl) ea_nil) fun H1 e Q q E => ?_))) (Bool.and_false _)) (fun z => by cases z) (fun _ H2 e2 => ?_)
  · rcases hx1 with ⟨rfl, _⟩ | ⟨d, rfl, hd, hk⟩
    · exact absurd hb (by decide)
    · exact ⟨d, ts, rfl, e _ _ hd, hk.ex e, xo, q⟩
  have e12 := e1.trans e2
  refine q_fldN (a := a) (C := M) (dx := dx) (fs := []) (mk := fun p => ndO P w p (ws.filter nt)) ?_ (fun _ _ => ev_var rfl) (e12 _ _ ha) C.clM C.n3 (by decide) fun d1 H3 hd1 e3 hd => ?_
  · rcases hv with ⟨rfl, rfl⟩ | ⟨d, rfl, hd, hk⟩
    · exact en_if (b := true) (et_is (et_isN (ev_var rfl)) (by rfl)) (fun _ => en_newN) (fun z => by cases z)
    · exact en_if (b := false) (et_is (et_isN (ev_var rfl)) (by rfl)) (fun z => by cases z) (fun _ => en_call (ea_cons (ev_var rfl) ea_nil) fun H4 e4 Q q => ⟨d, ws, rfl, e4 _ _ (e12 _ _ hd), (hk.ex e12).ex e4, vo, q⟩)
  have e13 := e12.trans e3
  have x3 : ExP a H (upd H3 a (.ins M dx (putF "own_worths" (.ref d1) []))) := (e13.p).at
  have ned : d1 ≠ a := by
    intro z
    subst z
    rw [e12 _ _ ha] at hd1
    cases hd1
  have hx3 := hx.keep x3 ⟨M, dx, _, ha⟩
  refine s_fldN (a := a) (C := M) (dx := dx) (fs := [("own_worths", .ref d1)]) (mk := fun p => ndO P w p (ts.filter nt)) ?_ (fun _ _ => ev_var rfl) upd_same C.clM C.n4 (by show 1 < 1000; decide) fun d2 H4 hd2 e4 hdd => ?_
  · rcases hx3 with ⟨rfl, rfl⟩ | ⟨d, rfl, hd, hk⟩
    · exact en_if (b := true) (et_is (et_isN (ev_var rfl)) (by rfl)) (fun _ => en_newN) (fun z => by cases z)
    · exact en_if (b := false) (et_is (et_isN (ev_var rfl)) (by rfl)) (fun z => by cases z) (fun _ => en_call (ea_cons (ev_var rfl) ea_nil) fun H4 e4 Q q => ⟨d, ts, rfl, e4 _ _ hd, hk.ex e4, xo, q⟩)
  have ned2 : d2 ≠ a := by
    intro z
    subst z
    rw [upd_same] at hd2
    cases hd2
  refine q d1 d2 _ ((x3.trans e4.p).at) ?_ ?_ ?_
  · rw [upd_same]
    rfl
  · rw [upd_ne ned]
    refine e4 _ _ ?_
    rw [upd_ne ned]
    exact hd
  · rw [upd_ne ned2]
    exact hdd
end
end L2.K7

/-! N13: the properties and methods of Start, Meaning. -/
namespace L2.K7
open PySem PySem.Spec PyProof.Rows
open Evl
theorem pe_fldC {X : Cx} {K : PySem.W.Frag} {e : Expr} {f : Str} {pos : Pos} {ta : TE} (hK : X.K = K) (he : PE X e ta) (hb : attributeBase e f X.env (eval e X.env) = eval e X.env) : PE X (.Attribute e f pos) (tFld K ta f) := by
  subst hK
  exact pe_fld he hb
section
variable {P : Program} {w : World} {K : PySem.W.Frag} {mg : Str → Option Value} {base : Heap} {S M : Addr}
theorem lk1 {k : Str} {v : V} {r : List (Str × V)} : List.lookup k ((k, v) :: r) = some v := by
  have e : (k == k) = true := beq_self_eq_true k
  simp only [List.lookup, e]
theorem ne12 : (("own_placed" : Str) == ("own_named" : Str)) = false := by decide +kernel
theorem ne34 : (("own_truth" : Str) == ("own_worths" : Str)) = false := by decide +kernel
theorem walk_variables (T : Txt K mg) (C : Cts K mg S M) : Walks P w K mg base CX0 0 "Start.variables" (cS 1) ["self"] (spVariables P w S) := by
  intro f cdv A outer s H vs Q E hr hsp
  obtain ⟨a, vars, xs, rfl, st, q⟩ := hsp
  obtain ⟨dx, d1, d2, h1, h2, h3⟩ := st.ex
  refine ⟨_, (pss_one (ps_ret (pe_t call_dictD T.dict b_dict (pa_cons (pe_fld (pv 0) rfl) pa_nil)))), ?_⟩
  refine (ev_fld (ev_var rfl) h1 C.clS C.n1 lk1) H (Ex.refl H) _ fun H1 e1 => ⟨d1, kvsOf vars, rfl, .inl (e1 _ _ h2), fun p hp => q p _ (fresh_back e1 hp) (e1.trans (Ex.new hp)) upd_same⟩
/-- a copy by {pair: self.f[pair] for pair in self.f} -/
theorem copyN {φ : DK → V → Prop} {a dx d C : Addr} {fs : List (Str × V)} {f : Str} {xs : NL} {H : Hp} {x : V} (h1 : H a = some (.ins C dx fs)) (c : Cls K C) (n : NoAttr K C f) (l : fs.lookup f = some (.ref d)) (h2 : H d = some (ndO P w d xs)) (ks : KeysAt H xs) (xo : XOk φ xs) :
    EvN (tLockE (tNDc P w (iNKeys P w (tFld K (tVar 0) f)) (gName 1) tYes (tVar 1) (tNGet P w (tFld K (tVar 0) f) (tVar 1)) [1])) [some (.ref a), none] H (fun p => ndO P w p xs) := by
  have hne : a ≠ d := by
    intro z
    subst z
    rw [h1] at h2
    have z' : HO.ins C dx fs = HO.ext _ := Option.some.inj h2
    cases z'
  have h := en_lockN (P := P) (w := w) (σ := [some (.ref a), none]) (H := H) (wi := iNKeys P w (tFld K (tVar 0) f)) (tk := tVar 1) (tv := tNGet P w (tFld K (tVar 0) f) (tVar 1)) (tt := tYes) (j := 1) (vs := [1]) (d := d) (u := ndO P w d xs) (xs := xs) (fun _ => true) True.intro h2
    (fun od H2 R x2 h2' k => ?_) ndO_nt ks xo.nd (by have := xo.sz; omega) (fun x => rfl) (fun od i p hp => fun H1 e Q q => q H1 (Ex.refl H1)) (fun od i p hp => ev_var rfl) (fun od i p hp => ?_)
  · rw [List.filter_eq_self.mpr (fun _ _ => rfl)] at h
    exact h
  · exact ⟨_, rfl, a, C, dx, fs, _, rfl, x2 a _ (by rw [upd_ne hne]; exact h1), c, n, l, d, od, xs, rfl, h2', k _ kit_n⟩
  · exact ev_nget (k := p.1) (ev_fld (v := .ref d) (ev_var rfl) (by rw [upd_ne hne]; exact h1) c n l) (ev_var rfl) ⟨.inr ⟨od, upd_same⟩, fun r hr => (ks r hr).lock h2 ndO_nt⟩ ((ks p (List.mem_of_getElem? hp)).lock h2 ndO_nt) (valN_at xo.nd hp)
abbrev seN : List Str := ["self", "pair"]
abbrev seS : Scope := defScope (cS 2)
theorem walk_entriesP (T : Txt K mg) (C : Cts K mg S M) : Walks P w K mg base CX0 0 "Start.entries" (cS 2) seN (spEntries P w S) := by
  intro f cdv A outer s H vs Q E hr hsp
  obtain ⟨a, vars, xs, rfl, st, q⟩ := hsp
  obtain ⟨dx, d1, d2, h1, h2, h3⟩ := st.ex
  have nd : seN.Nodup := by decide +kernel
  refine ⟨_, (pss_one (ps_ret (pe_lock (pe_ndc (own := [("pair", 1)]) (g := gName 1) (tt := tYes) rfl nd hr.units (pi_nkeys (pe_fldC (K := K) rfl (pv 0) rfl)) (blkOk_by (N := seN) (sc := seS) (by decide +kernel)) (fun _ _ _ _ _ => pg_name (i := 1) nd rfl (Or.inl rfl)) (fun _ _ _ _ _ => pts_nil) (fun _ _ _ _ _ => (pv 1)) (fun _ _ _ _ _ => (pe_ngetP (P := P) (w := w) rfl rfl hr.units (pe_fldC (K := K) rfl (pv 0) rfl) (pv 1) (fun _ _ => rfl))))))), ?_⟩
  exact s_retN (copyN h1 C.clS C.n2 (lk2 ne12) h3 st.ks st.xo (x := .non)) q
abbrev moN : List Str := ["self", "pair"]
abbrev moS : Scope := defScope (cM 1)
theorem walk_operationsP (T : Txt K mg) (C : Cts K mg S M) : Walks P w K mg base CX0 0 "Meaning.operations" (cM 1) moN (spOperations P w M) := by
  intro f cdv A outer s H vs Q E hr hsp
  obtain ⟨a, ws, ts, rfl, st, q⟩ := hsp
  obtain ⟨dx, d1, d2, h1, h2, h3⟩ := st.ex
  have nd : moN.Nodup := by decide +kernel
  refine ⟨_, (pss_one (ps_ret (pe_lock (pe_ndc (own := [("pair", 1)]) (g := gName 1) (tt := tYes) rfl nd hr.units (pi_nkeys (pe_fldC (K := K) rfl (pv 0) rfl)) (blkOk_by (N := moN) (sc := moS) (by decide +kernel)) (fun _ _ _ _ _ => pg_name (i := 1) nd rfl (Or.inl rfl)) (fun _ _ _ _ _ => pts_nil) (fun _ _ _ _ _ => (pv 1)) (fun _ _ _ _ _ => (pe_ngetP (P := P) (w := w) rfl rfl hr.units (pe_fldC (K := K) rfl (pv 0) rfl) (pv 1) (fun _ _ => rfl))))))), ?_⟩
  exact s_retN (copyN h1 C.clM C.n3 lk1 h2 st.kw st.wo (x := .non)) q
abbrev mtN : List Str := ["self", "pair"]
abbrev mtS : Scope := defScope (cM 2)
theorem walk_testsP (T : Txt K mg) (C : Cts K mg S M) : Walks P w K mg base CX0 0 "Meaning.tests" (cM 2) mtN (spTests P w M) := by
  intro f cdv A outer s H vs Q E hr hsp
  obtain ⟨a, ws, ts, rfl, st, q⟩ := hsp
  obtain ⟨dx, d1, d2, h1, h2, h3⟩ := st.ex
  have nd : mtN.Nodup := by decide +kernel
  refine ⟨_, (pss_one (ps_ret (pe_lock (pe_ndc (own := [("pair", 1)]) (g := gName 1) (tt := tYes) rfl nd hr.units (pi_nkeys (pe_fldC (K := K) rfl (pv 0) rfl)) (blkOk_by (N := mtN) (sc := mtS) (by decide +kernel)) (fun _ _ _ _ _ => pg_name (i := 1) nd rfl (Or.inl rfl)) (fun _ _ _ _ _ => pts_nil) (fun _ _ _ _ _ => (pv 1)) (fun _ _ _ _ _ => (pe_ngetP (P := P) (w := w) rfl rfl hr.units (pe_fldC (K := K) rfl (pv 0) rfl) (pv 1) (fun _ _ => rfl))))))), ?_⟩
  exact s_retN (copyN h1 C.clM C.n4 (lk2 ne34) h3 st.kt st.to_ (x := .non)) q
/-! ### looks -/
theorem int_at {φ : DK → V → Prop} (hφ : ∀ k v, φ k v → ∃ i, v = .int i) {xs : NL} (xo : XOk φ xs) (k : DK) : (valN xs k).getD (.int 0) = .int (gI (valN xs k)) := by
  cases h : valN xs k with
  | none => rfl
  | some v =>
    obtain ⟨q, hq, rfl⟩ := Option.map_eq_some_iff.mp h
    obtain ⟨i, hi⟩ := hφ _ _ (xo.ok q (List.mem_of_find?_eq_some hq))
    rw [hi] <;> rfl
theorem bl_at {φ : DK → V → Prop} (hφ : ∀ k v, φ k v → ∃ i, v = .bl i) {xs : NL} (xo : XOk φ xs) (k : DK) : (valN xs k).getD (.bl false) = .bl (gB (valN xs k)) := by
  cases h : valN xs k with
  | none => rfl
  | some v =>
    obtain ⟨q, hq, rfl⟩ := Option.map_eq_some_iff.mp h
    obtain ⟨i, hi⟩ := hφ _ _ (xo.ok q (List.mem_of_find?_eq_some hq))
    rw [hi] <;> rfl
theorem ph_Ei : ∀ k v, phE k v → ∃ i, v = .int i := fun k v h => let ⟨_, _, z, _, _, h⟩ := h; ⟨z, h⟩
theorem ph_Oi : ∀ k v, phO k v → ∃ i, v = .int i := fun k v h => let ⟨_, _, z, _, _, _, h⟩ := h; ⟨z, h⟩
theorem ph_Tb : ∀ k v, phT k v → ∃ i, v = .bl i := fun k v h => let ⟨_, _, z, _, _, _, h⟩ := h; ⟨z, h⟩
theorem ev_dget2 {σ : St} {H : Hp} {td ty tx : TE} {z : V} {d : Addr} {kvs : List (Key × V)} {k : Key} (hd : Ev td σ H (.ref d)) (hy : Ev ty σ H (kV k)) (hz : Ev tx σ H z) (h : Rd H d (.dK kvs)) : Ev (tDGet2 td ty tx) σ H ((valV kvs k).getD z) := fun H1 e Q q =>
  hd H1 e _ fun H2 e2 => ⟨d, rfl, .inl ⟨kvs, ex_rd (e.trans e2) h⟩, hy H2 (e.trans e2) _ fun H3 e3 => hz H3 ((e.trans e2).trans e3) _ fun H4 e4 => ⟨_, .inl ⟨kvs, k, ex_rd (((e.trans e2).trans e3).trans e4) h, rfl, rfl⟩, q H4 ((e2.trans e3).trans e4)⟩⟩
/-- d.get((..), z), the key a new tuple -/
theorem ev_nget2 {σ : St} {H : Hp} {td ty tx : TE} {z : V} {d : Addr} {xs : NL} {k : DK} {ys : List V} (hd : Ev td σ H (.ref d)) (hy : EvU ty σ H ys) (hk : ∀ b H1, Ex H H1 → H1 b = some (.tup ys) → DKAt H1 b k) (hz : Ev tx σ H z) (h : NDr P w H d xs) : Ev (tNGet2 P w td ty tx) σ H ((valN xs k).getD z) := fun H1 e Q q =>
  hd H1 e _ fun H2 e2 => ⟨d, xs, rfl, ex_rd (e.trans e2) h.rd, hy H2 (e.trans e2) _ fun b H3 _ e3 hb => hz H3 ((e.trans e2).trans e3) _ fun H4 e4 => ⟨b, k, rfl, h.ex (((e.trans e2).trans e3).trans e4), (hk b H3 ((e.trans e2).trans e3) hb).ex e4, q H4 ((e2.trans e3).trans e4)⟩⟩
theorem walk_variable (T : Txt K mg) (C : Cts K mg S M) : Walks P w K mg base CX0 0 "Start.variable" (cS 3) ["self", "name"] (spVariable P w S) := by
  intro f cdv A outer s H vs Q E hr hsp
  obtain ⟨a, vars, xs, x, rfl, st, q⟩ := hsp
  obtain ⟨dx, d1, d2, h1, h2, h3⟩ := st.ex
  refine ⟨_, (pss_one (ps_ret (pe_dget2 (u1 hr) (pe_fld (pv 0) rfl) (pv 1) pe_int ⟨rfl, rfl, rfl, rfl⟩))), ?_⟩
  refine rets (ev_dget2 (k := Sum.inr x) (ev_fld (ev_var rfl) h1 C.clS C.n1 lk1) (ev_var rfl) ev_c (.inl h2)) (Ex.refl H) q ?_
  rw [valV_kvs]
  unfold varW
  cases look vars x <;> rfl
theorem walk_entryOf (T : Txt K mg) (C : Cts K mg S M) : Walks P w K mg base CX0 0 "Start.entry" (cS 4) ["self", "array", "at"] (spEntryOf P w S) := by
  intro f cdv A outer s H vs Q E hr hsp
  obtain ⟨a, vars, xs, x, i, rfl, st, q⟩ := hsp
  obtain ⟨dx, d1, d2, h1, h2, h3⟩ := st.ex
  refine ⟨_, (pss_one (ps_ret (pe_nget2 hr.units (pe_fld (pv 0) rfl) (pe_tup (pa_cons (pv 1) (pa_cons (pv 2) pa_nil))) pe_int ⟨rfl, rfl, rfl, rfl⟩))), ?_⟩
  refine rets (ev_nget2 (k := .ent x i) (ev_fld (ev_var rfl) h1 C.clS C.n2 (lk2 ne12)) (eu_tup (ea_cons (ev_var rfl) (ea_cons (ev_var rfl) ea_nil)) (by show 2 ≤ 100000; decide)) (fun b H1 _ hb => hb) ev_c ⟨.inl h3, st.ks⟩) (Ex.refl H) q (int_at ph_Ei st.xo _)
theorem walk_of (T : Txt K mg) (C : Cts K mg S M) : Walks P w K mg base CX0 0 "Meaning.of" (cM 3) ["self", "name", "args"] (spOf P w M) := by
  intro f cdv A outer s H vs Q E hr hsp
  obtain ⟨a, ws, ts, x, c, is, rfl, st, hc, q⟩ := hsp
  obtain ⟨dx, d1, d2, h1, h2, h3⟩ := st.ex
  refine ⟨_, (pss_one (ps_ret (pe_nget2 hr.units (pe_fld (pv 0) rfl) (pe_tup (pa_cons (pv 1) (pa_cons (pv 2) pa_nil))) pe_int ⟨rfl, rfl, rfl, rfl⟩))), ?_⟩
  refine rets (ev_nget2 (k := .ask x is) (ev_fld (ev_var rfl) h1 C.clM C.n3 lk1) (eu_tup (ea_cons (ev_var rfl) (ea_cons (ev_var rfl) ea_nil)) (by show 2 ≤ 100000; decide)) (fun b H1 e hb => ⟨c, hb, e _ _ hc⟩) ev_c ⟨.inl h2, st.kw⟩) (Ex.refl H) q (int_at ph_Oi st.wo _)
theorem walk_holds (T : Txt K mg) (C : Cts K mg S M) : Walks P w K mg base CX0 0 "Meaning.holds" (cM 4) ["self", "name", "args"] (spHolds P w M) := by
  intro f cdv A outer s H vs Q E hr hsp
  obtain ⟨a, ws, ts, x, c, is, rfl, st, hc, q⟩ := hsp
  obtain ⟨dx, d1, d2, h1, h2, h3⟩ := st.ex
  refine ⟨_, (pss_one (ps_ret (pe_nget2 hr.units (pe_fld (pv 0) rfl) (pe_tup (pa_cons (pv 1) (pa_cons (pv 2) pa_nil))) pe_bl ⟨rfl, rfl, rfl, rfl⟩))), ?_⟩
  refine rets (ev_nget2 (k := .ask x is) (ev_fld (ev_var rfl) h1 C.clM C.n4 (lk2 ne34)) (eu_tup (ea_cons (ev_var rfl) (ea_cons (ev_var rfl) ea_nil)) (by show 2 ≤ 100000; decide)) (fun b H1 e hb => ⟨c, hb, e _ _ hc⟩) ev_c ⟨.inl h3, st.kt⟩) (Ex.refl H) q (bl_at ph_Tb st.to_ _)
end
end L2.K7

/-! N14: terms as data; check_played, worth_now, truth_now, worth, truth. -/
namespace L2.K7
open PySem PySem.Spec PyProof.Rows
open Evl

inductive Tm where
  | var (x : Str)
  | item (x : Str) (t : Tm)
  | op0 (f : Str)
  | op1 (f : Str) (t : Tm)
  | op2 (f : Str) (t u : Tm)
inductive At where
  | same (t u : Tm)
  | test (p : Str) (t : Tm)
def Tm.dt : Tm → Dt
  | .var x => .tup [.str "var", .str x]
  | .item x t => .tup [.str "item", .str x, t.dt]
  | .op0 f => .tup [.str "op", .str f, .tup []]
  | .op1 f t => .tup [.str "op", .str f, .tup [t.dt]]
  | .op2 f t u => .tup [.str "op", .str f, .tup [t.dt, u.dt]]
def At.dt : At → Dt
  | .same t u => .tup [.str "same", t.dt, u.dt]
  | .test p t => .tup [.str "test", .str p, .tup [t.dt]]
def Tm.dep : Tm → Nat
  | .var _ => 1
  | .item _ t => t.dep + 1
  | .op0 _ => 1
  | .op1 _ t => t.dep + 1
  | .op2 _ t u => max t.dep u.dep + 1
def At.dep : At → Nat
  | .same t u => max t.dep u.dep
  | .test _ t => t.dep
def wv (G : Str → Int) (E : Str → Int → Int) (O : Str → List Int → Int) : Tm → Int
  | .var x => G x
  | .item x t => E x (wv G E O t)
  | .op0 f => O f []
  | .op1 f t => O f [wv G E O t]
  | .op2 f t u => O f [wv G E O t, wv G E O u]
def tv (G : Str → Int) (E : Str → Int → Int) (O : Str → List Int → Int) (T : Str → List Int → Bool) : At → Bool
  | .same t u => decide (wv G E O t = wv G E O u)
  | .test p t => T p [wv G E O t]
def repl (x : Str) (o : Tm) : Tm → Tm
  | .var y => if y = x then o else .var y
  | .item y t => .item y (repl x o t)
  | .op0 f => .op0 f
  | .op1 f t => .op1 f (repl x o t)
  | .op2 f t u => .op2 f (repl x o t) (repl x o u)
/-- f, its arguments -/
def OpOf (t : Tm) (f : Str) (l : List Tm) : Prop := t.dt = .tup [.str "op", .str f, .tup (l.map Tm.dt)] ∧ (∀ u ∈ l, u.dep + 1 ≤ t.dep) ∧ l.length ≤ 2 ∧ (∀ G E O, wv G E O t = O f (l.map (wv G E O))) ∧ ∀ x o, (repl x o t).dt = .tup [.str "op", .str f, .tup ((l.map (repl x o)).map Tm.dt)]
theorem tm_cases (t : Tm) : (∃ x, t = .var x) ∨ (∃ x u, t = .item x u) ∨ ∃ f l, OpOf t f l := by
  cases t with
  | var x => exact .inl ⟨x, rfl⟩
  | item x u => exact .inr (.inl ⟨x, u, rfl⟩)
  | op0 f => exact .inr (.inr ⟨f, [], rfl, fun u h => (List.not_mem_nil h).elim, by decide, fun _ _ _ => rfl, fun _ _ => rfl⟩)
  | op1 f u => exact .inr (.inr ⟨f, [u], rfl, fun z h => by rw [List.mem_singleton.mp h]; exact Nat.le_refl _, by show 1 ≤ 2; decide, fun _ _ _ => rfl, fun _ _ => rfl⟩)
  | op2 f u v => exact .inr (.inr ⟨f, [u, v], rfl, fun z h => by
      rcases List.mem_cons.mp h with h | h
      · rw [h]; exact Nat.succ_le_succ (Nat.le_max_left _ _)
      · rw [List.mem_singleton.mp h]; exact Nat.succ_le_succ (Nat.le_max_right _ _), by show 2 ≤ 2; decide, fun _ _ _ => rfl, fun _ _ => rfl⟩)

/-! ### odd arguments, errors -/
def OddC (K : PySem.W.Frag) (C : Addr) (H : Hp) (v : V) : Prop := ∃ t, TyOf K H v t ∧ PySem.W.kitOne K t (.ref C) = some false
theorem OddC.ex {K : PySem.W.Frag} {C : Addr} {H H' : Hp} {v : V} (h : OddC K C H v) (e : Ex H H') : OddC K C H' v := let ⟨t, a, b⟩ := h; ⟨t, TyOf.ex e a, b⟩
def Raises (H : Hp) (E : XK) (C : Addr) (v : V) : Prop := ∀ d H2, H d = none → Ex H H2 → H2 d = some (exF v) → E (.ref C) (some d) H2
theorem Raises.mono {H H' : Hp} {E : XK} {C : Addr} {v : V} (h : Raises H E C v) (e : Ex H H') : Raises H' E C v := fun d H2 hd e2 h2 => h d H2 (fresh_back e hd) (e.trans e2) h2
/-- facts of the errors -/
structure Ers (P : Program) (K : PySem.W.Frag) (mg : Str → Option Value) (XT XS XM : Addr) : Prop where
  tT : ∃ fI cc cda, PySem.InvX.InvTxt P K XT fI cc cda
  tS : ∃ fI cc cda, PySem.InvX.InvTxt P K XS fI cc cda
  tM : ∃ fI cc cda, PySem.InvX.InvTxt P K XM fI cc cda
  gT : mg "InvalidTerm" = some (.ref XT)
  gS : mg "InvalidStart" = some (.ref XS)
  gM : mg "InvalidMeaning" = some (.ref XM)
def spCheck (K : PySem.W.Frag) (S M XS XM : Addr) : Sp := fun vs H Q E => ∃ v1 v2, vs = [v1, v2] ∧ ((OddC K S H v1 ∧ Raises H E XS v1) ∨ ((∃ a dx fs, v1 = .ref a ∧ H a = some (.ins S dx fs)) ∧
  ((OddC K M H v2 ∧ Raises H E XM v2) ∨ ((∃ b dx fs, v2 = .ref b ∧ H b = some (.ins M dx fs)) ∧ RetV .non H Q))))
def spNow (P : Program) (w : World) (S M : Addr) (n : Nat) : Sp := fun vs H Q _ => ∃ v a b t vars xs ws ts, vs = [v, .ref a, .ref b] ∧ DtAt H (Tm.dt t) v ∧ t.dep ≤ n ∧ StAt P w S H a vars xs ∧ MeAt P w M H b ws ts ∧ RetV (.int (wv (varW vars) (entW xs) (opW ws) t)) H Q
def spTNow (P : Program) (w : World) (S M : Addr) (n : Nat) : Sp := fun vs H Q _ => ∃ v a b t vars xs ws ts, vs = [v, .ref a, .ref b] ∧ DtAt H (At.dt t) v ∧ t.dep ≤ n ∧ StAt P w S H a vars xs ∧ MeAt P w M H b ws ts ∧ RetV (.bl (tv (varW vars) (entW xs) (opW ws) (teW ts) t)) H Q
def spWorth (P : Program) (w : World) (K : PySem.W.Frag) (S M XT XS XM : Addr) (n : Nat) : Sp := fun vs H Q E => ∃ v1 v2 v3 d, vs = [v1, v2, v3] ∧ DtAt H d v1 ∧ ((termD d = false ∧ Raises H E XT v1) ∨ (termD d = true ∧
  ((OddC K S H v2 ∧ Raises H E XS v2) ∨ ∃ a vars xs, v2 = .ref a ∧ StAt P w S H a vars xs ∧ ((OddC K M H v3 ∧ Raises H E XM v3) ∨ ∃ b ws ts t, v3 = .ref b ∧ MeAt P w M H b ws ts ∧ d = Tm.dt t ∧ t.dep ≤ n ∧ RetV (.int (wv (varW vars) (entW xs) (opW ws) t)) H Q))))
def spTruth (P : Program) (w : World) (K : PySem.W.Frag) (S M XT XS XM : Addr) (n : Nat) : Sp := fun vs H Q E => ∃ v1 v2 v3 d, vs = [v1, v2, v3] ∧ DtAt H d v1 ∧ ((atomD d = false ∧ Raises H E XT v1) ∨ (atomD d = true ∧
  ((OddC K S H v2 ∧ Raises H E XS v2) ∨ ∃ a vars xs, v2 = .ref a ∧ StAt P w S H a vars xs ∧ ((OddC K M H v3 ∧ Raises H E XM v3) ∨ ∃ b ws ts t, v3 = .ref b ∧ MeAt P w M H b ws ts ∧ d = At.dt t ∧ t.dep ≤ n ∧ RetV (.bl (tv (varW vars) (entW xs) (opW ws) (teW ts) t)) H Q))))

section
variable {K : PySem.W.Frag} {P : Program} {w : World} {σ : L2.St} {H : Hp} {D : Ends} {ta tb td te tx : TE} {v x z : V} {C a dx : Addr} {fs : List (Str × V)} {m : Str} {sp : Sp} {ys vs : List V} {t : TA}
theorem s_raise {W : WX} (h : EvA t σ H [v]) (k : ∀ d H2, H d = none → Ex H H2 → H2 d = some (exF v) → W (.ref C) (some d) σ H2) : tRaiseInv C W t D σ H := h H (Ex.refl H) _ fun H1 e1 =>
  ⟨v, rfl, fun d hd => k d _ (fresh_back e1 hd) (e1.trans (Ex.new hd)) upd_same⟩
theorem ev_meth (ha : Ev ta σ H (.ref a)) (h : H a = some (.ins C dx fs)) (l : fs.lookup m = none) (ht : EvA t σ H vs) (hs : SpV sp (.ref a :: (vs ++ [])) H z) : Ev (tMeth C m sp [] E0 ta t) σ H z := fun H1 e Q q =>
  ha H1 e _ fun H2 e2 => ⟨a, dx, fs, rfl, e2 _ _ (e _ _ h), l, ht H2 (e.trans e2) _ fun H3 e3 => hs H3 ((e.trans e2).trans e3) Q (fun H4 e4 => q H4 ((e2.trans e3).trans e4)) E0⟩
theorem ev_methU (ha : Ev ta σ H (.ref a)) (h : H a = some (.ins C dx fs)) (l : fs.lookup m = none) (hx : Ev tx σ H x) (hy : EvU te σ H ys) (hs : ∀ c H1, Ex H H1 → H1 c = some (.tup ys) → SpV sp [.ref a, x, .ref c] H1 z) : Ev (tMeth C m sp [] E0 ta (tCons tx (tCons te tNil))) σ H z := fun H1 e Q q =>
  ha H1 e _ fun H2 e2 => ⟨a, dx, fs, rfl, e2 _ _ (e _ _ h), l, hx H2 (e.trans e2) _ fun H3 e3 => hy H3 ((e.trans e2).trans e3) _ fun c H4 _ e4 hc => hs c H4 (((e.trans e2).trans e3).trans e4) hc H4 (Ex.refl H4) Q (fun H5 e5 => q H5 (((e2.trans e3).trans e4).trans e5)) E0⟩
theorem ev_isiC {c : Addr} {u : Value} {b : Bool} (ha : Ev ta σ H v) (hc : Ev tb σ H (.ref c)) (ty : TyOf K H v u) (hk : PySem.W.kitOne K u (.ref c) = some b) : Ev (tCB (rIsi K) (tCons ta (tCons tb tNil))) σ H (.bl b) := ev_isi ha hc (.own c) ty hk
end
section
variable {P : Program} {w : World} {K : PySem.W.Frag} {mg : Str → Option Value} {base : Heap} {S M XT XS XM : Addr}
theorem Cts.tyS {H : Hp} {a dx : Addr} {fs : List (Str × V)} (C : Cts K mg S M) (h : H a = some (.ins S dx fs)) : TyOf K H (.ref a) (.ref S) := .ins h C.clS C.aS C.sp C.tk C.mS
theorem Cts.tyM {H : Hp} {a dx : Addr} {fs : List (Str × V)} (C : Cts K mg S M) (h : H a = some (.ins M dx fs)) : TyOf K H (.ref a) (.ref M) := .ins h C.clM C.aM C.sp C.tk C.mM
theorem walk_check (T : Txt K mg) (C : Cts K mg S M) (X : Ers P K mg XT XS XM) : Walks P w K mg base (L2.CX P w) 0 "check_played" (top 31) ["start", "meaning"] (spCheck K S M XS XM) := by
  intro f cdv A outer s H vs Q E hr hsp
  obtain ⟨v1, v2, rfl, hsp⟩ := hsp
  obtain ⟨_, _, _, iS⟩ := X.tS
  obtain ⟨_, _, _, iM⟩ := X.tM
  refine ⟨_, (pss_cons (ps_if (pt_not (pt_val (pe_b call_isi T.isinstance b_isi (pa_cons (pv 0) (pa_cons (pe_gc (v := .ref S) ⟨_, C.gS, rfl⟩) pa_nil))))) (pss_one (ps_raiseInv rfl iS X.gS T.super hr (takes_of rfl rfl rfl rfl) (pa_cons (pv 0) pa_nil) rfl)) pss_nil)
    (pss_one (ps_if (pt_not (pt_val (pe_b call_isi T.isinstance b_isi (pa_cons (pv 1) (pa_cons (pe_gc (v := .ref M) ⟨_, C.gM, rfl⟩) pa_nil))))) (pss_one (ps_raiseInv rfl iM X.gM T.super hr (takes_of rfl rfl rfl rfl) (pa_cons (pv 1) pa_nil) rfl)) pss_nil))), ?_⟩
  rcases hsp with ⟨⟨t, ty, hk⟩, hR⟩ | ⟨⟨a, dx, fs, rfl, ha⟩, hsp⟩
  · exact q_when (b := true) (et_not (a := false) (et_B (ev_isiC (ev_var rfl) ev_c ty hk))) (fun _ H1 e1 => s_raise (ea_cons (ev_var rfl) ea_nil) fun d H2 hd e2 h2 => hR d H2 (fresh_back e1 hd) (e1.trans e2) h2) (fun z => by cases z)
  · refine q_when (b := false) (et_not (a := true) (et_B (ev_isiC (ev_var rfl) ev_c (C.tyS ha) C.ss))) (fun z => by cases z) (fun _ H1 e1 => ?_)
    rcases hsp with ⟨⟨t, ty, hk⟩, hR⟩ | ⟨⟨b, dx2, fs2, rfl, hb⟩, hq⟩
    · exact s_when (b := true) (et_not (a := false) (et_B (ev_isiC (ev_var rfl) ev_c (TyOf.ex e1 ty) hk))) (fun _ H2 e2 => s_raise (ea_cons (ev_var rfl) ea_nil) fun d H3 hd e3 h3 => hR d H3 (fresh_back (e1.trans e2) hd) ((e1.trans e2).trans e3) h3) (fun z => by cases z)
    · exact s_when (b := false) (et_not (a := true) (et_B (ev_isiC (ev_var rfl) ev_c (C.tyM (e1 _ _ hb)) C.mm))) (fun z => by cases z) (fun _ H2 e2 => hq H2 (e1.trans e2))
abbrev wnN : List Str := ["term", "start", "meaning", "part"]
abbrev wnS : Scope := defScope (top 32)
abbrev tnN : List Str := ["atom", "start", "meaning", "part"]
abbrev tnS : Scope := defScope (top 33)
theorem lk_no3 {f g h : Str} {v x : V} (h1 : (f == g) = false) (h2 : (f == h) = false) : List.lookup f [(g, v), (h, x)] = none := by simp only [List.lookup, h1, h2]
/-- [worth_now(part, ..) for part in ..] -/
theorem el_now {n : Nat} {σ : St} {H : Hp} {tl : TE} {l : List Tm} {us : List V} {c a b : Addr} {v : V} {vars : List (Str × Int)} {xs ws ts : NL} (h : Ev tl [some v, some (.ref a), some (.ref b), none] H (.ref c)) (hc : H c = some (.tup us)) (hd : DtsAt H (l.map Tm.dt) us) (hl : l.length ≤ 2) (hn : ∀ u ∈ l, u.dep ≤ n) (hS : StAt P w S H a vars xs) (hM : MeAt P w M H b ws ts) :
    EvL (tLc (iTup K tl) (gName 3) tYes (tCall (spNow P w S M n) [] E0 (tCons (tVar 3) (tCons (tVar 1) (tCons (tVar 2) tNil)))) [3]) [some v, some (.ref a), some (.ref b), none] H ((l.map (wv (varW vars) (entW xs) (opW ws))).map V.int) := by
  refine el_lcT _ h (st_of hc) (by rw [List.length_map, List.length_map, hd.length, List.length_map]) (by rw [List.length_map, List.length_map]; omega) (fun x => rfl) fun i x y H3 e3 hx hy => ?_
  obtain ⟨di, hdi, hdx⟩ := hd.get hx
  rw [List.getElem?_map] at hdi
  obtain ⟨u, hu, rfl⟩ := Option.map_eq_some_iff.mp hdi
  have e : y = .int (wv (varW vars) (entW xs) (opW ws) u) := by
    rw [List.getElem?_map, List.getElem?_map, hu] at hy
    exact (Option.some.inj hy).symm
  subst e
  exact ev_call (ea_cons (ev_var rfl) (ea_cons (ev_var rfl) (ea_cons (ev_var rfl) ea_nil))) fun H1 e Q q E => ⟨x, a, b, u, vars, xs, ws, ts, rfl, hdx.ex (e3.trans e), hn u (List.mem_of_getElem? hu), hS.mono (e3.trans e), hM.mono (e3.trans e), q⟩
theorem walk_now {n : Nat} (T : Txt K mg) (C : Cts K mg S M) (c_variable : Met P w K mg base 1 S "variable" (spVariable P w S)) (c_entry : Met P w K mg base 1 S "entry" (spEntryOf P w S)) (c_of : Met P w K mg base 1 M "of" (spOf P w M))
    (c_worth_now : Cal P w K mg base CX0 (n + 2) "worth_now" (spNow P w S M n)) : Walks P w K mg base CX0 (n + 2) "worth_now" (top 32) wnN (spNow P w S M (n + 1)) := by
  intro f cdv A outer s H vs Q E hr hsp
  obtain ⟨v, a, b, t, vars, xs, ws, ts, rfl, hd, hn, hS, hM, q⟩ := hsp
  have nd : wnN.Nodup := by decide +kernel
  refine ⟨_, (pss_cons (ps_if (pt_cmpR op_eq (pe_ix ix_tup (pv 0) pe_int (fun _ _ => rfl)) pe_str (nomark _)) (pss_one (ps_ret (pe_mt c_variable hr (by omega) (pv 1) (pa_cons (pe_ix ix_tup (pv 0) pe_int (fun _ _ => rfl)) pa_nil)))) pss_nil)
    (pss_cons (ps_if (pt_cmpR op_eq (pe_ix ix_tup (pv 0) pe_int (fun _ _ => rfl)) pe_str (nomark _)) (pss_one (ps_ret (pe_mt c_entry hr (by omega) (pv 1) (pa_cons (pe_ix ix_tup (pv 0) pe_int (fun _ _ => rfl)) (pa_cons (pe_c c_worth_now hr (Nat.le_refl _) (pa_cons (pe_ix ix_tup (pv 0) pe_int (fun _ _ => rfl)) (pa_cons (pv 1) (pa_cons (pv 2) pa_nil)))) pa_nil))))) pss_nil)
    (pss_one (ps_ret (pe_mt c_of hr (by omega) (pv 2) (pa_cons (pe_ix ix_tup (pv 0) pe_int (fun _ _ => rfl)) (pa_cons (pe_t call_tuple_of T.tuple b_tuple (pa_cons (pe_lc (own := [("part", 3)]) (g := gName 3) (tt := tYes) rfl nd (pi_tup (pe_ix ix_tup (pv 0) pe_int (fun _ _ => rfl))) (blkOk_by (N := wnN) (sc := wnS) (by decide +kernel)) (fun _ _ _ _ _ => pg_name (i := 3) nd rfl (Or.inl rfl)) (fun _ _ _ _ _ => pts_nil) (fun _ _ _ _ _ => (pe_c c_worth_now hr (Nat.le_refl _) (pa_cons (pv 3) (pa_cons (pv 1) (pa_cons (pv 2) pa_nil)))))) pa_nil)) pa_nil))))))), ?_⟩
  obtain ⟨dxS, d1, d2, s1, s2, s3⟩ := hS.ex
  obtain ⟨dxM, m1, m2, t1, t2, t3⟩ := hM.ex
  have ix : ∀ {ds : List Dt} {i : Nat} {H1 : Hp}, DtAt H1 (.tup ds) v → i < ds.length → ∃ u, DtAt H1 (itm ds i) u ∧ Ev (tOp (rIxT K) (tVar 0) (tC (.int (i : Int)))) (start wnN [v, .ref a, .ref b]) H1 u := fun {ds i H1} h hi => ev_itm (ev_var rfl) ev_c h hi
  rcases tm_cases t with ⟨x, rfl⟩ | ⟨x, u, rfl⟩ | ⟨g, l, ho⟩
  · have hd : DtAt H (.tup [.str "var", .str x]) v := hd
    obtain ⟨u0, h0, E0'⟩ := ix (i := 0) hd (by show 0 < 2; decide)
    obtain ⟨u1, h1, E1'⟩ := ix (i := 1) hd (by show 1 < 2; decide)
    refine q_when (b := true) (et_test (ev_is (ev_sEq E0' ev_c h0 rfl) rfl)) (fun _ H1 e1 => ?_) (fun z => by cases z)
    cases h1 with
    | str _ hl =>
      exact rets (ev_meth (ev_var rfl) (e1 _ _ s1) (lk_no3 (by decide +kernel) (by decide +kernel)) (ea_cons (E1'.mono e1) ea_nil) fun H2 e2 Q q E => ⟨a, vars, xs, x, rfl, hS.mono (e1.trans e2), q⟩) e1 q rfl
  · have hd : DtAt H (.tup [.str "item", .str x, u.dt]) v := hd
    obtain ⟨u0, h0, E0'⟩ := ix (i := 0) hd (by show 0 < 3; decide)
    refine q_when (b := false) (et_test (ev_is (ev_sEq E0' ev_c h0 rfl) (by rfl))) (fun z => by cases z) (fun _ H1 e1 => ?_)
    refine q_when (b := true) (et_test (ev_is (ev_sEq (E0'.mono e1) ev_c (h0.ex e1) rfl) (by rfl))) (fun _ H2 e2 => ?_) (fun z => by cases z)
    have e12 := e1.trans e2
    obtain ⟨u1, h1, E1'⟩ := ix (i := 1) (hd.ex e12) (by show 1 < 3; decide)
    obtain ⟨u2, h2, E2'⟩ := ix (i := 2) (hd.ex e12) (by show 2 < 3; decide)
    cases h1 with
    | str _ hl =>
      have hc : Ev (tCall (spNow P w S M n) [] E0 (tCons (tOp (rIxT K) (tVar 0) (tC (.int ((2 : Nat) : Int)))) (tCons (tVar 1) (tCons (tVar 2) tNil)))) (start wnN [v, .ref a, .ref b]) H2 (.int (wv (varW vars) (entW xs) (opW ws) u)) :=
        ev_call (ea_cons E2' (ea_cons (ev_var rfl) (ea_cons (ev_var rfl) ea_nil))) fun H3 e3 Q q E => ⟨u2, a, b, u, vars, xs, ws, ts, rfl, h2.ex e3, by have : u.dep + 1 ≤ n + 1 := hn; omega, hS.mono (e12.trans e3), hM.mono (e12.trans e3), q⟩
      exact rets (ev_meth (ev_var rfl) (e12 _ _ s1) (lk_no3 (by decide +kernel) (by decide +kernel)) (ea_cons E1' (ea_cons hc ea_nil)) fun H3 e3 Q q E => ⟨a, vars, xs, x, wv (varW vars) (entW xs) (opW ws) u, rfl, hS.mono (e12.trans e3), q⟩) e12 q rfl
  · obtain ⟨o1, o2, o3, o4, _⟩ := ho
    rw [o1] at hd
    obtain ⟨u0, h0, E0'⟩ := ix (i := 0) hd (by show 0 < 3; decide)
    refine q_when (b := false) (et_test (ev_is (ev_sEq E0' ev_c h0 rfl) (by rfl))) (fun z => by cases z) (fun _ H1 e1 => ?_)
    refine q_when (b := false) (et_test (ev_is (ev_sEq (E0'.mono e1) ev_c (h0.ex e1) rfl) (by rfl))) (fun z => by cases z) (fun _ H2 e2 => ?_)
    have e12 := e1.trans e2
    obtain ⟨u1, h1, E1'⟩ := ix (i := 1) (hd.ex e12) (by show 1 < 3; decide)
    obtain ⟨u2, h2, E2'⟩ := ix (i := 2) (hd.ex e12) (by show 2 < 3; decide)
    cases h1 with
    | str _ hl =>
      have h2' : DtAt H2 (.tup (l.map Tm.dt)) u2 := h2
      cases h2' with
      | @tup c _ us k1 k2 =>
        refine rets (ev_methU (ev_var rfl) (e12 _ _ t1) (lk_no3 (by decide +kernel) (by decide +kernel)) E1' (eu_tupN (el_now (n := n) (σ := []) E2' k1 k2 o3 (fun u hu => by have := o2 u hu; omega) (hS.mono e12) (hM.mono e12))) fun c2 H3 e3 hc H4 e4 Q q E => ⟨b, ws, ts, g, c2, l.map (wv (varW vars) (entW xs) (opW ws)), rfl, hM.mono (e12.trans (e3.trans e4)), e4 _ _ hc, q⟩) e12 q ?_
        rw [o4]
end
end L2.K7

/-! N15: truth_now, worth, truth. -/
namespace L2.K7
open PySem PySem.Spec PyProof.Rows
open Evl
section
variable {P : Program} {w : World} {K : PySem.W.Frag} {mg : Str → Option Value} {base : Heap} {S M XT XS XM : Addr}
theorem walk_tnow {n : Nat} (T : Txt K mg) (C : Cts K mg S M) (c_holds : Met P w K mg base 1 M "holds" (spHolds P w M))
    (c_worth_now : Cal P w K mg base CX0 (n + 2) "worth_now" (spNow P w S M n)) : Walks P w K mg base CX0 (n + 2) "truth_now" (top 33) tnN (spTNow P w S M n) := by
  intro f cdv A outer s H vs Q E hr hsp
  obtain ⟨v, a, b, t, vars, xs, ws, ts, rfl, hd, hn, hS, hM, q⟩ := hsp
  have nd : tnN.Nodup := by decide +kernel
  refine ⟨_, (pss_cons (ps_if (pt_cmpR op_eq (pe_ix ix_tup (pv 0) pe_int (fun _ _ => rfl)) pe_str (nomark _)) (pss_one (ps_ret (pe_cmpR op_eq (pe_c c_worth_now hr (Nat.le_refl _) (pa_cons (pe_ix ix_tup (pv 0) pe_int (fun _ _ => rfl)) (pa_cons (pv 1) (pa_cons (pv 2) pa_nil)))) (pe_c c_worth_now hr (Nat.le_refl _) (pa_cons (pe_ix ix_tup (pv 0) pe_int (fun _ _ => rfl)) (pa_cons (pv 1) (pa_cons (pv 2) pa_nil)))) (nomark _)))) pss_nil)
    (pss_one (ps_ret (pe_mt c_holds hr (by omega) (pv 2) (pa_cons (pe_ix ix_tup (pv 0) pe_int (fun _ _ => rfl)) (pa_cons (pe_t call_tuple_of T.tuple b_tuple (pa_cons (pe_lc (own := [("part", 3)]) (g := gName 3) (tt := tYes) rfl nd (pi_tup (pe_ix ix_tup (pv 0) pe_int (fun _ _ => rfl))) (blkOk_by (N := tnN) (sc := tnS) (by decide +kernel)) (fun _ _ _ _ _ => pg_name (i := 3) nd rfl (Or.inl rfl)) (fun _ _ _ _ _ => pts_nil) (fun _ _ _ _ _ => (pe_c c_worth_now hr (Nat.le_refl _) (pa_cons (pv 3) (pa_cons (pv 1) (pa_cons (pv 2) pa_nil)))))) pa_nil)) pa_nil)))))), ?_⟩
  obtain ⟨dxM, m1, m2, t1, t2, t3⟩ := hM.ex
  have ix : ∀ {ds : List Dt} {i : Nat} {H1 : Hp}, DtAt H1 (.tup ds) v → i < ds.length → ∃ u, DtAt H1 (itm ds i) u ∧ Ev (tOp (rIxT K) (tVar 0) (tC (.int (i : Int)))) (start tnN [v, .ref a, .ref b]) H1 u := fun {ds i H1} h hi => ev_itm (ev_var rfl) ev_c h hi
  have now : ∀ {t : Tm} {H1 : Hp} {u : V} {te : TE}, Ex H H1 → DtAt H1 t.dt u → t.dep ≤ n → Ev te (start tnN [v, .ref a, .ref b]) H1 u → Ev (tCall (spNow P w S M n) [] E0 (tCons te (tCons (tVar 1) (tCons (tVar 2) tNil)))) (start tnN [v, .ref a, .ref b]) H1 (.int (wv (varW vars) (entW xs) (opW ws) t)) := fun {t H1 u te} e1 hd hn he =>
    ev_call (ea_cons he (ea_cons (ev_var rfl) (ea_cons (ev_var rfl) ea_nil))) fun H3 e3 Q q E => ⟨u, a, b, t, vars, xs, ws, ts, rfl, hd.ex e3, hn, hS.mono (e1.trans e3), hM.mono (e1.trans e3), q⟩
  cases t with
  | same x y =>
    have hd : DtAt H (.tup [.str "same", x.dt, y.dt]) v := hd
    have hn : max x.dep y.dep ≤ n := hn
    obtain ⟨u0, h0, E0'⟩ := ix (i := 0) hd (by show 0 < 3; decide)
    refine q_when (b := true) (et_test (ev_is (ev_sEq E0' ev_c h0 rfl) (by rfl))) (fun _ H1 e1 => ?_) (fun z => by cases z)
    obtain ⟨u1, h1, E1'⟩ := ix (i := 1) (hd.ex e1) (by show 1 < 3; decide)
    obtain ⟨u2, h2, E2'⟩ := ix (i := 2) (hd.ex e1) (by show 2 < 3; decide)
    exact rets (ev_op (now e1 h1 (by omega) E1') (now e1 h2 (by omega) E2') rv_eqI) e1 q rfl
  | test p x =>
    have hd : DtAt H (.tup [.str "test", .str p, .tup [x.dt]]) v := hd
    obtain ⟨u0, h0, E0'⟩ := ix (i := 0) hd (by show 0 < 3; decide)
    refine q_when (b := false) (et_test (ev_is (ev_sEq E0' ev_c h0 rfl) (by rfl))) (fun z => by cases z) (fun _ H1 e1 => ?_)
    obtain ⟨u1, h1, E1'⟩ := ix (i := 1) (hd.ex e1) (by show 1 < 3; decide)
    obtain ⟨u2, h2, E2'⟩ := ix (i := 2) (hd.ex e1) (by show 2 < 3; decide)
    cases h1 with
    | str _ hl =>
      have h2' : DtAt H1 (.tup [x.dt]) u2 := h2
      cases h2' with
      | @tup c _ us k1 k2 =>
        exact rets (ev_methU (ev_var rfl) (e1 _ _ t1) (lk_no3 (by decide +kernel) (by decide +kernel)) E1' (eu_tupN (el_now (n := n) (σ := []) (l := [x]) (ts := ts) E2' k1 k2 (by show 1 ≤ 2; decide) (fun u hu => by rw [List.mem_singleton.mp hu]; exact hn) (hS.mono e1) (hM.mono e1))) fun c2 H3 e3 hc H4 e4 Q q E => ⟨b, ws, ts, p, c2, [x].map (wv (varW vars) (entW xs) (opW ws)), rfl, hM.mono (e1.trans (e3.trans e4)), e4 _ _ hc, q⟩) e1 q rfl
theorem walk_worth {n : Nat} (hn4 : 4 ≤ n + 2) (T : Txt K mg) (C : Cts K mg S M) (X : Ers P K mg XT XS XM) (c_is_term : Cal P w K mg base CX0 4 "is_term" spTerm) (c_check_played : Cal P w K mg base (L2.CX P w) 1 "check_played" (spCheck K S M XS XM))
    (c_worth_now : Cal P w K mg base CX0 (n + 2) "worth_now" (spNow P w S M n)) : Walks P w K mg base (L2.CX P w) (n + 2) "worth" (top 34) ["term", "start", "meaning"] (spWorth P w K S M XT XS XM n) := by
  intro f cdv A outer s H vs Q E hr hsp
  obtain ⟨v1, v2, v3, d, rfl, hd, hsp⟩ := hsp
  obtain ⟨_, _, _, iT⟩ := X.tT
  refine ⟨_, (pss_cons (ps_if (pt_not (pt_val (pe_c c_is_term hr hn4 (pa_cons (pv 0) pa_nil)))) (pss_one (ps_raiseInv rfl iT X.gT T.super hr (takes_of rfl rfl rfl rfl) (pa_cons (pv 0) pa_nil) rfl)) pss_nil)
    (pss_cons (ps_expr (pe_cX c_check_played (passes_call (takes_of rfl rfl rfl rfl) (fun _ _ _ _ h => h)) hr (by omega) (pa_cons (pv 1) (pa_cons (pv 2) pa_nil))))
    (pss_one (ps_ret (pe_c c_worth_now hr (Nat.le_refl _) (pa_cons (pv 0) (pa_cons (pv 1) (pa_cons (pv 2) pa_nil)))))))), ?_⟩
  rcases hsp with ⟨ht, hR⟩ | ⟨ht, hsp⟩
  · refine q_when (b := true) (et_not (a := false) (et_B (ev_is (ev_call (ea_cons (ev_var rfl) ea_nil) (sv_term hd)) (by rw [ht])))) (fun _ H1 e1 => s_raise (ea_cons (ev_var rfl) ea_nil) fun d H2 hd e2 h2 => hR d H2 (fresh_back e1 hd) (e1.trans e2) h2) (fun z => by cases z)
  refine q_when (b := false) (et_not (a := true) (et_B (ev_is (ev_call (ea_cons (ev_var rfl) ea_nil) (sv_term hd)) (by rw [ht])))) (fun z => by cases z) (fun _ H1 e1 => ?_)
  refine ⟨v2, rfl, v3, rfl, v2, v3, rfl, ?_⟩
  rcases hsp with ⟨ho, hR⟩ | ⟨a, vars, xs, rfl, hS, hsp⟩
  · exact .inl ⟨ho.ex e1, hR.mono e1⟩
  refine .inr ⟨?_, ?_⟩
  · obtain ⟨dx, d1, d2, h1, _⟩ := hS.ex
    exact ⟨a, dx, _, rfl, e1 _ _ h1⟩
  rcases hsp with ⟨ho, hR⟩ | ⟨b, ws, ts, t, rfl, hM, rfl, hn, q⟩
  · exact .inl ⟨ho.ex e1, hR.mono e1⟩
  refine .inr ⟨?_, fun H2 e2 => ?_⟩
  · obtain ⟨dx, d1, d2, h1, _⟩ := hM.ex
    exact ⟨b, dx, _, rfl, e1 _ _ h1⟩
  have e12 := e1.trans e2
  exact rets (ev_call (ea_cons (ev_var rfl) (ea_cons (ev_var rfl) (ea_cons (ev_var rfl) ea_nil))) fun H3 e3 Q q E => ⟨v1, a, b, t, vars, xs, ws, ts, rfl, hd.ex (e12.trans e3), hn, hS.mono (e12.trans e3), hM.mono (e12.trans e3), q⟩) e12 q rfl
theorem walk_truth {n : Nat} (hn4 : 5 ≤ n + 3) (T : Txt K mg) (C : Cts K mg S M) (X : Ers P K mg XT XS XM) (c_is_atom : Cal P w K mg base CX0 5 "is_atom" spAtom) (c_check_played : Cal P w K mg base (L2.CX P w) 1 "check_played" (spCheck K S M XS XM))
    (c_truth_now : Cal P w K mg base CX0 (n + 3) "truth_now" (spTNow P w S M n)) : Walks P w K mg base (L2.CX P w) (n + 3) "truth" (top 35) ["atom", "start", "meaning"] (spTruth P w K S M XT XS XM n) := by
  intro f cdv A outer s H vs Q E hr hsp
  obtain ⟨v1, v2, v3, d, rfl, hd, hsp⟩ := hsp
  obtain ⟨_, _, _, iT⟩ := X.tT
  refine ⟨_, (pss_cons (ps_if (pt_not (pt_val (pe_c c_is_atom hr hn4 (pa_cons (pv 0) pa_nil)))) (pss_one (ps_raiseInv rfl iT X.gT T.super hr (takes_of rfl rfl rfl rfl) (pa_cons (pv 0) pa_nil) rfl)) pss_nil)
    (pss_cons (ps_expr (pe_cX c_check_played (passes_call (takes_of rfl rfl rfl rfl) (fun _ _ _ _ h => h)) hr (by omega) (pa_cons (pv 1) (pa_cons (pv 2) pa_nil))))
    (pss_one (ps_ret (pe_c c_truth_now hr (Nat.le_refl _) (pa_cons (pv 0) (pa_cons (pv 1) (pa_cons (pv 2) pa_nil)))))))), ?_⟩
  rcases hsp with ⟨ht, hR⟩ | ⟨ht, hsp⟩
  · refine q_when (b := true) (et_not (a := false) (et_B (ev_is (ev_call (ea_cons (ev_var rfl) ea_nil) (sv_atom hd)) (by rw [ht])))) (fun _ H1 e1 => s_raise (ea_cons (ev_var rfl) ea_nil) fun d H2 hd e2 h2 => hR d H2 (fresh_back e1 hd) (e1.trans e2) h2) (fun z => by cases z)
  refine q_when (b := false) (et_not (a := true) (et_B (ev_is (ev_call (ea_cons (ev_var rfl) ea_nil) (sv_atom hd)) (by rw [ht])))) (fun z => by cases z) (fun _ H1 e1 => ?_)
  refine ⟨v2, rfl, v3, rfl, v2, v3, rfl, ?_⟩
  rcases hsp with ⟨ho, hR⟩ | ⟨a, vars, xs, rfl, hS, hsp⟩
  · exact .inl ⟨ho.ex e1, hR.mono e1⟩
  refine .inr ⟨?_, ?_⟩
  · obtain ⟨dx, d1, d2, h1, _⟩ := hS.ex
    exact ⟨a, dx, _, rfl, e1 _ _ h1⟩
  rcases hsp with ⟨ho, hR⟩ | ⟨b, ws, ts, t, rfl, hM, rfl, hn, q⟩
  · exact .inl ⟨ho.ex e1, hR.mono e1⟩
  refine .inr ⟨?_, fun H2 e2 => ?_⟩
  · obtain ⟨dx, d1, d2, h1, _⟩ := hM.ex
    exact ⟨b, dx, _, rfl, e1 _ _ h1⟩
  have e12 := e1.trans e2
  exact rets (ev_call (ea_cons (ev_var rfl) (ea_cons (ev_var rfl) (ea_cons (ev_var rfl) ea_nil))) fun H3 e3 Q q E => ⟨v1, a, b, t, vars, xs, ws, ts, rfl, hd.ex (e12.trans e3), hn, hS.mono (e12.trans e3), hM.mono (e12.trans e3), q⟩) e12 q rfl
end
end L2.K7

/-! N16: _law_worth, _law_truth, _law_replaced. -/
namespace L2.K7
open PySem PySem.Spec PyProof.Rows
open Evl
section
variable {K : PySem.W.Frag} {P : Program} {w : World} {σ : L2.St} {H : Hp} {ta tb td te tx ty : TE} {v z : V} {C a dx : Addr} {fs : List (Str × V)} {sp : Sp}
theorem en_prop {mk : Addr → HO} (ha : Ev ta σ H (.ref a)) (h : H a = some (.ins C dx fs)) (hs : ∀ H1, Ex H H1 → ∀ Q : VK, (∀ p H2, H1 p = none → Ex H1 H2 → H2 p = some (mk p) → Q (.ref p) H2) → sp [.ref a] H1 Q E0) : EvN (tProp C sp [] E0 ta) σ H mk := fun H1 e Q q =>
  ha H1 e _ fun H2 e2 => ⟨a, dx, fs, rfl, e2 _ _ (e _ _ h), hs H2 (e.trans e2) Q fun p H3 hp e3 h3 => q p H3 (fresh_back e2 hp) (e2.trans e3) h3⟩
theorem ev_dget2N {kvs : List (Key × V)} {k : Key} (hd : EvN td σ H (fun _ => .dK kvs)) (hy : Ev ty σ H (kV k)) (hz : Ev tx σ H z) : Ev (tDGet2 td ty tx) σ H ((valV kvs k).getD z) := fun H1 e Q q =>
  hd H1 e _ fun d H2 _ e2 h2 => ⟨d, rfl, .inl ⟨kvs, .inl h2⟩, hy H2 (e.trans e2) _ fun H3 e3 => hz H3 ((e.trans e2).trans e3) _ fun H4 e4 => ⟨_, .inl ⟨kvs, k, .inl ((e3.trans e4) _ _ h2), rfl, rfl⟩, q H4 ((e2.trans e3).trans e4)⟩⟩
theorem ev_nget2N {xs : NL} {k : DK} {ys : List V} (hd : EvN td σ H (fun p => ndO P w p xs)) (ks : KeysAt H xs) (hy : EvU ty σ H ys) (hk : ∀ b H1, Ex H H1 → H1 b = some (.tup ys) → DKAt H1 b k) (hz : Ev tx σ H z) : Ev (tNGet2 P w td ty tx) σ H ((valN xs k).getD z) := fun H1 e Q q =>
  hd H1 e _ fun d H2 _ e2 h2 => ⟨d, xs, rfl, .inl h2, hy H2 (e.trans e2) _ fun b H3 _ e3 hb => hz H3 ((e.trans e2).trans e3) _ fun H4 e4 => ⟨b, k, rfl, ⟨.inl ((e3.trans e4) _ _ h2), ks.ex (((e.trans e2).trans e3).trans e4)⟩, (hk b H3 ((e.trans e2).trans e3) hb).ex e4, q H4 ((e2.trans e3).trans e4)⟩⟩
end
section
variable {P : Program} {w : World} {K : PySem.W.Frag} {mg : Str → Option Value} {base : Heap} {S M XT XS XM : Addr}
abbrev lwN : List Str := ["_law_term_here", "_law_start_here", "_law_meaning_here", "_law_args", "_law_part"]
abbrev lwS : Scope := defScope (top 43)
abbrev ltN : List Str := ["_law_atom_here", "_law_start_here", "_law_meaning_here", "_law_args", "_law_part"]
abbrev ltS : Scope := defScope (top 44)
theorem el_lnow {n : Nat} {H : Hp} {tl : TE} {l : List Tm} {us : List V} {c a b : Addr} {v : V} {vars : List (Str × Int)} {xs ws ts : NL} (h : Ev tl [some v, some (.ref a), some (.ref b), none, none] H (.ref c)) (hc : H c = some (.tup us)) (hd : DtsAt H (l.map Tm.dt) us) (hl : l.length ≤ 2) (hn : ∀ u ∈ l, u.dep ≤ n) (hS : StAt P w S H a vars xs) (hM : MeAt P w M H b ws ts) :
    EvL (tLc (iTup K tl) (gName 4) tYes (tCall (spNow P w S M n) [] E0 (tCons (tVar 4) (tCons (tVar 1) (tCons (tVar 2) tNil)))) [4]) [some v, some (.ref a), some (.ref b), none, none] H ((l.map (wv (varW vars) (entW xs) (opW ws))).map V.int) := by
  refine el_lcT _ h (st_of hc) (by rw [List.length_map, List.length_map, hd.length, List.length_map]) (by rw [List.length_map, List.length_map]; omega) (fun x => rfl) fun i x y H3 e3 hx hy => ?_
  obtain ⟨di, hdi, hdx⟩ := hd.get hx
  rw [List.getElem?_map] at hdi
  obtain ⟨u, hu, rfl⟩ := Option.map_eq_some_iff.mp hdi
  have e : y = .int (wv (varW vars) (entW xs) (opW ws) u) := by
    rw [List.getElem?_map, List.getElem?_map, hu] at hy
    exact (Option.some.inj hy).symm
  subst e
  exact ev_call (ea_cons (ev_var rfl) (ea_cons (ev_var rfl) (ea_cons (ev_var rfl) ea_nil))) fun H1 e Q q E => ⟨x, a, b, u, vars, xs, ws, ts, rfl, hdx.ex (e3.trans e), hn u (List.mem_of_getElem? hu), hS.mono (e3.trans e), hM.mono (e3.trans e), q⟩
theorem en_ops {H : Hp} {σ : St} {b : Addr} {ws ts : NL} {ta : TE} (ha : Ev ta σ H (.ref b)) (hM : MeAt P w M H b ws ts) : EvN (tProp M (spOperations P w M) [] E0 ta) σ H (fun p => ndO P w p ws) := by
  obtain ⟨dx, d1, d2, h1, _⟩ := hM.ex
  exact en_prop ha h1 fun H1 e Q q => ⟨b, ws, ts, rfl, hM.mono e, q⟩
theorem en_tests {H : Hp} {σ : St} {b : Addr} {ws ts : NL} {ta : TE} (ha : Ev ta σ H (.ref b)) (hM : MeAt P w M H b ws ts) : EvN (tProp M (spTests P w M) [] E0 ta) σ H (fun p => ndO P w p ts) := by
  obtain ⟨dx, d1, d2, h1, _⟩ := hM.ex
  exact en_prop ha h1 fun H1 e Q q => ⟨b, ws, ts, rfl, hM.mono e, q⟩
theorem en_vars {H : Hp} {σ : St} {b : Addr} {vars : List (Str × Int)} {xs : NL} {ta : TE} (ha : Ev ta σ H (.ref b)) (hS : StAt P w S H b vars xs) : EvN (tProp S (spVariables P w S) [] E0 ta) σ H (fun _ => .dK (kvsOf vars)) := by
  obtain ⟨dx, d1, d2, h1, _⟩ := hS.ex
  exact en_prop ha h1 fun H1 e Q q => ⟨b, vars, xs, rfl, hS.mono e, q⟩
theorem en_ents {H : Hp} {σ : St} {b : Addr} {vars : List (Str × Int)} {xs : NL} {ta : TE} (ha : Ev ta σ H (.ref b)) (hS : StAt P w S H b vars xs) : EvN (tProp S (spEntries P w S) [] E0 ta) σ H (fun p => ndO P w p xs) := by
  obtain ⟨dx, d1, d2, h1, _⟩ := hS.ex
  exact en_prop ha h1 fun H1 e Q q => ⟨b, vars, xs, rfl, hS.mono e, q⟩
theorem walk_lworth {n : Nat} (T : Txt K mg) (C : Cts K mg S M) (c_variables : Prp P w K mg base 1 S "variables" (spVariables P w S)) (c_entries : Prp P w K mg base 1 S "entries" (spEntries P w S)) (c_operations : Prp P w K mg base 1 M "operations" (spOperations P w M))
    (c_lw : Cal P w K mg base CX0 (n + 2) "_law_worth" (spNow P w S M n)) : Walks P w K mg base CX0 (n + 2) "_law_worth" (top 43) lwN (spNow P w S M (n + 1)) := by
  intro f cdv A outer s H vs Q E hr hsp
  obtain ⟨v, a, b, t, vars, xs, ws, ts, rfl, hd, hn, hS, hM, q⟩ := hsp
  have nd : lwN.Nodup := by decide +kernel
  refine ⟨_, (pss_cons (ps_if (pt_cmpR op_eq (pe_ix ix_tup (pv 0) pe_int (fun _ _ => rfl)) pe_str (nomark _)) (pss_one (ps_ret (pe_dget2 (u1 hr) (pe_pr c_variables hr (by omega) (pv 1)) (pe_ix ix_tup (pv 0) pe_int (fun _ _ => rfl)) pe_int ⟨rfl, rfl, rfl, rfl⟩))) pss_nil)
    (pss_cons (ps_if (pt_cmpR op_eq (pe_ix ix_tup (pv 0) pe_int (fun _ _ => rfl)) pe_str (nomark _)) (pss_one (ps_ret (pe_nget2 hr.units (pe_pr c_entries hr (by omega) (pv 1)) (pe_tup (pa_cons (pe_ix ix_tup (pv 0) pe_int (fun _ _ => rfl)) (pa_cons (pe_c c_lw hr (Nat.le_refl _) (pa_cons (pe_ix ix_tup (pv 0) pe_int (fun _ _ => rfl)) (pa_cons (pv 1) (pa_cons (pv 2) pa_nil)))) pa_nil))) pe_int ⟨rfl, rfl, rfl, rfl⟩))) pss_nil)
    (pss_cons (ps_set (i := 3) nd rfl (Or.inl rfl) (pe_t call_tuple_of T.tuple b_tuple (pa_cons (pe_lc (own := [("_law_part", 4)]) (g := gName 4) (tt := tYes) rfl nd (pi_tup (pe_ix ix_tup (pv 0) pe_int (fun _ _ => rfl))) (blkOk_by (N := lwN) (sc := lwS) (by decide +kernel)) (fun _ _ _ _ _ => pg_name (i := 4) nd rfl (Or.inl rfl)) (fun _ _ _ _ _ => pts_nil) (fun _ _ _ _ _ => (pe_c c_lw hr (Nat.le_refl _) (pa_cons (pv 4) (pa_cons (pv 1) (pa_cons (pv 2) pa_nil)))))) pa_nil)))
    (pss_one (ps_ret (pe_nget2 hr.units (pe_pr c_operations hr (by omega) (pv 2)) (pe_tup (pa_cons (pe_ix ix_tup (pv 0) pe_int (fun _ _ => rfl)) (pa_cons (pv 3) pa_nil))) pe_int ⟨rfl, rfl, rfl, rfl⟩)))))), ?_⟩
  have ix : ∀ {ds : List Dt} {i : Nat} {H1 : Hp}, DtAt H1 (.tup ds) v → i < ds.length → ∃ u, DtAt H1 (itm ds i) u ∧ Ev (tOp (rIxT K) (tVar 0) (tC (.int (i : Int)))) (start lwN [v, .ref a, .ref b]) H1 u := fun {ds i H1} h hi => ev_itm (ev_var rfl) ev_c h hi
  rcases tm_cases t with ⟨x, rfl⟩ | ⟨x, u, rfl⟩ | ⟨g, l, ho⟩
  · have hd : DtAt H (.tup [.str "var", .str x]) v := hd
    obtain ⟨u0, h0, E0'⟩ := ix (i := 0) hd (by show 0 < 2; decide)
    obtain ⟨u1, h1, E1'⟩ := ix (i := 1) hd (by show 1 < 2; decide)
    refine q_when (b := true) (et_test (ev_is (ev_sEq E0' ev_c h0 rfl) rfl)) (fun _ H1 e1 => ?_) (fun z => by cases z)
    cases h1 with
    | str _ hl =>
      refine rets (ev_dget2N (k := Sum.inr x) (en_vars (ev_var rfl) (hS.mono e1)) (E1'.mono e1) ev_c) e1 q ?_
      rw [valV_kvs]
      show _ = V.int (varW vars x)
      unfold varW
      cases look vars x <;> rfl
  · have hd : DtAt H (.tup [.str "item", .str x, u.dt]) v := hd
    obtain ⟨u0, h0, E0'⟩ := ix (i := 0) hd (by show 0 < 3; decide)
    refine q_when (b := false) (et_test (ev_is (ev_sEq E0' ev_c h0 rfl) (by rfl))) (fun z => by cases z) (fun _ H1 e1 => ?_)
    refine q_when (b := true) (et_test (ev_is (ev_sEq (E0'.mono e1) ev_c (h0.ex e1) rfl) (by rfl))) (fun _ H2 e2 => ?_) (fun z => by cases z)
    have e12 := e1.trans e2
    obtain ⟨u1, h1, E1'⟩ := ix (i := 1) (hd.ex e12) (by show 1 < 3; decide)
    obtain ⟨u2, h2, E2'⟩ := ix (i := 2) (hd.ex e12) (by show 2 < 3; decide)
    cases h1 with
    | str _ hl =>
      have hc : Ev (tCall (spNow P w S M n) [] E0 (tCons (tOp (rIxT K) (tVar 0) (tC (.int ((2 : Nat) : Int)))) (tCons (tVar 1) (tCons (tVar 2) tNil)))) (start lwN [v, .ref a, .ref b]) H2 (.int (wv (varW vars) (entW xs) (opW ws) u)) :=
        ev_call (ea_cons E2' (ea_cons (ev_var rfl) (ea_cons (ev_var rfl) ea_nil))) fun H3 e3 Q q E => ⟨u2, a, b, u, vars, xs, ws, ts, rfl, h2.ex e3, by have : u.dep + 1 ≤ n + 1 := hn; omega, hS.mono (e12.trans e3), hM.mono (e12.trans e3), q⟩
      exact rets (ev_nget2N (k := .ent x (wv (varW vars) (entW xs) (opW ws) u)) (en_ents (ev_var rfl) (hS.mono e12)) (hS.ks.ex e12) (eu_tup (ea_cons E1' (ea_cons hc ea_nil)) (by show 2 ≤ 100000; decide)) (fun b H3 e3 hb => hb) ev_c) e12 q (int_at ph_Ei hS.xo _)
  · obtain ⟨o1, o2, o3, o4, _⟩ := ho
    rw [o1] at hd
    obtain ⟨u0, h0, E0'⟩ := ix (i := 0) hd (by show 0 < 3; decide)
    refine q_when (b := false) (et_test (ev_is (ev_sEq E0' ev_c h0 rfl) (by rfl))) (fun z => by cases z) (fun _ H1 e1 => ?_)
    refine q_when (b := false) (et_test (ev_is (ev_sEq (E0'.mono e1) ev_c (h0.ex e1) rfl) (by rfl))) (fun z => by cases z) (fun _ H2 e2 => ?_)
    have e12 := e1.trans e2
    obtain ⟨u2, h2, E2'⟩ := ix (i := 2) (hd.ex e12) (by show 2 < 3; decide)
    have h2' : DtAt H2 (.tup (l.map Tm.dt)) u2 := h2
    cases h2' with
    | @tup c _ us k1 k2 =>
      refine q_asgU (eu_tupN (el_lnow (n := n) E2' k1 k2 o3 (fun u hu => by have := o2 u hu; omega) (hS.mono e12) (hM.mono e12))) fun c2 H3 _ e3 hc => ?_
      have e13 := e12.trans e3
      have hd3 := hd.ex e13
      obtain ⟨u1, h1, E1'⟩ := ev_itm (K := K) (σ := (start lwN [v, .ref a, .ref b]).set 3 (some (.ref c2))) (ta := tVar 0) (tb := tC (.int 1)) (i := 1) (ev_var rfl) ev_c hd3 (by show 1 < 3; decide)
      cases h1 with
      | str _ hl =>
        refine rets (ev_nget2N (k := .ask g (l.map (wv (varW vars) (entW xs) (opW ws)))) (en_ops (ev_var rfl) (hM.mono e13)) (hM.kw.ex e13) (eu_tup (ea_cons E1' (ea_cons (ev_var rfl) ea_nil)) (by show 2 ≤ 100000; decide)) (fun b H4 e4 hb => ⟨c2, hb, e4 _ _ hc⟩) ev_c) e13 q ?_
        rw [o4]
        exact int_at ph_Oi hM.wo _
theorem walk_ltruth {n : Nat} (T : Txt K mg) (C : Cts K mg S M) (c_tests : Prp P w K mg base 1 M "tests" (spTests P w M))
    (c_lw : Cal P w K mg base CX0 (n + 2) "_law_worth" (spNow P w S M n)) : Walks P w K mg base CX0 (n + 2) "_law_truth" (top 44) ltN (spTNow P w S M n) := by
  intro f cdv A outer s H vs Q E hr hsp
  obtain ⟨v, a, b, t, vars, xs, ws, ts, rfl, hd, hn, hS, hM, q⟩ := hsp
  have nd : ltN.Nodup := by decide +kernel
  refine ⟨_, (pss_cons (ps_if (pt_cmpR op_eq (pe_ix ix_tup (pv 0) pe_int (fun _ _ => rfl)) pe_str (nomark _)) (pss_one (ps_ret (pe_cmpR op_eq (pe_c c_lw hr (Nat.le_refl _) (pa_cons (pe_ix ix_tup (pv 0) pe_int (fun _ _ => rfl)) (pa_cons (pv 1) (pa_cons (pv 2) pa_nil)))) (pe_c c_lw hr (Nat.le_refl _) (pa_cons (pe_ix ix_tup (pv 0) pe_int (fun _ _ => rfl)) (pa_cons (pv 1) (pa_cons (pv 2) pa_nil)))) (nomark _)))) pss_nil)
    (pss_cons (ps_set (i := 3) nd rfl (Or.inl rfl) (pe_t call_tuple_of T.tuple b_tuple (pa_cons (pe_lc (own := [("_law_part", 4)]) (g := gName 4) (tt := tYes) rfl nd (pi_tup (pe_ix ix_tup (pv 0) pe_int (fun _ _ => rfl))) (blkOk_by (N := ltN) (sc := ltS) (by decide +kernel)) (fun _ _ _ _ _ => pg_name (i := 4) nd rfl (Or.inl rfl)) (fun _ _ _ _ _ => pts_nil) (fun _ _ _ _ _ => (pe_c c_lw hr (Nat.le_refl _) (pa_cons (pv 4) (pa_cons (pv 1) (pa_cons (pv 2) pa_nil)))))) pa_nil)))
    (pss_one (ps_ret (pe_nget2 hr.units (pe_pr c_tests hr (by omega) (pv 2)) (pe_tup (pa_cons (pe_ix ix_tup (pv 0) pe_int (fun _ _ => rfl)) (pa_cons (pv 3) pa_nil))) pe_bl ⟨rfl, rfl, rfl, rfl⟩))))), ?_⟩
  have ix : ∀ {ds : List Dt} {i : Nat} {H1 : Hp}, DtAt H1 (.tup ds) v → i < ds.length → ∃ u, DtAt H1 (itm ds i) u ∧ Ev (tOp (rIxT K) (tVar 0) (tC (.int (i : Int)))) (start ltN [v, .ref a, .ref b]) H1 u := fun {ds i H1} h hi => ev_itm (ev_var rfl) ev_c h hi
  have now : ∀ {t : Tm} {H1 : Hp} {u : V} {te : TE}, Ex H H1 → DtAt H1 t.dt u → t.dep ≤ n → Ev te (start ltN [v, .ref a, .ref b]) H1 u → Ev (tCall (spNow P w S M n) [] E0 (tCons te (tCons (tVar 1) (tCons (tVar 2) tNil)))) (start ltN [v, .ref a, .ref b]) H1 (.int (wv (varW vars) (entW xs) (opW ws) t)) := fun {t H1 u te} e1 hd hn he =>
    ev_call (ea_cons he (ea_cons (ev_var rfl) (ea_cons (ev_var rfl) ea_nil))) fun H3 e3 Q q E => ⟨u, a, b, t, vars, xs, ws, ts, rfl, hd.ex e3, hn, hS.mono (e1.trans e3), hM.mono (e1.trans e3), q⟩
  cases t with
  | same x y =>
    have hd : DtAt H (.tup [.str "same", x.dt, y.dt]) v := hd
    have hn : max x.dep y.dep ≤ n := hn
    obtain ⟨u0, h0, E0'⟩ := ix (i := 0) hd (by show 0 < 3; decide)
    refine q_when (b := true) (et_test (ev_is (ev_sEq E0' ev_c h0 rfl) (by rfl))) (fun _ H1 e1 => ?_) (fun z => by cases z)
    obtain ⟨u1, h1, E1'⟩ := ix (i := 1) (hd.ex e1) (by show 1 < 3; decide)
    obtain ⟨u2, h2, E2'⟩ := ix (i := 2) (hd.ex e1) (by show 2 < 3; decide)
    exact rets (ev_op (now e1 h1 (by omega) E1') (now e1 h2 (by omega) E2') rv_eqI) e1 q rfl
  | test p x =>
    have hd : DtAt H (.tup [.str "test", .str p, .tup [x.dt]]) v := hd
    obtain ⟨u0, h0, E0'⟩ := ix (i := 0) hd (by show 0 < 3; decide)
    refine q_when (b := false) (et_test (ev_is (ev_sEq E0' ev_c h0 rfl) (by rfl))) (fun z => by cases z) (fun _ H1 e1 => ?_)
    obtain ⟨u2, h2, E2'⟩ := ix (i := 2) (hd.ex e1) (by show 2 < 3; decide)
    have h2' : DtAt H1 (.tup [x.dt]) u2 := h2
    cases h2' with
    | @tup c _ us k1 k2 =>
      refine q_asgU (eu_tupN (el_lnow (n := n) (l := [x]) (ts := ts) E2' k1 k2 (by show 1 ≤ 2; decide) (fun u hu => by rw [List.mem_singleton.mp hu]; exact hn) (hS.mono e1) (hM.mono e1))) fun c2 H3 _ e3 hc => ?_
      have e13 := e1.trans e3
      have hd3 := hd.ex e13
      obtain ⟨u1, h1, E1'⟩ := ev_itm (K := K) (σ := (start ltN [v, .ref a, .ref b]).set 3 (some (.ref c2))) (ta := tVar 0) (tb := tC (.int 1)) (i := 1) (ev_var rfl) ev_c hd3 (by show 1 < 3; decide)
      cases h1 with
      | str _ hl =>
        exact rets (ev_nget2N (k := .ask p ([x].map (wv (varW vars) (entW xs) (opW ws)))) (en_tests (ev_var rfl) (hM.mono e13)) (hM.kt.ex e13) (eu_tup (ea_cons E1' (ea_cons (ev_var rfl) ea_nil)) (by show 2 ≤ 100000; decide)) (fun b H4 e4 hb => ⟨c2, hb, e4 _ _ hc⟩) ev_c) e13 q (bl_at ph_Tb hM.to_ _)
end
end L2.K7

/-! N17: values that are data; _law_replaced. -/
namespace L2.K7
open PySem PySem.Spec PyProof.Rows
open Evl
def EvD (te : TE) (σ : L2.St) (H : Hp) (d : Dt) : Prop := ∀ H1, Ex H H1 → ∀ Q : VK, (∀ u H2, Ex H1 H2 → DtAt H2 d u → Q u H2) → te σ H1 Q
def EvLD (te : TE) (σ : L2.St) (H : Hp) (ds : List Dt) : Prop := ∀ H1, Ex H H1 → ∀ Q : VK, (∀ p us H2, H1 p = none → Ex H1 H2 → H2 p = some (.lst us) → DtsAt H2 ds us → Q (.ref p) H2) → te σ H1 Q
def EvAD (ta : TA) (σ : L2.St) (H : Hp) (ds : List Dt) : Prop := ∀ H1, Ex H H1 → ∀ Q : List V → Hp → Prop, (∀ us H2, Ex H1 H2 → DtsAt H2 ds us → Q us H2) → ta σ H1 Q
theorem EvD.mono {te : TE} {σ : L2.St} {H H' : Hp} {d : Dt} (e : Ex H H') (h : EvD te σ H d) : EvD te σ H' d := fun H1 a Q q => h H1 (e.trans a) Q q
section
variable {K : PySem.W.Frag} {P : Program} {w : World} {σ : L2.St} {H : Hp} {ta : TA} {tb td te tx ty : TE} {v z : V} {d : Dt} {ds : List Dt} {D : Ends}
theorem ed_ev (h : Ev te σ H v) (hd : DtAt H d v) : EvD te σ H d := fun H1 e Q q => h H1 e _ fun H2 e2 => q v H2 e2 (hd.ex (e.trans e2))
theorem ead_nil : EvAD tNil σ H [] := fun H1 e Q q => q [] H1 (Ex.refl H1) .nil
theorem ead_cons {tr : TA} (h : EvD te σ H d) (hr : EvAD tr σ H ds) : EvAD (tCons te tr) σ H (d :: ds) := fun H1 e Q q => h H1 e _ fun u H2 e2 hu => hr H2 (e.trans e2) _ fun us H3 e3 hus => q (u :: us) H3 (e2.trans e3) (.cons (hu.ex e3) hus)
theorem tup_new {H1 : Hp} {us : List V} {p : Addr} (hd : DtsAt H1 ds us) (hp : H1 p = none) : DtAt (upd H1 p (.tup us)) (.tup ds) (.ref p) := .tup upd_same (hd.ex (Ex.new hp))
theorem ed_tup (h : EvAD ta σ H ds) (hl : ds.length ≤ 100000) : EvD (tTup ta) σ H (.tup ds) := fun H1 e Q q => h H1 e _ fun us H2 e2 hu => ⟨sz_of (by rw [hu.length]; exact hl), fun p hp => q (.ref p) _ (e2.trans (Ex.new hp)) (tup_new hu hp)⟩
theorem ed_tupN (h : EvLD te σ H ds) : EvD (tCB (rTupOf K) (tCons te tNil)) σ H (.tup ds) := fun H1 e Q q =>
  h H1 e _ fun p us H2 _ e2 hp hd => ⟨p, us, rfl, Or.inl ⟨sq_of hp, fun l hl => q (.ref l) _ (e2.trans (Ex.new hl)) (tup_new hd hl)⟩⟩
theorem s_retD (h : EvD te σ H d) (k : ∀ u H1, Ex H H1 → DtAt H1 d u → D.rt u H1) : tRet te D σ H := h H (Ex.refl H) _ k
theorem q_asgD {tz : TS} {i : Nat} (h : EvD te σ H d) (k : ∀ u H1, Ex H H1 → DtAt H1 d u → tz D (σ.set i (some u)) H1) : tSeq (tAsg te (gName i)) tz D σ H := h H (Ex.refl H) _ k
/-- [e for x in t], t a tuple, the values data -/
theorem eld_lcT {a : Addr} {xs : List V} {tl : TE} {j : Nat} {vs : List Nat} (h : Ev tl σ H (.ref a)) (hx : SqT K H a xs) (hl : ds.length = xs.length) (hz : ds.length ≤ 40000) (hw : ∀ x, wipe ((wipe σ vs).set j (some x)) vs = wipe σ vs)
    (he : ∀ (i : Nat) (x : V) (d : Dt), xs[i]? = some x → ds[i]? = some d → EvD te ((wipe σ vs).set j (some x)) H d) :
    EvLD (tLc (iTup K tl) (gName j) tYes te vs) σ H ds := fun H0 e Q q => h H0 e _ fun H1 e1 => ⟨a, rfl, ⟨xs, ex_t (e.trans e1) hx⟩, fun Dl hD =>
  lc_tup (K := K) (a := a) (xs := xs) (fun i H' => Ex H1 H' ∧ ∃ us, H' Dl = some (.lst us) ∧ DtsAt H' (ds.take i) us) ⟨Ex.new hD, [], upd_same, .nil⟩ (fun i H' _ p => ex_t ((e.trans e1).trans p.1) hx)
    (fun i x H' hi p => by
      obtain ⟨p1, us, p2, p3⟩ := p
      have hlt : i < ds.length := by rw [hl]; exact (List.getElem?_eq_some_iff.mp hi).1
      have hdi := List.getElem?_eq_getElem hlt
      refine ⟨hw x, ?_⟩
      show te _ H' _
      refine (he i x _ hi hdi) H' ((e.trans e1).trans p1) _ fun u H4 e4 hu => ?_
      have hul : us.length ≤ 40000 := by
        rw [p3.length]
        exact Nat.le_trans (List.length_take_le' _ _) hz
      have xt : ExT H4 (upd H4 Dl (.lst (us ++ [u]))) := ExT.at (ExT.refl H4) (by intro vs z; rw [e4 _ _ p2] at z; cases z)
      refine ⟨us, e4 _ _ p2, Nat.lt_of_le_of_lt hul (by decide), Ex.mut (p1.trans e4) hD, _, upd_same, ?_⟩
      rw [take_snoc hdi]
      exact ((p3.ex e4).xt xt).app ((DtsAt.cons hu .nil).xt xt))
    (fun H' p => by
      obtain ⟨p1, us, p2, p3⟩ := p
      rw [← hl, List.take_length] at p3
      exact q Dl us H' (fresh_back e1 hD) (e1.trans p1) p2 p3)⟩
end
def spRepl (n : Nat) : Sp := fun vs H Q _ => ∃ v vo x t o, vs = [v, .str x, vo] ∧ DtAt H (Tm.dt t) v ∧ DtAt H (Tm.dt o) vo ∧ t.dep ≤ n ∧ ∀ u H2, Ex H H2 → DtAt H2 (repl x o t).dt u → Q u H2
section
variable {P : Program} {w : World} {K : PySem.W.Frag} {mg : Str → Option Value} {base : Heap}
abbrev reN : List Str := ["_law_term_here", "_law_name", "_law_other", "_law_part"]
abbrev reS : Scope := defScope (top 46)
theorem walk_repl {n : Nat} (T : Txt K mg) (c_re : Cal P w K mg base CX0 (n + 2) "_law_replaced" (spRepl n)) : Walks P w K mg base CX0 (n + 2) "_law_replaced" (top 46) reN (spRepl (n + 1)) := by
  intro f cdv A outer s H vs Q E hr hsp
  obtain ⟨v, vo, x, t, o, rfl, hd, hdo, hn, q⟩ := hsp
  have nd : reN.Nodup := by decide +kernel
  refine ⟨_, (pss_cons (ps_if (pt_cmpR op_eq (pe_ix ix_tup (pv 0) pe_int (fun _ _ => rfl)) pe_str (nomark _)) (pss_one (ps_ret (pe_ifExp (pt_cmpR op_eq (pe_ix ix_tup (pv 0) pe_int (fun _ _ => rfl)) (pv 1) (nomark _)) (pv 2) (pv 0)))) pss_nil)
    (pss_cons (ps_if (pt_cmpR op_eq (pe_ix ix_tup (pv 0) pe_int (fun _ _ => rfl)) pe_str (nomark _)) (pss_one (ps_ret (pe_tup (pa_cons pe_str (pa_cons (pe_ix ix_tup (pv 0) pe_int (fun _ _ => rfl)) (pa_cons (pe_c c_re hr (Nat.le_refl _) (pa_cons (pe_ix ix_tup (pv 0) pe_int (fun _ _ => rfl)) (pa_cons (pv 1) (pa_cons (pv 2) pa_nil)))) pa_nil)))))) pss_nil)
    (pss_one (ps_ret (pe_tup (pa_cons (pe_ix ix_tup (pv 0) pe_int (fun _ _ => rfl)) (pa_cons (pe_ix ix_tup (pv 0) pe_int (fun _ _ => rfl)) (pa_cons (pe_t call_tuple_of T.tuple b_tuple (pa_cons (pe_lc (own := [("_law_part", 3)]) (g := gName 3) (tt := tYes) rfl nd (pi_tup (pe_ix ix_tup (pv 0) pe_int (fun _ _ => rfl))) (blkOk_by (N := reN) (sc := reS) (by decide +kernel)) (fun _ _ _ _ _ => pg_name (i := 3) nd rfl (Or.inl rfl)) (fun _ _ _ _ _ => pts_nil) (fun _ _ _ _ _ => (pe_c c_re hr (Nat.le_refl _) (pa_cons (pv 3) (pa_cons (pv 1) (pa_cons (pv 2) pa_nil)))))) pa_nil)) pa_nil)))))))), ?_⟩
  have ix : ∀ {ds : List Dt} {i : Nat} {H1 : Hp}, DtAt H1 (.tup ds) v → i < ds.length → ∃ u, DtAt H1 (itm ds i) u ∧ Ev (tOp (rIxT K) (tVar 0) (tC (.int (i : Int)))) (start reN [v, .str x, vo]) H1 u := fun {ds i H1} h hi => ev_itm (ev_var rfl) ev_c h hi
  rcases tm_cases t with ⟨y, rfl⟩ | ⟨y, u, rfl⟩ | ⟨g, l, ho⟩
  · have hd : DtAt H (.tup [.str "var", .str y]) v := hd
    obtain ⟨u0, h0, E0'⟩ := ix (i := 0) hd (by show 0 < 2; decide)
    obtain ⟨u1, h1, E1'⟩ := ix (i := 1) hd (by show 1 < 2; decide)
    refine q_when (b := true) (et_test (ev_is (ev_sEq E0' ev_c h0 rfl) rfl)) (fun _ H1 e1 => ?_) (fun z => by cases z)
    cases h1 with
    | str _ hl =>
      refine s_retIf (b := decide (y = x)) (et_test (ev_op (E1'.mono e1) (ev_var rfl) rv_eqS)) (fun hb H2 e2 => ?_) (fun hb H2 e2 => ?_)
      · have e : repl x o (.var y) = o := if_pos (by simpa using hb)
        refine s_ret (ev_var rfl) fun H3 e3 => q vo H3 (e1.trans (e2.trans e3)) ?_
        rw [e]
        exact hdo.ex (e1.trans (e2.trans e3))
      · have e : repl x o (.var y) = .var y := if_neg (by simpa using hb)
        refine s_ret (ev_var rfl) fun H3 e3 => q v H3 (e1.trans (e2.trans e3)) ?_
        rw [e]
        exact DtAt.ex hd (e1.trans (e2.trans e3))
  · have hd : DtAt H (.tup [.str "item", .str y, u.dt]) v := hd
    obtain ⟨u0, h0, E0'⟩ := ix (i := 0) hd (by show 0 < 3; decide)
    refine q_when (b := false) (et_test (ev_is (ev_sEq E0' ev_c h0 rfl) (by rfl))) (fun z => by cases z) (fun _ H1 e1 => ?_)
    refine q_when (b := true) (et_test (ev_is (ev_sEq (E0'.mono e1) ev_c (h0.ex e1) rfl) (by rfl))) (fun _ H2 e2 => ?_) (fun z => by cases z)
    have e12 := e1.trans e2
    obtain ⟨u1, h1, E1'⟩ := ix (i := 1) (hd.ex e12) (by show 1 < 3; decide)
    obtain ⟨u2, h2, E2'⟩ := ix (i := 2) (hd.ex e12) (by show 2 < 3; decide)
    have hc : EvD (tCall (spRepl n) [] E0 (tCons (tOp (rIxT K) (tVar 0) (tC (.int ((2 : Nat) : Int)))) (tCons (tVar 1) (tCons (tVar 2) tNil)))) (start reN [v, .str x, vo]) H2 (repl x o u).dt := fun H3 e3 Q q =>
      (ea_cons E2' (ea_cons (ev_var rfl) (ea_cons (ev_var rfl) ea_nil))) H3 e3 _ fun H4 e4 => ⟨u2, vo, x, u, o, rfl, h2.ex (e3.trans e4), hdo.ex (e12.trans (e3.trans e4)), by have : u.dep + 1 ≤ n + 1 := hn; omega, fun z H5 e5 hz => q z H5 (e4.trans e5) hz⟩
    refine s_retD (ed_tup (ead_cons (ed_ev ev_c (.str "item" (by decide))) (ead_cons (ed_ev E1' h1) (ead_cons hc ead_nil))) (by show 3 ≤ 100000; decide)) fun z H3 e3 hz => q z H3 (e12.trans e3) hz
  · obtain ⟨o1, o2, o3, _, o5⟩ := ho
    rw [o1] at hd
    obtain ⟨u0, h0, E0'⟩ := ix (i := 0) hd (by show 0 < 3; decide)
    refine q_when (b := false) (et_test (ev_is (ev_sEq E0' ev_c h0 rfl) (by rfl))) (fun z => by cases z) (fun _ H1 e1 => ?_)
    refine q_when (b := false) (et_test (ev_is (ev_sEq (E0'.mono e1) ev_c (h0.ex e1) rfl) (by rfl))) (fun z => by cases z) (fun _ H2 e2 => ?_)
    have e12 := e1.trans e2
    obtain ⟨u1, h1, E1'⟩ := ix (i := 1) (hd.ex e12) (by show 1 < 3; decide)
    obtain ⟨u2, h2, E2'⟩ := ix (i := 2) (hd.ex e12) (by show 2 < 3; decide)
    have h2' : DtAt H2 (.tup (l.map Tm.dt)) u2 := h2
    cases h2' with
    | @tup c _ us k1 k2 =>
      have hL : EvLD (tLc (iTup K (tOp (rIxT K) (tVar 0) (tC (.int ((2 : Nat) : Int))))) (gName 3) tYes (tCall (spRepl n) [] E0 (tCons (tVar 3) (tCons (tVar 1) (tCons (tVar 2) tNil)))) [3]) (start reN [v, .str x, vo]) H2 ((l.map (repl x o)).map Tm.dt) := by
        refine eld_lcT E2' (st_of k1) (by rw [List.length_map, List.length_map, k2.length, List.length_map]) (by rw [List.length_map, List.length_map]; omega) (fun x => rfl) fun i z dd hx hy => ?_
        obtain ⟨di, hdi, hdx⟩ := k2.get hx
        rw [List.getElem?_map] at hdi
        obtain ⟨u, hu, rfl⟩ := Option.map_eq_some_iff.mp hdi
        have e : dd = (repl x o u).dt := by
          rw [List.getElem?_map, List.getElem?_map, hu] at hy
          exact (Option.some.inj hy).symm
        subst e
        exact fun H3 e3 Q q => (ea_cons (ev_var rfl) (ea_cons (ev_var rfl) (ea_cons (ev_var rfl) ea_nil))) H3 e3 _ fun H4 e4 => ⟨z, vo, x, u, o, rfl, hdx.ex (e3.trans e4), hdo.ex (e12.trans (e3.trans e4)), by have := o2 u (List.mem_of_getElem? hu); omega, fun z H5 e5 hz => q z H5 (e4.trans e5) hz⟩
      refine s_retD (ed_tup (ead_cons (ed_ev (E0'.mono e12) (h0.ex e12)) (ead_cons (ed_ev E1' h1) (ead_cons (ed_tupN hL) ead_nil))) (by show 3 ≤ 100000; decide)) fun z H3 e3 hz => q z H3 (e12.trans e3) ?_
      rw [o5]
      exact hz
end
end L2.K7

/-! N18: _law_pool, _law_draw. -/
namespace L2.K7
open PySem PySem.Spec PyProof.Rows
open Evl
def poolV (n seed : Int) (ws : List Str) : List V := .int n :: .int seed :: ws.map V.str
structure PoolOk (n seed : Int) (ws : List Str) : Prop where
  n0 : 0 ≤ n
  s0 : 0 ≤ seed
  s1 : seed < 2147483647
  len : ws.length = 5
  nm : ∀ x ∈ ws, nameB x = true
def spPool (K : PySem.W.Frag) : Sp := fun vs H Q _ => ∃ (s : Addr) (ns : List Int) (k : Nat), vs = [.ref s, .int (k : Int)] ∧ k ≤ 7 ∧ SqL K H s (ns.map V.int) ∧ ∀ p H2 n seed ws, H p = none → Ex H H2 → H2 p = some (.lst (poolV n seed ws)) → PoolOk n seed ws → Q (.ref p) H2
def spDraw : Sp := fun vs H Q _ => ∃ p n seed ws c, vs = [.ref p, .int c] ∧ 0 < c ∧ c < 1000 ∧ H p = some (.lst (poolV n seed ws)) ∧ PoolOk n seed ws ∧
  ∀ r n2 seed2 H2, ExP p H H2 → H2 p = some (.lst (poolV n2 seed2 ws)) → PoolOk n2 seed2 ws → 0 ≤ r → r < c → Q (.int r) H2
section
variable {K : PySem.W.Frag} {P : Program} {w : World} {σ : L2.St} {H : Hp} {ta tb td te tx ty : TE} {v z : V} {D : Ends} {tz : TS}
theorem rc_int {r : List V → Hp → VK → Prop} {i : Int} (hr : r = fun xs H Q => (∃ i, xs = [.int i] ∧ Q (.int i) H) ∨ ∃ k, xs = [.bl k] ∧ Q (.int (if k then 1 else 0)) H) : RC r [.int i] H (.int i) := fun H1 _ Q q => by
  subst hr
  exact .inl ⟨i, rfl, q H1 (Ex.refl H1)⟩
def rInt1 : List V → Hp → VK → Prop := fun xs H Q => (∃ i, xs = [.int i] ∧ Q (.int i) H) ∨ ∃ k, xs = [.bl k] ∧ Q (.int (if k then 1 else 0)) H
theorem ev_int {i : Int} (h : Ev ta σ H (.int i)) : Ev (tCB rInt1 (tCons ta tNil)) σ H (.int i) := fun H1 e Q q => h H1 e _ fun H2 e2 => .inl ⟨i, rfl, q H2 e2⟩
theorem ev_intB {b : Bool} (h : Ev ta σ H (.bl b)) : Ev (tCB rInt1 (tCons ta tNil)) σ H (.int (if b then 1 else 0)) := fun H1 e Q q => h H1 e _ fun H2 e2 => .inr ⟨b, rfl, q H2 e2⟩
def rAbs1 : List V → Hp → VK → Prop := fun xs H Q => ∃ i, xs = [.int i] ∧ Q (.int (if i < 0 then -i else i)) H
theorem ev_abs {i : Int} (h : Ev ta σ H (.int i)) : Ev (tCB rAbs1 (tCons ta tNil)) σ H (.int (if i < 0 then -i else i)) := fun H1 e Q q => h H1 e _ fun H2 e2 => ⟨i, rfl, q H2 e2⟩
theorem q_whenAsg {t : TT} {b : Bool} {i : Nat} (Φ : V → Prop) (h : EvT t σ H b) (he : b = true → ∃ v, Φ v ∧ Ev te σ H v) (h0 : b = false → ∃ v, Φ v ∧ σ.set i (some v) = σ) (k : ∀ v H1, Φ v → Ex H H1 → tz D (σ.set i (some v)) H1) :
    tSeq (tIfS t (tAsg te (gName i)) tNext) tz D σ H :=
  q_when h (fun hb H1 e1 => by
    obtain ⟨v, hv, hE⟩ := he hb
    exact s_asg (D := { D with nx := tz D }) (hE.mono e1) fun H2 e2 => k v H2 hv (e1.trans e2)) (fun hb H1 e1 => by
    obtain ⟨v, hv, hs⟩ := h0 hb
    have g := k v H1 hv e1
    rw [hs] at g
    exact g)
/-! lists of lists of texts -/
def EvG (te : TE) (σ : L2.St) (H : Hp) (F : V → Hp → Prop) : Prop := ∀ H1, Ex H H1 → ∀ Q : VK, (∀ u H2, Ex H1 H2 → F u H2 → Q u H2) → te σ H1 Q
def LstS (ws : List Str) (u : V) (H : Hp) : Prop := ∃ p, u = .ref p ∧ H p = some (.lst (ws.map V.str))
inductive LL (H : Hp) : List (List Str) → List V → Prop
  | nil : LL H [] []
  | cons {ws : List Str} {u : V} {wss : List (List Str)} {us : List V} : LstS ws u H → LL H wss us → LL H (ws :: wss) (u :: us)
theorem LL.ex {H H' : Hp} (e : Ex H H') {wss : List (List Str)} {us : List V} (h : LL H wss us) : LL H' wss us := by
  induction h with
  | nil => exact .nil
  | cons h _ ih =>
    obtain ⟨p, h1, h2⟩ := h
    exact .cons ⟨p, h1, e _ _ h2⟩ ih
theorem LL.app {H : Hp} {a b : List (List Str)} {us vs : List V} (h : LL H a us) (k : LL H b vs) : LL H (a ++ b) (us ++ vs) := by
  induction h with
  | nil => exact k
  | cons h _ ih => exact .cons h ih
theorem LL.length {H : Hp} {a : List (List Str)} {us : List V} (h : LL H a us) : us.length = a.length := by
  induction h with
  | nil => rfl
  | cons _ _ ih => rw [List.length_cons, List.length_cons, ih]
theorem LL.at {H : Hp} {a : List (List Str)} {us : List V} (h : LL H a us) : ∀ {i : Nat}, i < a.length → ∃ ws u, a[i]? = some ws ∧ us[i]? = some u ∧ LstS ws u H := by
  induction h with
  | nil => intro i hi; exact absurd hi (Nat.not_lt_zero _)
  | cons h _ ih =>
    intro i hi
    cases i with
    | zero => exact ⟨_, _, rfl, rfl, h⟩
    | succ i =>
      obtain ⟨ws, u, h1, h2, h3⟩ := ih (Nat.lt_of_succ_lt_succ hi)
      exact ⟨ws, u, h1, h2, h3⟩
def LLs (wss : List (List Str)) (u : V) (H : Hp) : Prop := ∃ p us, u = .ref p ∧ H p = some (.lst us) ∧ LL H wss us
theorem LLs.ex {H H' : Hp} (e : Ex H H') {wss : List (List Str)} {u : V} (h : LLs wss u H) : LLs wss u H' := let ⟨p, us, a, b, c⟩ := h; ⟨p, us, a, e _ _ b, c.ex e⟩
theorem ea_strs : ∀ {ws : List Str} {ta : TA}, (∀ (σ : St) (H : Hp), EvA ta σ H (ws.map V.str)) → ws.length ≤ 100000 → ∀ (σ : St) (H : Hp), EvL (tLst ta) σ H (ws.map V.str) := fun h hl σ H => el_lst (h σ H) (by rw [List.length_map]; exact hl)
theorem eg_ll {wss : List (List Str)} {ta : TA} (h : ∀ H1, Ex H H1 → ∀ Q : List V → Hp → Prop, (∀ us H2, Ex H1 H2 → LL H2 wss us → Q us H2) → ta σ H1 Q) (hl : wss.length ≤ 100000) : EvG (tLst ta) σ H (LLs wss) := fun H1 e Q q =>
  h H1 e _ fun us H2 e2 hu => ⟨sz_of (by rw [hu.length]; exact hl), fun p hp => q (.ref p) _ (e2.trans (Ex.new hp)) ⟨p, us, rfl, upd_same, hu.ex (Ex.new hp)⟩⟩
theorem ll_nil : ∀ H1, Ex H H1 → ∀ Q : List V → Hp → Prop, (∀ us H2, Ex H1 H2 → LL H2 [] us → Q us H2) → tNil σ H1 Q := fun H1 _ Q q => q [] H1 (Ex.refl H1) .nil
theorem ll_cons {ws : List Str} {wss : List (List Str)} {tr : TA} (h : EvL te σ H (ws.map V.str)) (hr : ∀ H1, Ex H H1 → ∀ Q : List V → Hp → Prop, (∀ us H2, Ex H1 H2 → LL H2 wss us → Q us H2) → tr σ H1 Q) :
    ∀ H1, Ex H H1 → ∀ Q : List V → Hp → Prop, (∀ us H2, Ex H1 H2 → LL H2 (ws :: wss) us → Q us H2) → tCons te tr σ H1 Q := fun H1 e Q q =>
  h H1 e _ fun p H2 _ e2 hp => hr H2 (e.trans e2) _ fun us H3 e3 hu => q _ H3 (e2.trans e3) (.cons ⟨p, rfl, e3 _ _ hp⟩ hu)
theorem q_asgG {i : Nat} {F : V → Hp → Prop} (h : EvG te σ H F) (k : ∀ u H1, Ex H H1 → F u H1 → tz D (σ.set i (some u)) H1) : tSeq (tAsg te (gName i)) tz D σ H := h H (Ex.refl H) _ k
theorem eg_cat {a b : List (List Str)} (ha : Ev ta σ H v) (hv : LLs a v H) (hb : EvG tb σ H (LLs b)) (hl : a.length + b.length ≤ 100000) : EvG (tOp rCat ta tb) σ H (LLs (a ++ b)) := fun H1 e Q q =>
  ha H1 e _ fun H2 e2 => hb H2 (e.trans e2) _ fun u H3 e3 hu => by
    obtain ⟨p, us, rfl, h1, h2⟩ := hv
    obtain ⟨p2, us2, rfl, h3, h4⟩ := hu
    have e13 := (e.trans e2).trans e3
    exact ⟨p, p2, us, us2, rfl, rfl, e13 _ _ h1, h3, sz_of (by rw [h2.length, h4.length]; exact hl), fun l hl => q (.ref l) _ ((e2.trans e3).trans (Ex.new hl)) ⟨l, us ++ us2, rfl, upd_same, ((h2.ex e13).app h4).ex (Ex.new hl)⟩⟩
end
theorem s_retCat {σ : St} {H : Hp} {ta tb : TE} {D : Ends} {xs zs : List V} {b : Addr} (ha : EvL ta σ H xs) (hb : ∀ H1, Ex H H1 → Ev tb σ H1 (.ref b)) (hB : H b = some (.lst zs)) (hl : xs.length + zs.length ≤ 100000) (k : ∀ l H1, H l = none → Ex H H1 → H1 l = some (.lst (xs ++ zs)) → D.rt (.ref l) H1) : tRet (tOp rCat ta tb) D σ H :=
  ha H (Ex.refl H) _ fun p H1 hp e1 h1 => hb H1 e1 H1 (Ex.refl H1) _ fun H2 e2 => ⟨p, b, xs, zs, rfl, rfl, e2 _ _ h1, (e1.trans e2) _ _ hB, sz_of hl, fun l hl => k l _ (fresh_back (e1.trans e2) hl) ((e1.trans e2).trans (Ex.new hl)) upd_same⟩
def wordLists : List (List Str) := ([["a", "f", "g", "c", "p"], ["grid", "v", "v", "v", "x"]] : List (List Str)) ++ ([["i", "add", "mul", "none", "v"], ["longname", "p", "q", "p", "p"]] : List (List Str))
theorem words_ok : ∀ ws ∈ wordLists, ws.length = 5 ∧ ∀ x ∈ ws, nameB x = true := by decide +kernel
section
variable {P : Program} {w : World} {K : PySem.W.Frag} {mg : Str → Option Value} {base : Heap}
abbrev plN : List Str := ["_law_script", "_law_k", "_law_cell", "_law_size", "_law_seed", "_law_words"]
theorem walk_pool (T : Txt K mg) : Walks P w K mg base CX0 0 "_law_pool" (top 37) plN (spPool K) := by
  intro f cdv A outer s H vs Q E hr hsp
  obtain ⟨sc, ns, k, rfl, hk, hsq, q⟩ := hsp
  have nd : plN.Nodup := by decide +kernel
  refine ⟨_, (pss_cons (ps_set (i := 2) nd rfl (Or.inl rfl) pe_int)
    (pss_cons (ps_if (pt_cmpR op_lt (pv 1) (pe_b call_len_seq T.len b_len (pa_cons (pv 0) pa_nil)) (nomark _)) (pss_one (ps_set (i := 2) nd rfl (Or.inl rfl) (pe_ix ix_list (pv 0) (pv 1) (fun _ _ => rfl)))) pss_nil)
    (pss_cons (ps_set (i := 3) nd rfl (Or.inl rfl) (pe_b call_abs T.abs b_abs (pa_cons (pv 2) pa_nil)))
    (pss_cons (ps_set (i := 4) nd rfl (Or.inl rfl) (pe_op op_mod (pe_op op_mul (pe_op op_add (pe_op op_add (pe_op op_mod (pv 3) pe_int) (pe_op op_mul pe_int (pv 1))) pe_int) pe_int) pe_int))
    (pss_cons (ps_set (i := 5) nd rfl (Or.inl rfl) (pe_lst (pa_cons (pe_lst (pa_cons pe_str (pa_cons pe_str (pa_cons pe_str (pa_cons pe_str (pa_cons pe_str pa_nil)))))) (pa_cons (pe_lst (pa_cons pe_str (pa_cons pe_str (pa_cons pe_str (pa_cons pe_str (pa_cons pe_str pa_nil)))))) pa_nil))))
    (pss_cons (ps_set (i := 5) nd rfl (Or.inl rfl) (pe_op op_cat (pv 5) (pe_lst (pa_cons (pe_lst (pa_cons pe_str (pa_cons pe_str (pa_cons pe_str (pa_cons pe_str (pa_cons pe_str pa_nil)))))) (pa_cons (pe_lst (pa_cons pe_str (pa_cons pe_str (pa_cons pe_str (pa_cons pe_str (pa_cons pe_str pa_nil)))))) pa_nil)))))
    (pss_one (ps_ret (pe_op op_cat (pe_lst (pa_cons (pe_op op_mul (pv 3) (pe_t call_int1 T.int b_int (pa_cons (pe_cmpR op_ge (pv 3) (pe_op op_pow pe_int pe_int) (nomark _)) pa_nil))) (pa_cons (pv 4) pa_nil))) (pe_ix ix_list (pv 5) (pe_op op_mod (pv 4) pe_int) (fun _ _ => rfl))))))))))), ?_⟩
  refine q_asg (v := .int 0) ev_c fun H1 e1 => ?_
  refine q_whenAsg (fun v => ∃ c, v = .int c) (b := decide ((k : Int) < ((ns.map V.int).length : Int))) (et_test (ev_op (ev_var rfl) (ev_len (ev_var rfl) (ex_l e1 hsq)) rv_I0)) (fun hb => ?_) (fun _ => ⟨.int 0, ⟨0, rfl⟩, rfl⟩) fun v H2 hv e2 => ?_
  · have hlt : k < (ns.map V.int).length := by simpa using hb
    refine ⟨.int (ns[k]'(by simpa using hlt)), ⟨_, rfl⟩, ev_op (ev_var rfl) (ev_var rfl) (rv_ixL (ex_l e1 hsq) (atI_nat ?_))⟩
    rw [List.getElem?_map, List.getElem?_eq_getElem (by simpa using hlt)] <;> rfl
  obtain ⟨c, rfl⟩ := hv
  refine q_asg (ev_abs (ev_var rfl)) fun H3 e3 => ?_
  have hs : 0 ≤ (if c < 0 then -c else c) := by split <;> omega
  generalize hsz : (if c < 0 then -c else c) = sz at hs
  have hm1 : 0 ≤ sz % 2147483629 := Int.emod_nonneg _ (by decide)
  have hm2 : sz % 2147483629 < 2147483629 := Int.emod_lt_of_pos _ (by decide)
  refine q_asg (v := .int ((sz % 2147483629 + 7919 * (k : Int) + 31) * 48271 % 2147483647)) (ev_op (ev_op (ev_op (ev_op (ev_op (ev_var rfl) ev_c (rv_I (by show (0 : Int) < 2147483629; decide))) (ev_op ev_c (ev_var rfl) (rv_I (.inl ⟨by decide, by decide⟩))) rv_I0) ev_c rv_I0) ev_c (rv_I (.inr ⟨by decide, by decide⟩))) ev_c (rv_I (by show (0 : Int) < 2147483647; decide))) fun H4 e4 => ?_
  have hq1 : 0 ≤ (sz % 2147483629 + 7919 * (k : Int) + 31) * 48271 % 2147483647 := Int.emod_nonneg _ (by decide)
  have hq2 : (sz % 2147483629 + 7919 * (k : Int) + 31) * 48271 % 2147483647 < 2147483647 := Int.emod_lt_of_pos _ (by decide)
  generalize (sz % 2147483629 + 7919 * (k : Int) + 31) * 48271 % 2147483647 = sd at hq1 hq2
  refine q_asgG (F := LLs [["a", "f", "g", "c", "p"], ["grid", "v", "v", "v", "x"]]) (eg_ll (ll_cons (ws := ["a", "f", "g", "c", "p"]) (el_lst (ea_cons ev_c (ea_cons ev_c (ea_cons ev_c (ea_cons ev_c (ea_cons ev_c ea_nil))))) (by decide)) (ll_cons (ws := ["grid", "v", "v", "v", "x"]) (el_lst (ea_cons ev_c (ea_cons ev_c (ea_cons ev_c (ea_cons ev_c (ea_cons ev_c ea_nil))))) (by decide)) ll_nil)) (by decide)) fun u5 H5 e5 h5 => ?_
  refine q_asgG (F := LLs wordLists) (eg_cat (ev_var rfl) h5 (eg_ll (ll_cons (ws := ["i", "add", "mul", "none", "v"]) (el_lst (ea_cons ev_c (ea_cons ev_c (ea_cons ev_c (ea_cons ev_c (ea_cons ev_c ea_nil))))) (by decide)) (ll_cons (ws := ["longname", "p", "q", "p", "p"]) (el_lst (ea_cons ev_c (ea_cons ev_c (ea_cons ev_c (ea_cons ev_c (ea_cons ev_c ea_nil))))) (by decide)) ll_nil)) (by decide)) (by decide)) fun u6 H6 e6 h6 => ?_
  obtain ⟨p, us, rfl, hp, hll⟩ := h6
  have hi1 : 0 ≤ sd % 4 := Int.emod_nonneg _ (by decide)
  have hi2 : sd % 4 < 4 := Int.emod_lt_of_pos _ (by decide)
  have hi3 : (sd % 4).toNat < wordLists.length := by show (sd % 4).toNat < 4; omega
  obtain ⟨ws, u, ha, hu, pw, rfl, hw⟩ := hll.at hi3
  have hi4 : ((sd % 4).toNat : Int) = sd % 4 := Int.toNat_of_nonneg hi1
  have hix : atI us (sd % 4) = some (.ref pw) := by
    rw [← hi4]
    exact atI_nat hu
  have hwo := words_ok ws (List.mem_of_getElem? ha)
  have eAll := ((((e1.trans e2).trans e3).trans e4).trans e5).trans e6
  have hE : EvL (tLst (tCons (tOp (rI CMul fun i j => .int (i * j)) (tVar 3) (tCB rInt1 (tCons (tOp (rI0 fun i j => .bl (decide (j ≤ i))) (tVar 3) (tOp (rI CPow fun i j => .int (i ^ j.toNat)) (tC (.int 10)) (tC (.int 18)))) tNil))) (tCons (tVar 4) tNil))) [some (.ref sc), some (.int (k : Int)), some (.int c), some (.int sz), some (.int sd), some (.ref p)] H6 [.int (sz * if decide (((10 : Int) ^ (18 : Int).toNat) ≤ sz) = true then 1 else 0), .int sd] := by
    refine el_lst (ea_cons (ev_op (ev_var rfl) (ev_intB (ev_op (ev_var rfl) (ev_op ev_c ev_c (rv_I ⟨by decide, by decide, by decide⟩)) rv_I0)) (rv_I ?_)) (ea_cons (ev_var rfl) ea_nil)) (by show 2 ≤ 100000; decide)
    refine .inr ?_
    split <;> exact ⟨by decide, by decide⟩
  refine s_retCat hE (fun H7 e7 => ev_op (ev_var rfl) (ev_op (ev_var rfl) ev_c (rv_I (by show (0 : Int) < 4; decide))) (rv_ixL (sq_of (e7 _ _ hp)) hix)) hw (by rw [List.length_map, hwo.1]; show 2 + 5 ≤ 100000; decide) fun l H7 hl e7 h7 => ?_
  refine q l _ _ sd ws (fresh_back eAll hl) (eAll.trans e7) h7 ⟨?_, hq1, hq2, hwo.1, hwo.2⟩
  refine Int.mul_nonneg hs ?_
  split <;> decide
abbrev drN : List Str := ["_law_pool_here", "_law_count", "_law_found"]
theorem walk_draw (T : Txt K mg) : Walks P w K mg base CX0 0 "_law_draw" (top 38) drN spDraw := by
  intro f cdv A outer s H vs Q E hr hsp
  obtain ⟨p, n, seed, ws, c, rfl, hc, hc2, hp, ok, q⟩ := hsp
  have nd : drN.Nodup := by decide +kernel
  refine ⟨_, (pss_cons (ps_if (pt_cmpR op_gt (pe_ix ix_list (pv 0) pe_int (fun _ _ => rfl)) pe_int (nomark _)) (pss_cons (ps_set (i := 2) nd rfl (Or.inl rfl) (pe_op op_mod (pe_t call_int1 T.int b_int (pa_cons (pe_ix ix_list (pv 0) pe_int (fun _ _ => rfl)) pa_nil)) (pv 1)))
    (pss_cons (ps_asg (pe_op op_fdiv (pe_t call_int1 T.int b_int (pa_cons (pe_ix ix_list (pv 0) pe_int (fun _ _ => rfl)) pa_nil)) (pv 1)) (pg_sub (pv 0) pe_int set_list))
    (pss_one (ps_ret (pv 2))))) pss_nil)
    (pss_cons (ps_asg (pe_op op_mod (pe_t call_int1 T.int b_int (pa_cons (pe_op op_add (pe_op op_mul (pe_ix ix_list (pv 0) pe_int (fun _ _ => rfl)) pe_int) pe_int) pa_nil)) pe_int) (pg_sub (pv 0) pe_int set_list))
    (pss_one (ps_ret (pe_op op_mod (pe_t call_int1 T.int b_int (pa_cons (pe_op op_fdiv (pe_op op_mod (pe_t call_int1 T.int b_int (pa_cons (pe_op op_mul (pe_ix ix_list (pv 0) pe_int (fun _ _ => rfl)) (pe_ix ix_list (pv 0) pe_int (fun _ _ => rfl))) pa_nil)) pe_int) pe_int) pa_nil)) (pv 1)))))), ?_⟩
  have g0 : ∀ {H1 : Hp} {σ : St} {n seed : Int}, σ[0]? = some (some (.ref p)) → H1 p = some (.lst (poolV n seed ws)) → Ev (tOp (rIxL K) (tVar 0) (tC (.int ((0 : Nat) : Int)))) σ H1 (.int n) := fun h0 h => ev_op (ev_var h0) ev_c (rv_ixL (sq_of h) (atI_nat rfl))
  have g1 : ∀ {H1 : Hp} {σ : St} {n seed : Int}, σ[0]? = some (some (.ref p)) → H1 p = some (.lst (poolV n seed ws)) → Ev (tOp (rIxL K) (tVar 0) (tC (.int ((1 : Nat) : Int)))) σ H1 (.int seed) := fun h0 h => ev_op (ev_var h0) ev_c (rv_ixL (sq_of h) (atI_nat rfl))
  refine q_when (b := decide (0 < n)) (et_test (ev_op (g0 rfl hp) ev_c rv_I0)) (fun hb H1 e1 => ?_) (fun hb H1 e1 => ?_)
  · have hp1 := e1 _ _ hp
    refine q_asg (v := .int (n % c)) (ev_op (ev_int (g0 rfl hp1)) (ev_var rfl) (rv_I hc)) fun H2 e2 => ?_
    have hp2 := e2 _ _ hp1
    refine q_setL (j := 0) (v := .int (n / c)) hp2 (ev_op (ev_int (g0 rfl hp2)) (ev_var rfl) (rv_I ⟨hc, by omega⟩)) (ev_var rfl) ev_c (by show 0 < _ + 1; omega) fun H3 e3 => ?_
    refine s_ret (ev_var rfl) fun H4 e4 => q (n % c) (n / c) seed H4 ((((e1.trans e2).trans e3).p.at).trans e4.p) (e4 _ _ upd_same) ⟨Int.ediv_nonneg ok.n0 (by omega), ok.s0, ok.s1, ok.len, ok.nm⟩ (Int.emod_nonneg _ (by omega)) (Int.emod_lt_of_pos _ hc)
  · have hp1 := e1 _ _ hp
    have hsb1 := ok.s0
    have hsb2 := ok.s1
    refine q_setL (j := 1) (v := .int ((seed * 48271 + 11) % 2147483647)) hp1 (ev_op (ev_int (ev_op (ev_op (g1 rfl hp1) ev_c (rv_I (.inl ⟨by omega, by omega⟩))) ev_c rv_I0)) ev_c (rv_I (by show (0 : Int) < 2147483647; decide))) (ev_var rfl) ev_c (by show 1 < _ + 1 + 1; omega) fun H2 e2 => ?_
    have hn1 : 0 ≤ (seed * 48271 + 11) % 2147483647 := Int.emod_nonneg _ (by decide)
    have hn2 : (seed * 48271 + 11) % 2147483647 < 2147483647 := Int.emod_lt_of_pos _ (by decide)
    generalize (seed * 48271 + 11) % 2147483647 = s2 at hn1 hn2
    have hp2 : upd H2 p (.lst ((poolV n seed ws).set 1 (.int s2))) p = some (.lst (poolV n s2 ws)) := upd_same
    refine s_ret (v := .int (s2 * s2 % 2147483629 / 64 % c)) (ev_op (ev_int (ev_op (ev_op (ev_int (ev_op (g1 rfl hp2) (g1 rfl hp2) (rv_I (.inl ⟨by omega, by omega⟩)))) ev_c (rv_I (by show (0 : Int) < 2147483629; decide))) ev_c (rv_I ⟨by decide, by decide⟩))) (ev_var rfl) (rv_I hc)) fun H4 e4 => ?_
    exact q _ n s2 H4 ((((e1.trans e2)).p.at).trans e4.p) (e4 _ _ hp2) ⟨ok.n0, hn1, hn2, ok.len, ok.nm⟩ (Int.emod_nonneg _ (by omega)) (Int.emod_lt_of_pos _ hc)
end
end L2.K7

/-! N19: _law_term, _law_atom. -/
namespace L2.K7
open PySem PySem.Spec PyProof.Rows
open Evl
def PoolSt (p : Addr) (ws : List Str) (H : Hp) : Prop := ∃ n seed, H p = some (.lst (poolV n seed ws)) ∧ PoolOk n seed ws
theorem PoolSt.ex {p : Addr} {ws : List Str} {H H' : Hp} (h : PoolSt p ws H) (e : Ex H H') : PoolSt p ws H' := let ⟨n, s, a, b⟩ := h; ⟨n, s, e _ _ a, b⟩
theorem PoolSt.xt {p : Addr} {ws : List Str} {H H' : Hp} (h : PoolSt p ws H) (e : ExP p H H') : ExT H H' := e.tt (by obtain ⟨n, s, a, _⟩ := h; intro vs z; rw [a] at z; cases z)
theorem ExP.refl {p : Addr} {H : Hp} : ExP p H H := fun _ _ _ h => h
def Tm.wf : Tm → Bool
  | .var x => nameB x
  | .item x t => nameB x && t.wf
  | .op0 f => nameB f
  | .op1 f t => nameB f && t.wf
  | .op2 f t u => nameB f && (t.wf && u.wf)
def Tm.size : Tm → Nat
  | .var _ => 1
  | .item _ t => t.size + 1
  | .op0 _ => 1
  | .op1 _ t => t.size + 1
  | .op2 _ t u => t.size + u.size + 1
structure TmOk (d : Nat) (t : Tm) : Prop where
  wf : t.wf = true
  dep : t.dep ≤ d
  size : t.size ≤ 2 * d
structure AtOk (d : Nat) (t : At) : Prop where
  ok : match t with
    | .same t u => TmOk d t ∧ TmOk 1 u
    | .test p t => nameB p = true ∧ TmOk d t
def NamesAt (nl : Addr) (ns : List Str) (H : Hp) : Prop := H nl = some (.lst (ns.map V.str)) ∧ ns ≠ [] ∧ ns.length ≤ 3 ∧ ∀ x ∈ ns, nameB x = true
def spGenTerm (n : Nat) : Sp := fun vs H Q _ => ∃ (p nl : Addr) (ws ns : List Str) (d : Nat), vs = [.ref p, .ref nl, .int (d : Int)] ∧ 1 ≤ d ∧ d ≤ n ∧ PoolSt p ws H ∧ NamesAt nl ns H ∧ nl ≠ p ∧
  ∀ t u H2, ExP p H H2 → PoolSt p ws H2 → DtAt H2 (Tm.dt t) u → TmOk d t → Q u H2
def spGenAtom (n : Nat) : Sp := fun vs H Q _ => ∃ (p nl : Addr) (ws ns : List Str) (d : Nat), vs = [.ref p, .ref nl, .int (d : Int)] ∧ 1 ≤ d ∧ d ≤ n ∧ PoolSt p ws H ∧ NamesAt nl ns H ∧ nl ≠ p ∧
  ∀ t u H2, ExP p H H2 → PoolSt p ws H2 → DtAt H2 (At.dt t) u → AtOk d t → Q u H2
/-- data made while the pool turns -/
def EvQ (p : Addr) (ws : List Str) (te : TE) (σ : L2.St) (H : Hp) (A : Dt → Prop) : Prop := ∀ H1, ExP p H H1 → PoolSt p ws H1 → ∀ Q : VK, (∀ u d H2, ExP p H1 H2 → PoolSt p ws H2 → DtAt H2 d u → A d → Q u H2) → te σ H1 Q
def EvQA (p : Addr) (ws : List Str) (ta : TA) (σ : L2.St) (H : Hp) (A : List Dt → Prop) : Prop := ∀ H1, ExP p H H1 → PoolSt p ws H1 → ∀ Q : List V → Hp → Prop, (∀ us ds H2, ExP p H1 H2 → PoolSt p ws H2 → DtsAt H2 ds us → A ds → Q us H2) → ta σ H1 Q
section
variable {p : Addr} {ws : List Str} {K : PySem.W.Frag} {P : Program} {w : World} {σ : L2.St} {H : Hp} {te tb tx ty : TE} {ta tr : TA} {v : V} {D : Ends} {tz : TS} {A : Dt → Prop} {B : List Dt → Prop}
theorem eq_nil : EvQA p ws tNil σ H (fun ds => ds = []) := fun H1 e hp Q q => q [] [] H1 ExP.refl hp .nil rfl
theorem eq_cons (h : EvQ p ws te σ H A) (hr : EvQA p ws tr σ H B) : EvQA p ws (tCons te tr) σ H (fun ds => ∃ d r, ds = d :: r ∧ A d ∧ B r) := fun H1 e hp Q q =>
  h H1 e hp _ fun u d H2 e2 hp2 hd ha => hr H2 (e.trans e2) hp2 _ fun us ds H3 e3 hp3 hds hb => q (u :: us) (d :: ds) H3 (e2.trans e3) hp3 (.cons (hd.xt (hp2.xt e3)) hds) ⟨d, ds, rfl, ha, hb⟩
theorem eq_tup (h : EvQA p ws ta σ H B) (hl : ∀ ds, B ds → ds.length ≤ 100000) : EvQ p ws (tTup ta) σ H (fun d => ∃ ds, d = .tup ds ∧ B ds) := fun H1 e hp Q q =>
  h H1 e hp _ fun us ds H2 e2 hp2 hds hb => ⟨sz_of (by rw [hds.length]; exact hl ds hb), fun l hl => q (.ref l) (.tup ds) _ (e2.trans (Ex.new hl).p) (hp2.ex (Ex.new hl)) (tup_new hds hl) ⟨ds, rfl, hb⟩⟩
theorem eq_str {x : Str} (hx : x.length ≤ 1000) : EvQ p ws (tC (.str x)) σ H (fun d => d = .str x) := fun H1 e hp Q q => q _ _ H1 ExP.refl hp (.str x hx) rfl
/-- pool[i], a word -/
theorem eq_word {j : Nat} (h0 : σ[0]? = some (some (.ref p))) (hj : j < 5) : EvQ p ws (tOp (rIxL K) (tVar 0) (tC (.int ((j + 2 : Nat) : Int)))) σ H (fun d => ∃ x, d = .str x ∧ nameB x = true) := fun H1 e hp Q q => by
  obtain ⟨n, s, a, ok⟩ := id hp
  have hlt : j < ws.length := by rw [ok.len]; exact hj
  have hx : ws[j]? = some ws[j] := List.getElem?_eq_getElem hlt
  have hat : (poolV n s ws)[j + 2]? = some (.str ws[j]) := by
    show (ws.map V.str)[j]? = _
    rw [List.getElem?_map, hx] <;> rfl
  refine (ev_op (ev_var h0) ev_c (rv_ixL (sq_of a) (atI_nat hat))) H1 (Ex.refl H1) Q fun H2 e2 => q _ _ H2 e2.p (hp.ex e2) (.str _ (name_len (ok.nm _ (List.mem_of_getElem? hx)))) ⟨_, rfl, ok.nm _ (List.mem_of_getElem? hx)⟩
/-- a draw -/
theorem q_draw {c : Int} {H1 : Hp} (h : EvA ta σ H1 [.ref p, .int c]) (hc : 0 < c) (hc2 : c < 1000) (hp : PoolSt p ws H1) {Q : VK} (q : ∀ r H2, ExP p H1 H2 → PoolSt p ws H2 → 0 ≤ r → r < c → Q (.int r) H2) : tCall spDraw [] E0 ta σ H1 Q :=
  h H1 (Ex.refl H1) _ fun H2 e2 => by
    obtain ⟨n, s, a, ok⟩ := hp
    exact ⟨p, n, s, ws, c, rfl, hc, hc2, e2 _ _ a, ok, fun r n2 s2 H3 e3 hp3 ok3 h1 h2 => q r H3 (e2.p.trans e3) ⟨n2, s2, hp3, ok3⟩ h1 h2⟩
/-- if draw(..) == 0 -/
theorem q_ifDraw {c : Int} {tu tw : TS} (h : EvA ta σ H [.ref p, .int c]) (hc : 0 < c) (hc2 : c < 1000) (hp : PoolSt p ws H) (h1 : ∀ H1, ExP p H H1 → PoolSt p ws H1 → tu { D with nx := tz D } σ H1) (h2 : ∀ H1, ExP p H H1 → PoolSt p ws H1 → tw { D with nx := tz D } σ H1) :
    tSeq (tIfS (tTest (tOp rEq (tCall spDraw [] E0 ta) (tC (.int 0)))) tu tw) tz D σ H :=
  q_draw h hc hc2 hp fun r H1 e1 hp1 _ _ => ⟨rfl, _, rfl, by
    cases hb : decide (V.int r = V.int 0) with
    | true => exact h1 H1 e1 hp1
    | false => exact h2 H1 e1 hp1⟩
theorem q_asgDraw {c : Int} {i : Nat} (h : EvA ta σ H [.ref p, .int c]) (hc : 0 < c) (hc2 : c < 1000) (hp : PoolSt p ws H) (k : ∀ r H1, ExP p H H1 → PoolSt p ws H1 → 0 ≤ r → r < c → tz D (σ.set i (some (.int r))) H1) : tSeq (tAsg (tCall spDraw [] E0 ta) (gName i)) tz D σ H :=
  q_draw h hc hc2 hp k
theorem s_retQ (h : EvQ p ws te σ H A) (hp : PoolSt p ws H) (k : ∀ u d H1, ExP p H H1 → PoolSt p ws H1 → DtAt H1 d u → A d → D.rt u H1) : tRet te D σ H := h H ExP.refl hp _ k
end
section
variable {P : Program} {w : World} {K : PySem.W.Frag} {mg : Str → Option Value} {base : Heap}
abbrev gtN : List Str := ["_law_pool_here", "_law_names", "_law_depth", "_law_mode"]
theorem NamesAt.ex {nl : Addr} {ns : List Str} {H H' : Hp} (h : NamesAt nl ns H) (e : Ex H H') : NamesAt nl ns H' := ⟨e _ _ h.1, h.2⟩
theorem NamesAt.xp {p nl : Addr} {ns : List Str} {H H' : Hp} (h : NamesAt nl ns H) (e : ExP p H H') (hn : nl ≠ p) : NamesAt nl ns H' := ⟨e _ _ hn h.1, h.2⟩
/-- a drawn term by a call -/
theorem eq_term {n d : Nat} {p nl : Addr} {ws ns : List Str} {σ : St} {H : Hp} {ta : TA} (h : ∀ H1, EvA ta σ H1 [.ref p, .ref nl, .int (d : Int)]) (h1 : 1 ≤ d) (h2 : d ≤ n) (hn : NamesAt nl ns H) (hne : nl ≠ p) :
    EvQ p ws (tCall (spGenTerm n) [] E0 ta) σ H (fun z => ∃ t, z = Tm.dt t ∧ TmOk d t) := fun H1 e hp Q q =>
  h H1 H1 (Ex.refl H1) _ fun H2 e2 => ⟨p, nl, ws, ns, d, rfl, h1, h2, hp.ex e2, (hn.xp e hne).ex e2, hne, fun t u H3 e3 hp3 hd hk => q u _ H3 (e2.p.trans e3) hp3 hd ⟨t, rfl, hk⟩⟩
theorem walk_genTerm {n : Nat} (T : Txt K mg) (c_draw : Cal P w K mg base CX0 1 "_law_draw" spDraw) (c_gt : Cal P w K mg base CX0 (n + 2) "_law_term" (spGenTerm n)) : Walks P w K mg base CX0 (n + 2) "_law_term" (top 39) gtN (spGenTerm (n + 1)) := by
  intro f cdv A outer s H vs Q E hr hsp
  obtain ⟨p, nl, ws, ns, d, rfl, hd1, hd2, hp, hn, hne, q⟩ := hsp
  have nd : gtN.Nodup := by decide +kernel
  refine ⟨_, (pss_cons (ps_set (i := 3) nd rfl (Or.inl rfl) (pe_c c_draw hr (by omega) (pa_cons (pv 0) (pa_cons pe_int pa_nil))))
    (pss_cons (ps_if (PW.pt (pw_or (pt_cmpR op_lt (pv 2) pe_int (nomark _)) (pw_or1 (pt_cmpR op_lt (pv 3) pe_int (nomark _))))) (pss_cons (ps_if (pt_cmpR op_eq (pe_c c_draw hr (by omega) (pa_cons (pv 0) (pa_cons pe_int pa_nil))) pe_int (nomark _)) (pss_one (ps_ret (pe_tup (pa_cons pe_str (pa_cons (pe_ix ix_list (pv 0) pe_int (fun _ _ => rfl)) (pa_cons (pe_tup pa_nil) pa_nil)))))) pss_nil)
    (pss_one (ps_ret (pe_tup (pa_cons pe_str (pa_cons (pe_ix ix_list (pv 1) (pe_c c_draw hr (by omega) (pa_cons (pv 0) (pa_cons (pe_b call_len_seq T.len b_len (pa_cons (pv 1) pa_nil)) pa_nil))) (fun _ _ => rfl)) pa_nil)))))) pss_nil)
    (pss_cons (ps_if (pt_cmpR op_lt (pv 3) pe_int (nomark _)) (pss_one (ps_ret (pe_tup (pa_cons pe_str (pa_cons (pe_ix ix_list (pv 0) pe_int (fun _ _ => rfl)) (pa_cons (pe_c c_gt hr (Nat.le_refl _) (pa_cons (pv 0) (pa_cons (pv 1) (pa_cons (pe_op op_sub (pv 2) pe_int) pa_nil)))) pa_nil)))))) pss_nil)
    (pss_cons (ps_if (pt_cmpR op_eq (pv 3) pe_int (nomark _)) (pss_one (ps_ret (pe_tup (pa_cons pe_str (pa_cons (pe_ix ix_list (pv 0) pe_int (fun _ _ => rfl)) (pa_cons (pe_tup (pa_cons (pe_c c_gt hr (Nat.le_refl _) (pa_cons (pv 0) (pa_cons (pv 1) (pa_cons (pe_op op_sub (pv 2) pe_int) pa_nil)))) pa_nil)) pa_nil)))))) pss_nil)
    (pss_one (ps_ret (pe_tup (pa_cons pe_str (pa_cons (pe_ix ix_list (pv 0) pe_int (fun _ _ => rfl)) (pa_cons (pe_tup (pa_cons (pe_c c_gt hr (Nat.le_refl _) (pa_cons (pv 0) (pa_cons (pv 1) (pa_cons (pe_op op_sub (pv 2) pe_int) pa_nil)))) (pa_cons (pe_c c_gt hr (Nat.le_refl _) (pa_cons (pv 0) (pa_cons (pv 1) (pa_cons pe_int pa_nil)))) pa_nil))) pa_nil)))))))))), ?_⟩
  refine q_asgDraw (p := p) (ws := ws) (c := 7) (ea_cons (ev_var rfl) (ea_cons ev_c ea_nil)) (by decide) (by decide) hp fun r H1 e1 hp1 hr0 hr7 => ?_
  have hn1 := hn.xp e1 hne
  refine q_when (b := decide ((d : Int) < 2) || decide (r < 3)) (et_or (et_test (ev_op (ev_var rfl) ev_c rv_I0)) fun _ => et_test (ev_op (ev_var rfl) ev_c rv_I0)) (fun hb H2 e2 => ?_) (fun hb H2 e2 => ?_)
  · have hp2 := hp1.ex e2
    have hn2 := hn1.ex e2
    refine q_ifDraw (p := p) (ws := ws) (c := 6) (ea_cons (ev_var rfl) (ea_cons ev_c ea_nil)) (by decide) (by decide) hp2 (fun H3 e3 hp3 => ?_) (fun H3 e3 hp3 => ?_)
    · refine s_retQ (p := p) (ws := ws) (eq_tup (eq_cons (eq_str (x := "op") (by decide)) (eq_cons (eq_word (j := 3) rfl (by decide)) (eq_cons (eq_tup eq_nil (fun ds h => by rw [h]; exact Nat.zero_le _)) eq_nil))) ?_) hp3 fun u z H4 e4 hp4 hz ha => ?_
      · rintro ds ⟨_, _, rfl, _, _, _, rfl, _, _, _, rfl, _, rfl⟩
        show 3 ≤ 100000
        decide
      · obtain ⟨_, rfl, _, _, rfl, rfl, _, _, rfl, ⟨x, rfl, hx⟩, _, _, rfl, ⟨_, rfl, rfl⟩, rfl⟩ := ha
        exact q (.op0 x) u H4 ((e1.trans e2.p).trans (e3.trans e4)) hp4 hz ⟨hx, hd1, by show 1 ≤ 2 * d; omega⟩
    · have hE : EvQ p ws (tOp (rIxL K) (tVar 1) (tCall spDraw [] E0 (tCons (tVar 0) (tCons (tCB (rLenS K) (tCons (tVar 1) tNil)) tNil)))) ((start gtN [.ref p, .ref nl, .int (d : Int)]).set 3 (some (.int r))) H3 (fun z => ∃ x, z = .str x ∧ nameB x = true) := by
        intro H4 e4 hp4 Q q
        have hn4 := (hn2.xp e3 hne).xp e4 hne
        refine ⟨_, rfl, ?_⟩
        have hl1 : 0 < ns.length := List.length_pos_iff.mpr hn4.2.1
        have hl3 := hn4.2.2.1
        refine q_draw (p := p) (ws := ws) (c := (ns.length : Int)) (ea_cons (ev_var rfl) (ea_cons (ev_is (ev_len (ev_var rfl) (sq_of hn4.1)) (by rw [List.length_map])) ea_nil)) (by omega) (by omega) hp4 fun i H5 e5 hp5 hi0 hi1 => ?_
        have hn5 := hn4.xp e5 hne
        have hi2 : ((i.toNat : Nat) : Int) = i := Int.toNat_of_nonneg hi0
        have hlt : i.toNat < ns.length := by omega
        obtain ⟨x, hx⟩ : ∃ x, ns[i.toNat]? = some x := ⟨_, List.getElem?_eq_getElem hlt⟩
        have hok := hn5.2.2.2 _ (List.mem_of_getElem? hx)
        refine ⟨nl, _, i, .str x, rfl, rfl, sq_of hn5.1, ?_, q _ _ H5 e5 hp5 (.str _ (name_len hok)) ⟨_, rfl, hok⟩⟩
        rw [← hi2]
        refine atI_nat ?_
        rw [List.getElem?_map]
        show Option.map V.str ns[i.toNat]? = _
        rw [hx] <;> rfl
      refine s_retQ (p := p) (ws := ws) (eq_tup (eq_cons (eq_str (x := "var") (by decide)) (eq_cons hE eq_nil)) ?_) hp3 fun u z H4 e4 hp4 hz ha => ?_
      · rintro ds ⟨_, _, rfl, _, _, _, rfl, _, rfl⟩
        show 2 ≤ 100000
        decide
      · obtain ⟨_, rfl, _, _, rfl, rfl, _, _, rfl, ⟨x, rfl, hx⟩, rfl⟩ := ha
        exact q (.var x) u H4 ((e1.trans e2.p).trans (e3.trans e4)) hp4 hz ⟨hx, hd1, by show 1 ≤ 2 * d; omega⟩
  · have hp2 := hp1.ex e2
    have hn2 := hn1.ex e2
    have hd3 : 2 ≤ d := by
      rw [Bool.or_eq_false_iff] at hb
      have : ¬ ((d : Int) < 2) := by simpa using hb.1
      omega
    have hsub : ∀ (H1 : Hp) (σ : St), σ[0]? = some (some (.ref p)) → σ[1]? = some (some (.ref nl)) → σ[2]? = some (some (.int (d : Int))) → EvA (tCons (tVar 0) (tCons (tVar 1) (tCons (tOp (rI0 fun i j => .int (i - j)) (tVar 2) (tC (.int 1))) tNil))) σ H1 [.ref p, .ref nl, .int ((d - 1 : Nat) : Int)] := fun H1 σ h0 h1 h2 =>
      ea_cons (ev_var h0) (ea_cons (ev_var h1) (ea_cons (ev_is (ev_op (ev_var h2) ev_c rv_I0) (by rw [Int.ofNat_sub (by omega)] <;> rfl)) ea_nil))
    refine q_when (b := decide (r < 5)) (et_test (ev_op (ev_var rfl) ev_c rv_I0)) (fun hb2 H3 e3 => ?_) (fun hb2 H3 e3 => ?_)
    · refine s_retQ (p := p) (ws := ws) (eq_tup (eq_cons (eq_str (x := "item") (by decide)) (eq_cons (eq_word (j := 0) rfl (by decide)) (eq_cons (eq_term (n := n) (d := d - 1) (fun H1 => hsub H1 _ rfl rfl rfl) (by omega) (by omega) (hn2.ex e3) hne) eq_nil))) ?_) (hp2.ex e3) fun u z H4 e4 hp4 hz ha => ?_
      · rintro ds ⟨_, _, rfl, _, _, _, rfl, _, _, _, rfl, _, rfl⟩
        show 3 ≤ 100000
        decide
      · obtain ⟨_, rfl, _, _, rfl, rfl, _, _, rfl, ⟨x, rfl, hx⟩, _, _, rfl, ⟨t, rfl, ht⟩, rfl⟩ := ha
        have h1 := ht.dep
        have h2 := ht.size
        exact q (.item x t) u H4 ((e1.trans e2.p).trans (e3.p.trans e4)) hp4 hz ⟨by show (nameB x && t.wf) = true; rw [hx, ht.wf] <;> rfl, by show t.dep + 1 ≤ d; omega, by show t.size + 1 ≤ 2 * d; omega⟩
    · have hp3 := hp2.ex e3
      have hn3 := hn2.ex e3
      refine q_when (b := decide (r = 5)) (et_test (ev_op (ev_var rfl) ev_c rv_eqI)) (fun hb3 H4 e4 => ?_) (fun hb3 H4 e4 => ?_)
      · refine s_retQ (p := p) (ws := ws) (eq_tup (eq_cons (eq_str (x := "op") (by decide)) (eq_cons (eq_word (j := 1) rfl (by decide)) (eq_cons (eq_tup (eq_cons (eq_term (n := n) (d := d - 1) (fun H1 => hsub H1 _ rfl rfl rfl) (by omega) (by omega) (hn3.ex e4) hne) eq_nil) ?_) eq_nil))) ?_) (hp3.ex e4) fun u z H5 e5 hp5 hz ha => ?_
        · rintro ds ⟨_, _, rfl, _, rfl⟩
          show 1 ≤ 100000
          decide
        · rintro ds ⟨_, _, rfl, _, _, _, rfl, _, _, _, rfl, _, rfl⟩
          show 3 ≤ 100000
          decide
        · obtain ⟨_, rfl, _, _, rfl, rfl, _, _, rfl, ⟨x, rfl, hx⟩, _, _, rfl, ⟨_, rfl, _, _, rfl, ⟨t, rfl, ht⟩, rfl⟩, rfl⟩ := ha
          have h1 := ht.dep
          have h2 := ht.size
          exact q (.op1 x t) u H5 ((e1.trans e2.p).trans (e3.p.trans (e4.p.trans e5))) hp5 hz ⟨by show (nameB x && t.wf) = true; rw [hx, ht.wf] <;> rfl, by show t.dep + 1 ≤ d; omega, by show t.size + 1 ≤ 2 * d; omega⟩
      · refine s_retQ (p := p) (ws := ws) (eq_tup (eq_cons (eq_str (x := "op") (by decide)) (eq_cons (eq_word (j := 2) rfl (by decide)) (eq_cons (eq_tup (eq_cons (eq_term (n := n) (d := d - 1) (fun H1 => hsub H1 _ rfl rfl rfl) (by omega) (by omega) (hn3.ex e4) hne)
            (eq_cons (eq_term (n := n) (d := 1) (fun H1 => ea_cons (ev_var rfl) (ea_cons (ev_var rfl) (ea_cons ev_c ea_nil))) (by omega) (by omega) (hn3.ex e4) hne) eq_nil)) ?_) eq_nil))) ?_) (hp3.ex e4) fun u z H5 e5 hp5 hz ha => ?_
        · rintro ds ⟨_, _, rfl, _, _, _, rfl, _, rfl⟩
          show 2 ≤ 100000
          decide
        · rintro ds ⟨_, _, rfl, _, _, _, rfl, _, _, _, rfl, _, rfl⟩
          show 3 ≤ 100000
          decide
        · obtain ⟨_, rfl, _, _, rfl, rfl, _, _, rfl, ⟨x, rfl, hx⟩, _, _, rfl, ⟨_, rfl, _, _, rfl, ⟨t, rfl, ht⟩, _, _, rfl, ⟨t2, rfl, ht2⟩, rfl⟩, rfl⟩ := ha
          have h1 := ht.dep
          have h2 := ht.size
          have h3 := ht2.dep
          have h4 : t2.size ≤ 1 := by
            have h5 := ht2.dep
            cases t2 with
            | var _ => exact Nat.le_refl 1
            | op0 _ => exact Nat.le_refl 1
            | item _ u => exact absurd h5 (by have : 1 ≤ u.dep := (by cases u <;> simp [Tm.dep]); show ¬ u.dep + 1 ≤ 1; omega)
            | op1 _ u => exact absurd h5 (by have : 1 ≤ u.dep := (by cases u <;> simp [Tm.dep]); show ¬ u.dep + 1 ≤ 1; omega)
            | op2 _ u v => exact absurd h5 (by have : 1 ≤ u.dep := (by cases u <;> simp [Tm.dep]); show ¬ max u.dep v.dep + 1 ≤ 1; omega)
          exact q (.op2 x t t2) u H5 ((e1.trans e2.p).trans (e3.p.trans (e4.p.trans e5))) hp5 hz ⟨by show (nameB x && (t.wf && t2.wf)) = true; rw [hx, ht.wf, ht2.wf] <;> rfl, by show max t.dep t2.dep + 1 ≤ d; omega, by show t.size + t2.size + 1 ≤ 2 * d; omega⟩
abbrev gaN : List Str := ["_law_pool_here", "_law_names", "_law_depth"]
theorem walk_genAtom {n : Nat} (T : Txt K mg) (c_draw : Cal P w K mg base CX0 1 "_law_draw" spDraw) (c_gt : Cal P w K mg base CX0 (n + 2) "_law_term" (spGenTerm n)) : Walks P w K mg base CX0 (n + 2) "_law_atom" (top 40) gaN (spGenAtom n) := by
  intro f cdv A outer s H vs Q E hr hsp
  obtain ⟨p, nl, ws, ns, d, rfl, hd1, hd2, hp, hn, hne, q⟩ := hsp
  have nd : gaN.Nodup := by decide +kernel
  refine ⟨_, (pss_cons (ps_if (pt_cmpR op_eq (pe_c c_draw hr (by omega) (pa_cons (pv 0) (pa_cons pe_int pa_nil))) pe_int (nomark _)) (pss_one (ps_ret (pe_tup (pa_cons pe_str (pa_cons (pe_c c_gt hr (Nat.le_refl _) (pa_cons (pv 0) (pa_cons (pv 1) (pa_cons (pv 2) pa_nil)))) (pa_cons (pe_c c_gt hr (Nat.le_refl _) (pa_cons (pv 0) (pa_cons (pv 1) (pa_cons pe_int pa_nil)))) pa_nil)))))) pss_nil)
    (pss_one (ps_ret (pe_tup (pa_cons pe_str (pa_cons (pe_ix ix_list (pv 0) pe_int (fun _ _ => rfl)) (pa_cons (pe_tup (pa_cons (pe_c c_gt hr (Nat.le_refl _) (pa_cons (pv 0) (pa_cons (pv 1) (pa_cons (pv 2) pa_nil)))) pa_nil)) pa_nil))))))), ?_⟩
  refine q_ifDraw (p := p) (ws := ws) (c := 2) (ea_cons (ev_var rfl) (ea_cons ev_c ea_nil)) (by decide) (by decide) hp (fun H3 e3 hp3 => ?_) (fun H3 e3 hp3 => ?_)
  · refine s_retQ (p := p) (ws := ws) (eq_tup (eq_cons (eq_str (x := "same") (by decide)) (eq_cons (eq_term (n := n) (d := d) (fun H1 => ea_cons (ev_var rfl) (ea_cons (ev_var rfl) (ea_cons (ev_var rfl) ea_nil))) hd1 hd2 (hn.xp e3 hne) hne) (eq_cons (eq_term (n := n) (d := 1) (fun H1 => ea_cons (ev_var rfl) (ea_cons (ev_var rfl) (ea_cons ev_c ea_nil))) (by omega) (by omega) (hn.xp e3 hne) hne) eq_nil))) ?_) hp3 fun u z H4 e4 hp4 hz ha => ?_
    · rintro ds ⟨_, _, rfl, _, _, _, rfl, _, _, _, rfl, _, rfl⟩
      show 3 ≤ 100000
      decide
    · obtain ⟨_, rfl, _, _, rfl, rfl, _, _, rfl, ⟨t, rfl, ht⟩, _, _, rfl, ⟨t2, rfl, ht2⟩, rfl⟩ := ha
      exact q (.same t t2) u H4 (e3.trans e4) hp4 hz ⟨ht, ht2⟩
  · refine s_retQ (p := p) (ws := ws) (eq_tup (eq_cons (eq_str (x := "test") (by decide)) (eq_cons (eq_word (j := 4) rfl (by decide)) (eq_cons (eq_tup (eq_cons (eq_term (n := n) (d := d) (fun H1 => ea_cons (ev_var rfl) (ea_cons (ev_var rfl) (ea_cons (ev_var rfl) ea_nil))) hd1 hd2 (hn.xp e3 hne) hne) eq_nil) ?_) eq_nil))) ?_) hp3 fun u z H4 e4 hp4 hz ha => ?_
    · rintro ds ⟨_, _, rfl, _, rfl⟩
      show 1 ≤ 100000
      decide
    · rintro ds ⟨_, _, rfl, _, _, _, rfl, _, _, _, rfl, _, rfl⟩
      show 3 ≤ 100000
      decide
    · obtain ⟨_, rfl, _, _, rfl, rfl, _, _, rfl, ⟨x, rfl, hx⟩, _, _, rfl, ⟨_, rfl, _, _, rfl, ⟨t, rfl, ht⟩, rfl⟩, rfl⟩ := ha
      exact q (.test x t) u H4 (e3.trans e4) hp4 hz ⟨hx, ht⟩
end
end L2.K7

/-! N20: _law_start, _law_meaning. -/
namespace L2.K7
open PySem PySem.Spec PyProof.Rows
open Evl
/-- a value made while the pool turns -/
def EvF (p : Addr) (ws : List Str) (te : TE) (σ : L2.St) (H : Hp) (F : V → Hp → Prop) : Prop := ∀ H1, ExP p H H1 → PoolSt p ws H1 → ∀ Q : VK, (∀ u H2, ExP p H1 H2 → PoolSt p ws H2 → F u H2 → Q u H2) → te σ H1 Q
def EvQL (p : Addr) (ws : List Str) (te : TE) (σ : L2.St) (H : Hp) (n : Nat) (F : Nat → V → Hp → Prop) : Prop := ∀ H1, ExP p H H1 → PoolSt p ws H1 → ∀ Q : VK, (∀ l us H2, ExP p H1 H2 → PoolSt p ws H2 → H2 l = some (.lst us) → us.length = n → (∀ i u, us[i]? = some u → F i u H2) → Q (.ref l) H2) → te σ H1 Q
def Cq (p : Addr) (ws : List Str) (H1 : Hp) (Dl : Addr) (F : Nat → V → Hp → Prop) (i : Nat) (H' : Hp) : Prop := ExP p H1 H' ∧ PoolSt p ws H' ∧ ∃ us, H' Dl = some (.lst us) ∧ us.length = i ∧ ∀ k u, us[k]? = some u → F k u H'
theorem PoolSt.ne {p l : Addr} {ws : List Str} {H : Hp} (h : PoolSt p ws H) (hl : H l = none) : p ≠ l := by
  obtain ⟨n, s, a, _⟩ := h
  exact ne_of_none a hl
theorem PoolSt.at {p l : Addr} {ws : List Str} {H : Hp} {o : HO} (h : PoolSt p ws H) (hl : p ≠ l) : PoolSt p ws (upd H l o) := by
  obtain ⟨n, s, a, b⟩ := h
  exact ⟨n, s, by rw [upd_ne hl]; exact a, b⟩
theorem ExP.mut {p l : Addr} {H H1 : Hp} {o : HO} (e : ExP p H H1) (hl : H l = none) : ExP p H (upd H1 l o) := fun a u n h => by
  rw [upd_ne (ne_of_none h hl)]
  exact e a u n h
theorem ExP.new {p l : Addr} {H : Hp} {o : HO} (hl : H l = none) : ExP p H (upd H l o) := (Ex.new hl).p
section
variable {p : Addr} {ws : List Str} {K : PySem.W.Frag} {σ : L2.St} {H : Hp} {te tl : TE} {ta : TA} {j : Nat} {vs : List Nat} {F : Nat → V → Hp → Prop}
theorem cq_turn {H1 H' : Hp} {Dl : Addr} {i : Nat} {σ2 : St} {x : V} (hF : ∀ i u H H', ExT H H' → F i u H → F i u H') (h1 : PoolSt p ws H1) (hD : H1 Dl = none) (hi : i ≤ 40000) (q : Cq p ws H1 Dl F i H') (he : EvF p ws te σ2 H1 (F i)) :
    tYes σ2 H' fun b H3 => if b = true then te σ2 H3 fun y H4 => ∃ acc, H4 Dl = some (.lst acc) ∧ acc.length < sizeLine ∧ Cq p ws H1 Dl F (i + 1) (upd H4 Dl (.lst (acc ++ [y]))) else Cq p ws H1 Dl F (i + 1) H3 := by
  obtain ⟨q1, q2, us, q3, q4, q5⟩ := q
  have hne := h1.ne hD
  refine tYes_if (he H' q1 q2 _ fun u H4 e4 hp4 hu => ?_)
  have hd4 := e4 Dl _ (Ne.symm hne) q3
  have xt : ExT H4 (upd H4 Dl (.lst (us ++ [u]))) := ExT.at (ExT.refl H4) (by intro vs z; rw [hd4] at z; cases z)
  refine ⟨us, hd4, by rw [q4]; exact Nat.lt_of_le_of_lt hi (by decide), (q1.trans e4).mut hD, hp4.at hne, us ++ [u], upd_same, by rw [List.length_append, q4] <;> rfl, fun k v hk => ?_⟩
  by_cases hlt : k < us.length
  · rw [List.getElem?_append_left hlt] at hk
    exact hF k v H4 _ xt (hF k v H' H4 (q2.xt e4) (q5 k v hk))
  · rw [List.getElem?_append_right (by omega)] at hk
    have hk0 : k - us.length = 0 := by
      by_cases z : k - us.length = 0
      · exact z
      · rw [List.getElem?_eq_none (by show 1 ≤ k - us.length; omega)] at hk
        cases hk
    rw [hk0] at hk
    have e : u = v := by simpa using hk
    subst e
    have hki : k = i := by omega
    rw [hki]
    exact hF i u H4 _ xt hu
/-- over a new list -/
theorem eq_lcL {xs : List V} (hF : ∀ i u H H', ExT H H' → F i u H → F i u H') (h : ∀ H1, EvL tl σ H1 xs) (hz : xs.length ≤ 40000) (hw : ∀ x, wipe ((wipe σ vs).set j (some x)) vs = wipe σ vs)
    (he : ∀ (i : Nat) (x : V) H1, ExP p H H1 → xs[i]? = some x → EvF p ws te ((wipe σ vs).set j (some x)) H1 (F i)) : EvQL p ws (tLc (iList K tl) (gName j) tYes te vs) σ H xs.length F := fun H0 e hp Q q =>
  h H0 H0 (Ex.refl H0) _ fun a H1 ha e1 hx => ⟨a, rfl, ⟨xs, sq_of hx⟩, fun Dl hD => by
    have hp1 := hp.ex e1
    have hpa : a ≠ p := fun z => hp.ne ha z.symm
    refine lc_list (K := K) (a := a) (xs := xs) (Cq p ws H1 Dl F) ⟨ExP.new hD, hp1.at (hp1.ne hD), [], upd_same, rfl, fun k u hk => by simp at hk⟩ (fun i H' _ c => sq_of (c.1 a _ hpa hx)) (fun i x H' hi c => ⟨hw x, ?_⟩) (fun H' c => ?_)
    · have hlt := (List.getElem?_eq_some_iff.mp hi).1
      exact cq_turn (x := x) hF hp1 hD (by omega) c (he i x H1 (e.trans e1.p) hi)
    · obtain ⟨c1, c2, us, c3, c4, c5⟩ := c
      exact q Dl us H' (e1.p.trans c1) c2 c3 c4 c5⟩
/-- over range(n) -/
theorem eq_lcR {n : Nat} (hF : ∀ i u H H', ExT H H' → F i u H → F i u H') (h : ∀ H1, EvA ta σ H1 [.int (n : Int)]) (hz : n ≤ 40000) (hw : ∀ x, wipe ((wipe σ vs).set j (some x)) vs = wipe σ vs)
    (he : ∀ (i : Nat) H1, ExP p H H1 → i < n → EvF p ws te ((wipe σ vs).set j (some (.int (i : Int)))) H1 (F i)) : EvQL p ws (tLc (iRng1 ta) (gName j) tYes te vs) σ H n F := fun H0 e hp Q q =>
  h H0 H0 (Ex.refl H0) _ fun H1 e1 => ⟨(n : Int), rfl, by omega, by omega, fun Dl hD => by
    have hp1 := hp.ex e1
    show ∃ W : Nat → Nat → Hp → Prop, (∃ m, W 0 m (upd H1 Dl (.lst []))) ∧ ∀ i m H, W i m H → _
    refine lc_range (lo := 0) (n := (n : Int).toNat) (Cq p ws H1 Dl F) ⟨ExP.new hD, hp1.at (hp1.ne hD), [], upd_same, rfl, fun k u hk => by simp at hk⟩ (fun i H' hi c => ⟨hw _, ?_⟩) (fun H' c => ?_)
    · have hlt : i < n := by simpa using hi
      have e0 : (0 : Int) + (i : Int) = (i : Int) := Int.zero_add _
      rw [e0]
      exact cq_turn (x := .int i) hF hp1 hD (by omega) c (he i H1 (e.trans e1.p) hlt)
    · obtain ⟨c1, c2, us, c3, c4, c5⟩ := c
      exact q Dl us H' (e1.p.trans c1) c2 c3 (by simpa using c4) c5⟩
end
theorem cb_ql {p : Addr} {ws : List Str} {σ : St} {H : Hp} {te : TE} {n : Nat} {F : Nat → V → Hp → Prop} {r : List V → Hp → VK → Prop} {Q : VK} (h : EvQL p ws te σ H n F) (hp : PoolSt p ws H) (k : ∀ l us H1, ExP p H H1 → PoolSt p ws H1 → H1 l = some (.lst us) → us.length = n → (∀ i u, us[i]? = some u → F i u H1) → r [.ref l] H1 Q) :
    tCB r (tCons te tNil) σ H Q := h H ExP.refl hp _ k
theorem q_cbQL {p : Addr} {ws : List Str} {σ : St} {H : Hp} {te : TE} {n i : Nat} {F : Nat → V → Hp → Prop} {r : List V → Hp → VK → Prop} {D : Ends} {tz : TS} (h : EvQL p ws te σ H n F) (hp : PoolSt p ws H) (k : ∀ l us H1, ExP p H H1 → PoolSt p ws H1 → H1 l = some (.lst us) → us.length = n → (∀ i u, us[i]? = some u → F i u H1) → r [.ref l] H1 fun v H2 => tz D (σ.set i (some v)) H2) :
    tSeq (tAsg (tCB r (tCons te tNil)) (gName i)) tz D σ H := h H ExP.refl hp _ k
/-! ### pairs -/
theorem pairs_txt {K : PySem.W.Frag} {H : Hp} : ∀ (xs : List Str) (us : List V), us.length = xs.length → (∀ (i : Nat) (u : V) (x : Str), us[i]? = some u → xs[i]? = some x → ∃ t r, u = .ref t ∧ H t = some (.tup [.str x, .int r])) →
    ∃ (ps : List Addr) (rs : List (Str × Int)), us = ps.map V.ref ∧ rs.map (·.1) = xs ∧ Paired (fun p (kv : Key × V) => SqT K H p [kV kv.1, kv.2]) ps (kvsOf rs)
  | [], [], _, _ => ⟨[], [], rfl, rfl, .nil⟩
  | [], _ :: _, h, _ => by cases h
  | _ :: _, [], h, _ => by cases h
  | x :: xs, u :: us, hl, h => by
    obtain ⟨t, r, rfl, ht⟩ := h 0 u x rfl rfl
    obtain ⟨ps, rs, rfl, h2, h3⟩ := pairs_txt xs us (by simpa using hl) fun i u x h1 h2 => h (i + 1) u x h1 h2
    exact ⟨t :: ps, (x, r) :: rs, rfl, by rw [List.map_cons, h2], .cons (st_of ht) h3⟩
theorem pairs_nest {K : PySem.W.Frag} {H : Hp} {φ : DK → V → Prop} : ∀ (ks : List DK) (us : List V), us.length = ks.length → (∀ (i : Nat) (u : V) (k : DK), us[i]? = some u → ks[i]? = some k → ∃ t b v, u = .ref t ∧ H t = some (.tup [.ref b, v]) ∧ DKAt H b k ∧ φ k v) →
    ∃ (ps : List Addr) (xs : NL), us = ps.map V.ref ∧ xs.map (·.1) = ks ∧ PairsN K H ps xs ∧ ∀ q ∈ xs, φ q.1 q.2.2 ∧ DKAt H q.2.1 q.1
  | [], [], _, _ => ⟨[], [], rfl, rfl, .nil, fun _ h => (List.not_mem_nil h).elim⟩
  | [], _ :: _, h, _ => by cases h
  | _ :: _, [], h, _ => by cases h
  | k :: ks, u :: us, hl, h => by
    obtain ⟨t, b, v, rfl, ht, hb, hv⟩ := h 0 u k rfl rfl
    obtain ⟨ps, xs, rfl, h2, h3, h4⟩ := pairs_nest ks us (by simpa using hl) fun i u x h1 h2 => h (i + 1) u x h1 h2
    refine ⟨t :: ps, (k, b, v) :: xs, rfl, by rw [List.map_cons, h2], .cons ⟨st_of ht, hb⟩ h3, fun q hq => ?_⟩
    rcases List.mem_cons.mp hq with e | hq
    · rw [e]
      exact ⟨hv, hb⟩
    · exact h4 q hq
theorem mergeK_app : ∀ (more kvs : List (Key × V)), ((kvs ++ more).map (·.1)).Nodup → mergeK kvs more = kvs ++ more
  | [], kvs, _ => by rw [List.append_nil]; rfl
  | p :: r, kvs, hn => by
    have hnot : p.1 ∉ kvs.map (·.1) := by
      rw [List.map_append, List.map_cons, List.nodup_append] at hn
      exact fun z => hn.2.2 _ z _ (List.mem_cons_self ..) rfl
    show mergeK (putK kvs p.1 p.2) r = _
    rw [putK_new hnot, mergeK_app r (kvs ++ [(p.1, p.2)]) (by rw [List.append_assoc]; exact hn), List.append_assoc] <;> rfl
theorem keys_kvs {vs : List (Str × Int)} : (kvsOf vs).map (·.1) = (vs.map (·.1)).map (Sum.inr : Str → Key) := by rw [kvsOf, List.map_map, List.map_map] <;> rfl
theorem nodup_inr {xs : List Str} (h : xs.Nodup) : (xs.map (Sum.inr : Str → Key)).Nodup := by
  induction xs with
  | nil => exact List.nodup_nil
  | cons x r ih =>
    rw [List.nodup_cons] at h
    rw [List.map_cons, List.nodup_cons]
    refine ⟨fun z => ?_, ih h.2⟩
    obtain ⟨y, hy, e⟩ := List.mem_map.mp z
    exact h.1 (by rw [← Sum.inr.inj e]; exact hy)
theorem mergeK_kvs {vs : List (Str × Int)} (h : (vs.map (·.1)).Nodup) : mergeK [] (kvsOf vs) = kvsOf vs := mergeK_app (kvsOf vs) [] (by show ((kvsOf vs).map (·.1)).Nodup; rw [keys_kvs]; exact nodup_inr h)
/-! ### a start, a meaning made -/
section
variable {P : Program} {w : World} {K : PySem.W.Frag} {S M : Addr}
theorem mkS {H1 : Hp} {v1 v2 : V} {vars : List (Str × Int)} {xs : NL} {Q : VK} (hv : VArg H1 v1 vars) (hx : XArg P w H1 v2 xs) (vo : VOk vars) (xo : XOk phE xs) (q : ∀ a H2, H1 a = none → Ex H1 H2 → StAt P w S H2 a (vars.filter nz) (xs.filter nt) → Q (.ref a) H2) :
    ∀ x dx, H1 x = none → H1 dx = none → dx ≠ x → spInitS P w S [.ref x, v1, v2] (upd (upd H1 dx (.own x)) x (.ins S dx [])) (fun v H2 => v = .non ∧ Q (.ref x) H2) E0 := fun x dx hx0 hd0 hne => by
  have e0 : Ex H1 (upd (upd H1 dx (.own x)) x (.ins S dx [])) := (Ex.new hd0).trans (Ex.new (by rw [upd_ne (Ne.symm hne)]; exact hx0))
  have hv' : VArg (upd (upd H1 dx (.own x)) x (.ins S dx [])) v1 vars := by
    rcases hv with h | ⟨d, h1, h2⟩
    · exact .inl h
    · exact .inr ⟨d, h1, e0 _ _ h2⟩
  have hx' : XArg P w (upd (upd H1 dx (.own x)) x (.ins S dx [])) v2 xs := by
    rcases hx with h | ⟨d, h1, h2, h3⟩
    · exact .inl h
    · exact .inr ⟨d, h1, e0 _ _ h2, h3.ex e0⟩
  refine ⟨x, dx, v1, v2, vars, xs, rfl, upd_same, hv', hx', vo, xo, fun d1 d2 H2 e2 h1 h2 h3 => ⟨rfl, ?_⟩⟩
  have e12 : Ex H1 H2 := fun b o hb => e2 b o (ne_of_none hb hx0) (e0 b o hb)
  refine q x H2 hx0 e12 ⟨⟨dx, d1, d2, h1, h2, h3⟩, fun r hr => ?_, vo.filter _, xo.filter _⟩
  rcases hx with ⟨_, rfl⟩ | ⟨d, _, _, hk⟩
  · exact (List.not_mem_nil (List.mem_filter.mp hr).1).elim
  · exact (hk r (List.mem_filter.mp hr).1).ex e12
theorem mkM {H1 : Hp} {v1 v2 : V} {os ts : NL} {Q : VK} (hv : XArg P w H1 v1 os) (hx : XArg P w H1 v2 ts) (vo : XOk phO os) (xo : XOk phT ts) (q : ∀ a H2, H1 a = none → Ex H1 H2 → MeAt P w M H2 a (os.filter nt) (ts.filter nt) → Q (.ref a) H2) :
    ∀ x dx, H1 x = none → H1 dx = none → dx ≠ x → spInitM P w M [.ref x, v1, v2] (upd (upd H1 dx (.own x)) x (.ins M dx [])) (fun v H2 => v = .non ∧ Q (.ref x) H2) E0 := fun x dx hx0 hd0 hne => by
  have e0 : Ex H1 (upd (upd H1 dx (.own x)) x (.ins M dx [])) := (Ex.new hd0).trans (Ex.new (by rw [upd_ne (Ne.symm hne)]; exact hx0))
  have lift : ∀ {v : V} {zs : NL}, XArg P w H1 v zs → XArg P w (upd (upd H1 dx (.own x)) x (.ins M dx [])) v zs := fun h => by
    rcases h with h | ⟨d, h1, h2, h3⟩
    · exact .inl h
    · exact .inr ⟨d, h1, e0 _ _ h2, h3.ex e0⟩
  refine ⟨x, dx, v1, v2, os, ts, rfl, upd_same, lift hv, lift hx, vo, xo, fun d1 d2 H2 e2 h1 h2 h3 => ⟨rfl, ?_⟩⟩
  have e12 : Ex H1 H2 := fun b o hb => e2 b o (ne_of_none hb hx0) (e0 b o hb)
  have keys : ∀ {v : V} {zs : NL}, XArg P w H1 v zs → KeysAt H2 (zs.filter nt) := fun h r hr => by
    rcases h with ⟨_, rfl⟩ | ⟨d, _, _, hk⟩
    · exact (List.not_mem_nil (List.mem_filter.mp hr).1).elim
    · exact (hk r (List.mem_filter.mp hr).1).ex e12
  exact q x H2 hx0 e12 ⟨⟨dx, d1, d2, h1, h2, h3⟩, keys hv, keys hx, vo.filter _, xo.filter _⟩
end
def spGenStart (P : Program) (w : World) (S : Addr) : Sp := fun vs H Q _ => ∃ p ws, vs = [.ref p] ∧ PoolSt p ws H ∧ ∀ a vars xs H2, ExP p H H2 → PoolSt p ws H2 → StAt P w S H2 a vars xs → vars.length ≤ 3 → Q (.ref a) H2
def spGenMean (P : Program) (w : World) (M : Addr) : Sp := fun vs H Q _ => ∃ p ws, vs = [.ref p] ∧ PoolSt p ws H ∧ ∀ a os ts H2, ExP p H H2 → PoolSt p ws H2 → MeAt P w M H2 a os ts → Q (.ref a) H2
section
variable {P : Program} {w : World} {K : PySem.W.Frag} {mg : Str → Option Value} {base : Heap} {S M : Addr}
abbrev gsN : List Str := ["_law_pool_here", "_law_variables", "_law_name", "_law_at"]
abbrev gsS : Scope := defScope (top 41)
theorem word_at {p : Addr} {ws : List Str} {σ : St} {H1 : Hp} {j : Nat} (hp : PoolSt p ws H1) (h0 : σ[0]? = some (some (.ref p))) (hj : j < 5) : ∃ x, ws[j]? = some x ∧ nameB x = true ∧ Ev (tOp (rIxL K) (tVar 0) (tC (.int ((j + 2 : Nat) : Int)))) σ H1 (.str x) := by
  obtain ⟨n, s, a, ok⟩ := hp
  have hlt : j < ws.length := by rw [ok.len]; exact hj
  have hx : ws[j]? = some ws[j] := List.getElem?_eq_getElem hlt
  refine ⟨ws[j], hx, ok.nm _ (List.mem_of_getElem? hx), ev_op (ev_var h0) ev_c (rv_ixL (sq_of a) (atI_nat ?_))⟩
  show (ws.map V.str)[j]? = _
  rw [List.getElem?_map, hx] <;> rfl
theorem walk_genStart (T : Txt K mg) (C : Cts K mg S M) (c_draw : Cal P w K mg base CX0 1 "_law_draw" spDraw) (c_Start : Mak P w K mg base 4 "Start" S (spInitS P w S) []) : Walks P w K mg base CX0 5 "_law_start" (top 41) gsN (spGenStart P w S) := by
  intro f cdv A outer s H vs Q E hr hsp
  obtain ⟨p, ws, rfl, hp, q⟩ := hsp
  have nd : gsN.Nodup := by decide +kernel
  refine ⟨_, (pss_cons (ps_set (i := 1) nd rfl (Or.inl rfl) (pe_t (call_dictP rfl) T.dict b_dict (pa_cons (pe_lc (own := [("_law_name", 2)]) (g := gName 2) (tt := tYes) rfl nd (pi_list (pe_lst (pa_cons pe_str (pa_cons pe_str (pa_cons pe_str pa_nil))))) (blkOk_by (N := gsN) (sc := gsS) (by decide +kernel)) (fun _ _ _ _ _ => pg_name (i := 2) nd rfl (Or.inl rfl)) (fun _ _ _ _ _ => pts_nil) (fun _ _ _ _ _ => (pe_tup (pa_cons (pv 2) (pa_cons (pe_c c_draw hr (by decide) (pa_cons (pv 0) (pa_cons pe_int pa_nil))) pa_nil))))) pa_nil)))
    (pss_one (ps_ret (pe_mk c_Start hr (by decide) (pa_cons (pv 1) (pa_cons (pe_t (call_dictN rfl hr.units) T.dict b_dict (pa_cons (pe_lc (own := [("_law_at", 3)]) (g := gName 3) (tt := tYes) rfl nd (pi_range1 rfl T.range (pa_cons pe_int pa_nil)) (blkOk_by (N := gsN) (sc := gsS) (by decide +kernel)) (fun _ _ _ _ _ => pg_name (i := 3) nd rfl (Or.inl rfl)) (fun _ _ _ _ _ => pts_nil) (fun _ _ _ _ _ => (pe_tup (pa_cons (pe_tup (pa_cons (pe_ix (ix_listC (K := K) rfl) (pv 0) pe_int (fun _ _ => rfl)) (pa_cons (pv 3) pa_nil))) (pa_cons (pe_c c_draw hr (by decide) (pa_cons (pv 0) (pa_cons pe_int pa_nil))) pa_nil))))) pa_nil)) pa_nil)))))), ?_⟩
  have hL : EvQL p ws (tLc (iList K (tLst (tCons (tC (.str "v")) (tCons (tC (.str "i")) (tCons (tC (.str "w")) tNil))))) (gName 2) tYes (tTup (tCons (tVar 2) (tCons (tCall spDraw [] E0 (tCons (tVar 0) (tCons (tC (.int 3)) tNil))) tNil))) [2]) (start gsN [.ref p]) H 3
      (fun i u H => ∃ t r x, (["v", "i", "w"] : List Str)[i]? = some x ∧ u = .ref t ∧ H t = some (.tup [.str x, .int r])) := by
    refine eq_lcL (xs := (["v", "i", "w"] : List Str).map V.str) (fun i u H H' e ⟨t, r, x, h1, h2, h3⟩ => ⟨t, r, x, h1, h2, e _ _ h3⟩) (fun H1 => el_lst (ea_cons ev_c (ea_cons ev_c (ea_cons ev_c ea_nil))) (by decide)) (by decide) (fun x => rfl) (fun i x H1 e1 hx H2 e2 hp2 Q q => ?_)
    rw [List.getElem?_map] at hx
    obtain ⟨x, hxx, rfl⟩ := Option.map_eq_some_iff.mp hx
    refine ⟨_, rfl, q_draw (p := p) (ws := ws) (c := 3) (ea_cons (ev_var rfl) (ea_cons ev_c ea_nil)) (by decide) (by decide) hp2 fun r H3 e3 hp3 _ _ => ?_⟩
    exact ⟨by show 2 ≤ sizeLine; exact sz_of (by decide), fun l hl => q (.ref l) _ (e3.trans (ExP.new hl)) (hp3.ex (Ex.new hl)) ⟨l, r, x, hxx, rfl, upd_same⟩⟩
  refine q_cbQL hL hp fun l us H1 e1 hp1 hl hn hu => ?_
  obtain ⟨ps, rs, rfl, hk, hpr⟩ := pairs_txt (K := K) (H := H1) (["v", "i", "w"] : List Str) us hn fun i u x h1 h2 => by
    obtain ⟨t, r, y, h3, h4, h5⟩ := hu i u h1
    rw [h2] at h3
    cases h3
    exact ⟨t, r, h4, h5⟩
  have hnod : (rs.map (·.1)).Nodup := by rw [hk]; decide +kernel
  refine ⟨l, ps, kvsOf rs, rfl, sq_of hl, hpr, fun d hd => ?_⟩
  rw [mergeK_kvs hnod]
  have vo : VOk rs := ⟨hnod, fun r hr => by
    have hm : r.1 ∈ (["v", "i", "w"] : List Str) := by rw [← hk]; exact List.mem_map.mpr ⟨r, hr, rfl⟩
    exact (show ∀ x ∈ (["v", "i", "w"] : List Str), nameB x = true by decide +kernel) _ hm, by
    have : rs.length = 3 := by rw [← List.length_map (f := (·.1)), hk] <;> rfl
    omega⟩
  have e2 : ExP p H (upd H1 d (.dK (kvsOf rs))) := e1.trans (ExP.new hd)
  have hp2 : PoolSt p ws (upd H1 d (.dK (kvsOf rs))) := hp1.ex (Ex.new hd)
  have hpd : d ≠ p := fun z => hp1.ne hd z.symm
  refine ⟨_, rfl, ?_⟩
  obtain ⟨g, hg, hgn, _⟩ := word_at (K := K) (σ := (start gsN [.ref p]).set 1 (some (.ref d))) (j := 0) hp2 rfl (by decide)
  have hR : EvQL p ws (tLc (iRng1 (tCons (tC (.int 3)) tNil)) (gName 3) tYes (tTup (tCons (tTup (tCons (tOp (rIxL K) (tVar 0) (tC (.int ((0 + 2 : Nat) : Int)))) (tCons (tVar 3) tNil))) (tCons (tCall spDraw [] E0 (tCons (tVar 0) (tCons (tC (.int 3)) tNil))) tNil))) [3]) ((start gsN [.ref p]).set 1 (some (.ref d))) (upd H1 d (.dK (kvsOf rs))) 3
      (fun i u H => ∃ t b v, u = .ref t ∧ H t = some (.tup [.ref b, v]) ∧ DKAt H b (.ent g (i : Int)) ∧ phE (.ent g (i : Int)) v) := by
    refine eq_lcR (n := 3) (fun i u H H' e ⟨t, b, v, h1, h2, h3, h4⟩ => ⟨t, b, v, h1, e _ _ h2, h3.keeps e, h4⟩) (fun H1 => ea_cons ev_c ea_nil) (by decide) (fun x => rfl) (fun i H2 e2 hi H3 e3 hp3 Q q => ?_)
    obtain ⟨g2, hg2, _, hE⟩ := word_at (K := K) (σ := [some (.ref p), some (.ref d), none, some (.int (i : Int))]) (j := 0) hp3 rfl (by decide)
    rw [hg] at hg2
    cases hg2
    refine hE H3 (Ex.refl H3) _ fun H4 e4 => ⟨_, rfl, by show 2 ≤ sizeLine; exact sz_of (by decide), fun b hb => ?_⟩
    refine q_draw (p := p) (ws := ws) (c := 3) (ea_cons (ev_var rfl) (ea_cons ev_c ea_nil)) (by decide) (by decide) ((hp3.ex e4).ex (Ex.new hb)) fun r H5 e5 hp5 _ _ => ?_
    have hbt : H5 b = some (.tup [.str g, .int (i : Int)]) := ((hp3.ex e4).ex (Ex.new hb)).xt e5 _ _ upd_same
    exact ⟨by show 2 ≤ sizeLine; exact sz_of (by decide), fun l hl => q (.ref l) _ ((e4.p.trans (ExP.new hb)).trans (e5.trans (ExP.new hl))) (hp5.ex (Ex.new hl)) ⟨l, b, .int r, rfl, upd_same, (Ex.new hl) _ _ hbt, g, _, r, rfl, hgn, rfl⟩⟩
  refine cb_ql hR hp2 fun l2 us2 H3 e3 hp3 hl2 hn2 hu2 => ?_
  obtain ⟨ps2, xs, rfl, hk2, hpr2, hall⟩ := pairs_nest (K := K) (H := H3) (φ := phE) [.ent g 0, .ent g 1, .ent g 2] us2 hn2 fun i u k h1 h2 => by
    obtain ⟨t, b, v, h3, h4, h5, h6⟩ := hu2 i u h1
    have hki : k = .ent g (i : Int) := by
      match i, h2 with
      | 0, h2 => exact (Option.some.inj h2).symm
      | 1, h2 => exact (Option.some.inj h2).symm
      | 2, h2 => exact (Option.some.inj h2).symm
    rw [hki]
    exact ⟨t, b, v, h3, h4, h5, h6⟩
  have hnod2 : (xs.map (·.1)).Nodup := by
    rw [hk2]
    refine List.nodup_cons.mpr ⟨fun z => ?_, List.nodup_cons.mpr ⟨fun z => ?_, List.nodup_cons.mpr ⟨List.not_mem_nil, List.nodup_nil⟩⟩⟩
    · rcases List.mem_cons.mp z with z | z
      · exact absurd (DK.ent.inj z).2 (by decide)
      · exact absurd (DK.ent.inj (List.mem_singleton.mp z)).2 (by decide)
    · exact absurd (DK.ent.inj (List.mem_singleton.mp z)).2 (by decide)
  refine ⟨l2, ps2, xs, rfl, sq_of hl2, hpr2, fun d2 hd2 => ?_⟩
  rw [mergeN_nil xs hnod2]
  have xo : XOk phE xs := ⟨hnod2, fun r hr => (hall r hr).1, by
    have : xs.length = 3 := by rw [← List.length_map (f := (·.1)), hk2] <;> rfl
    omega⟩
  have hdd : upd H3 d2 (ndO P w d2 xs) d = some (.dK (kvsOf rs)) := (Ex.new hd2) _ _ (e3 _ _ hpd upd_same)
  refine mkS (.inr ⟨d, rfl, hdd⟩) (.inr ⟨d2, rfl, upd_same, fun r hr => ((hall r hr).2).ex (Ex.new hd2)⟩) vo xo fun a H4 _ e4 hst => ?_
  exact q a _ _ H4 (e2.trans (e3.trans ((ExP.new hd2).trans e4.p))) ((hp3.ex (Ex.new hd2)).ex e4) hst (Nat.le_trans (List.length_filter_le _ _) (by rw [← List.length_map (f := (·.1)), hk]; decide))
end
end L2.K7

/-! N21: _law_meaning. -/
namespace L2.K7
open PySem PySem.Spec PyProof.Rows
open Evl
theorem keys_repN {xs : NL} {k : DK} {v : V} : (repN xs k v).map (·.1) = xs.map (·.1) := by
  unfold repN
  rw [List.map_map]
  refine List.map_congr_left fun q _ => ?_
  show (if q.1 = k then (q.1, q.2.1, v) else q).1 = q.1
  split <;> rfl
theorem mem_repN {xs : NL} {k : DK} {v : V} {q : DK × Addr × V} (h : q ∈ repN xs k v) : ∃ r ∈ xs, q.1 = r.1 ∧ q.2.1 = r.2.1 ∧ (q.2.2 = r.2.2 ∨ (r.1 = k ∧ q.2.2 = v)) := by
  obtain ⟨r, hr, e⟩ := List.mem_map.mp h
  refine ⟨r, hr, ?_⟩
  by_cases c : r.1 = k
  · rw [if_pos c] at e
    subst e
    exact ⟨rfl, rfl, .inr ⟨c, rfl⟩⟩
  · rw [if_neg c] at e
    subst e
    exact ⟨rfl, rfl, .inl rfl⟩
theorem none_of_valN {xs : NL} {k : DK} (h : valN xs k = none) : k ∉ xs.map (·.1) := fun z => by
  obtain ⟨q, hq, e⟩ := List.mem_map.mp z
  unfold valN at h
  rw [Option.map_eq_none_iff, List.find?_eq_none] at h
  exact h q hq (by simpa using e)
structure OSt (P : Program) (w : World) (H : Hp) (d : Addr) (m : Nat) : Prop where
  ex : ∃ xs : NL, H d = some (ndO P w d xs) ∧ KeysAt H xs ∧ (xs.map (·.1)).Nodup ∧ (∀ q ∈ xs, phO q.1 q.2.2) ∧ xs.length ≤ m
section
variable {P : Program} {w : World} {K : PySem.W.Frag} {mg : Str → Option Value} {base : Heap} {S M : Addr}
theorem OSt.xp {p d : Addr} {ws : List Str} {H H' : Hp} {m : Nat} (h : OSt P w H d m) (hp : PoolSt p ws H) (hne : d ≠ p) (e : ExP p H H') : OSt P w H' d m := by
  obtain ⟨xs, h1, h2, h3⟩ := h.ex
  exact ⟨xs, e _ _ hne h1, h2.keeps (hp.xt e), h3⟩
theorem put_ok {H : Hp} {d b : Addr} {xs : NL} {k : DK} {v : V} {m : Nat} (h1 : H d = some (ndO P w d xs)) (h2 : KeysAt H xs) (h3 : (xs.map (·.1)).Nodup) (h4 : ∀ q ∈ xs, phO q.1 q.2.2) (h5 : xs.length ≤ m) (hb : DKAt H b k) (hk : phO k v) : OSt P w (upd H d (ndO P w d (putN xs k b v))) d (m + 1) := by
  have tt : ∀ c ys, H c = some (.tup ys) → upd H d (ndO P w d (putN xs k b v)) c = some (.tup ys) := fun c ys h => by
    rw [upd_ne (by intro z; subst z; rw [h1] at h; exact ndO_nt _ (Option.some.inj h))]
    exact h
  refine ⟨putN xs k b v, upd_same, ?_, ?_, ?_, by have := length_putN xs k b v; omega⟩
  · refine KeysAt.keeps (H := H) (fun q hq => ?_) tt
    unfold putN at hq
    by_cases c : (valN xs k).isSome = true
    · rw [if_pos c] at hq
      obtain ⟨r, hr, e1, e2, _⟩ := mem_repN hq
      rw [e1, e2]
      exact h2 r hr
    · rw [if_neg c] at hq
      rcases List.mem_append.mp hq with hq | hq
      · exact h2 q hq
      · rw [List.mem_singleton.mp hq]
        exact hb
  · unfold putN
    by_cases c : (valN xs k).isSome = true
    · rw [if_pos c, keys_repN]
      exact h3
    · rw [if_neg c, List.map_append, List.nodup_append]
      have hn : valN xs k = none := by simpa using c
      refine ⟨h3, List.nodup_cons.mpr ⟨List.not_mem_nil, List.nodup_nil⟩, fun x hx y hy e => ?_⟩
      have hy' : y = k := by simpa using hy
      subst hy'
      subst e
      exact none_of_valN hn hx
  · intro q hq
    unfold putN at hq
    by_cases c : (valN xs k).isSome = true
    · rw [if_pos c] at hq
      obtain ⟨r, hr, e1, e2, e3⟩ := mem_repN hq
      rcases e3 with e3 | ⟨e3, e4⟩
      · rw [e1, e3]
        exact h4 r hr
      · rw [e1, e3, e4]
        exact hk
    · rw [if_neg c] at hq
      rcases List.mem_append.mp hq with hq | hq
      · exact h4 q hq
      · rw [List.mem_singleton.mp hq]
        exact hk
/-- d[f, (..)] = draw(pool, 3) -/
theorem s_put {p d : Addr} {ws : List Str} {H0 H : Hp} {σ : St} {D : Ends} {m : Nat} {ty : TE} (h0 : ExP p H0 H) (hd0 : H0 d = none) (hdp : d ≠ p) (hp : PoolSt p ws H) (ho : OSt P w H d m) (hm : m < 50) (s0 : σ[0]? = some (some (.ref p))) (s1 : σ[1]? = some (some (.ref d)))
    (hk : ∀ H1, PoolSt p ws H1 → ∀ Q : VK, (∀ b k H2, Ex H1 H2 → DKAt H2 b k → (∀ i, phO k (.int i)) → Q (.ref b) H2) → ty σ H1 Q) (k : ∀ H1, ExP p H0 H1 → PoolSt p ws H1 → OSt P w H1 d (m + 1) → D.nx σ H1) :
    sNPut P w (tVar 1) ty (tCall spDraw [] E0 (tCons (tVar 0) (tCons (tC (.int 3)) tNil))) D σ H :=
  q_draw (p := p) (ws := ws) (c := 3) (ea_cons (ev_var s0) (ea_cons ev_c ea_nil)) (by decide) (by decide) hp fun r H1 e1 hp1 _ _ => ⟨_, s1, hk H1 hp1 _ fun b kk H2 e2 hb hph => by
    obtain ⟨xs, q1, q2, q3, q4, q5⟩ := (ho.xp hp hdp e1).ex
    exact ⟨d, xs, b, kk, rfl, rfl, e2 _ _ q1, q2.ex e2, hb, Nat.lt_of_le_of_lt q5 (Nat.lt_trans hm (by decide)), k _ (((h0.trans e1).trans e2.p).mut hd0) ((hp1.ex e2).at (Ne.symm hdp)) (put_ok (e2 _ _ q1) (q2.ex e2) q3 q4 q5 hb (hph r))⟩⟩
theorem q_put {p d : Addr} {ws : List Str} {H0 H : Hp} {σ : St} {D : Ends} {tz : TS} {m : Nat} {ty : TE} (h0 : ExP p H0 H) (hd0 : H0 d = none) (hdp : d ≠ p) (hp : PoolSt p ws H) (ho : OSt P w H d m) (hm : m < 50) (s0 : σ[0]? = some (some (.ref p))) (s1 : σ[1]? = some (some (.ref d)))
    (hk : ∀ H1, PoolSt p ws H1 → ∀ Q : VK, (∀ b k H2, Ex H1 H2 → DKAt H2 b k → (∀ i, phO k (.int i)) → Q (.ref b) H2) → ty σ H1 Q) (k : ∀ H1, ExP p H0 H1 → PoolSt p ws H1 → OSt P w H1 d (m + 1) → tz D σ H1) :
    tSeq (sNPut P w (tVar 1) ty (tCall spDraw [] E0 (tCons (tVar 0) (tCons (tC (.int 3)) tNil)))) tz D σ H := s_put (D := { D with nx := tz D }) h0 hd0 hdp hp ho hm s0 s1 hk k
/-- ((f, (..))): a key made -/
theorem key_made {σ : St} {H1 : Hp} {tf ti : TE} {f : Str} {is : List Int} {Q : VK} (hf : Ev tf σ H1 (.str f)) (hi : EvU ti σ H1 (is.map V.int)) (q : ∀ b H2, Ex H1 H2 → DKAt H2 b (.ask f is) → Q (.ref b) H2) : tTup (tCons tf (tCons ti tNil)) σ H1 Q :=
  hf H1 (Ex.refl H1) _ fun H2 e2 => hi H2 e2 _ fun c H3 _ e3 hc => ⟨by show 2 ≤ sizeLine; exact sz_of (by decide), fun b hb => q b _ ((e2.trans e3).trans (Ex.new hb)) ⟨c, upd_same, (Ex.new hb) _ _ hc⟩⟩
theorem tup_first {te : TE} {tr : TA} {σ : St} {H : Hp} {Q : VK} (h : te σ H fun x H1 => tr σ H1 fun xs H2 => (x :: xs).length ≤ sizeLine ∧ ∀ p, H2 p = none → Q (.ref p) (upd H2 p (.tup (x :: xs)))) : tTup (tCons te tr) σ H Q := h
/-- the pairs ((pool[j + 2], (at,)), v) -/
theorem eq_asked {p : Addr} {ws : List Str} {σ : St} {H : Hp} {tv : TE} {j : Nat} {g : Str} {φ : V → Prop} (hg : ws[j]? = some g) (hj : j < 5) (s0 : ∀ i : Nat, ((wipe σ [4]).set 4 (some (.int (i : Int))))[0]? = some (some (.ref p))) (s4 : ∀ i : Nat, ((wipe σ [4]).set 4 (some (.int (i : Int))))[4]? = some (some (.int (i : Int)))) (hw : ∀ x, wipe ((wipe σ [4]).set 4 (some x)) [4] = wipe σ [4])
    (hv : ∀ (i : Nat) H1, PoolSt p ws H1 → ∀ Q : VK, (∀ v H2, ExP p H1 H2 → PoolSt p ws H2 → φ v → Q v H2) → tv ((wipe σ [4]).set 4 (some (.int (i : Int)))) H1 Q) :
    EvQL p ws (tLc (iRng1 (tCons (tC (.int 3)) tNil)) (gName 4) tYes (tTup (tCons (tTup (tCons (tOp (rIxL K) (tVar 0) (tC (.int ((j + 2 : Nat) : Int)))) (tCons (tTup (tCons (tVar 4) tNil)) tNil))) (tCons tv tNil))) [4]) σ H 3
      (fun i u H => ∃ t b v, u = .ref t ∧ H t = some (.tup [.ref b, v]) ∧ DKAt H b (.ask g [(i : Int)]) ∧ φ v) := by
  refine eq_lcR (n := 3) (fun i u H H' e ⟨t, b, v, h1, h2, h3, h4⟩ => ⟨t, b, v, h1, e _ _ h2, h3.keeps e, h4⟩) (fun H1 => ea_cons ev_c ea_nil) (by decide) hw (fun i H2 e2 hi H3 e3 hp3 Q q => ?_)
  obtain ⟨g2, hg2, _, hE⟩ := word_at (K := K) (σ := (wipe σ [4]).set 4 (some (.int (i : Int)))) (j := j) hp3 (s0 i) hj
  rw [hg] at hg2
  cases hg2
  refine tup_first (key_made (is := [(i : Int)]) hE (eu_tup (ea_cons (ev_var (s4 i)) ea_nil) (by show 1 ≤ 100000; decide)) fun b H4 e4 hb => ?_)
  refine hv i H4 (hp3.ex e4) _ fun v H5 e5 hp5 hφ => ?_
  have hb5 : DKAt H5 b (.ask g [(i : Int)]) := hb.keeps ((hp3.ex e4).xt e5)
  exact ⟨by show 2 ≤ sizeLine; exact sz_of (by decide), fun l hl => q (.ref l) _ (e4.p.trans (e5.trans (ExP.new hl))) (hp5.ex (Ex.new hl)) ⟨l, b, v, rfl, upd_same, hb5.ex (Ex.new hl), hφ⟩⟩
theorem asked_nodup {g : Str} : ([.ask g [0], .ask g [1], .ask g [2]] : List DK).Nodup := by
  refine List.nodup_cons.mpr ⟨fun z => ?_, List.nodup_cons.mpr ⟨fun z => ?_, List.nodup_cons.mpr ⟨List.not_mem_nil, List.nodup_nil⟩⟩⟩
  · rcases List.mem_cons.mp z with z | z
    · exact absurd (DK.ask.inj z).2 (by decide)
    · exact absurd (DK.ask.inj (List.mem_singleton.mp z)).2 (by decide)
  · exact absurd (DK.ask.inj (List.mem_singleton.mp z)).2 (by decide)
theorem asked_at {g : Str} {i : Nat} {k : DK} (h : ([.ask g [0], .ask g [1], .ask g [2]] : List DK)[i]? = some k) : k = .ask g [(i : Int)] := by
  match i, h with
  | 0, h => exact (Option.some.inj h).symm
  | 1, h => exact (Option.some.inj h).symm
  | 2, h => exact (Option.some.inj h).symm
abbrev gmN : List Str := ["_law_pool_here", "_law_operations", "_law_one", "_law_other", "_law_at"]
abbrev gmS : Scope := defScope (top 42)
theorem walk_genMean (T : Txt K mg) (C : Cts K mg S M) (c_draw : Cal P w K mg base CX0 1 "_law_draw" spDraw) (c_Meaning : Mak P w K mg base 4 "Meaning" M (spInitM P w M) []) : Walks P w K mg base CX0 5 "_law_meaning" (top 42) gmN (spGenMean P w M) := by
  intro f cdv A outer s H vs Q E hr hsp
  obtain ⟨p, ws, rfl, hp, q⟩ := hsp
  have nd : gmN.Nodup := by decide +kernel
  refine ⟨_, (pss_cons (ps_set (i := 1) nd rfl (Or.inl rfl) (pe_t (call_dictN rfl hr.units) T.dict b_dict (pa_cons (pe_lc (own := [("_law_at", 4)]) (g := gName 4) (tt := tYes) rfl nd (pi_range1 rfl T.range (pa_cons pe_int pa_nil)) (blkOk_by (N := gmN) (sc := gmS) (by decide +kernel)) (fun _ _ _ _ _ => pg_name (i := 4) nd rfl (Or.inl rfl)) (fun _ _ _ _ _ => pts_nil) (fun _ _ _ _ _ => (pe_tup (pa_cons (pe_tup (pa_cons (pe_ix (ix_listC (K := K) rfl) (pv 0) pe_int (fun _ _ => rfl)) (pa_cons (pe_tup (pa_cons (pv 4) pa_nil)) pa_nil))) (pa_cons (pe_c c_draw hr (by decide) (pa_cons (pv 0) (pa_cons pe_int pa_nil))) pa_nil))))) pa_nil)))
    (pss_cons (ps_nput hr.units (pv 1) (pe_tup (pa_cons (pe_ix ix_list (pv 0) pe_int (fun _ _ => rfl)) (pa_cons (pe_tup pa_nil) pa_nil))) (pe_c c_draw hr (by decide) (pa_cons (pv 0) (pa_cons pe_int pa_nil))) rfl)
    (pss_cons (ps_nput hr.units (pv 1) (pe_tup (pa_cons pe_str (pa_cons (pe_tup pa_nil) pa_nil))) (pe_c c_draw hr (by decide) (pa_cons (pv 0) (pa_cons pe_int pa_nil))) rfl)
    (pss_cons (ps_for (passes_of rfl) rfl (pi_range1 rfl T.range (pa_cons pe_int pa_nil)) (pg_name (i := 2) nd rfl (Or.inl rfl)) (pss_one (ps_for (passes_of rfl) rfl (pi_range1 rfl T.range (pa_cons pe_int pa_nil)) (pg_name (i := 3) nd rfl (Or.inl rfl)) (pss_one (ps_nput hr.units (pv 1) (pe_tup (pa_cons (pe_ix ix_list (pv 0) pe_int (fun _ _ => rfl)) (pa_cons (pe_tup (pa_cons (pv 2) (pa_cons (pv 3) pa_nil))) pa_nil))) (pe_c c_draw hr (by decide) (pa_cons (pv 0) (pa_cons pe_int pa_nil))) rfl)))))
    (pss_one (ps_ret (pe_mk c_Meaning hr (by decide) (pa_cons (pv 1) (pa_cons (pe_t (call_dictN rfl hr.units) T.dict b_dict (pa_cons (pe_lc (own := [("_law_at", 4)]) (g := gName 4) (tt := tYes) rfl nd (pi_range1 rfl T.range (pa_cons pe_int pa_nil)) (blkOk_by (N := gmN) (sc := gmS) (by decide +kernel)) (fun _ _ _ _ _ => pg_name (i := 4) nd rfl (Or.inl rfl)) (fun _ _ _ _ _ => pts_nil) (fun _ _ _ _ _ => (pe_tup (pa_cons (pe_tup (pa_cons (pe_ix (ix_listC (K := K) rfl) (pv 0) pe_int (fun _ _ => rfl)) (pa_cons (pe_tup (pa_cons (pv 4) pa_nil)) pa_nil))) (pa_cons (pe_cmpR op_eq (pe_c c_draw hr (by decide) (pa_cons (pv 0) (pa_cons pe_int pa_nil))) pe_int (nomark _)) pa_nil))))) pa_nil)) pa_nil))))))))), ?_⟩
  obtain ⟨g, hg, hgn, _⟩ := word_at (K := K) (σ := start gmN [.ref p]) (j := 1) hp rfl (by decide)
  refine q_cbQL (eq_asked (K := K) (H := H) (tv := tCall spDraw [] E0 (tCons (tVar 0) (tCons (tC (.int 3)) tNil))) (σ := start gmN [.ref p]) (φ := fun v => ∃ r, v = .int r) hg (by decide) (fun i => rfl) (fun i => rfl) (fun x => rfl) fun i H1 hp1 Q q =>
    q_draw (p := p) (ws := ws) (c := 3) (ea_cons (ev_var rfl) (ea_cons ev_c ea_nil)) (by decide) (by decide) hp1 fun r H2 e2 hp2 _ _ => q _ H2 e2 hp2 ⟨r, rfl⟩) hp fun l us H1 e1 hp1 hl hn hu => ?_
  obtain ⟨ps, xs, rfl, hk, hpr, hall⟩ := pairs_nest (K := K) (H := H1) (φ := phO) [.ask g [0], .ask g [1], .ask g [2]] us hn fun i u k h1 h2 => by
    obtain ⟨t, b, v, h3, h4, h5, r, h6⟩ := hu i u h1
    rw [asked_at h2]
    exact ⟨t, b, v, h3, h4, h5, g, _, r, rfl, hgn, by show 1 ≤ 8; decide, h6⟩
  have hnod : (xs.map (·.1)).Nodup := by rw [hk]; exact asked_nodup
  refine ⟨l, ps, xs, rfl, sq_of hl, hpr, fun d hd => ?_⟩
  rw [mergeN_nil xs hnod]
  have hpd : d ≠ p := fun z => hp1.ne hd z.symm
  have hd0 : H d = none := by
    cases h : H d with
    | none => rfl
    | some o =>
      have := e1 d o hpd h
      rw [hd] at this
      cases this
  have e2 : ExP p H (upd H1 d (ndO P w d xs)) := e1.trans (ExP.new hd)
  have hp2 : PoolSt p ws (upd H1 d (ndO P w d xs)) := hp1.ex (Ex.new hd)
  have ho2 : OSt P w (upd H1 d (ndO P w d xs)) d 3 := ⟨xs, upd_same, fun r hr => ((hall r hr).2).ex (Ex.new hd), hnod, fun r hr => (hall r hr).1, by
    have : xs.length = 3 := by rw [← List.length_map (f := (·.1)), hk] <;> rfl
    omega⟩
  refine q_put e2 hd0 hpd hp2 ho2 (by decide) rfl rfl (fun H3 hp3 Q q => ?_) fun H3 e3 hp3 ho3 => ?_
  · obtain ⟨x, hx, hxn, hE⟩ := word_at (K := K) (σ := (start gmN [.ref p]).set 1 (some (.ref d))) (j := 3) hp3 rfl (by decide)
    exact key_made (is := []) hE (eu_tup ea_nil (by decide)) fun b H4 e4 hb => q b _ H4 e4 hb fun i => ⟨x, [], i, rfl, hxn, by decide, rfl⟩
  refine q_put e3 hd0 hpd hp3 ho3 (by decide) rfl rfl (fun H4 hp4 Q q => ?_) fun H4 e4 hp4 ho4 => ?_
  · exact key_made (f := "none") (is := []) ev_c (eu_tup ea_nil (by decide)) fun b H4 e4 hb => q b _ H4 e4 hb fun i => ⟨"none", [], i, rfl, by decide +kernel, by decide, rfl⟩
  refine q_forR1 (n := 3) (ea_cons ev_c ea_nil) (by omega) (fun i σ' H' => ∃ r2 r3 : Option V, σ' = [some (.ref p), some (.ref d), r2, r3, none] ∧ ExP p H H' ∧ PoolSt p ws H' ∧ OSt P w H' d (5 + 3 * i)) (fun H5 e5 => ⟨none, none, rfl, e4.trans e5.p, hp4.ex e5, ho4.xp hp4 hpd e5.p⟩) (fun i σ' H' hi hI => ?_) (fun σ' H' hI => ?_)
  · obtain ⟨r2, r3, rfl, e5, hp5, ho5⟩ := hI
    refine s_forR1 (n := 3) (ea_cons ev_c ea_nil) (by omega) (fun j σ' H' => ∃ r3 : Option V, σ' = [some (.ref p), some (.ref d), some (.int (i : Int)), r3, none] ∧ ExP p H H' ∧ PoolSt p ws H' ∧ OSt P w H' d (5 + 3 * i + j)) (fun H6 e6 => ⟨r3, rfl, e5.trans e6.p, hp5.ex e6, ho5.xp hp5 hpd e6.p⟩) (fun j σ' H' hj hJ => ?_) (fun σ' H' hJ => ?_)
    · obtain ⟨r3, rfl, e6, hp6, ho6⟩ := hJ
      refine s_put e6 hd0 hpd hp6 ho6 (by omega) rfl rfl (fun H7 hp7 Q q => ?_) fun H7 e7 hp7 ho7 => ⟨_, rfl, e7, hp7, ho7⟩
      obtain ⟨x, hx, hxn, hE⟩ := word_at (K := K) (σ := [some (.ref p), some (.ref d), some (.int (i : Int)), some (.int (j : Int)), none]) (j := 2) hp7 rfl (by decide)
      exact key_made (is := [(i : Int), (j : Int)]) hE (eu_tup (ea_cons (ev_var rfl) (ea_cons (ev_var rfl) ea_nil)) (by show 2 ≤ 100000; decide)) fun b H4 e4 hb => q b _ H4 e4 hb fun z => ⟨x, _, z, rfl, hxn, by show 2 ≤ 8; decide, rfl⟩
    · obtain ⟨r3, rfl, e6, hp6, ho6⟩ := hJ
      exact ⟨_, _, rfl, e6, hp6, ho6⟩
  · obtain ⟨r2, r3, rfl, e5, hp5, ho5⟩ := hI
    refine ⟨_, rfl, ?_⟩
    obtain ⟨g6, hg6, hgn6, _⟩ := word_at (K := K) (σ := [some (.ref p), some (.ref d), r2, r3, none]) (j := 4) hp5 rfl (by decide)
    refine cb_ql (eq_asked (K := K) (H := H') (tv := tOp rEq (tCall spDraw [] E0 (tCons (tVar 0) (tCons (tC (.int 2)) tNil))) (tC (.int 0))) (σ := [some (.ref p), some (.ref d), r2, r3, none]) (φ := fun v => ∃ r, v = .bl r) hg6 (by decide) (fun i => rfl) (fun i => rfl) (fun x => rfl) fun i H1 hp1 Q q =>
      q_draw (p := p) (ws := ws) (c := 2) (ea_cons (ev_var rfl) (ea_cons ev_c ea_nil)) (by decide) (by decide) hp1 fun r H2 e2 hp2 _ _ => ⟨rfl, q _ H2 e2 hp2 ⟨_, rfl⟩⟩) hp5 fun l2 us2 H6 e6 hp6 hl2 hn2 hu2 => ?_
    obtain ⟨ps2, ts, rfl, hk2, hpr2, hall2⟩ := pairs_nest (K := K) (H := H6) (φ := phT) [.ask g6 [0], .ask g6 [1], .ask g6 [2]] us2 hn2 fun i u k h1 h2 => by
      obtain ⟨t, b, v, h3, h4, h5, r, h6⟩ := hu2 i u h1
      rw [asked_at h2]
      exact ⟨t, b, v, h3, h4, h5, g6, _, r, rfl, hgn6, by show 1 ≤ 8; decide, h6⟩
    have hnod2 : (ts.map (·.1)).Nodup := by rw [hk2]; exact asked_nodup
    refine ⟨l2, ps2, ts, rfl, sq_of hl2, hpr2, fun d2 hd2 => ?_⟩
    rw [mergeN_nil ts hnod2]
    obtain ⟨os, o1, o2, o3, o4, o5⟩ := (ho5.xp hp5 hpd (e6.trans (ExP.new (o := ndO P w d2 ts) hd2))).ex
    refine mkM (.inr ⟨d, rfl, o1, o2⟩) (.inr ⟨d2, rfl, upd_same, fun r hr => ((hall2 r hr).2).ex (Ex.new hd2)⟩) ⟨o3, o4, by have : os.length ≤ 5 + 3 * 3 := o5; omega⟩ ⟨hnod2, fun r hr => (hall2 r hr).1, by
      have : ts.length = 3 := by rw [← List.length_map (f := (·.1)), hk2] <;> rfl
      omega⟩ fun a H7 _ e7 hst => ?_
    exact q a _ _ H7 (e5.trans (e6.trans ((ExP.new hd2).trans e7.p))) ((hp6.ex (Ex.new hd2)).ex e7) hst
end
end L2.K7

/-! N22: the plain law: well formed terms are terms, odd ones are not; terms in place of equal ones. -/
namespace L2.K7
open PySem PySem.Spec PyProof.Rows
open Evl
def kids : Tm → List Tm
  | .var _ => []
  | .item _ t => [t]
  | .op0 _ => []
  | .op1 _ t => [t]
  | .op2 _ t u => [t, u]
def sizes (l : List Tm) : Nat := (l.map Tm.size).sum
theorem sizes_cons (t : Tm) (l : List Tm) : sizes (t :: l) = t.size + sizes l := by simp [sizes]
theorem sizes_app (a b : List Tm) : sizes (a ++ b) = sizes a + sizes b := by simp [sizes]
theorem size_kids (t : Tm) : t.size = sizes (kids t) + 1 := by cases t <;> simp [Tm.size, kids, sizes]
theorem dep_kids {t u : Tm} (h : u ∈ kids t) : u.dep + 1 ≤ t.dep := by
  cases t with
  | var _ => cases h
  | item _ t => rw [List.mem_singleton.mp h]; exact Nat.le_refl _
  | op0 _ => cases h
  | op1 _ t => rw [List.mem_singleton.mp h]; exact Nat.le_refl _
  | op2 _ a b =>
    rcases List.mem_cons.mp h with h | h
    · rw [h]; exact Nat.succ_le_succ (Nat.le_max_left _ _)
    · rw [List.mem_singleton.mp h]; exact Nat.succ_le_succ (Nat.le_max_right _ _)
theorem wf_kids {t u : Tm} (hw : t.wf = true) (h : u ∈ kids t) : u.wf = true := by
  cases t with
  | var _ => cases h
  | item _ t =>
    rw [List.mem_singleton.mp h]
    exact (Bool.and_eq_true_iff.mp hw).2
  | op0 _ => cases h
  | op1 _ t =>
    rw [List.mem_singleton.mp h]
    exact (Bool.and_eq_true_iff.mp hw).2
  | op2 _ a b =>
    have h2 := Bool.and_eq_true_iff.mp (Bool.and_eq_true_iff.mp hw).2
    rcases List.mem_cons.mp h with h | h
    · rw [h]; exact h2.1
    · rw [List.mem_singleton.mp h]; exact h2.2
theorem s_ii : sEq (.str "item") "var" = false := by decide +kernel
theorem s_oo : sEq (.str "op") "var" = false := by decide +kernel
theorem s_oi : sEq (.str "op") "item" = false := by decide +kernel
theorem s_vv : sEq (.str "var") "var" = true := by decide +kernel
theorem s_it : sEq (.str "item") "item" = true := by decide +kernel
theorem s_op : sEq (.str "op") "op" = true := by decide +kernel
theorem parts_dt (t : Tm) : partsD t.dt = (kids t).map Tm.dt := by
  cases t with
  | var x => exact parts_var (ds := [.str "var", .str x]) s_vv
  | item x t => exact parts_item (ds := [.str "item", .str x, t.dt]) s_ii s_it
  | op0 f => exact parts_op (ds := [.str "op", .str f, .tup []]) s_oo s_oi rfl
  | op1 f t => exact parts_op (ds := [.str "op", .str f, .tup [t.dt]]) s_oo s_oi rfl
  | op2 f t u => exact parts_op (ds := [.str "op", .str f, .tup [t.dt, u.dt]]) s_oo s_oi rfl
theorem form_tup3 (a b c : Dt) : formD (.tup [a, b, c]) = ((isStr a && nameD b) && (if sEq a "var" = true then false else (sEq a "item" || (sEq a "op" && argsD c)))) := rfl
theorem form_tup2 (a b : Dt) : formD (.tup [a, b]) = ((isStr a && nameD b) && (if sEq a "var" = true then true else false)) := rfl
theorem atom_tup3 (a b c : Dt) : atomD (.tup [a, b, c]) = (if isStr a = true then (if sEq a "same" = true then (termD b && (termD c && true)) else ((sEq a "test" && nameD b && argsD c) && (match c with
        | .tup es => (es.map termD).all id
        | _ => false))) else false) := rfl
theorem atom_tup2 (a b : Dt) : atomD (.tup [a, b]) = false := rfl
theorem isStr_str (x : Str) : isStr (.str x) = true := rfl
theorem nameD_str (x : Str) : nameD (.str x) = nameB x := rfl
theorem args1 (a : Dt) : argsD (.tup [a]) = true := rfl
theorem args2 (a b : Dt) : argsD (.tup [a, b]) = true := rfl
theorem args0 : argsD (.tup []) = true := rfl
theorem s_sv : sEq (.str "same") "var" = false := by decide +kernel
theorem s_tv : sEq (.str "test") "var" = false := by decide +kernel
theorem s_ti : sEq (.str "test") "item" = false := by decide +kernel
theorem s_to : sEq (.str "test") "op" = false := by decide +kernel
theorem s_ss : sEq (.str "same") "same" = true := by decide +kernel
theorem s_ts : sEq (.str "test") "same" = false := by decide +kernel
theorem s_tt : sEq (.str "test") "test" = true := by decide +kernel
theorem s_is : sEq (.str "item") "same" = false := by decide +kernel
theorem s_it2 : sEq (.str "item") "test" = false := by decide +kernel
theorem s_os : sEq (.str "op") "same" = false := by decide +kernel
theorem s_ot : sEq (.str "op") "test" = false := by decide +kernel
theorem form_dt (t : Tm) (h : t.wf = true) : formD t.dt = true := by
  cases t with
  | var x =>
    have hx : nameB x = true := h
    show formD (.tup [.str "var", .str x]) = true
    simp [form_tup2, isStr_str, nameD_str, hx, s_vv]
  | item x t =>
    have hx := (Bool.and_eq_true_iff.mp h).1
    show formD (.tup [.str "item", .str x, t.dt]) = true
    simp [form_tup3, isStr_str, nameD_str, hx, s_ii, s_it]
  | op0 f =>
    have hx : nameB f = true := h
    show formD (.tup [.str "op", .str f, .tup []]) = true
    simp [form_tup3, isStr_str, nameD_str, hx, s_oo, s_op, args0]
  | op1 f t =>
    have hx := (Bool.and_eq_true_iff.mp h).1
    show formD (.tup [.str "op", .str f, .tup [t.dt]]) = true
    simp [form_tup3, isStr_str, nameD_str, hx, s_oo, s_op, args1]
  | op2 f t u =>
    have hx := (Bool.and_eq_true_iff.mp h).1
    show formD (.tup [.str "op", .str f, .tup [t.dt, u.dt]]) = true
    simp [form_tup3, isStr_str, nameD_str, hx, s_oo, s_op, args2]
theorem len_sizes : ∀ l : List Tm, l.length ≤ sizes l
  | [] => Nat.le_refl 0
  | t :: l => by
    have := len_sizes l
    rw [sizes_cons, List.length_cons, size_kids t]
    omega
theorem sizes_next : ∀ l : List Tm, sizes l = sizes (l.flatMap kids) + l.length
  | [] => rfl
  | t :: l => by
    rw [sizes_cons, List.flatMap_cons, sizes_app, List.length_cons, size_kids t, sizes_next l]
    omega
theorem bfs_ok : ∀ (n : Nat) (count : Int) (l : List Tm), (∀ t ∈ l, t.wf = true) → (∀ t ∈ l, t.dep ≤ n) → 0 ≤ count → count + (sizes l : Int) ≤ 200 → bfs n count (l.map Tm.dt) = true
  | 0, count, l, _, hd, _, _ => by
    cases l with
    | nil => rfl
    | cons t l =>
      have h := hd t (List.mem_cons_self ..)
      have : 1 ≤ t.dep := by cases t <;> simp [Tm.dep]
      omega
  | n + 1, count, l, hw, hd, h0, hs => by
    have hl := len_sizes l
    have hn := sizes_next l
    unfold bfs
    have hf : ((l.map Tm.dt).map formD).all id = true := by
      rw [List.all_map, List.all_map, List.all_eq_true]
      intro t ht
      exact form_dt t (hw t ht)
    have hc : decide ((200 : Int) < count + ((l.map Tm.dt).length : Int)) = false := decide_eq_false (by rw [List.length_map]; omega)
    rw [hf, hc, if_neg (by decide)]
    have e : (l.map Tm.dt).flatMap partsD = (l.flatMap kids).map Tm.dt := by
      rw [List.flatMap_map, List.map_flatMap]
      congr 1
      funext t
      exact parts_dt t
    rw [e, List.length_map]
    refine bfs_ok n _ _ (fun t ht => ?_) (fun t ht => ?_) (by omega) (by omega)
    · obtain ⟨u, hu, hk⟩ := List.mem_flatMap.mp ht
      exact wf_kids (hw u hu) hk
    · obtain ⟨u, hu, hk⟩ := List.mem_flatMap.mp ht
      have h1 := dep_kids hk
      have h2 := hd u hu
      omega
theorem term_ok {t : Tm} (hw : t.wf = true) (hd : t.dep ≤ 30) (hs : t.size ≤ 200) : termD t.dt = true := by
  refine bfs_ok 30 0 [t] (fun u hu => by rw [List.mem_singleton.mp hu]; exact hw) (fun u hu => by rw [List.mem_singleton.mp hu]; exact hd) (Int.le_refl _) ?_
  rw [sizes_cons]
  show (0 : Int) + ((t.size + 0 : Nat) : Int) ≤ 200
  omega
theorem TmOk.term {d : Nat} {t : Tm} (h : TmOk d t) (hd : d ≤ 30) : termD t.dt = true := term_ok h.wf (Nat.le_trans h.dep hd) (by have := h.size; omega)
theorem not_term {d : Dt} (h : formD d = false) : termD d = false := by
  show bfs (29 + 1) 0 [d] = false
  unfold bfs
  rw [if_pos]
  show (_ || !((formD d && true))) = true
  rw [h]
  simp
theorem atom_ok {d : Nat} {a : At} (h : AtOk d a) (hd : d ≤ 30) : atomD a.dt = true := by
  cases a with
  | same t u =>
    obtain ⟨h1, h2⟩ := h.ok
    show atomD (.tup [.str "same", t.dt, u.dt]) = true
    simp [atom_tup3, isStr_str, s_ss, h1.term hd, h2.term (by decide)]
  | test p t =>
    obtain ⟨h1, h2⟩ := h.ok
    show atomD (.tup [.str "test", .str p, .tup [t.dt]]) = true
    simp [atom_tup3, isStr_str, nameD_str, s_ts, s_tt, h1, args1, h2.term hd]
theorem At.dt_no (a : At) : termD a.dt = false := by
  refine not_term ?_
  cases a with
  | same t u =>
    show formD (.tup [.str "same", t.dt, u.dt]) = false
    have e : nameD t.dt = false := by cases t <;> rfl
    simp [form_tup3, e]
  | test p t =>
    show formD (.tup [.str "test", .str p, .tup [t.dt]]) = false
    simp [form_tup3, s_tv, s_ti, s_to]
theorem Tm.dt_no (t : Tm) : atomD t.dt = false := by
  cases t with
  | var x => rfl
  | item x t =>
    show atomD (.tup [.str "item", .str x, t.dt]) = false
    simp [atom_tup3, isStr_str, s_is, s_it2]
  | op0 f =>
    show atomD (.tup [.str "op", .str f, .tup []]) = false
    simp [atom_tup3, isStr_str, s_os, s_ot]
  | op1 f t =>
    show atomD (.tup [.str "op", .str f, .tup [t.dt]]) = false
    simp [atom_tup3, isStr_str, s_os, s_ot]
  | op2 f t u =>
    show atomD (.tup [.str "op", .str f, .tup [t.dt, u.dt]]) = false
    simp [atom_tup3, isStr_str, s_os, s_ot]
abbrev dV : Dt := .tup [.str "var", .str "V"]
abbrev dF : Dt := .tup [.str "op", .str "f"]
theorem no_non : termD .non = false ∧ atomD .non = false := ⟨not_term rfl, rfl⟩
theorem no_int (i : Int) : termD (.int i) = false ∧ atomD (.int i) = false := ⟨not_term rfl, rfl⟩
theorem no_dV : termD dV = false ∧ atomD dV = false := ⟨not_term (by decide +kernel), by decide +kernel⟩
theorem no_dF : termD dF = false ∧ atomD dF = false := ⟨not_term (by decide +kernel), by decide +kernel⟩
/-! ### terms in place of equal ones -/
theorem repl_wf {x : Str} {o : Tm} (ho : o.wf = true) : ∀ t : Tm, t.wf = true → (repl x o t).wf = true
  | .var y, h => by
    unfold repl
    split
    · exact ho
    · exact h
  | .item y t, h => by
    have h' := Bool.and_eq_true_iff.mp h
    show (nameB y && (repl x o t).wf) = true
    rw [h'.1, repl_wf ho t h'.2] <;> rfl
  | .op0 f, h => h
  | .op1 f t, h => by
    have h' := Bool.and_eq_true_iff.mp h
    show (nameB f && (repl x o t).wf) = true
    rw [h'.1, repl_wf ho t h'.2] <;> rfl
  | .op2 f t u, h => by
    have h' := Bool.and_eq_true_iff.mp h
    have h2 := Bool.and_eq_true_iff.mp h'.2
    show (nameB f && ((repl x o t).wf && (repl x o u).wf)) = true
    rw [h'.1, repl_wf ho t h2.1, repl_wf ho u h2.2] <;> rfl
theorem repl_dep {x : Str} {o : Tm} : ∀ t : Tm, (repl x o t).dep ≤ t.dep + o.dep
  | .var y => by
    unfold repl
    split
    · exact Nat.le_add_left _ _
    · exact Nat.le_add_right _ _
  | .item y t => by
    have := repl_dep (x := x) (o := o) t
    show (repl x o t).dep + 1 ≤ t.dep + 1 + o.dep
    omega
  | .op0 f => Nat.le_add_right _ _
  | .op1 f t => by
    have := repl_dep (x := x) (o := o) t
    show (repl x o t).dep + 1 ≤ t.dep + 1 + o.dep
    omega
  | .op2 f t u => by
    have h1 := repl_dep (x := x) (o := o) t
    have h2 := repl_dep (x := x) (o := o) u
    show max (repl x o t).dep (repl x o u).dep + 1 ≤ max t.dep u.dep + 1 + o.dep
    omega
theorem size_pos (t : Tm) : 1 ≤ t.size := by rw [size_kids]; omega
theorem repl_size {x : Str} {o : Tm} : ∀ t : Tm, (repl x o t).size ≤ t.size * o.size
  | .var y => by
    unfold repl
    have h := size_pos o
    split
    · show o.size ≤ 1 * o.size
      omega
    · show 1 ≤ 1 * o.size
      omega
  | .item y t => by
    have h1 := repl_size (x := x) (o := o) t
    have h := size_pos o
    show (repl x o t).size + 1 ≤ (t.size + 1) * o.size
    rw [Nat.add_mul]
    omega
  | .op0 f => by
    have h := size_pos o
    show 1 ≤ 1 * o.size
    omega
  | .op1 f t => by
    have h1 := repl_size (x := x) (o := o) t
    have h := size_pos o
    show (repl x o t).size + 1 ≤ (t.size + 1) * o.size
    rw [Nat.add_mul]
    omega
  | .op2 f t u => by
    have h1 := repl_size (x := x) (o := o) t
    have h2 := repl_size (x := x) (o := o) u
    have h := size_pos o
    show (repl x o t).size + (repl x o u).size + 1 ≤ (t.size + u.size + 1) * o.size
    rw [Nat.add_mul, Nat.add_mul]
    omega
theorem wv_repl {G : Str → Int} {E : Str → Int → Int} {O : Str → List Int → Int} {x : Str} {o : Tm} : ∀ t : Tm, wv G E O (repl x o t) = wv (fun y => if y = x then wv G E O o else G y) E O t
  | .var y => by
    unfold repl
    show _ = if y = x then wv G E O o else G y
    split
    · rfl
    · rfl
  | .item y t => by
    show E y (wv G E O (repl x o t)) = _
    rw [wv_repl t] <;> rfl
  | .op0 f => rfl
  | .op1 f t => by
    show O f [wv G E O (repl x o t)] = _
    rw [wv_repl t] <;> rfl
  | .op2 f t u => by
    show O f [wv G E O (repl x o t), wv G E O (repl x o u)] = _
    rw [wv_repl t, wv_repl u] <;> rfl
/-! ### looks behind filters and stores -/
def putS (vars : List (Str × Int)) (x : Str) (i : Int) : List (Str × Int) := if (vars.any fun p => decide (p.1 = x)) = true then vars.map (fun p => if p.1 = x then (p.1, i) else p) else vars ++ [(x, i)]
theorem kvs_put (vars : List (Str × Int)) (x : Str) (i : Int) : putK (kvsOf vars) (Sum.inr x : Key) (.int i) = kvsOf (putS vars x i) := by
  unfold putK putS
  have e : ((kvsOf vars).any fun kv => decide (kv.1 = (Sum.inr x : Key))) = (vars.any fun p => decide (p.1 = x)) := by
    rw [kvsOf, List.any_map]
    congr 1
    funext p
    show decide ((Sum.inr p.1 : Key) = Sum.inr x) = decide (p.1 = x)
    by_cases c : p.1 = x
    · rw [c, decide_eq_true rfl, decide_eq_true rfl]
    · rw [decide_eq_false c, decide_eq_false fun z => c (Sum.inr.inj z)]
  rw [e]
  by_cases c : (vars.any fun p => decide (p.1 = x)) = true
  · rw [if_pos c, if_pos c, kvsOf, kvsOf, List.map_map, List.map_map]
    refine List.map_congr_left fun p _ => ?_
    show (if (Sum.inr p.1 : Key) = Sum.inr x then ((Sum.inr p.1 : Key), V.int i) else (Sum.inr p.1, V.int p.2)) = (Sum.inr (if p.1 = x then (p.1, i) else p).1, V.int (if p.1 = x then (p.1, i) else p).2)
    by_cases d : p.1 = x
    · rw [if_pos (by rw [d]), if_pos d]
    · rw [if_neg (fun z => d (Sum.inr.inj z)), if_neg d]
  · rw [if_neg c, if_neg c, kvsOf, kvsOf, List.map_append] <;> rfl
theorem keys_put (vars : List (Str × Int)) (x : Str) (i : Int) : (putS vars x i).map (·.1) = if (vars.any fun p => decide (p.1 = x)) = true then vars.map (·.1) else vars.map (·.1) ++ [x] := by
  unfold putS
  split
  · rw [List.map_map]
    refine List.map_congr_left fun p _ => ?_
    show (if p.1 = x then (p.1, i) else p).1 = p.1
    split <;> rfl
  · rw [List.map_append] <;> rfl
theorem put_vok {vars : List (Str × Int)} {x : Str} {i : Int} (h : VOk vars) (hx : nameB x = true) (hs : vars.length < 60) : VOk (putS vars x i) where
  nd := by
    rw [keys_put]
    split
    · exact h.nd
    · rename_i c
      rw [List.nodup_append]
      refine ⟨h.nd, List.nodup_cons.mpr ⟨List.not_mem_nil, List.nodup_nil⟩, fun a ha b hb e => ?_⟩
      have hb' : b = x := by simpa using hb
      subst hb'
      subst e
      obtain ⟨p, hp, e⟩ := List.mem_map.mp ha
      exact c (List.any_eq_true.mpr ⟨p, hp, by simpa using e⟩)
  nm := fun p hp => by
    have hm : p.1 ∈ (putS vars x i).map (·.1) := List.mem_map.mpr ⟨p, hp, rfl⟩
    rw [keys_put] at hm
    split at hm
    · obtain ⟨q, hq, e⟩ := List.mem_map.mp hm
      rw [← e]
      exact h.nm q hq
    · rcases List.mem_append.mp hm with hm | hm
      · obtain ⟨q, hq, e⟩ := List.mem_map.mp hm
        rw [← e]
        exact h.nm q hq
      · rw [List.mem_singleton.mp hm]
        exact hx
  sz := by
    have e : ((putS vars x i).map (·.1)).length = (putS vars x i).length := List.length_map ..
    rw [← e, keys_put]
    split
    · rw [List.length_map]
      omega
    · rw [List.length_append, List.length_map]
      show vars.length + 1 ≤ 60
      omega
theorem look_cons (p : Str × Int) (r : List (Str × Int)) (y : Str) : look (p :: r) y = if p.1 = y then some p.2 else look r y := by
  unfold look
  rw [List.find?_cons]
  by_cases c : p.1 = y
  · rw [decide_eq_true c, if_pos c] <;> rfl
  · rw [decide_eq_false c, if_neg c]
theorem look_app (a b : List (Str × Int)) (y : Str) : look (a ++ b) y = (look a y).or (look b y) := by
  induction a with
  | nil => simp [look]
  | cons p r ih =>
    rw [List.cons_append, look_cons, look_cons, ih]
    split <;> simp
theorem look_rep (vars : List (Str × Int)) (x : Str) (i : Int) (y : Str) (h : vars.any (fun p => decide (p.1 = x)) = true) : look (vars.map fun p => if p.1 = x then (p.1, i) else p) y = if y = x then some i else look vars y := by
  induction vars with
  | nil => cases h
  | cons p r ih =>
    rw [List.map_cons, look_cons, look_cons]
    by_cases c : p.1 = x
    · rw [if_pos c]
      show (if p.1 = y then some i else _) = _
      by_cases d : p.1 = y
      · rw [if_pos d, if_pos (by rw [← d, c])]
      · have hy : ¬ y = x := fun z => d (by rw [c, z])
        rw [if_neg d, if_neg hy, if_neg d]
        by_cases e : r.any (fun p => decide (p.1 = x)) = true
        · rw [ih e, if_neg hy]
        · congr 1
          rw [List.map_congr_left (g := id) fun q hq => ?_, List.map_id]
          have : ¬ q.1 = x := fun z => e (List.any_eq_true.mpr ⟨q, hq, by simpa using z⟩)
          show (if q.1 = x then (q.1, i) else q) = q
          rw [if_neg this]
    · rw [if_neg c]
      have hr : r.any (fun p => decide (p.1 = x)) = true := by
        rw [List.any_cons, decide_eq_false c, Bool.false_or] at h
        exact h
      rw [ih hr]
      by_cases d : p.1 = y
      · rw [if_pos d, if_pos d, if_neg (fun z => c (by rw [d, z]))]
      · rw [if_neg d, if_neg d]
theorem look_put (vars : List (Str × Int)) (x : Str) (i : Int) (y : Str) : look (putS vars x i) y = if y = x then some i else look vars y := by
  unfold putS
  by_cases c : vars.any (fun p => decide (p.1 = x)) = true
  · rw [if_pos c]
    exact look_rep vars x i y c
  · rw [if_neg c, look_app]
    show (look vars y).or (look ((x, i) :: []) y) = _
    rw [look_cons]
    by_cases d : y = x
    · subst d
      rw [if_pos rfl, if_pos rfl, look_none, Option.none_or]
      intro z
      obtain ⟨p, hp, e⟩ := List.mem_map.mp z
      exact c (List.any_eq_true.mpr ⟨p, hp, by simpa using e⟩)
    · rw [if_neg (fun z => d z.symm), if_neg d]
      show (look vars y).or none = _
      rw [Option.or_none]
theorem look_filter : ∀ (vars : List (Str × Int)) (y : Str), (vars.map (·.1)).Nodup → (look (vars.filter nz) y).getD 0 = (look vars y).getD 0
  | [], y, _ => rfl
  | p :: r, y, h => by
    rw [List.map_cons, List.nodup_cons] at h
    rw [List.filter_cons, look_cons]
    have ih := look_filter r y h.2
    by_cases c : nz p = true
    · rw [if_pos c, look_cons]
      split
      · rfl
      · exact ih
    · rw [if_neg c, ih]
      split
      · rename_i d
        have hp : p.2 = 0 := by
          have : ¬ (p.2 != 0) = true := c
          simpa using this
        rw [look_none (by rw [← d]; exact h.1), hp] <;> rfl
      · rfl
theorem gI_filter : ∀ (xs : NL) (k : DK), (xs.map (·.1)).Nodup → (∀ q ∈ xs, ∃ i, q.2.2 = .int i) → gI (valN (xs.filter nt) k) = gI (valN xs k)
  | [], k, _, _ => rfl
  | p :: r, k, h, hi => by
    rw [List.map_cons, List.nodup_cons] at h
    have ih := gI_filter r k h.2 fun q hq => hi q (List.mem_cons_of_mem _ hq)
    rw [List.filter_cons]
    by_cases c : nt p = true
    · rw [if_pos c]
      by_cases d : p.1 = k
      · rw [valN_pos d, valN_pos d]
      · rw [valN_neg d, valN_neg d]
        exact ih
    · rw [if_neg c, ih]
      by_cases d : p.1 = k
      · obtain ⟨i, e⟩ := hi p (List.mem_cons_self ..)
        have hp : i = 0 := by
          have : ¬ (tru p.2.2) = true := c
          rw [e] at this
          have t2 : ¬ (i != 0) = true := this
          simpa using t2
        rw [valN_pos d, valN_none (by rw [← d]; exact h.1), e, hp] <;> rfl
      · rw [valN_neg d]
end L2.K7

/-! N23: _law_replaced_right, _law_error. -/
namespace L2.K7
open PySem PySem.Spec PyProof.Rows
open Evl
theorem passF {X : Cx} : Passes (L2.CX X.prog X.w) X E0 := fun _ _ _ _ _ _ _ ⟨_, _, _, _, _, _, _, _, _, _, _, _, h⟩ => h.elim
structure ErX (K : PySem.W.Frag) (XT XS XM : Addr) : Prop where
  xT : XfC K XT
  xS : XfC K XS
  xM : XfC K XM
  nT : PySem.W.findIn K (.ref XT) "value" = some none
  nS : PySem.W.findIn K (.ref XS) "value" = some none
  nM : PySem.W.findIn K (.ref XM) "value" = some none
  tt : PySem.W.exmOne K (.ref XT) (.ref XT) = some true
  st : PySem.W.exmOne K (.ref XS) (.ref XT) = some false
  ss : PySem.W.exmOne K (.ref XS) (.ref XS) = some true
  mt : PySem.W.exmOne K (.ref XM) (.ref XT) = some false
  ms : PySem.W.exmOne K (.ref XM) (.ref XS) = some false
  mm : PySem.W.exmOne K (.ref XM) (.ref XM) = some true
def GoodA (act : Int) (d : Dt) : Prop := (act = 0 ∧ termD d = true) ∨ (act = 1 ∧ atomD d = true)
inductive ErrCase (P : Program) (w : World) (K : PySem.W.Frag) (S M : Addr) (H : Hp) (act : Int) (d : Dt) (v1 v2 v3 : V) : Str → V → Prop
  | term : (act = 0 ∧ termD d = false) ∨ (act = 1 ∧ atomD d = false) → ErrCase P w K S M H act d v1 v2 v3 "term" v1
  | start : GoodA act d → OddC K S H v2 → ErrCase P w K S M H act d v1 v2 v3 "start" v2
  | meaning : GoodA act d → (∃ a vars xs, v2 = .ref a ∧ StAt P w S H a vars xs) → OddC K M H v3 → ErrCase P w K S M H act d v1 v2 v3 "meaning" v3
def spError (P : Program) (w : World) (K : PySem.W.Frag) (S M : Addr) : Sp := fun vs H Q _ => ∃ act v1 v2 v3 d kind v, vs = [.int act, v1, v2, v3] ∧ DtAt H d v1 ∧ ErrCase P w K S M H act d v1 v2 v3 kind v ∧
  ∀ p H2, H p = none → Ex H H2 → H2 p = some (.lst [.str kind, v]) → Q (.ref p) H2
def spRight (P : Program) (w : World) (S M : Addr) : Sp := fun vs H Q _ => ∃ v vo a b t o vars xs os ts, vs = [v, vo, .ref a, .ref b] ∧ DtAt H (Tm.dt t) v ∧ DtAt H (Tm.dt o) vo ∧ TmOk 5 t ∧ TmOk 3 o ∧ StAt P w S H a vars xs ∧ vars.length ≤ 3 ∧ MeAt P w M H b os ts ∧ RetV (.bl true) H Q
section
variable {P : Program} {w : World} {K : PySem.W.Frag} {mg : Str → Option Value} {base : Heap} {S M XT XS XM : Addr}
theorem sv_worth {n : Nat} {H : Hp} {v : V} {a b : Addr} {t : Tm} {vars : List (Str × Int)} {xs os ts : NL} (hd : DtAt H t.dt v) (ht : termD t.dt = true) (hn : t.dep ≤ n) (hS : StAt P w S H a vars xs) (hM : MeAt P w M H b os ts) :
    SpV (spWorth P w K S M XT XS XM n) [v, .ref a, .ref b] H (.int (wv (varW vars) (entW xs) (opW os) t)) := fun H1 e Q q E =>
  ⟨v, .ref a, .ref b, t.dt, rfl, hd.ex e, .inr ⟨ht, .inr ⟨a, vars, xs, rfl, hS.mono e, .inr ⟨b, os, ts, t, rfl, hM.mono e, rfl, hn, q⟩⟩⟩⟩
theorem sv_truth {n : Nat} {H : Hp} {v : V} {a b : Addr} {t : At} {vars : List (Str × Int)} {xs os ts : NL} (hd : DtAt H t.dt v) (ht : atomD t.dt = true) (hn : t.dep ≤ n) (hS : StAt P w S H a vars xs) (hM : MeAt P w M H b os ts) :
    SpV (spTruth P w K S M XT XS XM n) [v, .ref a, .ref b] H (.bl (tv (varW vars) (entW xs) (opW os) (teW ts) t)) := fun H1 e Q q E =>
  ⟨v, .ref a, .ref b, t.dt, rfl, hd.ex e, .inr ⟨ht, .inr ⟨a, vars, xs, rfl, hS.mono e, .inr ⟨b, os, ts, t, rfl, hM.mono e, rfl, hn, q⟩⟩⟩⟩
theorem sv_now {n : Nat} {H : Hp} {v : V} {a b : Addr} {t : Tm} {vars : List (Str × Int)} {xs os ts : NL} (hd : DtAt H t.dt v) (hn : t.dep ≤ n) (hS : StAt P w S H a vars xs) (hM : MeAt P w M H b os ts) :
    SpV (spNow P w S M n) [v, .ref a, .ref b] H (.int (wv (varW vars) (entW xs) (opW os) t)) := fun H1 e Q q E => ⟨v, a, b, t, vars, xs, os, ts, rfl, hd.ex e, hn, hS.mono e, hM.mono e, q⟩
theorem sv_tnow {n : Nat} {H : Hp} {v : V} {a b : Addr} {t : At} {vars : List (Str × Int)} {xs os ts : NL} (hd : DtAt H t.dt v) (hn : t.dep ≤ n) (hS : StAt P w S H a vars xs) (hM : MeAt P w M H b os ts) :
    SpV (spTNow P w S M n) [v, .ref a, .ref b] H (.bl (tv (varW vars) (entW xs) (opW os) (teW ts) t)) := fun H1 e Q q E => ⟨v, a, b, t, vars, xs, os, ts, rfl, hd.ex e, hn, hS.mono e, hM.mono e, q⟩
abbrev rrN : List Str := ["_law_term_here", "_law_other", "_law_start_here", "_law_meaning_here", "_law_changed", "_law_later"]
theorem q_asgN {σ : St} {H : Hp} {te : TE} {mk : Addr → HO} {i : Nat} {D : Ends} {tz : TS} (h : EvN te σ H mk) (k : ∀ p H1, H p = none → Ex H H1 → H1 p = some (mk p) → tz D (σ.set i (some (.ref p))) H1) : tSeq (tAsg te (gName i)) tz D σ H := h H (Ex.refl H) _ k
def rDictD : List V → Hp → VK → Prop := fun xs H Q => ∃ (a : Addr) (kvs : List (Key × V)), xs = [.ref a] ∧ Rd H a (.dK kvs) ∧ ∀ p, H p = none → Q (.ref p) (upd H p (.dK kvs))
theorem en_dictD {σ : St} {H : Hp} {te : TE} {kvs : List (Key × V)} (h : EvN te σ H (fun _ => .dK kvs)) : EvN (tCB rDictD (tCons te tNil)) σ H (fun _ => .dK kvs) := fun H1 e Q q =>
  h H1 e _ fun p H2 _ e2 h2 => ⟨p, kvs, rfl, .inl h2, fun l hl => q l _ (fresh_back e2 hl) (e2.trans (Ex.new hl)) upd_same⟩
theorem q_dput {σ : St} {H : Hp} {td ty tw : TE} {d : Addr} {kvs : List (Key × V)} {k : Key} {v : V} {D : Ends} {tz : TS} (hv : Ev tw σ H v) (hd : ∀ H1, Ex H H1 → Ev td σ H1 (.ref d)) (hy : ∀ H1, Ex H H1 → Ev ty σ H1 (kV k)) (h : H d = some (.dK kvs)) (hl : kvs.length < sizeLine) (q : ∀ H1, Ex H H1 → tz D σ (upd H1 d (.dK (putK kvs k v)))) : tSeq (sDPut td ty tw) tz D σ H :=
  hv H (Ex.refl H) _ fun H1 e1 => hd H1 e1 H1 (Ex.refl H1) _ fun H2 e2 => hy H2 (e1.trans e2) H2 (Ex.refl H2) _ fun H3 e3 => ⟨d, _, rfl, DPut.k (((e1.trans e2).trans e3) _ _ h) hl, q H3 ((e1.trans e2).trans e3)⟩
theorem VArg.ex {H H' : Hp} {v : V} {vars : List (Str × Int)} (h : VArg H v vars) (e : Ex H H') : VArg H' v vars := by
  rcases h with h | ⟨d, h1, h2⟩
  · exact .inl h
  · exact .inr ⟨d, h1, e _ _ h2⟩
theorem q_asgMk {σ : St} {H : Hp} {tx ty : TE} {v1 : V} {vars : List (Str × Int)} {xs : NL} {i : Nat} {D : Ends} {tz : TS} (hx : Ev tx σ H v1) (hy : EvN ty σ H (fun p => ndO P w p xs)) (ks : KeysAt H xs) (hv : VArg H v1 vars) (vo : VOk vars) (xo : XOk phE xs)
    (k : ∀ a H4, Ex H H4 → StAt P w S H4 a (vars.filter nz) (xs.filter nt) → tz D (σ.set i (some (.ref a))) H4) : tSeq (tAsg (tMake S (spInitS P w S) [] E0 (tCons tx (tCons ty tNil))) (gName i)) tz D σ H :=
  hx H (Ex.refl H) _ fun H1 e1 => hy H1 e1 _ fun d2 H2 _ e2 h2 => mkS (Q := fun u H4 => tz D (σ.set i (some u)) H4) (hv.ex (e1.trans e2)) (.inr ⟨d2, rfl, h2, ks.ex (e1.trans e2)⟩) vo xo fun a H4 _ e4 hS => k a H4 ((e1.trans e2).trans e4) hS
theorem walk_right (T : Txt K mg) (C : Cts K mg S M) (c_variables : Prp P w K mg base 1 S "variables" (spVariables P w S)) (c_entries : Prp P w K mg base 1 S "entries" (spEntries P w S)) (c_Start : Mak P w K mg base 4 "Start" S (spInitS P w S) [])
    (c_lw : Cal P w K mg base CX0 10 "_law_worth" (spNow P w S M 8)) (c_re : Cal P w K mg base CX0 7 "_law_replaced" (spRepl 5)) (c_worth : Cal P w K mg base (L2.CX P w) 11 "worth" (spWorth P w K S M XT XS XM 8)) :
    Walks P w K mg base CX0 11 "_law_replaced_right" (top 47) rrN (spRight P w S M) := by
  intro f cdv A outer s H vs Q E hr hsp
  obtain ⟨v, vo, a, b, t, o, vars, xs, os, ts, rfl, hd, hdo, ht, ho, hS, hv3, hM, q⟩ := hsp
  have nd : rrN.Nodup := by decide +kernel
  refine ⟨_, (pss_cons (ps_set (i := 4) nd rfl (Or.inl rfl) (pe_t call_dictD T.dict b_dict (pa_cons (pe_pr c_variables hr (by decide) (pv 2)) pa_nil)))
    (pss_cons (ps_dput (u1 hr) (pv 4) pe_str (pe_c c_lw hr (by decide) (pa_cons (pv 1) (pa_cons (pv 2) (pa_cons (pv 3) pa_nil)))) rfl)
    (pss_cons (ps_set (i := 5) nd rfl (Or.inl rfl) (pe_mk c_Start hr (by decide) (pa_cons (pv 4) (pa_cons (pe_pr c_entries hr (by decide) (pv 2)) pa_nil))))
    (pss_one (ps_ret (pe_cmpR op_eq (pe_cX c_worth passF hr (by decide) (pa_cons (pe_c c_re hr (by decide) (pa_cons (pv 0) (pa_cons pe_str (pa_cons (pv 1) pa_nil)))) (pa_cons (pv 2) (pa_cons (pv 3) pa_nil)))) (pe_cX c_worth passF hr (by decide) (pa_cons (pv 0) (pa_cons (pv 5) (pa_cons (pv 3) pa_nil)))) (nomark _))))))), ?_⟩
  refine q_asgN (en_dictD (en_vars (ev_var rfl) hS)) fun d H1 hd1 e1 h1 => ?_
  refine q_dput (k := Sum.inr "v") (v := .int (wv (varW vars) (entW xs) (opW os) o)) (ev_call (ea_cons (ev_var rfl) (ea_cons (ev_var rfl) (ea_cons (ev_var rfl) ea_nil))) (sv_now (hdo.ex e1) (by have := ho.dep; omega) (hS.mono e1) (hM.mono e1))) (fun _ _ => ev_var rfl) (fun _ _ => ev_c) h1 (by rw [kvsOf, List.length_map]; exact Nat.lt_of_le_of_lt hv3 (by decide)) fun H2 e2 => ?_
  rw [kvs_put]
  generalize hw0 : wv (varW vars) (entW xs) (opW os) o = w0
  have e02 : Ex H (upd H2 d (.dK (kvsOf (putS vars "v" w0)))) := Ex.mut (e1.trans e2) hd1
  have vok : VOk (putS vars "v" w0) := put_vok hS.vo (by decide +kernel) (by omega)
  refine q_asgMk (ev_var rfl) (en_ents (ev_var rfl) (hS.mono e02)) (hS.ks.ex e02) (.inr ⟨d, rfl, upd_same⟩) vok hS.xo fun a2 H4 e4 hS2 => ?_
  have e04 : Ex H H4 := e02.trans e4
  have hrt : (repl "v" o t).wf = true := repl_wf ho.wf t ht.wf
  have hrd : (repl "v" o t).dep ≤ 8 := by
    have h1 := repl_dep (x := "v") (o := o) t
    have h2 := ht.dep
    have h3 := ho.dep
    omega
  have hrs : (repl "v" o t).size ≤ 200 := by
    have h1 := repl_size (x := "v") (o := o) t
    have h2 : t.size * o.size ≤ (2 * 5) * (2 * 3) := Nat.mul_le_mul ht.size ho.size
    omega
  have hE : Ev (tCall (spWorth P w K S M XT XS XM 8) [] E0 (tCons (tCall (spRepl 5) [] E0 (tCons (tVar 0) (tCons (tC (.str "v")) (tCons (tVar 1) tNil)))) (tCons (tVar 2) (tCons (tVar 3) tNil)))) [some v, some vo, some (.ref a), some (.ref b), some (.ref d), some (.ref a2)] H4 (.int (wv (varW vars) (entW xs) (opW os) (repl "v" o t))) := fun H5 e5 Q5 q5 =>
    ⟨_, rfl, _, rfl, v, vo, "v", t, o, rfl, hd.ex (e04.trans e5), hdo.ex (e04.trans e5), ht.dep, fun u H6 e6 hu => ⟨_, rfl, _, rfl, (sv_worth hu (term_ok hrt (by omega) hrs) hrd (hS.mono ((e04.trans e5).trans e6)) (hM.mono ((e04.trans e5).trans e6))) H6 (Ex.refl H6) Q5 (fun H7 e7 => q5 H7 (e6.trans e7)) E0⟩⟩
  refine rets (ev_op hE (ev_call (ea_cons (ev_var rfl) (ea_cons (ev_var rfl) (ea_cons (ev_var rfl) ea_nil))) (sv_worth (hd.ex e04) (ht.term (by decide)) (by have := ht.dep; omega) hS2 (hM.mono e04))) rv_eqI) e04 q ?_
  have hxi : ∀ r ∈ xs, ∃ i, r.2.2 = .int i := fun r hr => ph_Ei _ _ (hS.xo.ok r hr)
  have eE : entW (xs.filter nt) = entW xs := by
    funext x i
    exact gI_filter xs _ hS.xo.nd hxi
  have eV : varW ((putS vars "v" w0).filter nz) = fun (y : Str) => if y = ("v" : Str) then w0 else varW vars y := by
    funext y
    show (look _ y).getD 0 = _
    rw [look_filter _ _ vok.nd, look_put]
    split <;> rfl
  rw [eE, eV, wv_repl, hw0, decide_eq_true rfl]
abbrev erN : List Str := ["_law_act", "_law_term_here", "_law_start_here", "_law_meaning_here", "e"]
theorem walk_error (T : Txt K mg) (C : Cts K mg S M) (X : Ers P K mg XT XS XM) (Y : ErX K XT XS XM) (c_worth : Cal P w K mg base (L2.CX P w) 11 "worth" (spWorth P w K S M XT XS XM 8)) (c_truth : Cal P w K mg base (L2.CX P w) 12 "truth" (spTruth P w K S M XT XS XM 8)) :
    Walks P w K mg base CX0 12 "_law_error" (top 45) erN (spError P w K S M) := by
  intro f cdv A outer s H vs Q E hr hsp
  obtain ⟨act, v1, v2, v3, d, kind, v, rfl, hd, hc, q⟩ := hsp
  have nd : erN.Nodup := by decide +kernel
  refine ⟨_, pss_one (ps_try_manyA (i := 4) rfl rfl nd rfl rfl takes0 (fun W pn xe tk _ => pss_one (ps_ret (pe_ifExp (pt_cmpR op_eq (pv 0) pe_int (nomark _)) (pe_cS c_worth (fun σ => passAt tk σ) hr (by decide) (pa_cons (pv 1) (pa_cons (pv 2) (pa_cons (pv 3) pa_nil)))) (pe_cS c_truth (fun σ => passAt tk σ) hr (by decide) (pa_cons (pv 1) (pa_cons (pv 2) (pa_cons (pv 3) pa_nil)))))))
    (.cons ⟨rfl, by decide, .inl X.gT⟩ (fun a oe cls d pn hz hf => pss_one (ps_ret (pe_lst (pa_cons pe_str (pa_cons (pe_xf Y.xT Y.nT hz hf (pv 4)) pa_nil)))))
    (.cons ⟨rfl, by decide, .inl X.gS⟩ (fun a oe cls d pn hz hf => pss_one (ps_ret (pe_lst (pa_cons pe_str (pa_cons (pe_xf Y.xS Y.nS hz hf (pv 4)) pa_nil)))))
    (.cons ⟨rfl, by decide, .inl X.gM⟩ (fun a oe cls d pn hz hf => pss_one (ps_ret (pe_lst (pa_cons pe_str (pa_cons (pe_xf Y.xM Y.nM hz hf (pv 4)) pa_nil))))) .nil)))), ?_⟩
  have done : ∀ {C : Addr} {kd : Str} {a dd : Addr} {u : V} {D : Ends} {H2 : Hp} {cls : Value}, D.rt = Q → kd = kind → u = v → cls = .ref C → Ex H H2 → H2 dd = some (exF u) → tRet (tLst (tCons (tC (.str kd)) (tCons (tXf a cls (some dd) C "value" (tVar 4)) tNil))) D ((start erN [.int act, v1, v2, v3]).set 4 (some (.ref a))) H2 := by
    intro C kd a dd u D H2 cls hD hk hu hcl e2 hx
    subst hk hu hcl
    show tLst _ _ _ D.rt
    rw [hD]
    exact ⟨.ref a, rfl, rfl, rfl, dd, _, u, rfl, hx, lk1, by show 2 ≤ sizeLine; exact sz_of (by decide), fun p hp => q p _ (fresh_back e2 hp) (e2.trans (Ex.new hp)) upd_same⟩
  have hact : act = 0 ∨ act = 1 := by
    cases hc with
    | term h => exact h.imp (·.1) (·.1)
    | start h _ => exact h.imp (·.1) (·.1)
    | meaning h _ _ => exact h.imp (·.1) (·.1)
  refine s_retIf (b := decide (act = 0)) (et_test (ev_op (ev_var rfl) ev_c rv_eqI)) (fun hb H1 e1 => ?_) (fun hb H1 e1 => ?_)
  · have h0 : act = 0 := by simpa using hb
    refine ⟨_, rfl, _, rfl, _, rfl, v1, v2, v3, d, rfl, hd.ex e1, ?_⟩
    cases hc with
    | term h =>
      have ht : termD d = false := by
        rcases h with h | h
        · exact h.2
        · omega
      exact .inl ⟨ht, fun dd H2 _ e2 hx => ⟨true, Y.tt, fun _ a ha => done rfl rfl rfl rfl (e1.trans e2) hx, fun z => by cases z⟩⟩
    | start h ho =>
      have ht : termD d = true := by
        rcases h with h | h
        · exact h.2
        · omega
      exact .inr ⟨ht, .inl ⟨ho.ex e1, fun dd H2 _ e2 hx => ⟨false, Y.st, (fun z => by cases z), fun _ => ⟨true, Y.ss, fun _ a ha => done rfl rfl rfl rfl (e1.trans e2) hx, fun z => by cases z⟩⟩⟩⟩
    | meaning h hs ho =>
      have ht : termD d = true := by
        rcases h with h | h
        · exact h.2
        · omega
      obtain ⟨a, vars, xs, rfl, hS⟩ := hs
      exact .inr ⟨ht, .inr ⟨a, vars, xs, rfl, hS.mono e1, .inl ⟨ho.ex e1, fun dd H2 _ e2 hx => ⟨false, Y.mt, (fun z => by cases z), fun _ => ⟨false, Y.ms, (fun z => by cases z), fun _ => ⟨true, Y.mm, fun _ a ha => done rfl rfl rfl rfl (e1.trans e2) hx, fun z => by cases z⟩⟩⟩⟩⟩⟩
  · have h0 : act = 1 := by
      have : ¬ act = 0 := by simpa using hb
      omega
    refine ⟨_, rfl, _, rfl, _, rfl, v1, v2, v3, d, rfl, hd.ex e1, ?_⟩
    cases hc with
    | term h =>
      have ht : atomD d = false := by
        rcases h with h | h
        · omega
        · exact h.2
      exact .inl ⟨ht, fun dd H2 _ e2 hx => ⟨true, Y.tt, fun _ a ha => done rfl rfl rfl rfl (e1.trans e2) hx, fun z => by cases z⟩⟩
    | start h ho =>
      have ht : atomD d = true := by
        rcases h with h | h
        · omega
        · exact h.2
      exact .inr ⟨ht, .inl ⟨ho.ex e1, fun dd H2 _ e2 hx => ⟨false, Y.st, (fun z => by cases z), fun _ => ⟨true, Y.ss, fun _ a ha => done rfl rfl rfl rfl (e1.trans e2) hx, fun z => by cases z⟩⟩⟩⟩
    | meaning h hs ho =>
      have ht : atomD d = true := by
        rcases h with h | h
        · omega
        · exact h.2
      obtain ⟨a, vars, xs, rfl, hS⟩ := hs
      exact .inr ⟨ht, .inr ⟨a, vars, xs, rfl, hS.mono e1, .inl ⟨ho.ex e1, fun dd H2 _ e2 hx => ⟨false, Y.mt, (fun z => by cases z), fun _ => ⟨false, Y.ms, (fun z => by cases z), fun _ => ⟨true, Y.mm, fun _ a ha => done rfl rfl rfl rfl (e1.trans e2) hx, fun z => by cases z⟩⟩⟩⟩⟩⟩
end
end L2.K7

/-! N24: what the law's walk uses. -/
namespace L2.K7
open PySem PySem.Spec PyProof.Rows
open Evl
def EvAF (ta : TA) (σ : L2.St) (H : Hp) (F : V → Hp → Prop) (n : Nat) : Prop := ∀ H1, Ex H H1 → ∀ Q : List V → Hp → Prop, (∀ us H2, Ex H1 H2 → (∀ u ∈ us, F u H2) → us.length = n → Q us H2) → ta σ H1 Q
def EvLF (te : TE) (σ : L2.St) (H : Hp) (F : V → Hp → Prop) : Prop := ∀ H1, Ex H H1 → ∀ Q : VK, (∀ p us H2, Ex H1 H2 → H2 p = some (.lst us) → (∀ u ∈ us, F u H2) → Q (.ref p) H2) → te σ H1 Q
section
variable {K : PySem.W.Frag} {P : Program} {w : World} {σ : L2.St} {H : Hp} {ta tb : TA} {tl te tx ty : TE} {v z : V} {D : Ends} {tz tu : TS} {F : V → Hp → Prop} {n j : Nat} {d : Dt} {mk : Addr → HO}
theorem eg_ev (h : Ev te σ H v) (hF : ∀ H1, Ex H H1 → F v H1) : EvG te σ H F := fun H1 e Q q => h H1 e _ fun H2 e2 => q v H2 e2 (hF H2 (e.trans e2))
theorem eg_d (h : EvD te σ H d) (hF : ∀ u H1, Ex H H1 → DtAt H1 d u → F u H1) : EvG te σ H F := fun H1 e Q q => h H1 e _ fun u H2 e2 hu => q u H2 e2 (hF u H2 (e.trans e2) hu)
theorem eg_n (h : EvN te σ H mk) (hF : ∀ p H1, Ex H H1 → H1 p = some (mk p) → F (.ref p) H1) : EvG te σ H F := fun H1 e Q q => h H1 e _ fun p H2 _ e2 hp => q (.ref p) H2 e2 (hF p H2 (e.trans e2) hp)
theorem eaf_nil : EvAF tNil σ H F 0 := fun H1 e Q q => q [] H1 (Ex.refl H1) (fun _ h => (List.not_mem_nil h).elim) rfl
theorem eaf_cons {tr : TA} (hF : ∀ u H H', Ex H H' → F u H → F u H') (h : EvG te σ H F) (hr : EvAF tr σ H F n) : EvAF (tCons te tr) σ H F (n + 1) := fun H1 e Q q =>
  h H1 e _ fun u H2 e2 hu => hr H2 (e.trans e2) _ fun us H3 e3 hus hl => q (u :: us) H3 (e2.trans e3) (fun x hx => by
    rcases List.mem_cons.mp hx with hx | hx
    · rw [hx]
      exact hF u H2 H3 e3 hu
    · exact hus x hx) (by rw [List.length_cons, hl])
theorem elf_lst (hF : ∀ u H H', Ex H H' → F u H → F u H') (h : EvAF ta σ H F n) (hn : n ≤ 100000) : EvLF (tLst ta) σ H F := fun H1 e Q q =>
  h H1 e _ fun us H2 e2 hu hl => ⟨sz_of (by rw [hl]; exact hn), fun p hp => q p us _ (e2.trans (Ex.new hp)) upd_same fun u hu' => hF u H2 _ (Ex.new hp) (hu u hu')⟩
/-- for x in [..], the items told by F alone -/
theorem s_forLF (hF : ∀ u H H', Ex H H' → F u H → F u H') (h : EvLF tl σ H F) (h0 : ∃ r, σ = σ.set j r)
    (hs : ∀ x H' (N : L2.St → Hp → Prop), Ex H H' → F x H' → (∀ r H2, Ex H' H2 → N (σ.set j r) H2) → tu { D with nx := N, ct := N, bk := D.nx } (σ.set j (some x)) H') (hd : ∀ r H', Ex H H' → D.nx (σ.set j r) H') : tFor (iList K tl) (gName j) tu D σ H :=
  h H (Ex.refl H) _ fun p us H1 e1 hp hu => ⟨p, rfl, ⟨us, sq_of hp⟩, by
    refine for_list (K := K) (a := p) (xs := us) (fun _ σ' H' => Ex H1 H' ∧ ∃ r, σ' = σ.set j r) ⟨Ex.refl H1, h0⟩ (fun i σ' H' _ q => sq_of (q.1 _ _ hp)) (fun i x σ' H' hi q => ?_) (fun σ' H' q => ?_)
    · obtain ⟨q1, r, rfl⟩ := q
      show tu _ ((σ.set j r).set j (some x)) H'
      rw [List.set_set]
      exact hs x H' _ (e1.trans q1) (hF x H1 H' q1 (hu x (List.mem_of_getElem? hi))) fun r H2 e2 => ⟨q1.trans e2, r, rfl⟩
    · obtain ⟨q1, r, rfl⟩ := q
      exact hd r H' (e1.trans q1)⟩
theorem q_forLF (hF : ∀ u H H', Ex H H' → F u H → F u H') (h : EvLF tl σ H F) (h0 : ∃ r, σ = σ.set j r)
    (hs : ∀ x H' (N : L2.St → Hp → Prop), Ex H H' → F x H' → (∀ r H2, Ex H' H2 → N (σ.set j r) H2) → tu { D with nx := N, ct := N, bk := tz D } (σ.set j (some x)) H') (hd : ∀ r H', Ex H H' → tz D (σ.set j r) H') : tSeq (tFor (iList K tl) (gName j) tu) tz D σ H :=
  s_forLF (D := { D with nx := tz D }) hF h h0 hs hd
end
section
variable {P : Program} {w : World} {K : PySem.W.Frag} {mg : Str → Option Value} {base : Heap} {S M XT XS XM : Addr}
theorem ErrCase.ex {H H' : Hp} {act : Int} {d : Dt} {v1 v2 v3 v : V} {kind : Str} (h : ErrCase P w K S M H act d v1 v2 v3 kind v) (e : Ex H H') : ErrCase P w K S M H' act d v1 v2 v3 kind v := by
  cases h with
  | term h => exact .term h
  | start h o => exact .start h (o.ex e)
  | meaning h s o =>
    obtain ⟨a, vars, xs, e1, hS⟩ := s
    exact .meaning h ⟨a, vars, xs, e1, hS.mono e⟩ (o.ex e)
/-- _law_error(..) != [kind, v]: never -/
theorem et_err {σ : St} {H : Hp} {ta tb : TA} {act : Int} {d : Dt} {v1 v2 v3 v : V} {kind : Str} (ha : EvA ta σ H [.int act, v1, v2, v3]) (hd : DtAt H d v1) (hc : ErrCase P w K S M H act d v1 v2 v3 kind v) (hb : EvA tb σ H [.str kind, v]) (hv : sameV v = true) :
    EvT (tTest (tOp (rNeSame K) (tCall (spError P w K S M) [] E0 ta) (tLst tb))) σ H false := fun H1 e Q q =>
  ha H1 e _ fun H2 e2 => ⟨act, v1, v2, v3, d, kind, v, rfl, hd.ex (e.trans e2), hc.ex (e.trans e2), fun p H3 hp e3 h3 => hb H3 ((e.trans e2).trans e3) _ fun H4 e4 => ⟨by show 2 ≤ sizeLine; exact sz_of (by decide), fun l hl =>
    ⟨p, l, [.str kind, v], rfl, rfl, sq_of ((Ex.new hl) _ _ (e4 _ _ h3)), sq_of upd_same, by show (true && (sameV v && true)) = true; rw [hv] <;> rfl, _, rfl, q _ (((e2.trans e3).trans e4).trans (Ex.new hl))⟩⟩⟩
theorem DtAt.same {H : Hp} {d : Dt} {v : V} (h : DtAt H d v) : sameV v = true := by cases h <;> rfl
theorem StAt.xp {p a : Addr} {ws : List Str} {H H' : Hp} {vars : List (Str × Int)} {xs : NL} (h : StAt P w S H a vars xs) (hp : PoolSt p ws H) (e : ExP p H H') : StAt P w S H' a vars xs := by
  obtain ⟨⟨dx, d1, d2, h1, h2, h3⟩, k, v, x⟩ := h
  obtain ⟨n, s, hq, _⟩ := id hp
  refine ⟨⟨dx, d1, d2, e _ _ ?_ h1, e _ _ ?_ h2, e _ _ ?_ h3⟩, k.keeps (hp.xt e), v, x⟩
  · intro z; subst z; rw [hq] at h1; cases h1
  · intro z; subst z; rw [hq] at h2; cases h2
  · intro z
    subst z
    rw [hq] at h3
    have z' : HO.lst _ = HO.ext _ := Option.some.inj h3
    cases z'
theorem MeAt.xp {p a : Addr} {ws : List Str} {H H' : Hp} {os ts : NL} (h : MeAt P w M H a os ts) (hp : PoolSt p ws H) (e : ExP p H H') : MeAt P w M H' a os ts := by
  obtain ⟨⟨dx, d1, d2, h1, h2, h3⟩, k, k2, v, x⟩ := h
  obtain ⟨n, s, hq, _⟩ := id hp
  refine ⟨⟨dx, d1, d2, e _ _ ?_ h1, e _ _ ?_ h2, e _ _ ?_ h3⟩, k.keeps (hp.xt e), k2.keeps (hp.xt e), v, x⟩
  · intro z; subst z; rw [hq] at h1; cases h1
  · intro z
    subst z
    rw [hq] at h2
    have z' : HO.lst _ = HO.ext _ := Option.some.inj h2
    cases z'
  · intro z
    subst z
    rw [hq] at h3
    have z' : HO.lst _ = HO.ext _ := Option.some.inj h3
    cases z'
/-- a new pool, then all but it stays: all stays -/
theorem ExP.back {p : Addr} {H H1 H2 : Hp} (hp : H p = none) (e : Ex H H1) (x : ExP p H1 H2) : Ex H H2 := fun a o h => x a o (ne_of_none h hp) (e a o h)
/-- start, meaning = (_law_start(pool), _law_meaning(pool)) -/
theorem q_parDraw {p : Addr} {ws : List Str} {σ : St} {H : Hp} {D : Ends} {tz : TS} {i j : Nat} {ta tb : TA} (hp : PoolSt p ws H) (ha : ∀ H1, EvA ta σ H1 [.ref p]) (hb : ∀ H1, EvA tb σ H1 [.ref p])
    (k : ∀ a b vars xs os ts H1, ExP p H H1 → PoolSt p ws H1 → StAt P w S H1 a vars xs → vars.length ≤ 3 → MeAt P w M H1 b os ts → tz D ((σ.set i (some (.ref a))).set j (some (.ref b))) H1) :
    tSeq (tPar i j (tCons (tCall (spGenStart P w S) [] E0 ta) (tCons (tCall (spGenMean P w M) [] E0 tb) tNil))) tz D σ H :=
  ha H H (Ex.refl H) _ fun H1 e1 => ⟨p, ws, rfl, hp.ex e1, fun a vars xs H2 e2 hp2 hS hl => hb H2 H2 (Ex.refl H2) _ fun H3 e3 => ⟨p, ws, rfl, hp2.ex e3, fun b os ts H4 e4 hp4 hM =>
    ⟨_, _, rfl, k a b vars xs os ts H4 ((e1.p.trans e2).trans (e3.p.trans e4)) hp4 ((hS.mono e3).xp (hp2.ex e3) e4) hl hM⟩⟩⟩
/-- _law_term(pool, [..], d), the names a new list -/
theorem call_term {p : Addr} {ws ns : List Str} {σ : St} {H : Hp} {tp tn td : TE} {n d : Nat} {Q : VK} (hp : PoolSt p ws H) (h0 : ∀ H1, Ev tp σ H1 (.ref p)) (hn : ∀ H1, EvL tn σ H1 (ns.map V.str)) (hd : ∀ H1, Ev td σ H1 (.int (d : Int))) (d1 : 1 ≤ d) (d2 : d ≤ n) (hns : ns ≠ [] ∧ ns.length ≤ 3 ∧ ∀ x ∈ ns, nameB x = true)
    (q : ∀ t u H2, ExP p H H2 → PoolSt p ws H2 → DtAt H2 (Tm.dt t) u → TmOk d t → Q u H2) : tCall (spGenTerm n) [] E0 (tCons tp (tCons tn (tCons td tNil))) σ H Q :=
  h0 H H (Ex.refl H) _ fun H1 e1 => hn H1 H1 (Ex.refl H1) _ fun nl H2 hl0 e2 hl => hd H2 H2 (Ex.refl H2) _ fun H3 e3 =>
    ⟨p, nl, ws, ns, d, rfl, d1, d2, hp.ex ((e1.trans e2).trans e3), ⟨e3 _ _ hl, hns⟩, (fun z => (hp.ex e1).ne hl0 z.symm), fun t u H4 e4 hp4 hu hk => q t u H4 ((((e1.trans e2).trans e3)).p.trans e4) hp4 hu hk⟩
theorem call_atom {p : Addr} {ws ns : List Str} {σ : St} {H : Hp} {tp tn td : TE} {n d : Nat} {Q : VK} (hp : PoolSt p ws H) (h0 : ∀ H1, Ev tp σ H1 (.ref p)) (hn : ∀ H1, EvL tn σ H1 (ns.map V.str)) (hd : ∀ H1, Ev td σ H1 (.int (d : Int))) (d1 : 1 ≤ d) (d2 : d ≤ n) (hns : ns ≠ [] ∧ ns.length ≤ 3 ∧ ∀ x ∈ ns, nameB x = true)
    (q : ∀ t u H2, ExP p H H2 → PoolSt p ws H2 → DtAt H2 (At.dt t) u → AtOk d t → Q u H2) : tCall (spGenAtom n) [] E0 (tCons tp (tCons tn (tCons td tNil))) σ H Q :=
  h0 H H (Ex.refl H) _ fun H1 e1 => hn H1 H1 (Ex.refl H1) _ fun nl H2 hl0 e2 hl => hd H2 H2 (Ex.refl H2) _ fun H3 e3 =>
    ⟨p, nl, ws, ns, d, rfl, d1, d2, hp.ex ((e1.trans e2).trans e3), ⟨e3 _ _ hl, hns⟩, (fun z => (hp.ex e1).ne hl0 z.symm), fun t u H4 e4 hp4 hu hk => q t u H4 ((((e1.trans e2).trans e3)).p.trans e4) hp4 hu hk⟩
theorem q_parTerm {p : Addr} {ws ns ms : List Str} {σ : St} {H : Hp} {D : Ends} {tz : TS} {i j n d c : Nat} {tp tn td sp sn sd : TE} (hp : PoolSt p ws H) (h0 : ∀ H1, Ev tp σ H1 (.ref p)) (hn : ∀ H1, EvL tn σ H1 (ns.map V.str)) (hd : ∀ H1, Ev td σ H1 (.int (d : Int))) (d1 : 1 ≤ d) (d2 : d ≤ n) (hns : ns ≠ [] ∧ ns.length ≤ 3 ∧ ∀ x ∈ ns, nameB x = true)
    (g0 : ∀ H1, Ev sp σ H1 (.ref p)) (gn : ∀ H1, EvL sn σ H1 (ms.map V.str)) (gd : ∀ H1, Ev sd σ H1 (.int (c : Int))) (c1 : 1 ≤ c) (c2 : c ≤ n) (hms : ms ≠ [] ∧ ms.length ≤ 3 ∧ ∀ x ∈ ms, nameB x = true)
    (k : ∀ t o u v H1, ExP p H H1 → PoolSt p ws H1 → DtAt H1 (Tm.dt t) u → TmOk d t → DtAt H1 (Tm.dt o) v → TmOk c o → tz D ((σ.set i (some u)).set j (some v)) H1) :
    tSeq (tPar i j (tCons (tCall (spGenTerm n) [] E0 (tCons tp (tCons tn (tCons td tNil)))) (tCons (tCall (spGenTerm n) [] E0 (tCons sp (tCons sn (tCons sd tNil)))) tNil))) tz D σ H :=
  call_term hp h0 hn hd d1 d2 hns fun t u H2 e2 hp2 hu hk => call_term hp2 g0 gn gd c1 c2 hms fun o v H3 e3 hp3 hv hk2 => ⟨u, v, rfl, k t o u v H3 (e2.trans e3) hp3 (hu.xt (hp2.xt e3)) hk hv hk2⟩
theorem q_asgAtom {p : Addr} {ws ns : List Str} {σ : St} {H : Hp} {D : Ends} {tz : TS} {i n d : Nat} {tp tn td : TE} (hp : PoolSt p ws H) (h0 : ∀ H1, Ev tp σ H1 (.ref p)) (hn : ∀ H1, EvL tn σ H1 (ns.map V.str)) (hd : ∀ H1, Ev td σ H1 (.int (d : Int))) (d1 : 1 ≤ d) (d2 : d ≤ n) (hns : ns ≠ [] ∧ ns.length ≤ 3 ∧ ∀ x ∈ ns, nameB x = true)
    (k : ∀ t u H1, ExP p H H1 → PoolSt p ws H1 → DtAt H1 (At.dt t) u → AtOk d t → tz D (σ.set i (some u)) H1) : tSeq (tAsg (tCall (spGenAtom n) [] E0 (tCons tp (tCons tn (tCons td tNil)))) (gName i)) tz D σ H :=
  call_atom hp h0 hn hd d1 d2 hns k
theorem rv_neB {a b : Bool} {H : Hp} : RV rNe (.bl a) (.bl b) H (.bl (!decide (a = b))) := fun H1 _ Q q => by
  have e : decide (V.bl a = V.bl b) = decide (a = b) := by
    by_cases h : a = b
    · subst h
      simp
    · rw [decide_eq_false h, decide_eq_false (fun z => h (V.bl.inj z))]
  exact ⟨rfl, by rw [e]; exact q H1 (Ex.refl H1)⟩
/-- [a, b][i] -/
theorem ev_pick {σ : St} {H : Hp} {ta tb ti : TE} {x y : V} {i : Nat} (ha : Ev ta σ H x) (hb : Ev tb σ H y) (hi : ∀ H1, Ex H H1 → Ev ti σ H1 (.int (i : Int))) (h2 : i < 2) : Ev (tOp (rIxL K) (tLst (tCons ta (tCons tb tNil))) ti) σ H (if i = 0 then x else y) := by
  refine ev_opL1 (el_lst (ea_cons ha (ea_cons hb ea_nil)) (by show 2 ≤ 100000; decide)) hi fun p H1 hp e => rv_ixL (sq_of hp) (atI_nat ?_)
  match i, h2 with
  | 0, _ => rfl
  | 1, _ => rfl
theorem same_ok {t o : Tm} (ht : termD t.dt = true) (ho : termD o.dt = true) : atomD (At.dt (.same t o)) = true := by
  show atomD (.tup [.str "same", t.dt, o.dt]) = true
  simp [atom_tup3, isStr_str, s_ss, ht, ho]
end
end L2.K7

/-! N25: the law. -/
namespace L2.K7
open PySem PySem.Spec PyProof.Rows
open Evl
def spLaw (K : PySem.W.Frag) : Sp := fun vs H Q _ => ∃ (s : Addr) (ns : List Int), vs = [.ref s] ∧ SqL K H s (ns.map V.int) ∧ ∀ H', Q (.bl true) H'
section
variable {P : Program} {w : World} {K : PySem.W.Frag} {mg : Str → Option Value} {base : Heap} {S M XT XS XM : Addr}
theorem q_asgPool {σ : St} {H : Hp} {ta : TA} {s : Addr} {k i : Nat} {ns : List Int} {D : Ends} {tz : TS} (ha : EvA ta σ H [.ref s, .int (k : Int)]) (hk : k ≤ 7) (hs : SqL K H s (ns.map V.int)) (q : ∀ p ws H1, H p = none → Ex H H1 → PoolSt p ws H1 → tz D (σ.set i (some (.ref p))) H1) :
    tSeq (tAsg (tCall (spPool K) [] E0 ta) (gName i)) tz D σ H := ha H (Ex.refl H) _ fun H1 e1 => ⟨s, ns, k, rfl, hk, ex_l e1 hs, fun p H2 n seed ws hp e2 h2 ok => q p ws H2 (fresh_back e1 hp) (e1.trans e2) ⟨n, seed, h2, ok⟩⟩
def rMin2 : List V → Hp → VK → Prop := fun xs H Q => ∃ i j, xs = [.int i, .int j] ∧ Q (.int (if j < i then j else i)) H
theorem ev_min2 {σ : St} {H : Hp} {ta tb : TE} {i j : Int} (ha : Ev ta σ H (.int i)) (hb : Ev tb σ H (.int j)) : Ev (tCB rMin2 (tCons ta (tCons tb tNil))) σ H (.int (if j < i then j else i)) := fun H1 e Q q =>
  ha H1 e _ fun H2 e2 => hb H2 (e.trans e2) _ fun H3 e3 => ⟨i, j, rfl, q H3 (e2.trans e3)⟩
theorem ev_truthD {n : Nat} {σ : St} {H : Hp} {te tx ty : TE} {a b : Addr} {t : At} {vars : List (Str × Int)} {xs os ts : NL} (hd : EvD te σ H t.dt) (hx : Ev tx σ H (.ref a)) (hy : Ev ty σ H (.ref b)) (ht : atomD t.dt = true) (hn : t.dep ≤ n) (hS : StAt P w S H a vars xs) (hM : MeAt P w M H b os ts) :
    Ev (tCall (spTruth P w K S M XT XS XM n) [] E0 (tCons te (tCons tx (tCons ty tNil)))) σ H (.bl (tv (varW vars) (entW xs) (opW os) (teW ts) t)) := fun H1 e Q q =>
  hd H1 e _ fun u H2 e2 hu => hx H2 (e.trans e2) _ fun H3 e3 => hy H3 ((e.trans e2).trans e3) _ fun H4 e4 =>
    (sv_truth (hu.ex (e3.trans e4)) ht hn (hS.mono (((e.trans e2).trans e3).trans e4)) (hM.mono (((e.trans e2).trans e3).trans e4))) H4 (Ex.refl H4) Q (fun H5 e5 => q H5 (((e2.trans e3).trans e4).trans e5)) E0
theorem s_retOp {r : R2} {ta tb : TE} {D : Ends} {σ : St} {H : Hp} (h : ta σ H fun x H1 => tb σ H1 fun y H2 => r x y H2 D.rt) : tRet (tOp r ta tb) D σ H := h
theorem tcall3 {sp : Sp} {tx ty tz : TE} {σ : St} {H : Hp} {Q : VK} {E : XK} (h : tx σ H fun x H1 => ty σ H1 fun y H2 => tz σ H2 fun z H3 => sp [x, y, z] H3 Q E) : tCall sp [] E (tCons tx (tCons ty (tCons tz tNil))) σ H Q := h
theorem pairs2 {k1 v1 k2 v2 : TE} {σ : St} {H : Hp} {Q : List (V × V) → Hp → Prop} (h : k1 σ H fun x1 H1 => v1 σ H1 fun y1 H2 => k2 σ H2 fun x2 H3 => v2 σ H3 fun y2 H4 => Q [(x1, y1), (x2, y2)] H4) : tPairs [(k1, v1), (k2, v2)] σ H Q := h
theorem go_start0 {σ : St} {H : Hp} {Q : VK} (q : ∀ a H2, Ex H H2 → StAt P w S H2 a [] [] → Q (.ref a) H2) : tMake S (spInitS P w S) [.non, .non] E0 tNil σ H Q :=
  mkS (Q := Q) (H1 := H) (v1 := .non) (v2 := .non) (vars := []) (xs := []) (.inl ⟨rfl, rfl⟩) (.inl ⟨rfl, rfl⟩) VOk.nil XOk.nil fun a H2 _ e hS => q a H2 e hS
theorem go_mean {σ : St} {H : Hp} {Q : VK} {trs : List (TE × TE)} (h : ∀ p, H p = none → tPairs trs σ (upd H p (ndO P w p [])) fun ps H2 => H2 p = some (ndO P w p []) ∧ ∃ xs : NL, NVV H2 ps xs ∧ xs.length ≤ 15 ∧
    ∀ x dx, (upd H2 p (ndO P w p (mergeN [] xs))) x = none → (upd H2 p (ndO P w p (mergeN [] xs))) dx = none → dx ≠ x → spInitM P w M [.ref x, .ref p, .non] (upd (upd (upd H2 p (ndO P w p (mergeN [] xs))) dx (.own x)) x (.ins M dx [])) (fun v H3 => v = .non ∧ Q (.ref x) H3) E0) :
    tMake M (spInitM P w M) [.non] E0 (tCons (tNDisp P w trs) tNil) σ H Q := h
theorem tC_go {v : V} {σ : St} {H : Hp} {Q : VK} (h : Q v H) : tC v σ H Q := h
theorem go_final {σ : St} {H2 : Hp} {Q : VK} (k : ∀ b os H6, Ex H2 H6 → MeAt P w M H6 b os [] → opW os "f" [] = (10 : Int) ^ (20 : Int).toNat → Q (.ref b) H6) :
    tMake M (spInitM P w M) [.non] E0 (tCons (tNDisp P w [(tTup (tCons (tC (.str "f")) (tCons (tTup (tCons (tC (.int 0)) tNil)) tNil)), tC (.int 1)), (tTup (tCons (tC (.str "f")) (tCons (tTup tNil) tNil)), tOp (rI CPow fun i j => .int (i ^ j.toNat)) (tC (.int 10)) (tC (.int 20)))]) tNil) σ H2 Q := by
  refine go_mean fun p hp => ?_
  refine pairs2 (key_made (f := "f") (is := [0]) ev_c (eu_tup (ea_cons ev_c ea_nil) (by show 1 ≤ 100000; decide)) fun b0 H3 e3 hb0 => ?_)
  refine tC_go (key_made (f := "f") (is := []) ev_c (eu_tup ea_nil (by decide)) fun b1 H4 e4 hb1 => ?_)
  refine (ev_op (ev_c (v := .int 10)) (ev_c (v := .int 20)) (rv_I ⟨by decide, by decide, by decide⟩)) H4 (Ex.refl H4) _ fun H5 e5 => ?_
  have hp5 : H5 p = some (ndO P w p []) := e5 _ _ (e4 _ _ (e3 _ _ upd_same))
  have k0 : DKAt H5 b0 (.ask "f" [0]) := (hb0.ex e4).ex e5
  have k1 : DKAt H5 b1 (.ask "f" []) := hb1.ex e5
  have hnod : ([(.ask "f" [0], b0, .int 1), (.ask "f" [], b1, .int ((10 : Int) ^ (20 : Int).toNat))] : NL).map (·.1) |>.Nodup := by
    refine List.nodup_cons.mpr ⟨fun z => ?_, List.nodup_cons.mpr ⟨List.not_mem_nil, List.nodup_nil⟩⟩
    exact absurd (DK.ask.inj (List.mem_singleton.mp z)).2 (by decide)
  refine ⟨hp5, [(.ask "f" [0], b0, .int 1), (.ask "f" [], b1, .int ((10 : Int) ^ (20 : Int).toNat))], .cons ⟨rfl, rfl, k0⟩ (.cons ⟨rfl, rfl, k1⟩ .nil), by show 2 ≤ 15; decide, ?_⟩
  rw [mergeN_nil _ hnod]
  have e25 : Ex H2 (upd H5 p (ndO P w p [(.ask "f" [0], b0, .int 1), (.ask "f" [], b1, .int ((10 : Int) ^ (20 : Int).toNat))])) := fun x o hx => by
    have hxp : x ≠ p := ne_of_none hx hp
    rw [upd_ne hxp]
    exact e5 _ _ (e4 _ _ (e3 _ _ (by rw [upd_ne hxp]; exact hx)))
  have ks : KeysAt (upd H5 p (ndO P w p [(.ask "f" [0], b0, .int 1), (.ask "f" [], b1, .int ((10 : Int) ^ (20 : Int).toNat))])) [(.ask "f" [0], b0, .int 1), (.ask "f" [], b1, .int ((10 : Int) ^ (20 : Int).toNat))] := by
    have tt : ∀ c ys, H5 c = some (.tup ys) → upd H5 p (ndO P w p [(.ask "f" [0], b0, .int 1), (.ask "f" [], b1, .int ((10 : Int) ^ (20 : Int).toNat))]) c = some (.tup ys) := fun c ys h => by
      rw [upd_ne (by intro z; subst z; rw [hp5] at h; exact ndO_nt _ (Option.some.inj h))]
      exact h
    intro r hr
    rcases List.mem_cons.mp hr with hr | hr
    · rw [hr]
      exact k0.keeps tt
    · rw [List.mem_singleton.mp hr]
      exact k1.keeps tt
  have hf : nameB "f" = true := by decide +kernel
  have xo : XOk phO [(.ask "f" [0], b0, .int 1), (.ask "f" [], b1, .int ((10 : Int) ^ (20 : Int).toNat))] := ⟨hnod, fun r hr => by
    rcases List.mem_cons.mp hr with hr | hr
    · rw [hr]
      exact ⟨"f", [0], 1, rfl, hf, by decide, rfl⟩
    · rw [List.mem_singleton.mp hr]
      exact ⟨"f", [], _, rfl, hf, by decide, rfl⟩, by show 2 ≤ 60; decide⟩
  refine mkM (Q := Q) (.inr ⟨p, rfl, upd_same, ks⟩) (.inl ⟨rfl, rfl⟩) xo XOk.nil fun b H6 _ e6 hM => k b _ H6 (e25.trans e6) hM ?_
  show gI (valN _ (.ask "f" [])) = _
  rw [gI_filter _ _ hnod fun r hr => ph_Oi _ _ (xo.ok r hr), valN_neg (by intro z; exact absurd (DK.ask.inj z).2 (by decide)), valN_pos rfl] <;> rfl
def BadA (act : Int) (d : Dt) : Prop := (act = 0 ∧ termD d = false) ∨ (act = 1 ∧ atomD d = false)
theorem bad_of {i : Nat} {d : Dt} (h2 : i < 2) (h : termD d = false ∧ atomD d = false) : BadA (i : Int) d := by
  match i, h2 with
  | 0, _ => exact .inl ⟨rfl, h.1⟩
  | 1, _ => exact .inr ⟨rfl, h.2⟩
abbrev F1 (act : Int) : V → Hp → Prop := fun x H => ∃ d, DtAt H d x ∧ BadA act d
abbrev F2 (K : PySem.W.Frag) (C : Addr) : V → Hp → Prop := fun x H => OddC K C H x ∧ sameV x = true
theorem hF1 {act : Int} : ∀ u H H', Ex H H' → F1 act u H → F1 act u H' := fun u H H' e ⟨d, h, b⟩ => ⟨d, h.ex e, b⟩
theorem hF2 {C : Addr} : ∀ u H H', Ex H H' → F2 K C u H → F2 K C u H' := fun u H H' e ⟨h, b⟩ => ⟨h.ex e, b⟩
theorem ns3 : (["v", "i", "w"] : List Str) ≠ [] ∧ (["v", "i", "w"] : List Str).length ≤ 3 ∧ ∀ x ∈ (["v", "i", "w"] : List Str), nameB x = true := ⟨(by intro z; cases z), (by decide), (by decide +kernel)⟩
theorem ns2 : (["v", "i"] : List Str) ≠ [] ∧ (["v", "i"] : List Str).length ≤ 3 ∧ ∀ x ∈ (["v", "i"] : List Str), nameB x = true := ⟨(by intro z; cases z), (by decide), (by decide +kernel)⟩
abbrev laN : List Str := ["_law_script", "_law_k", "_law_pool_here", "_law_turn", "_law_start_here", "_law_meaning_here", "_law_term_here", "_law_other", "_law_atom_here", "_law_same", "_law_act", "_law_good", "_law_odd"]
theorem walk_law (T : Txt K mg) (C : Cts K mg S M) (c__law_pool : Cal P w K mg base CX0 1 "_law_pool" (spPool K)) (c__law_start : Cal P w K mg base CX0 6 "_law_start" (spGenStart P w S)) (c__law_meaning : Cal P w K mg base CX0 6 "_law_meaning" (spGenMean P w M))
    (c__law_term : Cal P w K mg base CX0 7 "_law_term" (spGenTerm 5)) (c__law_atom : Cal P w K mg base CX0 8 "_law_atom" (spGenAtom 5)) (c_worth : Cal P w K mg base (L2.CX P w) 11 "worth" (spWorth P w K S M XT XS XM 8)) (c_truth : Cal P w K mg base (L2.CX P w) 12 "truth" (spTruth P w K S M XT XS XM 8))
    (c__law_worth : Cal P w K mg base CX0 10 "_law_worth" (spNow P w S M 8)) (c__law_truth : Cal P w K mg base CX0 11 "_law_truth" (spTNow P w S M 8)) (c__law_replaced_right : Cal P w K mg base CX0 12 "_law_replaced_right" (spRight P w S M)) (c__law_error : Cal P w K mg base CX0 13 "_law_error" (spError P w K S M))
    (c_Start0 : Mak P w K mg base 4 "Start" S (spInitS P w S) [.non, .non]) (c_Meaning1 : Mak P w K mg base 4 "Meaning" M (spInitM P w M) [.non]) : Walks P w K mg base CX0 13 "law" (top 48) laN (spLaw K) := by
  intro f cdv A outer s H vs Q E hr hsp
  obtain ⟨sc, ns, rfl, hsq, q⟩ := hsp
  have nd : laN.Nodup := by decide +kernel
  refine ⟨_, (pss_cons (ps_for (passes_of rfl) rfl (pi_range1 rfl T.range (pa_cons (pe_b (call_max2 rfl) T.max b_max (pa_cons pe_int (pa_cons (pe_b (call_min2 rfl) T.min b_min (pa_cons pe_int (pa_cons (pe_b call_len_seq T.len b_len (pa_cons (pv 0) pa_nil)) pa_nil))) pa_nil))) pa_nil)) (pg_name (i := 1) nd rfl (Or.inl rfl)) (pss_cons (ps_set (i := 2) nd rfl (Or.inl rfl) (pe_c c__law_pool hr (by decide) (pa_cons (pv 0) (pa_cons (pv 1) pa_nil))))
    (pss_one (ps_for (passes_of rfl) rfl (pi_range1 rfl T.range (pa_cons pe_int pa_nil)) (pg_name (i := 3) nd rfl (Or.inl rfl)) (pss_cons (ps_par (i := 4) (j := 5) (by rfl) nd rfl rfl (by decide) rfl rfl (pa_cons (pe_c c__law_start hr (by decide) (pa_cons (pv 2) pa_nil)) (pa_cons (pe_c c__law_meaning hr (by decide) (pa_cons (pv 2) pa_nil)) pa_nil)) (by rfl))
    (pss_cons (ps_par (i := 6) (j := 7) (by rfl) nd rfl rfl (by decide) rfl rfl (pa_cons (pe_c c__law_term hr (by decide) (pa_cons (pv 2) (pa_cons (pe_lst (pa_cons pe_str (pa_cons pe_str (pa_cons pe_str pa_nil)))) (pa_cons pe_int pa_nil)))) (pa_cons (pe_c c__law_term hr (by decide) (pa_cons (pv 2) (pa_cons (pe_lst (pa_cons pe_str (pa_cons pe_str pa_nil))) (pa_cons pe_int pa_nil)))) pa_nil)) (by rfl))
    (pss_cons (ps_set (i := 8) nd rfl (Or.inl rfl) (pe_c c__law_atom hr (by decide) (pa_cons (pv 2) (pa_cons (pe_lst (pa_cons pe_str (pa_cons pe_str (pa_cons pe_str pa_nil)))) (pa_cons pe_int pa_nil)))))
    (pss_cons (ps_if (pt_cmpR op_ne (pe_cX c_worth passF hr (by decide) (pa_cons (pv 6) (pa_cons (pv 4) (pa_cons (pv 5) pa_nil)))) (pe_c c__law_worth hr (by decide) (pa_cons (pv 6) (pa_cons (pv 4) (pa_cons (pv 5) pa_nil)))) (nomark _)) (pss_one (ps_ret pe_bl)) pss_nil)
    (pss_cons (ps_if (pt_cmpR op_ne (pe_cX c_truth passF hr (by decide) (pa_cons (pv 8) (pa_cons (pv 4) (pa_cons (pv 5) pa_nil)))) (pe_c c__law_truth hr (by decide) (pa_cons (pv 8) (pa_cons (pv 4) (pa_cons (pv 5) pa_nil)))) (nomark _)) (pss_one (ps_ret pe_bl)) pss_nil)
    (pss_cons (ps_if (pt_not (pt_val (pe_c c__law_replaced_right hr (by decide) (pa_cons (pv 6) (pa_cons (pv 7) (pa_cons (pv 4) (pa_cons (pv 5) pa_nil))))))) (pss_one (ps_ret pe_bl)) pss_nil)
    (pss_cons (ps_set (i := 9) nd rfl (Or.inl rfl) (pe_cmpR op_eq (pe_c c__law_worth hr (by decide) (pa_cons (pv 6) (pa_cons (pv 4) (pa_cons (pv 5) pa_nil)))) (pe_c c__law_worth hr (by decide) (pa_cons (pv 7) (pa_cons (pv 4) (pa_cons (pv 5) pa_nil)))) (nomark _)))
    (pss_cons (ps_if (pt_cmpR op_ne (pe_cX c_truth passF hr (by decide) (pa_cons (pe_tup (pa_cons pe_str (pa_cons (pv 6) (pa_cons (pv 7) pa_nil)))) (pa_cons (pv 4) (pa_cons (pv 5) pa_nil)))) (pv 9) (nomark _)) (pss_one (ps_ret pe_bl)) pss_nil)
    (pss_one (ps_for (passes_of rfl) rfl (pi_range1 rfl T.range (pa_cons pe_int pa_nil)) (pg_name (i := 10) nd rfl (Or.inl rfl)) (pss_cons (ps_set (i := 11) nd rfl (Or.inl rfl) (pe_ix ix_list (pe_lst (pa_cons (pv 6) (pa_cons (pv 8) pa_nil))) (pv 10) (fun _ _ => rfl)))
    (pss_cons (ps_for (passes_of rfl) rfl (pi_list (pe_lst (pa_cons pe_non (pa_cons pe_int (pa_cons (pe_tup (pa_cons pe_str (pa_cons pe_str pa_nil))) (pa_cons (pe_ix ix_list (pe_lst (pa_cons (pv 8) (pa_cons (pv 6) pa_nil))) (pv 10) (fun _ _ => rfl)) (pa_cons (pe_tup (pa_cons pe_str (pa_cons pe_str pa_nil))) pa_nil))))))) (pg_name (i := 12) nd rfl (Or.inl rfl)) (pss_one (ps_if (pt_cmpR (op_neSame (Nat.lt_of_le_of_lt (Nat.le_add_right _ 64) hr.units)) (pe_c c__law_error hr (by decide) (pa_cons (pv 10) (pa_cons (pv 12) (pa_cons pe_non (pa_cons pe_non pa_nil))))) (pe_lst (pa_cons pe_str (pa_cons (pv 12) pa_nil))) (nomark _)) (pss_one (ps_ret pe_bl)) pss_nil)))
    (pss_cons (ps_for (passes_of rfl) rfl (pi_list (pe_lst (pa_cons pe_non (pa_cons pe_dnewK (pa_cons (pv 5) (pa_cons pe_int pa_nil)))))) (pg_name (i := 12) nd rfl (Or.inl rfl)) (pss_one (ps_if (pt_cmpR (op_neSame (Nat.lt_of_le_of_lt (Nat.le_add_right _ 64) hr.units)) (pe_c c__law_error hr (by decide) (pa_cons (pv 10) (pa_cons (pv 11) (pa_cons (pv 12) (pa_cons pe_non pa_nil))))) (pe_lst (pa_cons pe_str (pa_cons (pv 12) pa_nil))) (nomark _)) (pss_one (ps_ret pe_bl)) pss_nil)))
    (pss_one (ps_for (passes_of rfl) rfl (pi_list (pe_lst (pa_cons pe_non (pa_cons pe_dnewK (pa_cons (pv 4) (pa_cons pe_int pa_nil)))))) (pg_name (i := 12) nd rfl (Or.inl rfl)) (pss_one (ps_if (pt_cmpR (op_neSame (Nat.lt_of_le_of_lt (Nat.le_add_right _ 64) hr.units)) (pe_c c__law_error hr (by decide) (pa_cons (pv 10) (pa_cons (pv 11) (pa_cons (pv 4) (pa_cons (pv 12) pa_nil))))) (pe_lst (pa_cons pe_str (pa_cons (pv 12) pa_nil))) (nomark _)) (pss_one (ps_ret pe_bl)) pss_nil)))))))))))))))))))))
    (pss_one (ps_ret (pe_cmpR op_eq (pe_cX c_worth passF hr (by decide) (pa_cons (pe_tup (pa_cons pe_str (pa_cons pe_str (pa_cons (pe_tup pa_nil) pa_nil)))) (pa_cons (pe_mk0 c_Start0 hr (by decide)) (pa_cons (pe_mk c_Meaning1 hr (by decide) (pa_cons (pe_ndisp hr.units (pps_cons (pe_tup (pa_cons pe_str (pa_cons (pe_tup (pa_cons pe_int pa_nil)) pa_nil))) pe_int (pps_cons (pe_tup (pa_cons pe_str (pa_cons (pe_tup pa_nil) pa_nil))) (pe_op op_pow pe_int pe_int) pps_nil)) (by rfl) (by rfl) (fun z => by cases z) (by decide)) pa_nil)) pa_nil)))) (pe_op op_pow pe_int pe_int) (nomark _))))), ?_⟩
  have hm : ∃ nk : Int, EvA (tCons (tCB rMax2 (tCons (tC (.int 1)) (tCons (tCB rMin2 (tCons (tC (.int 8)) (tCons (tCB (rLenS K) (tCons (tVar 0) tNil)) tNil))) tNil))) tNil) (start laN [.ref sc]) H [.int nk] ∧ 0 ≤ nk ∧ nk ≤ 8 := by
    refine ⟨_, ea_cons (ev_max2 ev_c (ev_min2 ev_c (ev_len (ev_var rfl) hsq))) ea_nil, ?_, ?_⟩
    · split <;> omega
    · split
      · split <;> omega
      · decide
  obtain ⟨nk, hA, hnk0, hnk8⟩ := hm
  refine q_forR1 (n := nk) hA ⟨hnk0, by omega⟩ (fun i σ' H' => ∃ r1 r2 r3 r4 r5 r6 r7 r8 r9 r10 r11 r12 : Option V, σ' = [some (.ref sc), r1, r2, r3, r4, r5, r6, r7, r8, r9, r10, r11, r12] ∧ Ex H H')
    (fun H1 e1 => ⟨none, none, none, none, none, none, none, none, none, none, none, none, rfl, e1⟩) (fun i σ' H' hi hI => ?_) (fun σ' H' hI => ?_)
  · obtain ⟨r1, r2, r3, r4, r5, r6, r7, r8, r9, r10, r11, r12, rfl, e0⟩ := hI
    refine q_asgPool (k := i) (ns := ns) (ea_cons (ev_var rfl) (ea_cons (ev_var rfl) ea_nil)) (by omega) (ex_l e0 hsq) fun p ws H1 hp0 e1 hp1 => ?_
    refine s_forR1 (n := 4) (ea_cons ev_c ea_nil) (by omega) (fun j σ' H' => ∃ r3 r4 r5 r6 r7 r8 r9 r10 r11 r12 : Option V, σ' = [some (.ref sc), some (.int (i : Int)), some (.ref p), r3, r4, r5, r6, r7, r8, r9, r10, r11, r12] ∧ ExP p H1 H' ∧ PoolSt p ws H')
      (fun H2 e2 => ⟨_, _, _, _, _, _, _, _, _, _, rfl, e2.p, hp1.ex e2⟩) (fun j σ' H2 hj hJ => ?_) (fun σ' H2 hJ => ?_)
    · obtain ⟨r3, r4, r5, r6, r7, r8, r9, r10, r11, r12, rfl, e2, hp2⟩ := hJ
      refine q_parDraw hp2 (fun _ => ea_cons (ev_var rfl) ea_nil) (fun _ => ea_cons (ev_var rfl) ea_nil) fun a b vars xs os ts H3 e3 hp3 hS hv3 hM => ?_
      refine q_parTerm (ns := ["v", "i", "w"]) (ms := ["v", "i"]) (d := 5) (c := 3) hp3 (fun _ => ev_var rfl) (fun _ => el_lst (ea_cons ev_c (ea_cons ev_c (ea_cons ev_c ea_nil))) (by decide)) (fun _ => ev_c) (by decide) (by decide) ns3 (fun _ => ev_var rfl) (fun _ => el_lst (ea_cons ev_c (ea_cons ev_c ea_nil)) (by decide)) (fun _ => ev_c) (by decide) (by decide) ns2 fun t o u v H4 e4 hp4 hu ht hv ho => ?_
      refine q_asgAtom (ns := ["v", "i", "w"]) (d := 4) hp4 (fun _ => ev_var rfl) (fun _ => el_lst (ea_cons ev_c (ea_cons ev_c (ea_cons ev_c ea_nil))) (by decide)) (fun _ => ev_c) (by decide) (by decide) ns3 fun at_ z H5 e5 hp5 hz hat => ?_
      have hS5 := (hS.xp hp3 e4).xp hp4 e5
      have hM5 := (hM.xp hp3 e4).xp hp4 e5
      have hu5 := hu.xt (hp4.xt e5)
      have hv5 := hv.xt (hp4.xt e5)
      have e25 := (e2.trans e3).trans (e4.trans e5)
      have htt := ht.term (by decide)
      have hto := ho.term (by decide)
      have haa := atom_ok hat (by decide)
      have hdt : t.dep ≤ 8 := by have := ht.dep; omega
      have hdo : o.dep ≤ 8 := by have := ho.dep; omega
      have hda : at_.dep ≤ 8 := by
        have h := hat.ok
        cases at_ with
        | same x y =>
          have h1 := h.1.dep
          have h2 := h.2.dep
          show max x.dep y.dep ≤ 8
          omega
        | test p x =>
          have h1 := h.2.dep
          show x.dep ≤ 8
          omega
      clear hS hM hu hv hp3 hp4 e3 e4 e5
      refine q_when (b := false) (et_test (ev_is (ev_op (ev_call (ea_cons (ev_var rfl) (ea_cons (ev_var rfl) (ea_cons (ev_var rfl) ea_nil))) (sv_worth hu5 htt hdt hS5 hM5)) (ev_call (ea_cons (ev_var rfl) (ea_cons (ev_var rfl) (ea_cons (ev_var rfl) ea_nil))) (sv_now hu5 hdt hS5 hM5)) rv_neI) (by rw [decide_eq_true rfl] <;> rfl))) (fun z => by cases z) (fun _ H6 e6 => ?_)
      refine q_when (b := false) (et_test (ev_is (ev_op (ev_call (ea_cons (ev_var rfl) (ea_cons (ev_var rfl) (ea_cons (ev_var rfl) ea_nil))) (sv_truth (hz.ex e6) haa hda (hS5.mono e6) (hM5.mono e6))) (ev_call (ea_cons (ev_var rfl) (ea_cons (ev_var rfl) (ea_cons (ev_var rfl) ea_nil))) (sv_tnow (hz.ex e6) hda (hS5.mono e6) (hM5.mono e6))) rv_neB) (by rw [decide_eq_true rfl] <;> rfl))) (fun z => by cases z) (fun _ H7 e7 => ?_)
      have e57 := e6.trans e7
      refine q_when (b := false) (et_not (a := true) (et_B (ev_call (ea_cons (ev_var rfl) (ea_cons (ev_var rfl) (ea_cons (ev_var rfl) (ea_cons (ev_var rfl) ea_nil)))) fun H8 e8 Q8 q8 E8 => ⟨u, v, a, b, t, o, vars, xs, os, ts, rfl, (hu5.ex e57).ex e8, (hv5.ex e57).ex e8, ht, ho, (hS5.mono e57).mono e8, hv3, (hM5.mono e57).mono e8, q8⟩))) (fun z => by cases z) (fun _ H8 e8 => ?_)
      have e58 := e57.trans e8
      refine q_asg (ev_op (ev_call (ea_cons (ev_var rfl) (ea_cons (ev_var rfl) (ea_cons (ev_var rfl) ea_nil))) (sv_now (hu5.ex e58) hdt (hS5.mono e58) (hM5.mono e58))) (ev_call (ea_cons (ev_var rfl) (ea_cons (ev_var rfl) (ea_cons (ev_var rfl) ea_nil))) (sv_now (hv5.ex e58) hdo (hS5.mono e58) (hM5.mono e58))) rv_eqI) fun H9 e9 => ?_
      have e59 := e58.trans e9
      refine q_when (b := false) (et_test (ev_is (ev_op (ev_truthD (t := .same t o) (ed_tup (ead_cons (ed_ev ev_c (.str "same" (by decide))) (ead_cons (ed_ev (ev_var rfl) (hu5.ex e59)) (ead_cons (ed_ev (ev_var rfl) (hv5.ex e59)) ead_nil))) (by show 3 ≤ 100000; decide)) (ev_var rfl) (ev_var rfl) (same_ok htt hto) (by show max t.dep o.dep ≤ 8; omega) (hS5.mono e59) (hM5.mono e59)) (ev_var rfl) rv_neB) (by show V.bl (!decide (tv _ _ _ _ (.same t o) = _)) = _; rw [show tv (varW vars) (entW xs) (opW os) (teW ts) (.same t o) = decide (wv (varW vars) (entW xs) (opW os) t = wv (varW vars) (entW xs) (opW os) o) from rfl, decide_eq_true rfl] <;> rfl))) (fun z => by cases z) (fun _ H10 e10 => ?_)
      have e510 := e59.trans e10
      refine s_forR1 (n := 2) (ea_cons ev_c ea_nil) (by omega) (fun m σ' H' => ∃ r10 r11 r12 : Option V, σ' = [some (.ref sc), some (.int (i : Int)), some (.ref p), some (.int (j : Int)), some (.ref a), some (.ref b), some u, some v, some z, some (.bl (decide (wv (varW vars) (entW xs) (opW os) t = wv (varW vars) (entW xs) (opW os) o))), r10, r11, r12] ∧ Ex H5 H')
        (fun H11 e11 => ⟨_, _, _, rfl, e510.trans e11⟩) (fun m σ' H11 hm hM2 => ?_) (fun σ' H11 hM2 => ?_)
      · obtain ⟨r10, r11, r12, rfl, e511⟩ := hM2
        have hm2 : m < 2 := by omega
        refine q_asg (ev_pick (x := u) (y := z) (i := m) (ev_var rfl) (ev_var rfl) (fun _ _ => ev_var rfl) hm2) fun H12 e12 => ?_
        have e512 := e511.trans e12
        have hgood : ∃ gd, DtAt H5 gd (if m = 0 then u else z) ∧ GoodA (m : Int) gd := by
          match m, hm2 with
          | 0, _ => exact ⟨t.dt, hu5, .inl ⟨rfl, htt⟩⟩
          | 1, _ => exact ⟨at_.dt, hz, .inr ⟨rfl, haa⟩⟩
        have hbad : F1 (m : Int) (if m = 0 then z else u) H5 := by
          match m, hm2 with
          | 0, _ => exact ⟨at_.dt, hz, .inl ⟨rfl, At.dt_no at_⟩⟩
          | 1, _ => exact ⟨t.dt, hu5, .inr ⟨rfl, Tm.dt_no t⟩⟩
        obtain ⟨gd, hgd, hgA⟩ := hgood
        generalize (if m = 0 then u else z) = vg at hgd
        refine q_forLF (F := F1 (m : Int)) hF1 (elf_lst hF1 (eaf_cons hF1 (eg_ev ev_c fun _ _ => ⟨.non, .non, bad_of hm2 no_non⟩) (eaf_cons hF1 (eg_ev ev_c fun _ _ => ⟨.int 5, .int 5, bad_of hm2 (no_int 5)⟩) (eaf_cons hF1 (eg_d (ed_tup (ead_cons (ed_ev ev_c (.str "var" (by decide))) (ead_cons (ed_ev ev_c (.str "V" (by decide))) ead_nil)) (by show 2 ≤ 100000; decide)) fun x Hx _ hx => ⟨dV, hx, bad_of hm2 no_dV⟩)
          (eaf_cons hF1 (eg_ev (ev_pick (x := z) (y := u) (i := m) (ev_var rfl) (ev_var rfl) (fun _ _ => ev_var rfl) hm2) fun Hx ex => hF1 _ H5 Hx (e512.trans ex) hbad) (eaf_cons hF1 (eg_d (ed_tup (ead_cons (ed_ev ev_c (.str "op" (by decide))) (ead_cons (ed_ev ev_c (.str "f" (by decide))) ead_nil)) (by show 2 ≤ 100000; decide)) fun x Hx _ hx => ⟨dF, hx, bad_of hm2 no_dF⟩) eaf_nil))))) (by decide)) ⟨_, rfl⟩ (fun x Hx N ex hx hN => ?_) (fun rr H13 e13 => ?_)
        · obtain ⟨d, hd, hb⟩ := hx
          exact s_when (b := false) (et_err (ea_cons (ev_var rfl) (ea_cons (ev_var rfl) (ea_cons ev_c (ea_cons ev_c ea_nil)))) hd (.term hb) (ea_cons ev_c (ea_cons (ev_var rfl) ea_nil)) hd.same) (fun z => by cases z) (fun _ Hy ey => hN _ Hy ey)
        have e513 := e512.trans e13
        obtain ⟨dxM, m1, m2, tM, _⟩ := hM5.ex
        obtain ⟨dxS, s1, s2, tS, _⟩ := hS5.ex
        refine q_forLF (F := F2 K S) hF2 (elf_lst hF2 (eaf_cons hF2 (eg_ev ev_c fun _ _ => ⟨⟨_, .non, C.nS⟩, rfl⟩) (eaf_cons hF2 (eg_n en_newK fun _ _ _ hx => ⟨⟨_, .dK hx, C.dS⟩, rfl⟩) (eaf_cons hF2 (eg_ev (ev_var rfl) fun Hx ex => ⟨⟨_, C.tyM ((e513.trans ex) _ _ tM), C.ms⟩, rfl⟩) (eaf_cons hF2 (eg_ev ev_c fun _ _ => ⟨⟨_, .int 5, C.iS⟩, rfl⟩) eaf_nil)))) (by decide)) ⟨_, rfl⟩ (fun x Hx N ex hx hN => ?_) (fun rr2 H14 e14 => ?_)
        · exact s_when (b := false) (et_err (ea_cons (ev_var rfl) (ea_cons (ev_var rfl) (ea_cons (ev_var rfl) (ea_cons ev_c ea_nil)))) (hgd.ex (e513.trans ex)) (.start hgA hx.1) (ea_cons ev_c (ea_cons (ev_var rfl) ea_nil)) hx.2) (fun z => by cases z) (fun _ Hy ey => hN _ Hy ey)
        have e514 := e513.trans e14
        refine s_forLF (F := F2 K M) hF2 (elf_lst hF2 (eaf_cons hF2 (eg_ev ev_c fun _ _ => ⟨⟨_, .non, C.nM⟩, rfl⟩) (eaf_cons hF2 (eg_n en_newK fun _ _ _ hx => ⟨⟨_, .dK hx, C.dM⟩, rfl⟩) (eaf_cons hF2 (eg_ev (ev_var rfl) fun Hx ex => ⟨⟨_, C.tyS ((e514.trans ex) _ _ tS), C.sm⟩, rfl⟩) (eaf_cons hF2 (eg_ev ev_c fun _ _ => ⟨⟨_, .int 5, C.iM⟩, rfl⟩) eaf_nil)))) (by decide)) ⟨_, rfl⟩ (fun x Hx N ex hx hN => ?_) (fun rr3 H15 e15 => ?_)
        · exact s_when (b := false) (et_err (ea_cons (ev_var rfl) (ea_cons (ev_var rfl) (ea_cons (ev_var rfl) (ea_cons (ev_var rfl) ea_nil)))) (hgd.ex (e514.trans ex)) (.meaning hgA ⟨a, vars, xs, rfl, hS5.mono (e514.trans ex)⟩ hx.1) (ea_cons ev_c (ea_cons (ev_var rfl) ea_nil)) hx.2) (fun z => by cases z) (fun _ Hy ey => hN _ Hy ey)
        exact ⟨_, _, _, rfl, e514.trans e15⟩
      · obtain ⟨r10, r11, r12, rfl, e511⟩ := hM2
        exact ⟨_, _, _, _, _, _, _, _, _, _, rfl, e25.trans e511.p, hp5.ex e511⟩
    · obtain ⟨r3, r4, r5, r6, r7, r8, r9, r10, r11, r12, rfl, e2, hp2⟩ := hJ
      exact ⟨_, _, _, _, _, _, _, _, _, _, _, _, rfl, e0.trans (ExP.back hp0 e1 e2)⟩
  · obtain ⟨r1, r2, r3, r4, r5, r6, r7, r8, r9, r10, r11, r12, rfl, e0⟩ := hI
    refine s_retOp (tcall3 ((ed_tup (ead_cons (ed_ev ev_c (.str "op" (by decide))) (ead_cons (ed_ev ev_c (.str "f" (by decide))) (ead_cons (ed_tup ead_nil (by decide)) ead_nil))) (by show 3 ≤ 100000; decide)) H' (Ex.refl H') _ fun u H1 e1 hu => ?_))
    refine go_start0 fun a H2 e2 hS => ?_
    refine go_final fun b os H6 e26 hM hw => ?_
    have e16 := e2.trans e26
    refine (sv_worth (n := 8) (t := .op0 "f") (XT := XT) (XS := XS) (XM := XM) (K := K) (hu.ex e16) (term_ok (show nameB "f" = true by decide +kernel) (by decide) (by decide)) (by decide) (hS.mono e26) hM) H6 (Ex.refl H6) _ (fun H7 e7 => ?_) E0
    refine (ev_op (ev_c (v := .int 10)) (ev_c (v := .int 20)) (rv_I ⟨by decide, by decide, by decide⟩)) H7 (Ex.refl H7) _ fun H8 e8 => ?_
    show rEq (.int (opW os "f" [])) _ H8 _
    rw [hw]
    exact ⟨rfl, by rw [decide_eq_true rfl]; exact q H8⟩
end
end L2.K7

/-! N26: all promises together. -/
namespace L2.K7
open PySem PySem.Spec PyProof.Rows
open Evl
structure Di (K : PySem.W.Frag) (mg : Str → Option Value) (x : Str) (C : Addr) (qual : Str) (st : Stmt) : Prop where
  ex : ∃ (f : Addr) (fd : FuncData), Mk K C f ∧ mg x = some (.ref C) ∧ FunD K "__init__" qual (defArgs st) (defBody st) (defScope st) [.non, .non] [] f fd
theorem mak_of {P : Program} {w : World} {K : PySem.W.Frag} {mg : Str → Option Value} {base : Heap} {C : Addr} {x qual : Str} {st : Stmt} {N ps : List Str} {k : Nat} {sp : Sp} (D : Di K mg x C qual st) (S : FnScope N ps (defScope st)) (n j : Nat) (hn : n + (2 - j) = ps.length)
    (h : ∀ (T : Addr) (kV doc pm : Value) (an : Option Addr) (cdv ct : Value) (us its : List Value), us.length = n → its.length = 2 →
      ∃ k, bindArgs (PySem.W.fnOf "__init__" qual (defArgs st) (defBody st) (defScope st) (.ref T) kV doc pm an cdv ct) ⟨us, []⟩ = seqItems? (.ref T) >>= k ∧ k (some its.toArray) = pure (ps.zip (us ++ its.drop j)))
    (len : ∀ vs H Q E, sp vs H Q E → vs.length = ps.length) (hw : Walks P w K mg base CX0 k qual st N sp) : Mak P w K mg base (k + 1) x C sp (([.non, .non] : List V).drop j) := by
  obtain ⟨f, fd, M, hm, F⟩ := D.ex
  obtain ⟨ds, hd, hb⟩ := F.binds1 (ps := ps) n j (by intro z; cases z) hn h
  exact ⟨f, fd, ps, ds, M, F.ok S len (hw f), hm, hb, hd⟩
/-- every def of the text as it stands behind the top -/
structure Defs (K : PySem.W.Frag) (mg : Str → Option Value) (S M : Addr) : Prop where
  d12 : Df K mg "is_integer" (top 12)
  d13 : Df K mg "is_name" (top 13)
  d14 : Df K mg "parts_of" (top 14)
  d15 : Df K mg "are_args" (top 15)
  d16 : Df K mg "has_form" (top 16)
  d17 : Df K mg "is_term_within" (top 17)
  d18 : Df K mg "is_atom_within" (top 18)
  d19 : Df K mg "is_term" (top 19)
  d20 : Df K mg "is_atom" (top 20)
  d22 : Df K mg "are_variables" (top 22)
  d23 : Df K mg "is_entry" (top 23)
  d24 : Df K mg "are_entries" (top 24)
  d25 : Df K mg "is_asked" (top 25)
  d26 : Df K mg "are_operations" (top 26)
  d27 : Df K mg "are_tests" (top 27)
  d28 : Df K mg "without_zeros" (top 28)
  d31 : Df K mg "check_played" (top 31)
  d32 : Df K mg "worth_now" (top 32)
  d33 : Df K mg "truth_now" (top 33)
  d34 : Df K mg "worth" (top 34)
  d35 : Df K mg "truth" (top 35)
  d37 : Df K mg "_law_pool" (top 37)
  d38 : Df K mg "_law_draw" (top 38)
  d39 : Df K mg "_law_term" (top 39)
  d40 : Df K mg "_law_atom" (top 40)
  d41 : Df K mg "_law_start" (top 41)
  d42 : Df K mg "_law_meaning" (top 42)
  d43 : Df K mg "_law_worth" (top 43)
  d44 : Df K mg "_law_truth" (top 44)
  d45 : Df K mg "_law_error" (top 45)
  d46 : Df K mg "_law_replaced" (top 46)
  d47 : Df K mg "_law_replaced_right" (top 47)
  iS : Di K mg "Start" S "Start.__init__" (cS 0)
  iM : Di K mg "Meaning" M "Meaning.__init__" (cM 0)
  p1 : Dp K S "variables" "Start.variables" (cS 1)
  p2 : Dp K S "entries" "Start.entries" (cS 2)
  p3 : Dp K M "operations" "Meaning.operations" (cM 1)
  p4 : Dp K M "tests" "Meaning.tests" (cM 2)
  m1 : Dm K S "variable" "Start.variable" (cS 3)
  m2 : Dm K S "entry" "Start.entry" (cS 4)
  m3 : Dm K M "of" "Meaning.of" (cM 3)
  m4 : Dm K M "holds" "Meaning.holds" (cM 4)
theorem law_ok {P : Program} {w : World} {K : PySem.W.Frag} {mg : Str → Option Value} {base : Heap} {S M XT XS XM f : Addr} {fd : FuncData} (T : Txt K mg) (C : Cts K mg S M) (X : Ers P K mg XT XS XM) (Y : ErX K XT XS XM) (D : Defs K mg S M)
    (F : FunD K "law" "law" (defArgs (top 48)) (defBody (top 48)) (defScope (top 48)) [] [] f fd) : FnOk P w K mg base CX0 14 f fd ["_law_script"] (spLaw K) := by
  have c_is_integer : Cal P w K mg base CX0 1 "is_integer" spInteger := cal_of D.d12 (N := ["value"]) (ps := ["value"]) ⟨rfl, rfl, rfl, by decide +kernel, rfl, by decide +kernel, by decide +kernel⟩ (fun _ _ _ _ _ _ us hl => match us, hl with | [_], _ => rfl) (by intro vs H Q E h; obtain ⟨_, rfl, _⟩ := h; rfl) (walk_integer T)
  have c_is_name : Cal P w K mg base CX0 1 "is_name" spName := cal_of D.d13 (N := ["value", "letter"]) (ps := ["value"]) ⟨rfl, rfl, rfl, by decide +kernel, rfl, by decide +kernel, by decide +kernel⟩ (fun _ _ _ _ _ _ us hl => match us, hl with | [_], _ => rfl) (by intro vs H Q E h; obtain ⟨_, _, rfl, _⟩ := h; rfl) (walk_name T)
  have c_parts_of : Cal P w K mg base CX0 1 "parts_of" spParts := cal_of D.d14 (N := ["term"]) (ps := ["term"]) ⟨rfl, rfl, rfl, by decide +kernel, rfl, by decide +kernel, by decide +kernel⟩ (fun _ _ _ _ _ _ us hl => match us, hl with | [_], _ => rfl) (by intro vs H Q E h; obtain ⟨_, _, rfl, _⟩ := h; rfl) (walk_parts T)
  have c_are_args : Cal P w K mg base CX0 1 "are_args" spArgs := cal_of D.d15 (N := ["value"]) (ps := ["value"]) ⟨rfl, rfl, rfl, by decide +kernel, rfl, by decide +kernel, by decide +kernel⟩ (fun _ _ _ _ _ _ us hl => match us, hl with | [_], _ => rfl) (by intro vs H Q E h; obtain ⟨_, _, rfl, _⟩ := h; rfl) (walk_args T)
  have c_has_form : Cal P w K mg base CX0 2 "has_form" spForm := cal_of D.d16 (N := ["value"]) (ps := ["value"]) ⟨rfl, rfl, rfl, by decide +kernel, rfl, by decide +kernel, by decide +kernel⟩ (fun _ _ _ _ _ _ us hl => match us, hl with | [_], _ => rfl) (by intro vs H Q E h; obtain ⟨_, _, rfl, _⟩ := h; rfl) (walk_form T c_is_name c_are_args)
  have c_is_term_within : Cal P w K mg base CX0 3 "is_term_within" spWithin := cal_of D.d17 (N := ["value", "size", "depth", "layer", "count", "rest", "one", "part"]) (ps := ["value", "size", "depth"]) ⟨rfl, rfl, rfl, by decide +kernel, rfl, by decide +kernel, by decide +kernel⟩ (fun _ _ _ _ _ _ us hl => match us, hl with | [_, _, _], _ => rfl) (by intro vs H Q E h; obtain ⟨_, _, rfl, _⟩ := h; rfl) (walk_within T c_has_form c_parts_of)
  have c_is_atom_within : Cal P w K mg base CX0 4 "is_atom_within" spAtomW := cal_of D.d18 (N := ["value", "size", "depth", "term"]) (ps := ["value", "size", "depth"]) ⟨rfl, rfl, rfl, by decide +kernel, rfl, by decide +kernel, by decide +kernel⟩ (fun _ _ _ _ _ _ us hl => match us, hl with | [_, _, _], _ => rfl) (by intro vs H Q E h; obtain ⟨_, _, rfl, _⟩ := h; rfl) (walk_atomW T c_is_term_within c_is_name c_are_args)
  have c_is_term : Cal P w K mg base CX0 4 "is_term" spTerm := cal_of D.d19 (N := ["value"]) (ps := ["value"]) ⟨rfl, rfl, rfl, by decide +kernel, rfl, by decide +kernel, by decide +kernel⟩ (fun _ _ _ _ _ _ us hl => match us, hl with | [_], _ => rfl) (by intro vs H Q E h; obtain ⟨_, _, rfl, _⟩ := h; rfl) (walk_term T c_is_term_within)
  have c_is_atom : Cal P w K mg base CX0 5 "is_atom" spAtom := cal_of D.d20 (N := ["value"]) (ps := ["value"]) ⟨rfl, rfl, rfl, by decide +kernel, rfl, by decide +kernel, by decide +kernel⟩ (fun _ _ _ _ _ _ us hl => match us, hl with | [_], _ => rfl) (by intro vs H Q E h; obtain ⟨_, _, rfl, _⟩ := h; rfl) (walk_atom T c_is_atom_within)
  have c_are_variables : Cal P w K mg base CX0 2 "are_variables" spVars := cal_of D.d22 (N := ["value", "name"]) (ps := ["value"]) ⟨rfl, rfl, rfl, by decide +kernel, rfl, by decide +kernel, by decide +kernel⟩ (fun _ _ _ _ _ _ us hl => match us, hl with | [_], _ => rfl) (by intro vs H Q E h; obtain ⟨_, _, rfl, _⟩ := h; rfl) (walk_vars T c_is_name c_is_integer)
  have c_is_entry : Cal P w K mg base CX0 2 "is_entry" spEntry := cal_of D.d23 (N := ["value"]) (ps := ["value"]) ⟨rfl, rfl, rfl, by decide +kernel, rfl, by decide +kernel, by decide +kernel⟩ (fun _ _ _ _ _ _ us hl => match us, hl with | [_], _ => rfl) (by intro vs H Q E h; obtain ⟨_, _, _, rfl, _⟩ := h; rfl) (walk_entry T c_is_name c_is_integer)
  have c_are_entries : Cal P w K mg base CX0 3 "are_entries" (spDict P w phE) := cal_of D.d24 (N := ["value", "pair"]) (ps := ["value"]) ⟨rfl, rfl, rfl, by decide +kernel, rfl, by decide +kernel, by decide +kernel⟩ (fun _ _ _ _ _ _ us hl => match us, hl with | [_], _ => rfl) (by intro vs H Q E h; obtain ⟨_, _, rfl, _⟩ := h; rfl) (walk_entries T c_is_entry c_is_integer)
  have c_is_asked : Cal P w K mg base CX0 2 "is_asked" spAsked := cal_of D.d25 (N := ["value", "worth_in"]) (ps := ["value"]) ⟨rfl, rfl, rfl, by decide +kernel, rfl, by decide +kernel, by decide +kernel⟩ (fun _ _ _ _ _ _ us hl => match us, hl with | [_], _ => rfl) (by intro vs H Q E h; obtain ⟨_, _, _, rfl, _⟩ := h; rfl) (walk_asked T c_is_name c_is_integer)
  have c_are_operations : Cal P w K mg base CX0 3 "are_operations" (spDict P w phO) := cal_of D.d26 (N := ["value", "pair"]) (ps := ["value"]) ⟨rfl, rfl, rfl, by decide +kernel, rfl, by decide +kernel, by decide +kernel⟩ (fun _ _ _ _ _ _ us hl => match us, hl with | [_], _ => rfl) (by intro vs H Q E h; obtain ⟨_, _, rfl, _⟩ := h; rfl) (walk_operations T c_is_asked c_is_integer)
  have c_are_tests : Cal P w K mg base CX0 3 "are_tests" (spDict P w phT) := cal_of D.d27 (N := ["value", "pair"]) (ps := ["value"]) ⟨rfl, rfl, rfl, by decide +kernel, rfl, by decide +kernel, by decide +kernel⟩ (fun _ _ _ _ _ _ us hl => match us, hl with | [_], _ => rfl) (by intro vs H Q E h; obtain ⟨_, _, rfl, _⟩ := h; rfl) (walk_tests T c_is_asked)
  have c_zK : Cal P w K mg base CX0 1 "without_zeros" spZerosK := cal_of D.d28 (N := ["table", "key"]) (ps := ["table"]) ⟨rfl, rfl, rfl, by decide +kernel, rfl, by decide +kernel, by decide +kernel⟩ (fun _ _ _ _ _ _ us hl => match us, hl with | [_], _ => rfl) (by intro vs H Q E h; obtain ⟨_, _, rfl, _⟩ := h; rfl) (walk_zerosK T)
  have c_zE : Cal P w K mg base CX0 1 "without_zeros" (spZerosN P w phE) := cal_of D.d28 (N := ["table", "key"]) (ps := ["table"]) ⟨rfl, rfl, rfl, by decide +kernel, rfl, by decide +kernel, by decide +kernel⟩ (fun _ _ _ _ _ _ us hl => match us, hl with | [_], _ => rfl) (by intro vs H Q E h; obtain ⟨_, _, rfl, _⟩ := h; rfl) (walk_zerosN ph_E T)
  have c_zO : Cal P w K mg base CX0 1 "without_zeros" (spZerosN P w phO) := cal_of D.d28 (N := ["table", "key"]) (ps := ["table"]) ⟨rfl, rfl, rfl, by decide +kernel, rfl, by decide +kernel, by decide +kernel⟩ (fun _ _ _ _ _ _ us hl => match us, hl with | [_], _ => rfl) (by intro vs H Q E h; obtain ⟨_, _, rfl, _⟩ := h; rfl) (walk_zerosN ph_O T)
  have c_zT : Cal P w K mg base CX0 1 "without_zeros" (spZerosN P w phT) := cal_of D.d28 (N := ["table", "key"]) (ps := ["table"]) ⟨rfl, rfl, rfl, by decide +kernel, rfl, by decide +kernel, by decide +kernel⟩ (fun _ _ _ _ _ _ us hl => match us, hl with | [_], _ => rfl) (by intro vs H Q E h; obtain ⟨_, _, rfl, _⟩ := h; rfl) (walk_zerosN ph_T T)
  have c_Start : Mak P w K mg base 4 "Start" S (spInitS P w S) [] := mak_of D.iS (N := ["self", "variables", "entries"]) (ps := ["self", "variables", "entries"]) ⟨rfl, rfl, rfl, by decide +kernel, rfl, by decide +kernel, by decide +kernel⟩ 3 2 rfl (fun T kV doc pm an cdv ct us its h1 h2 => match us, its, h1, h2 with | [_, _, _], [_, _], _, _ => ⟨_, rfl, rfl⟩) (by intro vs H Q E h; obtain ⟨_, _, _, _, _, _, rfl, _⟩ := h; rfl) (walk_initS (S := S) (M := M) T C c_are_variables c_are_entries c_zK c_zE)
  have c_Start0 : Mak P w K mg base 4 "Start" S (spInitS P w S) [.non, .non] := mak_of D.iS (N := ["self", "variables", "entries"]) (ps := ["self", "variables", "entries"]) ⟨rfl, rfl, rfl, by decide +kernel, rfl, by decide +kernel, by decide +kernel⟩ 1 0 rfl (fun T kV doc pm an cdv ct us its h1 h2 => match us, its, h1, h2 with | [_], [_, _], _, _ => ⟨_, rfl, rfl⟩) (by intro vs H Q E h; obtain ⟨_, _, _, _, _, _, rfl, _⟩ := h; rfl) (walk_initS (S := S) (M := M) T C c_are_variables c_are_entries c_zK c_zE)
  have c_Meaning : Mak P w K mg base 4 "Meaning" M (spInitM P w M) [] := mak_of D.iM (N := ["self", "operations", "tests"]) (ps := ["self", "operations", "tests"]) ⟨rfl, rfl, rfl, by decide +kernel, rfl, by decide +kernel, by decide +kernel⟩ 3 2 rfl (fun T kV doc pm an cdv ct us its h1 h2 => match us, its, h1, h2 with | [_, _, _], [_, _], _, _ => ⟨_, rfl, rfl⟩) (by intro vs H Q E h; obtain ⟨_, _, _, _, _, _, rfl, _⟩ := h; rfl) (walk_initM (S := S) (M := M) T C c_are_operations c_are_tests c_zO c_zT)
  have c_Meaning1 : Mak P w K mg base 4 "Meaning" M (spInitM P w M) [.non] := mak_of D.iM (N := ["self", "operations", "tests"]) (ps := ["self", "operations", "tests"]) ⟨rfl, rfl, rfl, by decide +kernel, rfl, by decide +kernel, by decide +kernel⟩ 2 1 rfl (fun T kV doc pm an cdv ct us its h1 h2 => match us, its, h1, h2 with | [_, _], [_, _], _, _ => ⟨_, rfl, rfl⟩) (by intro vs H Q E h; obtain ⟨_, _, _, _, _, _, rfl, _⟩ := h; rfl) (walk_initM (S := S) (M := M) T C c_are_operations c_are_tests c_zO c_zT)
  have c_variables : Prp P w K mg base 1 S "variables" (spVariables P w S) := prp_of C.clS D.p1 (N := ["self"]) (ps := ["self"]) ⟨rfl, rfl, rfl, by decide +kernel, rfl, by decide +kernel, by decide +kernel⟩ (fun _ _ _ _ _ _ us hl => match us, hl with | [_], _ => rfl) (by intro vs H Q E h; obtain ⟨_, _, _, rfl, _⟩ := h; rfl) (walk_variables (S := S) (M := M) T C)
  have c_entries : Prp P w K mg base 1 S "entries" (spEntries P w S) := prp_of C.clS D.p2 (N := ["self", "pair"]) (ps := ["self"]) ⟨rfl, rfl, rfl, by decide +kernel, rfl, by decide +kernel, by decide +kernel⟩ (fun _ _ _ _ _ _ us hl => match us, hl with | [_], _ => rfl) (by intro vs H Q E h; obtain ⟨_, _, _, rfl, _⟩ := h; rfl) (walk_entriesP (S := S) (M := M) T C)
  have c_operations : Prp P w K mg base 1 M "operations" (spOperations P w M) := prp_of C.clM D.p3 (N := ["self", "pair"]) (ps := ["self"]) ⟨rfl, rfl, rfl, by decide +kernel, rfl, by decide +kernel, by decide +kernel⟩ (fun _ _ _ _ _ _ us hl => match us, hl with | [_], _ => rfl) (by intro vs H Q E h; obtain ⟨_, _, _, rfl, _⟩ := h; rfl) (walk_operationsP (S := S) (M := M) T C)
  have c_tests : Prp P w K mg base 1 M "tests" (spTests P w M) := prp_of C.clM D.p4 (N := ["self", "pair"]) (ps := ["self"]) ⟨rfl, rfl, rfl, by decide +kernel, rfl, by decide +kernel, by decide +kernel⟩ (fun _ _ _ _ _ _ us hl => match us, hl with | [_], _ => rfl) (by intro vs H Q E h; obtain ⟨_, _, _, rfl, _⟩ := h; rfl) (walk_testsP (S := S) (M := M) T C)
  have c_variable : Met P w K mg base 1 S "variable" (spVariable P w S) := met_of C.clS D.m1 (N := ["self", "name"]) (ps := ["self", "name"]) ⟨rfl, rfl, rfl, by decide +kernel, rfl, by decide +kernel, by decide +kernel⟩ (fun _ _ _ _ _ _ us hl => match us, hl with | [_, _], _ => rfl) (by intro vs H Q E h; obtain ⟨_, _, _, _, rfl, _⟩ := h; rfl) (walk_variable (S := S) (M := M) T C)
  have c_entry : Met P w K mg base 1 S "entry" (spEntryOf P w S) := met_of C.clS D.m2 (N := ["self", "array", "at"]) (ps := ["self", "array", "at"]) ⟨rfl, rfl, rfl, by decide +kernel, rfl, by decide +kernel, by decide +kernel⟩ (fun _ _ _ _ _ _ us hl => match us, hl with | [_, _, _], _ => rfl) (by intro vs H Q E h; obtain ⟨_, _, _, _, _, rfl, _⟩ := h; rfl) (walk_entryOf (S := S) (M := M) T C)
  have c_of : Met P w K mg base 1 M "of" (spOf P w M) := met_of C.clM D.m3 (N := ["self", "name", "args"]) (ps := ["self", "name", "args"]) ⟨rfl, rfl, rfl, by decide +kernel, rfl, by decide +kernel, by decide +kernel⟩ (fun _ _ _ _ _ _ us hl => match us, hl with | [_, _, _], _ => rfl) (by intro vs H Q E h; obtain ⟨_, _, _, _, _, _, rfl, _⟩ := h; rfl) (walk_of (S := S) (M := M) T C)
  have c_holds : Met P w K mg base 1 M "holds" (spHolds P w M) := met_of C.clM D.m4 (N := ["self", "name", "args"]) (ps := ["self", "name", "args"]) ⟨rfl, rfl, rfl, by decide +kernel, rfl, by decide +kernel, by decide +kernel⟩ (fun _ _ _ _ _ _ us hl => match us, hl with | [_, _, _], _ => rfl) (by intro vs H Q E h; obtain ⟨_, _, _, _, _, _, rfl, _⟩ := h; rfl) (walk_holds (S := S) (M := M) T C)
  have c_check_played : Cal P w K mg base (L2.CX P w) 1 "check_played" (spCheck K S M XS XM) := cal_of D.d31 (N := ["start", "meaning"]) (ps := ["start", "meaning"]) ⟨rfl, rfl, rfl, by decide +kernel, rfl, by decide +kernel, by decide +kernel⟩ (fun _ _ _ _ _ _ us hl => match us, hl with | [_, _], _ => rfl) (by intro vs H Q E h; obtain ⟨_, _, rfl, _⟩ := h; rfl) (walk_check T C X)
  have c_now : ∀ n, Cal P w K mg base CX0 (n + 2) "worth_now" (spNow P w S M n) := by
    intro n
    induction n with
    | zero => exact cal_of D.d32 (N := ["term", "start", "meaning", "part"]) (ps := ["term", "start", "meaning"]) ⟨rfl, rfl, rfl, by decide +kernel, rfl, by decide +kernel, by decide +kernel⟩ (fun _ _ _ _ _ _ us hl => match us, hl with | [_, _, _], _ => rfl) (by intro vs H Q E h; obtain ⟨_, _, _, _, _, _, _, _, rfl, _⟩ := h; rfl) (fun f cdv A outer s H vs Q E hr h => by obtain ⟨_, _, _, t, _, _, _, _, _, _, hn, _⟩ := h; exact absurd hn (by cases t <;> simp [Tm.dep]))
    | succ n ih => exact cal_of D.d32 (N := ["term", "start", "meaning", "part"]) (ps := ["term", "start", "meaning"]) ⟨rfl, rfl, rfl, by decide +kernel, rfl, by decide +kernel, by decide +kernel⟩ (fun _ _ _ _ _ _ us hl => match us, hl with | [_, _, _], _ => rfl) (by intro vs H Q E h; obtain ⟨_, _, _, _, _, _, _, _, rfl, _⟩ := h; rfl) (walk_now T C c_variable c_entry c_of ih)
  have c_truth_now : Cal P w K mg base CX0 11 "truth_now" (spTNow P w S M 8) := cal_of D.d33 (N := ["atom", "start", "meaning", "part"]) (ps := ["atom", "start", "meaning"]) ⟨rfl, rfl, rfl, by decide +kernel, rfl, by decide +kernel, by decide +kernel⟩ (fun _ _ _ _ _ _ us hl => match us, hl with | [_, _, _], _ => rfl) (by intro vs H Q E h; obtain ⟨_, _, _, _, _, _, _, _, rfl, _⟩ := h; rfl) (walk_tnow T C c_holds (c_now 8))
  have c_worth : Cal P w K mg base (L2.CX P w) 11 "worth" (spWorth P w K S M XT XS XM 8) := cal_of D.d34 (N := ["term", "start", "meaning"]) (ps := ["term", "start", "meaning"]) ⟨rfl, rfl, rfl, by decide +kernel, rfl, by decide +kernel, by decide +kernel⟩ (fun _ _ _ _ _ _ us hl => match us, hl with | [_, _, _], _ => rfl) (by intro vs H Q E h; obtain ⟨_, _, _, _, rfl, _⟩ := h; rfl) (walk_worth (n := 8) (by decide) T C X c_is_term c_check_played (c_now 8))
  have c_truth : Cal P w K mg base (L2.CX P w) 12 "truth" (spTruth P w K S M XT XS XM 8) := cal_of D.d35 (N := ["atom", "start", "meaning"]) (ps := ["atom", "start", "meaning"]) ⟨rfl, rfl, rfl, by decide +kernel, rfl, by decide +kernel, by decide +kernel⟩ (fun _ _ _ _ _ _ us hl => match us, hl with | [_, _, _], _ => rfl) (by intro vs H Q E h; obtain ⟨_, _, _, _, rfl, _⟩ := h; rfl) (walk_truth (n := 8) (by decide) T C X c_is_atom c_check_played c_truth_now)
  have c__law_pool : Cal P w K mg base CX0 1 "_law_pool" (spPool K) := cal_of D.d37 (N := ["_law_script", "_law_k", "_law_cell", "_law_size", "_law_seed", "_law_words"]) (ps := ["_law_script", "_law_k"]) ⟨rfl, rfl, rfl, by decide +kernel, rfl, by decide +kernel, by decide +kernel⟩ (fun _ _ _ _ _ _ us hl => match us, hl with | [_, _], _ => rfl) (by intro vs H Q E h; obtain ⟨_, _, _, rfl, _⟩ := h; rfl) (walk_pool T)
  have c_draw : Cal P w K mg base CX0 1 "_law_draw" spDraw := cal_of D.d38 (N := ["_law_pool_here", "_law_count", "_law_found"]) (ps := ["_law_pool_here", "_law_count"]) ⟨rfl, rfl, rfl, by decide +kernel, rfl, by decide +kernel, by decide +kernel⟩ (fun _ _ _ _ _ _ us hl => match us, hl with | [_, _], _ => rfl) (by intro vs H Q E h; obtain ⟨_, _, _, _, _, rfl, _⟩ := h; rfl) (walk_draw T)
  have c_gt : ∀ n, Cal P w K mg base CX0 (n + 2) "_law_term" (spGenTerm n) := by
    intro n
    induction n with
    | zero => exact cal_of D.d39 (N := ["_law_pool_here", "_law_names", "_law_depth", "_law_mode"]) (ps := ["_law_pool_here", "_law_names", "_law_depth"]) ⟨rfl, rfl, rfl, by decide +kernel, rfl, by decide +kernel, by decide +kernel⟩ (fun _ _ _ _ _ _ us hl => match us, hl with | [_, _, _], _ => rfl) (by intro vs H Q E h; obtain ⟨_, _, _, _, _, rfl, _⟩ := h; rfl) (fun f cdv A outer s H vs Q E hr h => by obtain ⟨_, _, _, _, d, _, h1, h2, _⟩ := h; omega)
    | succ n ih => exact cal_of D.d39 (N := ["_law_pool_here", "_law_names", "_law_depth", "_law_mode"]) (ps := ["_law_pool_here", "_law_names", "_law_depth"]) ⟨rfl, rfl, rfl, by decide +kernel, rfl, by decide +kernel, by decide +kernel⟩ (fun _ _ _ _ _ _ us hl => match us, hl with | [_, _, _], _ => rfl) (by intro vs H Q E h; obtain ⟨_, _, _, _, _, rfl, _⟩ := h; rfl) (walk_genTerm T c_draw ih)
  have c__law_atom : Cal P w K mg base CX0 8 "_law_atom" (spGenAtom 5) := cal_of D.d40 (N := ["_law_pool_here", "_law_names", "_law_depth"]) (ps := ["_law_pool_here", "_law_names", "_law_depth"]) ⟨rfl, rfl, rfl, by decide +kernel, rfl, by decide +kernel, by decide +kernel⟩ (fun _ _ _ _ _ _ us hl => match us, hl with | [_, _, _], _ => rfl) (by intro vs H Q E h; obtain ⟨_, _, _, _, _, rfl, _⟩ := h; rfl) (walk_genAtom T c_draw (c_gt 5))
  have c__law_start : Cal P w K mg base CX0 6 "_law_start" (spGenStart P w S) := cal_of D.d41 (N := ["_law_pool_here", "_law_variables", "_law_name", "_law_at"]) (ps := ["_law_pool_here"]) ⟨rfl, rfl, rfl, by decide +kernel, rfl, by decide +kernel, by decide +kernel⟩ (fun _ _ _ _ _ _ us hl => match us, hl with | [_], _ => rfl) (by intro vs H Q E h; obtain ⟨_, _, rfl, _⟩ := h; rfl) (walk_genStart T C c_draw c_Start)
  have c__law_meaning : Cal P w K mg base CX0 6 "_law_meaning" (spGenMean P w M) := cal_of D.d42 (N := ["_law_pool_here", "_law_operations", "_law_one", "_law_other", "_law_at"]) (ps := ["_law_pool_here"]) ⟨rfl, rfl, rfl, by decide +kernel, rfl, by decide +kernel, by decide +kernel⟩ (fun _ _ _ _ _ _ us hl => match us, hl with | [_], _ => rfl) (by intro vs H Q E h; obtain ⟨_, _, rfl, _⟩ := h; rfl) (walk_genMean T C c_draw c_Meaning)
  have c_lw : ∀ n, Cal P w K mg base CX0 (n + 2) "_law_worth" (spNow P w S M n) := by
    intro n
    induction n with
    | zero => exact cal_of D.d43 (N := ["_law_term_here", "_law_start_here", "_law_meaning_here", "_law_args", "_law_part"]) (ps := ["_law_term_here", "_law_start_here", "_law_meaning_here"]) ⟨rfl, rfl, rfl, by decide +kernel, rfl, by decide +kernel, by decide +kernel⟩ (fun _ _ _ _ _ _ us hl => match us, hl with | [_, _, _], _ => rfl) (by intro vs H Q E h; obtain ⟨_, _, _, _, _, _, _, _, rfl, _⟩ := h; rfl) (fun f cdv A outer s H vs Q E hr h => by obtain ⟨_, _, _, t, _, _, _, _, _, _, hn, _⟩ := h; exact absurd hn (by cases t <;> simp [Tm.dep]))
    | succ n ih => exact cal_of D.d43 (N := ["_law_term_here", "_law_start_here", "_law_meaning_here", "_law_args", "_law_part"]) (ps := ["_law_term_here", "_law_start_here", "_law_meaning_here"]) ⟨rfl, rfl, rfl, by decide +kernel, rfl, by decide +kernel, by decide +kernel⟩ (fun _ _ _ _ _ _ us hl => match us, hl with | [_, _, _], _ => rfl) (by intro vs H Q E h; obtain ⟨_, _, _, _, _, _, _, _, rfl, _⟩ := h; rfl) (walk_lworth T C c_variables c_entries c_operations ih)
  have c__law_truth : Cal P w K mg base CX0 11 "_law_truth" (spTNow P w S M 8) := cal_of D.d44 (N := ["_law_atom_here", "_law_start_here", "_law_meaning_here", "_law_args", "_law_part"]) (ps := ["_law_atom_here", "_law_start_here", "_law_meaning_here"]) ⟨rfl, rfl, rfl, by decide +kernel, rfl, by decide +kernel, by decide +kernel⟩ (fun _ _ _ _ _ _ us hl => match us, hl with | [_, _, _], _ => rfl) (by intro vs H Q E h; obtain ⟨_, _, _, _, _, _, _, _, rfl, _⟩ := h; rfl) (walk_ltruth T C c_tests (c_lw 8))
  have c__law_error : Cal P w K mg base CX0 13 "_law_error" (spError P w K S M) := cal_of D.d45 (N := ["_law_act", "_law_term_here", "_law_start_here", "_law_meaning_here", "e"]) (ps := ["_law_act", "_law_term_here", "_law_start_here", "_law_meaning_here"]) ⟨rfl, rfl, rfl, by decide +kernel, rfl, by decide +kernel, by decide +kernel⟩ (fun _ _ _ _ _ _ us hl => match us, hl with | [_, _, _, _], _ => rfl) (by intro vs H Q E h; obtain ⟨_, _, _, _, _, _, _, rfl, _⟩ := h; rfl) (walk_error T C X Y c_worth c_truth)
  have c_re : ∀ n, Cal P w K mg base CX0 (n + 2) "_law_replaced" (spRepl n) := by
    intro n
    induction n with
    | zero => exact cal_of D.d46 (N := ["_law_term_here", "_law_name", "_law_other", "_law_part"]) (ps := ["_law_term_here", "_law_name", "_law_other"]) ⟨rfl, rfl, rfl, by decide +kernel, rfl, by decide +kernel, by decide +kernel⟩ (fun _ _ _ _ _ _ us hl => match us, hl with | [_, _, _], _ => rfl) (by intro vs H Q E h; obtain ⟨_, _, _, _, _, rfl, _⟩ := h; rfl) (fun f cdv A outer s H vs Q E hr h => by obtain ⟨_, _, _, t, _, _, _, _, hn, _⟩ := h; exact absurd hn (by cases t <;> simp [Tm.dep]))
    | succ n ih => exact cal_of D.d46 (N := ["_law_term_here", "_law_name", "_law_other", "_law_part"]) (ps := ["_law_term_here", "_law_name", "_law_other"]) ⟨rfl, rfl, rfl, by decide +kernel, rfl, by decide +kernel, by decide +kernel⟩ (fun _ _ _ _ _ _ us hl => match us, hl with | [_, _, _], _ => rfl) (by intro vs H Q E h; obtain ⟨_, _, _, _, _, rfl, _⟩ := h; rfl) (walk_repl T ih)
  have c__law_replaced_right : Cal P w K mg base CX0 12 "_law_replaced_right" (spRight P w S M) := cal_of D.d47 (N := ["_law_term_here", "_law_other", "_law_start_here", "_law_meaning_here", "_law_changed", "_law_later"]) (ps := ["_law_term_here", "_law_other", "_law_start_here", "_law_meaning_here"]) ⟨rfl, rfl, rfl, by decide +kernel, rfl, by decide +kernel, by decide +kernel⟩ (fun _ _ _ _ _ _ us hl => match us, hl with | [_, _, _, _], _ => rfl) (by intro vs H Q E h; obtain ⟨_, _, _, _, _, _, _, _, _, _, rfl, _⟩ := h; rfl) (walk_right T C c_variables c_entries c_Start (c_lw 8) (c_re 5) c_worth)
  exact F.ok (N := laN) (ps := ["_law_script"]) ⟨rfl, rfl, rfl, by decide +kernel, rfl, by decide +kernel, by decide +kernel⟩ (by intro vs H Q E h; obtain ⟨_, _, rfl, _⟩ := h; rfl) (walk_law T C c__law_pool c__law_start c__law_meaning (c_gt 5) c__law_atom c_worth c_truth (c_lw 8) c__law_truth c__law_replaced_right c__law_error c_Start0 c_Meaning1 f)
end L2.K7

/-! N27: the facts behind the top. -/
namespace L2.K7
open PySem PySem.Spec PyProof.Rows
open He (ga ma)
/-- the getter of a property -/
def pg (K : PySem.W.Frag) (C : Addr) (f : Str) : Addr := match PySem.W.recIn K (ma K C f) "property" with
  | some (.ref g :: _) => g
  | _ => 0
def propB (K : PySem.W.Frag) (C : Addr) (f : Str) : Bool := He.eqO (PySem.W.findIn K (.ref C) f) (some (some (.ref (ma K C f)))) && (He.eqO (PySem.W.specialIn K (.ref (ma K C f)) "__get__") (some (some (.builtin "property.__get__"))) && (decide (PySem.W.takesIn K (.ref (ma K C f)) = some true) &&
  (match PySem.W.recIn K (ma K C f) "property" with
  | some (.ref _ :: _) => true
  | _ => false)))
theorem propB_ok {K : PySem.W.Frag} {C : Addr} {f : Str} (h : propB K C f = true) : PropOf K C f (ma K C f) (pg K C f) := by
  obtain ⟨h1, h⟩ := He.ba h
  obtain ⟨h2, h⟩ := He.ba h
  obtain ⟨h3, h4⟩ := He.ba h
  refine ⟨He.eqO_ok h1, He.eqO_ok h2, of_decide_eq_true h3, ?_⟩
  unfold pg
  cases e : PySem.W.recIn K (ma K C f) "property" with
  | none => rw [e] at h4; cases h4
  | some l =>
    rw [e] at h4
    cases l with
    | nil => cases h4
    | cons v r =>
      cases v with
      | ref g => exact ⟨r, rfl⟩
      | _ => cases h4
/-- a class whose instances isinstance knows -/
def insB (K : PySem.W.Frag) (C : Addr) : Bool := He.eqO (PySem.W.findIn K (.ref C) "__class__") (some (some (.builtin "object.__class__"))) && decide (PySem.W.mroIn K C (.type "object") = some true)
def insK (K : PySem.W.Frag) : Bool := He.eqO (PySem.W.specialIn K (.builtin "object.__class__") "__get__") (some (some (.builtin "getset_descriptor.__get__"))) && decide (PySem.W.takesIn K (.builtin "object.__class__") = some true)
def kitsB (K : PySem.W.Frag) (S M : Addr) : Bool := [(.ref S, S, true), (.ref M, M, true), (.ref M, S, false), (.ref S, M, false), (.type "NoneType", S, false), (.type "int", S, false), (.type "dict", S, false), (.type "NoneType", M, false), (.type "int", M, false), (.type "dict", M, false)].all fun (q : Value × Addr × Bool) => decide (PySem.W.kitOne K q.1 (.ref q.2.1) = some q.2.2)
/-! ### an own exception over an own base over ValueError, its __init__ with a cell -/
def vx (K : PySem.W.Frag) (C : Addr) : Bool := match K.lookup C with
  | some ⟨.type t, _, .cls cd, sl⟩ => decide (t = "type") && (cd.hasDict && (!cd.hasDel && (match cd.mro, sl.toList with
    | .ref C' :: bm, [_, _, _, _, some (.builtin n), _] => decide (C' = C) && (decide (n = "ValueError.__new__") && PySem.HandSPX.refsVE bm)
    | _, _ => false)))
  | _ => false
theorem vx_ok {K : PySem.W.Frag} {C : Addr} (q : vx K C = true) : ∃ nm qn N bs bm sn sub ab col dd k0 k1 k2 k3 k5, K.lookup C = some (excClassObj nm qn C N bs bm true sn sub ab col dd k0 k1 k2 k3 k5 "ValueError.__new__") ∧ PySem.HandSPX.refsVE bm = true := by
  unfold vx at q
  split at q
  · rename_i t dd cd sl ho
    obtain ⟨h1, q⟩ := He.ba q
    obtain ⟨h2, q⟩ := He.ba q
    obtain ⟨h3, q⟩ := He.ba q
    split at q
    · rename_i C' bm k0 k1 k2 k3 n k5 hm hs
      obtain ⟨h4, q⟩ := He.ba q
      obtain ⟨h5, h6⟩ := He.ba q
      have h4 := of_decide_eq_true h4
      have h5 := of_decide_eq_true h5
      have h1 := of_decide_eq_true h1
      subst h4 h5 h1
      obtain ⟨nm, bs, mro, ns, qn, hd, sn, sub, ab, col, del⟩ := cd
      dsimp only at hm h2 h3
      have h3 : del = false := by simpa using h3
      subst hm h2 h3
      have hsl : sl = #[k0, k1, k2, k3, some (.builtin "ValueError.__new__"), k5] := by
        obtain ⟨l⟩ := sl
        simp only at hs
        rw [hs]
      subst hsl
      exact ⟨nm, qn, ns, bs, bm, sn, sub, ab, col, dd, k0, k1, k2, k3, k5, ho, h6⟩
    · cases q
  · cases q
def ccA (K : PySem.W.Frag) (f : Addr) : Addr := match K.lookup f with
  | some ⟨_, _, .func fd, _⟩ => (match fd.closure with
    | [(_, a)] => a
    | _ => 0)
  | _ => 0
def cdA (K : PySem.W.Frag) (f : Addr) : Addr := match K.lookup f with
  | some ⟨_, _, .func fd, _⟩ => (match fd.code with
    | .ref c => c
    | _ => 0)
  | _ => 0
def fdB (K : PySem.W.Frag) (f : Addr) : Bool := match K.lookup f with
  | some ⟨_, _, .func fd, _⟩ => (match fd.defaults, fd.kwdefaults, fd.code with
    | .none, .none, .ref c => PySem.W.codeIn K (.ref c) fd.qualname
    | _, _, _ => false)
  | _ => false
def cellB (K : PySem.W.Frag) (cc C : Addr) : Bool := match K.lookup cc with
  | some ⟨_, _, .cell (some (.ref a)), _⟩ => decide (a = C)
  | _ => false
theorem cellB_ok {K : PySem.W.Frag} {cc C : Addr} (h : cellB K cc C = true) : ∃ cl cld csl, K.lookup cc = some ⟨cl, cld, .cell (some (.ref C)), csl⟩ := by
  unfold cellB at h
  split at h
  · rename_i cl cld a csl ho
    have h := of_decide_eq_true h
    subst h
    exact ⟨_, _, _, ho⟩
  · cases h
def cfB (P : Program) (K : PySem.W.Frag) (c : Addr) : Bool := match K.lookup c with
  | some ⟨_, _, .fields vs, _⟩ => (match vs[2]? with
    | some (Value.str file _) => (P.main.file : Str) == file
    | _ => false)
  | _ => false
theorem cfB_ok {P : Program} {K : PySem.W.Frag} {c : Addr} (h : cfB P K c = true) : ∃ ccl cdd vs ccs file tf, K.lookup c = some ⟨ccl, cdd, .fields vs, ccs⟩ ∧ vs[2]? = some (.str file tf) ∧ ((P.main.file : Str) == file) = true := by
  unfold cfB at h
  split at h
  · rename_i ccl cdd vs ccs ho
    split at h
    · rename_i file tf hv
      exact ⟨_, _, _, _, _, _, ho, hv, h⟩
    · cases h
  · cases h
abbrev FnY : Type := Option (Str × Str × Arguments × FuncBody × Scope × Addr × List Str × Addr)
def fnY (K : PySem.W.Frag) (a : Addr) : FnY := match K.lookup a with
  | some ⟨_, _, .func fd, _⟩ => some (fd.name, fd.qualname, fd.params, fd.body, fd.scope, fd.globals, fd.closure.map (·.1), fd.builtins)
  | _ => none
def valY (qual : Str) (st : Stmt) : FnY := some ("__init__", qual, defArgs st, .stmts (defBody st), defScope st, mainGlobals, ["__class__"], builtinsNs)
def iAd (K : PySem.W.Frag) (x : Str) : Addr := ma K (ga K x) "__init__"
def invB (P : Program) (K : PySem.W.Frag) (x : Str) : Bool := vx K (ga K x) && (He.eqO (PySem.W.findIn K (.ref (ga K x)) "__setattr__") (some (some (.builtin "object.__setattr__"))) && (He.eqO (PySem.W.findIn K (.ref (ga K x)) "value") (some none) &&
  (He.eqO (PySem.W.findIn K (.ref (ga K x)) "__init__") (some (some (.ref (iAd K x)))) && (decide (PySem.W.typeIn K (.ref (iAd K x)) = some (.type "function")) && (PySem.W.keepIn K (.ref (ga K x)) && (decide (PySem.W.subIn K (.ref (ga K x)) (.type "BaseException") = some true) &&
  (decide (PySem.W.typeIn K (.ref (ga K x)) = some (.type "type")) && (He.eqO (PySem.W.ks_superIn K (ga K x) (ga K x) "__init__") (some (some (.builtin "ValueError.__init__"))) && (decide (PySem.W.subIn K (.ref (ga K x)) (.type "ValueError") = some true) && (decide (PySem.W.mroIn K (ga K x) (.ref (ga K x)) = some true) &&
  (He.eqO (PySem.W.nsIn K cStatics "thirdparty.any") (some none) && (fdB K (iAd K x) && (cellB K (ccA K (iAd K x)) (ga K x) && (cfB P K (cdA K (iAd K x)) && xfB K (ga K x)))))))))))))))
theorem inv_ok {P : Program} {K : PySem.W.Frag} {x qual : Str} {st : Stmt} {p1 p2 q1 q2 q3 q4 q5 q6 q7 q8 q9 : Pos} (h : invB P K x = true) (e : fnY K (iAd K x) = valY qual st) (ha : defArgs st = PySem.InvX.iA p1 p2) (hb : defBody st = PySem.InvX.iB q1 q2 q3 q4 q5 q6 q7 q8 q9) (hs : defScope st = PySem.InvX.iS) (hl : (q3.endLine == q4.line) = true)
    (ht : (P.main.scope.names.lookup ("super" : Str)).isSome = false) : (∃ fI cc cda, PySem.InvX.InvTxt P K (ga K x) fI cc cda) ∧ XfC K (ga K x) ∧ PySem.W.findIn K (.ref (ga K x)) "value" = some none := by
  obtain ⟨h1, h⟩ := He.ba h
  obtain ⟨h2, h⟩ := He.ba h
  obtain ⟨h3, h⟩ := He.ba h
  obtain ⟨h4, h⟩ := He.ba h
  obtain ⟨h5, h⟩ := He.ba h
  obtain ⟨h6, h⟩ := He.ba h
  obtain ⟨h7, h⟩ := He.ba h
  obtain ⟨h8, h⟩ := He.ba h
  obtain ⟨h9, h⟩ := He.ba h
  obtain ⟨h10, h⟩ := He.ba h
  obtain ⟨h11, h⟩ := He.ba h
  obtain ⟨h12, h⟩ := He.ba h
  obtain ⟨h13, h⟩ := He.ba h
  obtain ⟨h14, h⟩ := He.ba h
  obtain ⟨h15, h16⟩ := He.ba h
  refine ⟨⟨iAd K x, ccA K (iAd K x), cdA K (iAd K x), ?_⟩, xfB_ok h16, He.eqO_ok h3⟩
  refine ⟨vx_ok h1, He.eqO_ok h2, He.eqO_ok h3, He.eqO_ok h4, of_decide_eq_true h5, h6, of_decide_eq_true h7, of_decide_eq_true h8, He.eqO_ok h9, of_decide_eq_true h10, of_decide_eq_true h11, He.eqO_ok h12, ?_, cellB_ok h14, cfB_ok h15, ht⟩
  unfold fnY at e
  unfold fdB at h13
  unfold ccA cdA
  cases q : K.lookup (iAd K x) with
  | none =>
    rw [q] at h13
    cases h13
  | some o =>
    obtain ⟨oc, od, dt, osl⟩ := o
    rw [q] at h13 e
    cases dt with
    | func fd =>
      obtain ⟨n1, n2, n3, n4, n5, n6, n7, n8, n9, n10, n11, n12, n13, n14, n15⟩ := fd
      have e2 : (some (n1, n2, n3, n4, n5, n6, n7.map (·.1), n15) : FnY) = valY qual st := e
      unfold valY at e2
      simp only [Option.some.injEq, Prod.mk.injEq] at e2
      obtain ⟨k1, k2, k3, k4, k5, k6, k7, k8⟩ := e2
      rw [ha] at k3
      rw [hb] at k4
      rw [hs] at k5
      subst k1 k2 k3 k4 k5 k6 k8
      match n7, k7 with
      | [(y, a)], k7 =>
        have ey : y = ("__class__" : Str) := (List.cons.inj k7).1
        subst ey
        match n8, n9, n13, h13 with
        | .none, .none, .ref c, h13 => exact ⟨n2, oc, od, n10, n11, n12, n14, osl, p1, p2, q1, q2, q3, q4, q5, q6, q7, q8, q9, rfl, h13, hl⟩
    | _ => cases h13
/-! ### the hook -/
abbrev AlZ : Type := He.AlD × Bool × List FnY
def exZ (K : PySem.W.Frag) : Bool := He.tupB K "WORDS" [.str "if", .str "else", .str "end", .str "proc", .str "main", .str "stop"] && (insK K && (insB K (ga K "Start") && (insB K (ga K "Meaning") && (kitsB K (ga K "Start") (ga K "Meaning") &&
  (propB K (ga K "Start") "variables" && (propB K (ga K "Start") "entries" && (propB K (ga K "Meaning") "operations" && (propB K (ga K "Meaning") "tests" && (invB PR K "InvalidTerm" && (invB PR K "InvalidStart" && invB PR K "InvalidMeaning"))))))))))
def ysZ (K : PySem.W.Frag) : List FnY := [fnY K (iAd K "InvalidTerm"), fnY K (iAd K "InvalidStart"), fnY K (iAd K "InvalidMeaning")]
def yvZ : List FnY := [valY "InvalidTerm.__init__" (inClass (top 2) 0), valY "InvalidStart.__init__" (inClass (top 3) 0), valY "InvalidMeaning.__init__" (inClass (top 4) 0)]
def obsZ (fa : List He.Fa) (fn : List He5.DefA) (K : PySem.W.Frag) : AlZ := (He5.obsA fa fn K, exZ K, ysZ K)
def valZ (fn : List He5.DefA) : AlZ := (He5.valA fn, true, yvZ)
def obsZG (n : Nat) (fa : List He.Fa) (fn : List He5.DefA) (g : Addr → Option Obj) : AlZ := obsZ fa fn (He.frG g (He5.asA g n))
def hookZ (n : Nat) (fa : List He.Fa) (fn : List He5.DefA) : PySem.W.Hook where
  α := AlZ
  obs := fun s => obsZG n fa fn s.heap.get?
  val := fun _ => valZ fn
  says := fun _ h => ∃ K : PySem.W.Frag, K.In h ∧ obsZ fa fn K = valZ fn
  of := fun _ _ e => ⟨_, He.frG_in, e⟩
  keeps := fun _ _ _ ⟨K, hK, c⟩ k => ⟨K, PySem.W.Frag.In.keeps hK k, c⟩
theorem obsZG_eq {n : Nat} {fa : List He.Fa} {fn : List He5.DefA} {g : Addr → Option Obj} {s : Shared} (h : ∀ a, g a = s.heap.get? a) : obsZG n fa fn g = (hookZ n fa fn).obs s := by
  have e : g = s.heap.get? := funext h
  rw [e] <;> rfl
def faZ : List He.Fa := ([.glo "is_integer", .glo "is_name", .glo "parts_of", .glo "are_args", .glo "has_form", .glo "is_term_within", .glo "is_atom_within", .glo "is_term", .glo "is_atom", .glo "are_variables", .glo "is_entry", .glo "are_entries", .glo "is_asked", .glo "are_operations", .glo "are_tests", .glo "without_zeros", .glo "check_played", .glo "worth_now", .glo "truth_now", .glo "worth", .glo "truth", .glo "_law_pool", .glo "_law_draw", .glo "_law_term", .glo "_law_atom", .glo "_law_start", .glo "_law_meaning", .glo "_law_worth", .glo "_law_truth", .glo "_law_error"] : List He.Fa) ++ ([.glo "_law_replaced", .glo "_law_replaced_right", .glo "law", .free "isinstance", .free "len", .free "all", .free "abs", .free "max", .free "min", .free "int", .free "bool", .free "str", .free "tuple", .free "dict", .free "range", .free "super", .int "MAX_NAME" 8, .int "MAX_ARGS" 8, .int "MAX_SIZE" 200, .int "MAX_DEPTH" 30, .str "LETTERS" "abcdefghijklmnopqrstuvwxyz", .glo "WORDS", .glo "Start", .keep "Start", .cls "Start", .mkr "Start", .glo "Meaning", .keep "Meaning", .cls "Meaning", .mkr "Meaning"] : List He.Fa) ++ ([.noat "Start" "own_named", .noat "Start" "own_placed", .noat "Meaning" "own_worths", .noat "Meaning" "own_truth", .meth "Start" "variable", .meth "Start" "entry", .meth "Meaning" "of", .meth "Meaning" "holds", .glo "InvalidTerm", .glo "InvalidStart", .glo "InvalidMeaning", .exm "InvalidTerm" "InvalidTerm" true, .exm "InvalidStart" "InvalidTerm" false, .exm "InvalidStart" "InvalidStart" true, .exm "InvalidMeaning" "InvalidTerm" false, .exm "InvalidMeaning" "InvalidStart" false, .exm "InvalidMeaning" "InvalidMeaning" true] : List He.Fa)
def e0 : He5.DefA := ⟨fun K => ga K "is_integer", "is_integer", "is_integer", defArgs (top 12), defBody (top 12), defScope (top 12), [], []⟩
def e1 : He5.DefA := ⟨fun K => ga K "is_name", "is_name", "is_name", defArgs (top 13), defBody (top 13), defScope (top 13), [], []⟩
def e2 : He5.DefA := ⟨fun K => ga K "parts_of", "parts_of", "parts_of", defArgs (top 14), defBody (top 14), defScope (top 14), [], []⟩
def e3 : He5.DefA := ⟨fun K => ga K "are_args", "are_args", "are_args", defArgs (top 15), defBody (top 15), defScope (top 15), [], []⟩
def e4 : He5.DefA := ⟨fun K => ga K "has_form", "has_form", "has_form", defArgs (top 16), defBody (top 16), defScope (top 16), [], []⟩
def e5 : He5.DefA := ⟨fun K => ga K "is_term_within", "is_term_within", "is_term_within", defArgs (top 17), defBody (top 17), defScope (top 17), [], []⟩
def e6 : He5.DefA := ⟨fun K => ga K "is_atom_within", "is_atom_within", "is_atom_within", defArgs (top 18), defBody (top 18), defScope (top 18), [], []⟩
def e7 : He5.DefA := ⟨fun K => ga K "is_term", "is_term", "is_term", defArgs (top 19), defBody (top 19), defScope (top 19), [], []⟩
def e8 : He5.DefA := ⟨fun K => ga K "is_atom", "is_atom", "is_atom", defArgs (top 20), defBody (top 20), defScope (top 20), [], []⟩
def e9 : He5.DefA := ⟨fun K => ga K "are_variables", "are_variables", "are_variables", defArgs (top 22), defBody (top 22), defScope (top 22), [], []⟩
def e10 : He5.DefA := ⟨fun K => ga K "is_entry", "is_entry", "is_entry", defArgs (top 23), defBody (top 23), defScope (top 23), [], []⟩
def e11 : He5.DefA := ⟨fun K => ga K "are_entries", "are_entries", "are_entries", defArgs (top 24), defBody (top 24), defScope (top 24), [], []⟩
def e12 : He5.DefA := ⟨fun K => ga K "is_asked", "is_asked", "is_asked", defArgs (top 25), defBody (top 25), defScope (top 25), [], []⟩
def e13 : He5.DefA := ⟨fun K => ga K "are_operations", "are_operations", "are_operations", defArgs (top 26), defBody (top 26), defScope (top 26), [], []⟩
def e14 : He5.DefA := ⟨fun K => ga K "are_tests", "are_tests", "are_tests", defArgs (top 27), defBody (top 27), defScope (top 27), [], []⟩
def e15 : He5.DefA := ⟨fun K => ga K "without_zeros", "without_zeros", "without_zeros", defArgs (top 28), defBody (top 28), defScope (top 28), [], []⟩
def e16 : He5.DefA := ⟨fun K => ga K "check_played", "check_played", "check_played", defArgs (top 31), defBody (top 31), defScope (top 31), [], []⟩
def e17 : He5.DefA := ⟨fun K => ga K "worth_now", "worth_now", "worth_now", defArgs (top 32), defBody (top 32), defScope (top 32), [], []⟩
def e18 : He5.DefA := ⟨fun K => ga K "truth_now", "truth_now", "truth_now", defArgs (top 33), defBody (top 33), defScope (top 33), [], []⟩
def e19 : He5.DefA := ⟨fun K => ga K "worth", "worth", "worth", defArgs (top 34), defBody (top 34), defScope (top 34), [], []⟩
def e20 : He5.DefA := ⟨fun K => ga K "truth", "truth", "truth", defArgs (top 35), defBody (top 35), defScope (top 35), [], []⟩
def e21 : He5.DefA := ⟨fun K => ga K "_law_pool", "_law_pool", "_law_pool", defArgs (top 37), defBody (top 37), defScope (top 37), [], []⟩
def e22 : He5.DefA := ⟨fun K => ga K "_law_draw", "_law_draw", "_law_draw", defArgs (top 38), defBody (top 38), defScope (top 38), [], []⟩
def e23 : He5.DefA := ⟨fun K => ga K "_law_term", "_law_term", "_law_term", defArgs (top 39), defBody (top 39), defScope (top 39), [], []⟩
def e24 : He5.DefA := ⟨fun K => ga K "_law_atom", "_law_atom", "_law_atom", defArgs (top 40), defBody (top 40), defScope (top 40), [], []⟩
def e25 : He5.DefA := ⟨fun K => ga K "_law_start", "_law_start", "_law_start", defArgs (top 41), defBody (top 41), defScope (top 41), [], []⟩
def e26 : He5.DefA := ⟨fun K => ga K "_law_meaning", "_law_meaning", "_law_meaning", defArgs (top 42), defBody (top 42), defScope (top 42), [], []⟩
def e27 : He5.DefA := ⟨fun K => ga K "_law_worth", "_law_worth", "_law_worth", defArgs (top 43), defBody (top 43), defScope (top 43), [], []⟩
def e28 : He5.DefA := ⟨fun K => ga K "_law_truth", "_law_truth", "_law_truth", defArgs (top 44), defBody (top 44), defScope (top 44), [], []⟩
def e29 : He5.DefA := ⟨fun K => ga K "_law_error", "_law_error", "_law_error", defArgs (top 45), defBody (top 45), defScope (top 45), [], []⟩
def e30 : He5.DefA := ⟨fun K => ga K "_law_replaced", "_law_replaced", "_law_replaced", defArgs (top 46), defBody (top 46), defScope (top 46), [], []⟩
def e31 : He5.DefA := ⟨fun K => ga K "_law_replaced_right", "_law_replaced_right", "_law_replaced_right", defArgs (top 47), defBody (top 47), defScope (top 47), [], []⟩
def e32 : He5.DefA := ⟨fun K => ga K "law", "law", "law", defArgs (top 48), defBody (top 48), defScope (top 48), [], []⟩
def e33 : He5.DefA := ⟨fun K => ma K (ga K "Start") "variable", "variable", "Start.variable", defArgs (cS 3), defBody (cS 3), defScope (cS 3), [], []⟩
def e34 : He5.DefA := ⟨fun K => ma K (ga K "Start") "entry", "entry", "Start.entry", defArgs (cS 4), defBody (cS 4), defScope (cS 4), [], []⟩
def e35 : He5.DefA := ⟨fun K => ma K (ga K "Meaning") "of", "of", "Meaning.of", defArgs (cM 3), defBody (cM 3), defScope (cM 3), [], []⟩
def e36 : He5.DefA := ⟨fun K => ma K (ga K "Meaning") "holds", "holds", "Meaning.holds", defArgs (cM 4), defBody (cM 4), defScope (cM 4), [], []⟩
def e37 : He5.DefA := ⟨fun K => ma K (ga K "Start") "__init__", "__init__", "Start.__init__", defArgs (cS 0), defBody (cS 0), defScope (cS 0), [.non, .non], []⟩
def e38 : He5.DefA := ⟨fun K => ma K (ga K "Meaning") "__init__", "__init__", "Meaning.__init__", defArgs (cM 0), defBody (cM 0), defScope (cM 0), [.non, .non], []⟩
def e39 : He5.DefA := ⟨fun K => pg K (ga K "Start") "variables", "variables", "Start.variables", defArgs (cS 1), defBody (cS 1), defScope (cS 1), [], []⟩
def e40 : He5.DefA := ⟨fun K => pg K (ga K "Start") "entries", "entries", "Start.entries", defArgs (cS 2), defBody (cS 2), defScope (cS 2), [], []⟩
def e41 : He5.DefA := ⟨fun K => pg K (ga K "Meaning") "operations", "operations", "Meaning.operations", defArgs (cM 1), defBody (cM 1), defScope (cM 1), [], []⟩
def e42 : He5.DefA := ⟨fun K => pg K (ga K "Meaning") "tests", "tests", "Meaning.tests", defArgs (cM 2), defBody (cM 2), defScope (cM 2), [], []⟩
def fnZ : List He5.DefA := ([e0, e1, e2, e3, e4, e5, e6, e7, e8, e9, e10, e11, e12, e13, e14, e15, e16, e17, e18, e19] : List He5.DefA) ++ ([e20, e21, e22, e23, e24, e25, e26, e27, e28, e29, e30, e31, e32, e33, e34, e35, e36, e37, e38, e39] : List He5.DefA) ++ ([e40, e41, e42] : List He5.DefA)
section
variable {K : PySem.W.Frag} {h : Heap} {mg : Str → Option Value}
theorem facts_ok (X : K.In h) (G : h.Ns mainGlobals mg) (e : obsZ faZ fnZ K = valZ fnZ) :
    Txt K mg ∧ Cts K mg (ga K "Start") (ga K "Meaning") ∧ Ers PR K mg (ga K "InvalidTerm") (ga K "InvalidStart") (ga K "InvalidMeaning") ∧ ErX K (ga K "InvalidTerm") (ga K "InvalidStart") (ga K "InvalidMeaning") ∧ Defs K mg (ga K "Start") (ga K "Meaning") ∧
    mg "law" = some (.ref (ga K "law")) ∧ ∃ fd, FunD K "law" "law" (defArgs (top 48)) (defBody (top 48)) (defScope (top 48)) [] [] (ga K "law") fd := by
  have c : He5.SaysA faZ fnZ K := congrArg (fun z : AlZ => z.1) e
  have x : exZ K = true := congrArg (fun z : AlZ => z.2.1) e
  have y : ysZ K = yvZ := congrArg (fun z : AlZ => z.2.2) e
  obtain ⟨x1, x⟩ := He.ba x
  obtain ⟨x2, x⟩ := He.ba x
  obtain ⟨x3, x⟩ := He.ba x
  obtain ⟨x4, x⟩ := He.ba x
  obtain ⟨x5, x⟩ := He.ba x
  obtain ⟨x6, x⟩ := He.ba x
  obtain ⟨x7, x⟩ := He.ba x
  obtain ⟨x8, x⟩ := He.ba x
  obtain ⟨x9, x⟩ := He.ba x
  obtain ⟨x10, x⟩ := He.ba x
  obtain ⟨x11, x12⟩ := He.ba x
  obtain ⟨x21, x22⟩ := He.ba x2
  obtain ⟨x31, x32⟩ := He.ba x3
  obtain ⟨x41, x42⟩ := He.ba x4
  have kits : ∀ q ∈ [(.ref (ga K "Start"), ga K "Start", true), (.ref (ga K "Meaning"), ga K "Meaning", true), (.ref (ga K "Meaning"), ga K "Start", false), (.ref (ga K "Start"), ga K "Meaning", false), (.type "NoneType", ga K "Start", false), (.type "int", ga K "Start", false), (.type "dict", ga K "Start", false), (.type "NoneType", ga K "Meaning", false), (.type "int", ga K "Meaning", false), ((.type "dict" : Value), ga K "Meaning", false)], PySem.W.kitOne K q.1 (.ref q.2.1) = some q.2.2 := fun q hq => of_decide_eq_true (List.all_eq_true.mp x5 q hq)
  obtain ⟨tT, xT, nT⟩ := inv_ok x10 (List.cons.inj y).1 rfl rfl rfl rfl (by rfl)
  obtain ⟨tS, xS, nS⟩ := inv_ok x11 (List.cons.inj (List.cons.inj y).2).1 rfl rfl rfl rfl (by rfl)
  obtain ⟨tM, xM, nM⟩ := inv_ok x12 (List.cons.inj (List.cons.inj (List.cons.inj y).2).2).1 rfl rfl rfl rfl (by rfl)
  refine ⟨⟨(He.free_ok X G (c.fact 33)), (He.free_ok X G (c.fact 34)), (He.free_ok X G (c.fact 35)), (He.free_ok X G (c.fact 36)), (He.free_ok X G (c.fact 37)), (He.free_ok X G (c.fact 38)), (He.free_ok X G (c.fact 39)), (He.free_ok X G (c.fact 40)), (He.free_ok X G (c.fact 41)), (He.free_ok X G (c.fact 42)), (He.free_ok X G (c.fact 43)), (He.free_ok X G (c.fact 44)), (He.free_ok X G (c.fact 45)), (let ⟨t, e⟩ := He.int_ok X G (c.fact 46); ⟨_, e, t, rfl⟩), (let ⟨t, e⟩ := He.int_ok X G (c.fact 47); ⟨_, e, t, rfl⟩), (let ⟨t, e⟩ := He.int_ok X G (c.fact 48); ⟨_, e, t, rfl⟩), (let ⟨t, e⟩ := He.int_ok X G (c.fact 49); ⟨_, e, t, rfl⟩), (let ⟨t, e⟩ := He.str_ok X G (c.fact 50); ⟨_, e, t, rfl⟩), ⟨_, (He.glo_ok X G (c.fact 51)), fun H => He.tupB_ok x1 H⟩⟩,
    ⟨He.cls_ok (c.fact 54), He.cls_ok (c.fact 58), He.noat_ok (c.fact 60), He.noat_ok (c.fact 61), He.noat_ok (c.fact 62), He.noat_ok (c.fact 63), (He.glo_ok X G (c.fact 52)), (He.glo_ok X G (c.fact 56)), He.keep_ok (c.fact 53), He.keep_ok (c.fact 57), He.eqO_ok x31, He.eqO_ok x41, He.eqO_ok x21, of_decide_eq_true x22, of_decide_eq_true x32, of_decide_eq_true x42, kits _ (.head _), kits _ (.tail _ (.head _)), kits _ (.tail _ (.tail _ (.head _))), kits _ (.tail _ (.tail _ (.tail _ (.head _)))), kits _ (.tail _ (.tail _ (.tail _ (.tail _ (.head _))))), kits _ (.tail _ (.tail _ (.tail _ (.tail _ (.tail _ (.head _)))))), kits _ (.tail _ (.tail _ (.tail _ (.tail _ (.tail _ (.tail _ (.head _))))))), kits _ (.tail _ (.tail _ (.tail _ (.tail _ (.tail _ (.tail _ (.tail _ (.head _)))))))), kits _ (.tail _ (.tail _ (.tail _ (.tail _ (.tail _ (.tail _ (.tail _ (.tail _ (.head _))))))))), kits _ (.tail _ (.tail _ (.tail _ (.tail _ (.tail _ (.tail _ (.tail _ (.tail _ (.tail _ (.head _))))))))))⟩,
    ⟨tT, tS, tM, (He.glo_ok X G (c.fact 68)), (He.glo_ok X G (c.fact 69)), (He.glo_ok X G (c.fact 70))⟩, ⟨xT, xS, xM, nT, nS, nM, He.exm_ok (c.fact 71), He.exm_ok (c.fact 72), He.exm_ok (c.fact 73), He.exm_ok (c.fact 74), He.exm_ok (c.fact 75), He.exm_ok (c.fact 76)⟩, ?_, (He.glo_ok X G (c.fact 32)), c.def_ 32 (d := e32) rfl⟩
  exact ⟨(let ⟨fd, q⟩ := c.def_ 0 (d := e0) rfl; ⟨_, fd, (He.glo_ok X G (c.fact 0)), q⟩),
    (let ⟨fd, q⟩ := c.def_ 1 (d := e1) rfl; ⟨_, fd, (He.glo_ok X G (c.fact 1)), q⟩),
    (let ⟨fd, q⟩ := c.def_ 2 (d := e2) rfl; ⟨_, fd, (He.glo_ok X G (c.fact 2)), q⟩),
    (let ⟨fd, q⟩ := c.def_ 3 (d := e3) rfl; ⟨_, fd, (He.glo_ok X G (c.fact 3)), q⟩),
    (let ⟨fd, q⟩ := c.def_ 4 (d := e4) rfl; ⟨_, fd, (He.glo_ok X G (c.fact 4)), q⟩),
    (let ⟨fd, q⟩ := c.def_ 5 (d := e5) rfl; ⟨_, fd, (He.glo_ok X G (c.fact 5)), q⟩),
    (let ⟨fd, q⟩ := c.def_ 6 (d := e6) rfl; ⟨_, fd, (He.glo_ok X G (c.fact 6)), q⟩),
    (let ⟨fd, q⟩ := c.def_ 7 (d := e7) rfl; ⟨_, fd, (He.glo_ok X G (c.fact 7)), q⟩),
    (let ⟨fd, q⟩ := c.def_ 8 (d := e8) rfl; ⟨_, fd, (He.glo_ok X G (c.fact 8)), q⟩),
    (let ⟨fd, q⟩ := c.def_ 9 (d := e9) rfl; ⟨_, fd, (He.glo_ok X G (c.fact 9)), q⟩),
    (let ⟨fd, q⟩ := c.def_ 10 (d := e10) rfl; ⟨_, fd, (He.glo_ok X G (c.fact 10)), q⟩),
    (let ⟨fd, q⟩ := c.def_ 11 (d := e11) rfl; ⟨_, fd, (He.glo_ok X G (c.fact 11)), q⟩),
    (let ⟨fd, q⟩ := c.def_ 12 (d := e12) rfl; ⟨_, fd, (He.glo_ok X G (c.fact 12)), q⟩),
    (let ⟨fd, q⟩ := c.def_ 13 (d := e13) rfl; ⟨_, fd, (He.glo_ok X G (c.fact 13)), q⟩),
    (let ⟨fd, q⟩ := c.def_ 14 (d := e14) rfl; ⟨_, fd, (He.glo_ok X G (c.fact 14)), q⟩),
    (let ⟨fd, q⟩ := c.def_ 15 (d := e15) rfl; ⟨_, fd, (He.glo_ok X G (c.fact 15)), q⟩),
    (let ⟨fd, q⟩ := c.def_ 16 (d := e16) rfl; ⟨_, fd, (He.glo_ok X G (c.fact 16)), q⟩),
    (let ⟨fd, q⟩ := c.def_ 17 (d := e17) rfl; ⟨_, fd, (He.glo_ok X G (c.fact 17)), q⟩),
    (let ⟨fd, q⟩ := c.def_ 18 (d := e18) rfl; ⟨_, fd, (He.glo_ok X G (c.fact 18)), q⟩),
    (let ⟨fd, q⟩ := c.def_ 19 (d := e19) rfl; ⟨_, fd, (He.glo_ok X G (c.fact 19)), q⟩),
    (let ⟨fd, q⟩ := c.def_ 20 (d := e20) rfl; ⟨_, fd, (He.glo_ok X G (c.fact 20)), q⟩),
    (let ⟨fd, q⟩ := c.def_ 21 (d := e21) rfl; ⟨_, fd, (He.glo_ok X G (c.fact 21)), q⟩),
    (let ⟨fd, q⟩ := c.def_ 22 (d := e22) rfl; ⟨_, fd, (He.glo_ok X G (c.fact 22)), q⟩),
    (let ⟨fd, q⟩ := c.def_ 23 (d := e23) rfl; ⟨_, fd, (He.glo_ok X G (c.fact 23)), q⟩),
    (let ⟨fd, q⟩ := c.def_ 24 (d := e24) rfl; ⟨_, fd, (He.glo_ok X G (c.fact 24)), q⟩),
    (let ⟨fd, q⟩ := c.def_ 25 (d := e25) rfl; ⟨_, fd, (He.glo_ok X G (c.fact 25)), q⟩),
    (let ⟨fd, q⟩ := c.def_ 26 (d := e26) rfl; ⟨_, fd, (He.glo_ok X G (c.fact 26)), q⟩),
    (let ⟨fd, q⟩ := c.def_ 27 (d := e27) rfl; ⟨_, fd, (He.glo_ok X G (c.fact 27)), q⟩),
    (let ⟨fd, q⟩ := c.def_ 28 (d := e28) rfl; ⟨_, fd, (He.glo_ok X G (c.fact 28)), q⟩),
    (let ⟨fd, q⟩ := c.def_ 29 (d := e29) rfl; ⟨_, fd, (He.glo_ok X G (c.fact 29)), q⟩),
    (let ⟨fd, q⟩ := c.def_ 30 (d := e30) rfl; ⟨_, fd, (He.glo_ok X G (c.fact 30)), q⟩),
    (let ⟨fd, q⟩ := c.def_ 31 (d := e31) rfl; ⟨_, fd, (He.glo_ok X G (c.fact 31)), q⟩),
    (let ⟨fd, q⟩ := c.def_ 37 (d := e37) rfl; ⟨_, fd, He.mkr_ok (c.fact 55), (He.glo_ok X G (c.fact 52)), q⟩),
    (let ⟨fd, q⟩ := c.def_ 38 (d := e38) rfl; ⟨_, fd, He.mkr_ok (c.fact 59), (He.glo_ok X G (c.fact 56)), q⟩),
    (let ⟨fd, q⟩ := c.def_ 39 (d := e39) rfl; ⟨_, _, fd, propB_ok x6, q⟩),
    (let ⟨fd, q⟩ := c.def_ 40 (d := e40) rfl; ⟨_, _, fd, propB_ok x7, q⟩),
    (let ⟨fd, q⟩ := c.def_ 41 (d := e41) rfl; ⟨_, _, fd, propB_ok x8, q⟩),
    (let ⟨fd, q⟩ := c.def_ 42 (d := e42) rfl; ⟨_, _, fd, propB_ok x9, q⟩),
    (let ⟨fd, q⟩ := c.def_ 33 (d := e33) rfl; ⟨_, fd, He.meth_ok (c.fact 64), q⟩),
    (let ⟨fd, q⟩ := c.def_ 34 (d := e34) rfl; ⟨_, fd, He.meth_ok (c.fact 65), q⟩),
    (let ⟨fd, q⟩ := c.def_ 35 (d := e35) rfl; ⟨_, fd, He.meth_ok (c.fact 66), q⟩),
    (let ⟨fd, q⟩ := c.def_ 36 (d := e36) rfl; ⟨_, fd, He.meth_ok (c.fact 67), q⟩)⟩
end
end L2.K7

set_option maxHeartbeats 0
/-! N28: the run of the top, the end. -/
namespace L2.K7
open PySem PySem.Spec PyProof.Rows
abbrev RW : PySem.W.OpenRow := PySem.W.OpenLaw.row PySem.Challenge.rw_handedacross_k07_whole_worths_of_terms
abbrev hk : PySem.W.Hook := hookZ 6 faZ fnZ
def ob (s : PySem.W.SharedT) : AlZ := obsZG 6 faZ fnZ (HandSHeadRun.getT s)
theorem ob_eq (s : PySem.W.SharedT) : ob s = hk.obs s.abs := obsZG_eq (HandSHeadRun.getT_eq s)
def loose1 : List Str := ["HandError", "InvalidTerm", "InvalidStart", "InvalidMeaning", "LETTERS", "WORDS", "MAX_NAME", "MAX_ARGS", "MAX_SIZE", "MAX_DEPTH", "is_integer", "is_name", "parts_of", "are_args", "has_form", "is_term_within", "is_atom_within", "is_term", "is_atom", "are_variables", "is_entry", "are_entries"]
def loose2 : List Str := ["is_asked", "are_operations", "are_tests", "without_zeros", "Start", "Meaning", "check_played", "worth_now", "truth_now", "worth", "truth", "_law_pool", "_law_draw", "_law_term", "_law_atom", "_law_start", "_law_meaning", "_law_worth", "_law_truth", "_law_error", "_law_replaced", "_law_replaced_right"]
theorem run (w : World) : HandSHeadRun.RunEq RW (PySem.W.view RW.prog [48]) hk ob 20000 (loose1 ++ loose2) w := by
  intro os
  kernel_rfl
end L2.K7

/-! N29: the end. -/
namespace L2.K7
open PySem PySem.Spec PyProof.Rows
theorem ends (w : World) (mg : Str → Option Value) (fa : Addr) (h : Heap) (Y : hk.says w h) (G : h.Ns mainGlobals mg) (hmg : mg ("law" : Str) = some (.ref fa)) :
    ∃ (K : PySem.W.Frag) (fd : FuncData) (sp : Sp), K.In h ∧ (∀ (s : Shared) (u : Value), BindsTo s fd ⟨[u], []⟩ [("_law_script", u)]) ∧
      (∀ (H : Hp) (a : Addr) (ns : List Int), ns.length ≤ 63 → Only H → SqL K H a (ns.map V.int) → sp [.ref a] H (fun v _ => v = .bl true) fun _ _ _ => False) ∧
      ∀ base : Heap, K.In base → base.Ns mainGlobals mg → FnOk PR w K mg base CX0 14 fa fd ["_law_script"] sp := by
  obtain ⟨K, KX, c⟩ := Y
  obtain ⟨T, C, X, Y, D, hl, fd, F⟩ := facts_ok KX G c
  have e := hmg.symm.trans hl
  cases e
  have b := FunD.bindsA (ps := ["_law_script"]) F fun _ _ _ _ _ _ us hl => match us, hl with | [_], _ => rfl
  exact ⟨K, fd, spLaw K, KX, fun s v => b s [v] rfl, fun H a ns _ _ hS => ⟨a, ns, rfl, hS, fun _ => rfl⟩, fun base _ _ => law_ok T C X Y D F⟩
end L2.K7
open PySem PySem.W PySem.Calls PyProof.Rows
theorem PySem.Challenge.cw_handedacross_k07_whole_worths_of_terms_holds : PySem.Challenge.rw_handedacross_k07_whole_worths_of_terms.Holds := by
  w_on; o_law
  refine HandSHeadRun.head_any (r := OpenLaw.row PySem.Challenge.rw_handedacross_k07_whole_worths_of_terms) (q := view (OpenLaw.row PySem.Challenge.rw_handedacross_k07_whole_worths_of_terms).prog [48]) (H := L2.K7.hk) (ob := L2.K7.ob) (M := 20000) (loose := L2.K7.loose1 ++ L2.K7.loose2) (d := HandSHeadRun.topDef (OpenLaw.row PySem.Challenge.rw_handedacross_k07_whole_worths_of_terms).prog 48) (kwd := []) L2.K7.ob_eq
    (by kernel_rfl) (fun s => by kernel_rfl) L2.K7.run (by kernel_rfl) (by kernel_rfl) (by kernel_rfl) (by rfl) (by first | assumption | decide +kernel) (by decide +kernel) ⟨rfl, rfl, rfl, rfl, rfl, by decide +kernel⟩ ?hw ?hc
  case hw => w_witness2
  case hc =>
    refine L2.walk_ofE (l := PySem.Challenge.rw_handedacross_k07_whole_worths_of_terms) (n := 63) (k := 14) (x := "_law_script") (CX := L2.CX0) rfl (by decide) (by kernel_rfl) ⟨rfl, by decide, by decide⟩ ?F (fun _ _ _ _ z => z)
    intro w mg fa h Y G hmg0
    have hmg : mg ("law" : PySem.Str) = some (.ref fa) := by
      have e : (HandSHeadRun.topDef (OpenLaw.row PySem.Challenge.rw_handedacross_k07_whole_worths_of_terms).prog 48).name = ("law" : PySem.Str) := by kernel_rfl
      rw [← e]
      exact hmg0
    exact L2.K7.ends w mg fa h Y G hmg

