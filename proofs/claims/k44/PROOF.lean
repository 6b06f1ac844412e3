import PyProof.Rows.All
import Wide.All
import OpenK.AllK
import Wide.FinOn
import KE.KeyNested
import KE.KDictKeyed
import HandS.Base
import HandS.Call
import HandS.List
import HandS.Dict
import HandS.SetKeys
import HandS.SortKw
import HandS.Iter
import HandS.ForMost
import HandS.ForExc
import HandS.EndTab
import HandS.HeadWalk
import HandS.HeadHook4
import HandS.Head2
import HandS.HeadEnd
import HandS.Defaults
import HandS.IsInst
import HandS.Deep
import HandS.TupAny
import HandS.Style
import HandS.Flow
import HandS.ExcValue
import HandS.SortOrd
import HandS.StrMore
import HandS.Wide
import HandS.Small
import HandS.SetBool
import HandS.ExcIs
import HandS.Zip
import PyProof.Rows.SortShellAny
import HandS.Set
import HandS.SetFor
import HandS.Lambda
import KE.SortKeyHeap
import KE.KDictCopyH
import HandS.Keys
import HandS.TupLe
import HandS.TupSets
import KE.SortData
import HandS.DictComp
import KE.KRevSl
import HandS.WordsDict
import KE.DataAny
import HandS.ReplaceLit
import HandS.ReplaceList
import PySem.Challenge.RW_everyfind_k44_whole_views_of_documents
set_option Elab.async false
set_option linter.all false
set_option maxRecDepth 100000
set_option maxHeartbeats 0
/-! TLz: dicts whose keys are nested tuples (numbers, truth values, texts, None), tracked as an object of one's own. -/
namespace TL
open PySem PySem.Spec PyProof.Rows L2
mutual
/-- the value v is the key k -/
inductive Nk (K : PySem.W.Frag) (H : Hp) : V → NestedKey → Prop
  | non : Nk K H .non .none
  | bl {b} : Nk K H (.bl b) (.num (if b = true then 1 else 0))
  | int {i} : Nk K H (.int i) (.num i)
  | str {s} : Nk K H (.str s) (.text s)
  | tup {a vs ks} : SqT K H a vs → NkAll K H vs ks → Nk K H (.ref a) (.tup ks)
inductive NkAll (K : PySem.W.Frag) (H : Hp) : List V → List NestedKey → Prop
  | nil : NkAll K H [] []
  | cons {v k vs ks} : Nk K H v k → NkAll K H vs ks → NkAll K H (v :: vs) (k :: ks)
end
section
variable {X : Cx} {pins : List (Addr × Obj)} {σ : L2.St} {H : Hp} {s : Shared}
mutual
theorem Nk.at (I : Inv X pins σ H s) : ∀ {v k u}, Nk X.K H v k → RelV v u → NestedIs s.heap k u
  | _, _, _, .non, r => by cases r; exact .none
  | _, _, _, .bl, r => by cases r; exact .bool rfl
  | _, _, _, .int, r => by obtain ⟨t, rfl⟩ := r; exact .int _ _
  | _, _, _, .str, r => by obtain ⟨t, rfl⟩ := r; exact .text _ _
  | _, _, _, .tup h q, r => by
    cases r
    obtain ⟨its, rv, ⟨o, e, c, n, d⟩, _⟩ := I.tuple h
    exact .tup e c d (by simpa using NkAll.at I q rv)
theorem NkAll.at (I : Inv X pins σ H s) : ∀ {vs ks us}, NkAll X.K H vs ks → Vals vs us → NestedAll s.heap ks us
  | _, _, _, .nil, r => by cases r; exact .nil
  | _, _, _, .cons a q, r => by cases r with | cons ra rr => exact .cons (Nk.at I a ra) (NkAll.at I q rr)
end
end
abbrev NX := List (NestedKey × Addr × V)
def NV : NX → List (NestedKey × Addr × Value) → Prop := Paired fun p q => p.1 = q.1 ∧ p.2.1 = q.2.1 ∧ RelV p.2.2 q.2.2
def valN (xs : NX) (k : NestedKey) : Option V := (xs.find? fun x => decide (x.1 = k)).map (·.2.2)
def putN (xs : NX) (k : NestedKey) (b : Addr) (v : V) : NX := if (valN xs k).isSome = true then xs.map fun x => if x.1 = k then (x.1, x.2.1, v) else x else xs ++ [(k, b, v)]
theorem NV.val {xs : NX} {vs : List (NestedKey × Addr × Value)} (r : NV xs vs) (k : NestedKey) : RelO (valN xs k) ((atKey vs k).map (·.2)) := by
  induction r with
  | nil => exact True.intro
  | @cons p q ps qs h t ih =>
    obtain ⟨h1, h2, h3⟩ := h
    by_cases e : p.1 = k
    · have e2 : q.1 = k := h1 ▸ e
      simp only [valN, atKey, List.find?_cons, e, e2, decide_true, Option.map_some]
      exact h3
    · have e2 : ¬ q.1 = k := h1 ▸ e
      simpa only [valN, atKey, List.find?_cons, e, e2, decide_false] using ih
theorem NV.some {xs : NX} {vs : List (NestedKey × Addr × Value)} (r : NV xs vs) (k : NestedKey) : (valN xs k).isSome = (atKey vs k).isSome := by
  rw [(r.val k).isSome_eq, Option.isSome_map]
theorem NV.repl {xs : NX} {vs : List (NestedKey × Addr × Value)} (r : NV xs vs) (k : NestedKey) {y : V} {u : Value} (ry : RelV y u) :
    NV (xs.map fun x => if x.1 = k then (x.1, x.2.1, y) else x) (vs.map (putAt k u)) := by
  induction r with
  | nil => exact .nil
  | @cons p q ps qs h t ih =>
    obtain ⟨h1, h2, h3⟩ := h
    refine .cons ?_ ih
    unfold putAt
    dsimp only
    by_cases e : p.1 = k
    · have e2 : q.1 = k := h1 ▸ e
      rw [if_pos e, if_pos e2]; exact ⟨h1, h2, ry⟩
    · have e2 : ¬ q.1 = k := h1 ▸ e
      rw [if_neg e, if_neg e2]; exact ⟨h1, h2, h3⟩
theorem NV.put {xs : NX} {vs : List (NestedKey × Addr × Value)} (r : NV xs vs) (k : NestedKey) {b : Addr} {y : V} {u : Value} (ry : RelV y u) : NV (putN xs k b y) (storedH vs k b u) := by
  unfold putN storedH
  rw [r.some k]
  by_cases q : (atKey vs k).isSome = true
  · rw [if_pos q, if_pos q]; exact r.repl k ry
  · rw [if_neg q, if_neg q]; exact Paired.snoc r ⟨rfl, rfl, ry⟩
theorem NV.length {xs : NX} {vs : List (NestedKey × Addr × Value)} (r : NV xs vs) : xs.length = vs.length := Paired.length r
theorem length_putN (xs : NX) (k : NestedKey) (b : Addr) (v : V) : (putN xs k b v).length ≤ xs.length + 1 := by
  unfold putN
  split <;> simp
/-- the dict at a: its keys, where their tuples stand, its values -/
def DNok (w : World) (a : Addr) (xs : NX) (h : Heap) : Prop := xs.length ≤ sizeLine ∧ (a == sysModules) = false ∧ ∃ vs, NV xs vs ∧
  ∃ o es ep, h.get? a = some o ∧ o.ExactDict ∧ o.data = .dict es ep ∧ es.toList = vs.map (fun x => (⟨x.1.hash w, .ref x.2.1, x.2.2⟩ : DictEntry)) ∧ (vs.map (·.1)).Nodup
def DN (w : World) (a : Addr) (xs : NX) : HO := .ext (DNok w a xs)
/-- the keys stand -/
def NKs (K : PySem.W.Frag) (H : Hp) (xs : NX) : Prop := ∀ x ∈ xs, Nk K H (.ref x.2.1) x.1 ∧ x.1.depth ≤ 8
theorem dn_new {P : Program} {w : World} {H : Hp} {h : Heap} {a : Addr} {xs : NX} (R : DNok w a xs h) : ObjOk P w H h a (DN w a xs) := by
  have ⟨_, _, _, _, o, _, _, ho, _⟩ := R
  refine ⟨R, ⟨o, ho⟩, fun h1 h2 p k => ?_⟩
  obtain ⟨z, y, vs, r, o, es, ep, e, c⟩ := p
  exact ⟨z, y, vs, r, o, es, ep, k o e, c⟩
section
variable {X : Cx} {pins : List (Addr × Obj)} {σ : L2.St} {H : Hp} {s : Shared} {a b : Addr} {xs : NX} {k : NestedKey} {y v : V} {u r : Value} {A : Around} {E : Value → Shared → Prop}
theorem dn_of (I : Inv X pins σ H s) (e : Rd H a (DN X.w a xs)) (hk : NKs X.K H xs) : xs.length ≤ sizeLine ∧ (a == sysModules) = false ∧ ∃ vs, NV xs vs ∧ s.heap.DictOfH (nestedKind X.prog X.w) a vs := by
  obtain ⟨⟨z, y, vs, rel, o, es, ep, h1, h2, h3, h4, h5⟩, _, _⟩ := (show ObjOk X.prog X.w H s.heap a (DN X.w a xs) from rd_of I.hok e)
  refine ⟨z, y, vs, rel, o, es, ep, h1, h2, h3, h4, fun x hx => ?_, h5⟩
  have all : ∀ {l : NX} {m : List (NestedKey × Addr × Value)}, NV l m → NKs X.K H l → ∀ x ∈ m, (nestedKind X.prog X.w).is s.heap x.1 x.2.1 := by
    intro l m q
    induction q with
    | nil => intro _ x hx; exact nomatch hx
    | @cons p q ps qs hq t ih =>
      intro hl x hx
      rcases List.mem_cons.mp hx with e | hx
      · subst e
        obtain ⟨k1, k2⟩ := hl p List.mem_cons_self
        rw [← hq.1, ← hq.2.1]
        exact ⟨k1.at I rfl, k2⟩
      · exact ih (fun z hz => hl z (List.mem_cons_of_mem _ hz)) x hx
  exact all rel hk x hx
theorem nk_is (I : Inv X pins σ H s) (q : Nk X.K H (.ref b) k) (hd : k.depth ≤ 8) : (nestedKind X.prog X.w).is s.heap k b := ⟨q.at I rfl, hd⟩
theorem dn_getItem {Q : Value → Shared → Prop} (hu : A.units + 9 < cLine) (I : Inv X pins σ H s) (e : Rd H a (DN X.w a xs)) (hk : NKs X.K H xs) (q : Nk X.K H (.ref b) k) (hd : k.depth ≤ 8) (g : valN xs k = some v)
    (h : ∀ w' s', Inv X pins σ H s' → RelV v w' → Q w' s') : wpAny (model X.prog X.w) A (getItem (.ref a) (.ref b)) Q E s := by
  obtain ⟨z, hs, vs, rel, dd⟩ := dn_of I e hk
  obtain ⟨w', hw, rw'⟩ := RelO.some_of (v := v) (o := (atKey vs k).map (·.2)) (by rw [← g]; exact rel.val k)
  obtain ⟨p, hp, hp2⟩ := Option.map_eq_some_iff.mp hw
  refine wpAny_getItem_heap (knd := nestedKind X.prog X.w) (show A.in1.units + 8 < cLine by simp only [Around.in1_units]; omega) (nk_is I q hd) dd hp ?_
  rw [hp2]
  exact h w' _ (I.tok _) rw'
theorem dn_in {Q : Value → Shared → Prop} (hu : A.units + 9 < cLine) (I : Inv X pins σ H s) (e : Rd H a (DN X.w a xs)) (hk : NKs X.K H xs) (q : Nk X.K H (.ref b) k) (hd : k.depth ≤ 8)
    (h : ∀ s', Inv X pins σ H s' → Q (.bool (valN xs k).isSome) s') : wpAny (model X.prog X.w) A (compareOp .In (.ref b) (.ref a)) Q E s := by
  obtain ⟨z, hs, vs, rel, dd⟩ := dn_of I e hk
  refine wpAny_in_heap (knd := nestedKind X.prog X.w) (show A.in1.units + 8 < cLine by simp only [Around.in1_units]; omega) (nk_is I q hd) hs dd ?_
  rw [← rel.some k]
  exact h _ (I.tok _)
theorem dn_notIn {Q : Value → Shared → Prop} (hu : A.units + 9 < cLine) (I : Inv X pins σ H s) (e : Rd H a (DN X.w a xs)) (hk : NKs X.K H xs) (q : Nk X.K H (.ref b) k) (hd : k.depth ≤ 8)
    (h : ∀ s', Inv X pins σ H s' → Q (.bool (!(valN xs k).isSome)) s') : wpAny (model X.prog X.w) A (compareOp .NotIn (.ref b) (.ref a)) Q E s := by
  obtain ⟨z, hs, vs, rel, dd⟩ := dn_of I e hk
  refine wpAny_notIn_heap (knd := nestedKind X.prog X.w) (show A.in1.units + 8 < cLine by simp only [Around.in1_units]; omega) (nk_is I q hd) hs dd ?_
  rw [← rel.some k]
  exact h _ (I.tok _)
theorem dn_made {h' : Heap} {vs : List (NestedKey × Addr × Value)} (z : xs.length ≤ sizeLine) (hs : (a == sysModules) = false) (rel : NV xs vs) (dd : h'.DictOfH (nestedKind X.prog X.w) a vs) : DNok X.w a xs h' := by
  obtain ⟨o, es, ep, h1, h2, h3, h4, _, h5⟩ := dd
  exact ⟨z, hs, vs, rel, o, es, ep, h1, h2, h3, h4, h5⟩
theorem dn_setItem {Q : Unit → Shared → Prop} (hu : A.units + 9 < cLine) (I : Inv X pins σ H s) (e : H a = some (DN X.w a xs)) (hk : NKs X.K H xs) (q : Nk X.K H (.ref b) k) (hd : k.depth ≤ 8) (hl : xs.length < sizeLine) (rv : RelV v r)
    (h : ∀ s', Inv X pins σ (upd H a (DN X.w a (putN xs k b v))) s' → Q () s') : wpAny (model X.prog X.w) A (setItem (.ref a) (.ref b) r) Q E s := by
  obtain ⟨z, hs, vs, rel, dd⟩ := dn_of I (.inl e) hk
  have hz : vs.length ≤ sizeLine := by rw [← rel.length]; exact z
  have hl2 : (putN xs k b v).length ≤ sizeLine := by have := length_putN xs k b v; omega
  refine wpAny_setItem_heap (hsz := hz) (knd := nestedKind X.prog X.w) (show A.in1.units + 8 < cLine by simp only [Around.in1_units]; omega) (nk_is I q hd) dd fun h' dd' hs' => h _ ?_
  have he : ∃ q, h'.get? a = some q := let ⟨q, _, _, hq, _⟩ := dd'; ⟨q, hq⟩
  exact d_write I (by rw [e]; exact True.intro) hs' he (dn_new (dn_made hl2 hs (rel.put k rv) dd'))
theorem dn_setd {Q : Value → Shared → Prop} (hu : A.units + 9 < cLine) (I : Inv X pins σ H s) (e : H a = some (DN X.w a xs)) (hk : NKs X.K H xs) (q : Nk X.K H (.ref b) k) (hd : k.depth ≤ 8) (hl : xs.length < sizeLine) (rv : RelV y r)
    (h1 : ∀ v, valN xs k = some v → ∀ (w' : Value) (s' : Shared), Inv X pins σ H s' → RelV v w' → Q w' s')
    (h2 : valN xs k = none → ∀ (w' : Value) (s' : Shared), Inv X pins σ (upd H a (DN X.w a (putN xs k b y))) s' → RelV y w' → Q w' s') :
    wpAny (model X.prog X.w) A (call (.builtin "dict.setdefault") [.ref a, .ref b, r]) Q E s := by
  obtain ⟨z, hs, vs, rel, dd⟩ := dn_of I (.inl e) hk
  have hz : vs.length ≤ sizeLine := by rw [← rel.length]; exact z
  have hl2 : (putN xs k b y).length ≤ sizeLine := by have := length_putN xs k b y; omega
  refine call_setdefault_heap (hsz := hz) (knd := nestedKind X.prog X.w) (show A.in1.units + 8 < cLine by simp only [Around.in1_units]; omega) (nk_is I q hd) hs dd (fun p hp => ?_) fun hn h' dd' hs' => ?_
  · have q := rel.val k
    rw [hp] at q
    cases q0 : valN xs k with
    | none => rw [q0] at q; exact (show False from q).elim
    | some v0 => rw [q0] at q; exact h1 v0 q0 _ _ (I.tok _) q
  · have q := rel.val k
    rw [hn] at q
    cases q0 : valN xs k with
    | some v0 => rw [q0] at q; exact (show False from q).elim
    | none =>
      have he : ∃ q, h'.get? a = some q := let ⟨q, _, _, hq, _⟩ := dd'; ⟨q, hq⟩
      exact h2 q0 _ _ (d_write I (by rw [e]; exact True.intro) hs' he (dn_new (dn_made hl2 hs (rel.put k rv) dd'))) rv
end
end TL
/-! TLy: rules for the dicts of TLz. -/
namespace TL
open PySem PySem.Spec PyProof.Rows L2
/-- y is a key of the dict at a -/
structure NAt (K : PySem.W.Frag) (w : World) (H : Hp) (a : Addr) (xs : NX) (y : V) (b : Addr) (k : NestedKey) : Prop where
  eq : y = .ref b
  ks : NKs K H xs
  nk : Nk K H (.ref b) k
  dp : k.depth ≤ 8
def tNGet (K : PySem.W.Frag) (w : World) (td ty : TE) : TE := fun σ H Q => td σ H fun x H1 => ty σ H1 fun y H2 => ∃ a xs b k v, x = .ref a ∧ Rd H2 a (DN w a xs) ∧ NAt K w H2 a xs y b k ∧ valN xs k = some v ∧ Q v H2
def tNIn (K : PySem.W.Frag) (w : World) (ty td : TE) : TE := fun σ H Q => ty σ H fun y H1 => td σ H1 fun x H2 => ∃ a xs b k, x = .ref a ∧ Rd H2 a (DN w a xs) ∧ NAt K w H2 a xs y b k ∧ Q (.bl (valN xs k).isSome) H2
def tNNotIn (K : PySem.W.Frag) (w : World) (ty td : TE) : TE := fun σ H Q => ty σ H fun y H1 => td σ H1 fun x H2 => ∃ a xs b k, x = .ref a ∧ Rd H2 a (DN w a xs) ∧ NAt K w H2 a xs y b k ∧ Q (.bl (!(valN xs k).isSome)) H2
def sNPut (K : PySem.W.Frag) (w : World) (td ty tv : TE) : TS := fun D σ H => tv σ H fun v H1 => td σ H1 fun x H2 => ty σ H2 fun y H3 => ∃ a xs b k, x = .ref a ∧ H3 a = some (DN w a xs) ∧ NAt K w H3 a xs y b k ∧ xs.length < sizeLine ∧ D.nx σ (upd H3 a (DN w a (putN xs k b v)))
def tNSetd (K : PySem.W.Frag) (w : World) (td ty tx : TE) : TE := fun σ H Q => td σ H fun x H1 => (∃ a xs, x = .ref a ∧ Rd H1 a (DN w a xs) ∧ NKs K H1 xs) ∧ ty σ H1 fun y H2 => tx σ H2 fun z H3 => ∃ a xs b k, x = .ref a ∧ H3 a = some (DN w a xs) ∧ NAt K w H3 a xs y b k ∧ xs.length < sizeLine ∧
  (∀ v, valN xs k = some v → Q v H3) ∧ (valN xs k = none → Q z (upd H3 a (DN w a (putN xs k b z))))
def tNNew (w : World) : TE := fun _ H Q => ∀ p, H p = none → Q (.ref p) (upd H p (DN w p []))
section
variable {X : Cx} {o i e f value : Expr} {pos pos' tpos apos cpos : Pos} {td ty tv tx : TE}
theorem dn_ty {pins : List (Addr × Obj)} {σ : L2.St} {H : Hp} {s : Shared} {a : Addr} {xs : NX} (I : Inv X pins σ H s) (e : Rd H a (DN X.w a xs)) : s.TypeIs (.ref a) "dict" ∧ ∀ b, Value.ref a = .ref b → ∃ ob, s.heap.get? b = some ob ∧ ob.dict = none := by
  obtain ⟨⟨z, y, vs, rel, o, es, ep, h1, h2, h3, h4, h5⟩, _, _⟩ := (show ObjOk X.prog X.w H s.heap a (DN X.w a xs) from rd_of I.hok e)
  exact ⟨⟨o, h1, h2.1⟩, fun b q => by cases q; exact ⟨o, h1, h2.2.1⟩⟩
theorem pe_nget (hu : X.A.units + 9 < cLine) (ho : PE X o td) (hi : PE X i ty) (hs : NoSl i) : PE X (.Subscript o i pos) (tNGet X.K X.w td ty) := by
  refine ⟨fun pins s σ H Q I h => ?_⟩
  refine subD_of PySem.F.slot_dict_getitem.lookup hs (thn (ho.run pins s σ H _ I h) fun u s1 ⟨x, H1, I1, rx, q1⟩ => thn (hi.run pins s1 σ H1 _ I1 q1) fun iv s2 ⟨y, H2, I2, ry, a, xs, b, k, v, ex, hd, n, g, q2⟩ => ?_)
  subst ex
  obtain rfl : u = Value.ref a := rx
  obtain ⟨rfl, hk, q, dp⟩ := n
  obtain rfl : iv = Value.ref b := ry
  exact ⟨(dn_ty I2 hd).1, dn_getItem hu I2 hd hk q dp g fun w' s3 I3 rw' => ⟨v, H2, I3, rw', q2⟩⟩
theorem pc_nin (hu : X.A.units + 9 < cLine) (hi : PE X i ty) (ho : PE X o td) : PC X .In i o (tNIn X.K X.w ty td) := by
  refine ⟨fun pins s σ H Q I h => ?_⟩
  refine thn (hi.run pins s σ H _ I h) fun iv s1 ⟨y, H1, I1, ry, q1⟩ => thn (ho.run pins s1 σ H1 _ I1 q1) fun u s2 ⟨x, H2, I2, rx, a, xs, b, k, ex, hd, n, q2⟩ => ?_
  subst ex
  obtain rfl : u = Value.ref a := rx
  obtain ⟨rfl, hk, q, dp⟩ := n
  obtain rfl : iv = Value.ref b := ry
  exact dn_in hu I2 hd hk q dp fun s3 I3 => ⟨.bl _, H2, I3, rfl, q2⟩
theorem pc_nnotin (hu : X.A.units + 9 < cLine) (hi : PE X i ty) (ho : PE X o td) : PC X .NotIn i o (tNNotIn X.K X.w ty td) := by
  refine ⟨fun pins s σ H Q I h => ?_⟩
  refine thn (hi.run pins s σ H _ I h) fun iv s1 ⟨y, H1, I1, ry, q1⟩ => thn (ho.run pins s1 σ H1 _ I1 q1) fun u s2 ⟨x, H2, I2, rx, a, xs, b, k, ex, hd, n, q2⟩ => ?_
  subst ex
  obtain rfl : u = Value.ref a := rx
  obtain ⟨rfl, hk, q, dp⟩ := n
  obtain rfl : iv = Value.ref b := ry
  exact dn_notIn hu I2 hd hk q dp fun s3 I3 => ⟨.bl _, H2, I3, rfl, q2⟩
theorem ps_nput (hu : X.A.units + 9 < cLine) (ho : PE X o td) (hi : PE X i ty) (hv : PE X value tv) (hs : swapsWith value (some (.Subscript o i pos')) pos.line X.env = pure false) :
    PS X (.Assign [.Subscript o i pos'] value pos) (sNPut X.K X.w td ty tv) := by
  refine ⟨fun pins s σ H D I h => ?_⟩
  refine wpAny_Assign_Subscript (thn (hv.run pins s σ H _ I h) fun r s1 ⟨v, H1, I1, rv, q1⟩ => thn (ho.run pins s1 σ H1 _ I1 q1) fun u s2 ⟨x, H2, I2, rx, q2⟩ => thn (hi.run pins s2 σ H2 _ I2 q2) fun iv s3 ⟨y, H3, I3, ry, a, xs, b, k, ex, hd, n, hl, q3⟩ => ?_) hs
  subst ex
  obtain rfl : u = Value.ref a := rx
  obtain ⟨rfl, hk, q, dp⟩ := n
  obtain rfl : iv = Value.ref b := ry
  exact dn_setItem hu I3 hd hk q dp hl rv fun s4 I4 => ⟨σ, _, I4, q3⟩
theorem pe_nsetd (hu : X.A.units + 9 < cLine) (ho : PE X o td) (he : PE X e ty) (hf : PE X f tx) (m : M2 X o "setdefault" apos e f cpos) : PE X (.Call (.Attribute o "setdefault" apos) [e, f] [] cpos) (tNSetd X.K X.w td ty tx) := by
  refine ⟨fun pins s σ H Q I h => ?_⟩
  refine wpAny_Call_method m.base m.few m.line PySem.F.plainAttrs_dict PySem.F.slot_dict_setdefault PySem.F.type_dict_setdefault (thn (ho.run pins s σ H _ I h) fun u s1 ⟨x, H1, I1, rx, ⟨a, xs, ex, d, _⟩, q1⟩ => ?_)
  subst ex
  obtain rfl : u = Value.ref a := rx
  obtain ⟨t1, t2⟩ := dn_ty I1 d
  refine ⟨t1, t2, ?_⟩
  rw [m.trees]
  refine Calls.callWith_builtin rfl (Calls.evalArgs_plain (Calls.spliced_cons (thn (he.run pins s1 σ H1 _ I1 q1) fun iv s2 ⟨y, H2, I2, ry, q2⟩ =>
    Calls.spliced_cons (thn (hf.run pins s2 σ H2 _ I2 q2) fun fv s3 ⟨z, H3, I3, rz, a', xs', b, k, ea, hd, n, hl, q3, q4⟩ => Calls.spliced_nil ?_))))
  cases ea
  obtain ⟨rfl, hk, q, dp⟩ := n
  obtain rfl : iv = Value.ref b := ry
  exact dn_setd hu I3 hd hk q dp hl rz (fun v hv w' s4 I4 rw' => ⟨v, _, I4, rw', q3 v hv⟩) fun hn w' s4 I4 rw' => ⟨z, _, I4, rw', q4 hn⟩
theorem pe_nnew : PE X (.Dict [] [] pos) (tNNew X.w) := ⟨fun pins s σ H Q I h =>
  wpAny_Dict_empty ⟨.ref s.heap.objs.size, _, I.laid (a := s.heap.objs.size) (o := DN X.w s.heap.objs.size []) (t' := s.toks) (fun _ _ q => Heap.get?_push_of_some _ q) (Nat.le_refl _)
    (dn_new ⟨Nat.zero_le _, beq_eq_false_iff_ne.mpr (Ne.symm (Nat.ne_of_lt I.big)), [], .nil, _, #[], 0, Heap.get?_push_size _ rfl, ⟨rfl, rfl, rfl⟩, rfl, rfl, List.nodup_nil⟩), rfl, h _ (I.hok.fresh (Nat.le_refl _))⟩⟩
end
/-- the statement runs with the thing at d locked for good -/
def tLockS (t : TS) : TS := fun D σ H => ∃ d u, H d = some u ∧ Mut (some u) ∧ ∀ od, t D σ (upd H d (.frz od u))
theorem ps_lockS {X : Cx} {st : Stmt} {t : TS} (h : PS X st t) : PS X st (tLockS t) := by
  refine ⟨fun pins s σ H D I hw => ?_⟩
  obtain ⟨d, u, hd, mu, hw⟩ := hw
  obtain ⟨od, I1⟩ := I.lock hd mu
  exact h.run pins s σ _ D I1 (hw od)
end TL
/-! TLw: walks of a locked dict of tuples. -/
namespace TL
open PySem PySem.Spec PyProof.Rows L2
theorem frzN {X : Cx} {pins : List (Addr × Obj)} {σ : L2.St} {H : Hp} {s : Shared} {d : Addr} {o : Obj} {xs : NX} (I : Inv X pins σ H s) (h : H d = some (.frz o (DN X.w d xs))) :
    (d == sysModules) = false ∧ s.heap.get? d = some o ∧ o.ExactDict ∧ ∃ (es : Array DictEntry) (ep : Nat), o.data = .dict es ep ∧ es.size = xs.length ∧
      ∀ (i : Nat) (k : NestedKey) (q : Addr) (v : V), xs[i]? = some (k, q, v) → ∃ (en : DictEntry), es[i]? = some en ∧ en.key = .ref q := by
  obtain ⟨hd, ⟨z, y, vs, rel, o', es, ep, ho, hx, hdt, he, h5⟩, _, _⟩ := I.hok d _ h
  rw [hd] at ho
  cases ho
  have hl := congrArg List.length he
  rw [Array.length_toList, List.length_map] at hl
  refine ⟨y, hd, hx, es, ep, hdt, by rw [hl, rel.length], fun i k q v e => ?_⟩
  obtain ⟨b, hb, e1, e2, _⟩ := paired_get rel e
  have q2 : es.toList[i]? = some ⟨b.1.hash X.w, .ref b.2.1, b.2.2⟩ := by rw [he, List.getElem?_map, hb]; rfl
  refine ⟨_, by simpa using q2, ?_⟩
  show Value.ref b.2.1 = .ref q
  rw [← e2]
def ItN (w : World) (d : Addr) (o : Obj) (xs : NX) : It :=
  ⟨fun i H => H d = some (.frz o (DN w d xs)) ∧ i < xs.length, fun i H x H' => H' = H ∧ ∃ k q v, xs[i]? = some (k, q, v) ∧ x = .ref q, fun i H => H d = some (.frz o (DN w d xs)) ∧ xs.length ≤ i⟩
section
variable {P : Program} {w : World} {K : PySem.W.Frag} {tg : Expr} {d : Addr} {o : Obj} {es : Array DictEntry} {ep : Nat}
theorem turn_keysN {xs : NX} (it : Addr) (hod : o.data = .dict es ep) : Turn P w K tg (ItN w d o xs) [it] it (fun i h => h.IsKeyIter it d i xs.length ep) where
  mem := by simp
  obj := fun i h st b hb => by
    have e : b = it := by simpa using hb
    subst e
    obtain ⟨oi, e, c, dd⟩ := st
    exact ⟨oi, e, fun v z => by rw [dd] at z; cases z⟩
  keep := fun i h h' st k => st.at fun oi e => k it (by simp) oi e
  item := by
    intro X hP hw hK hc i pins s σ H E I hf st hg
    subst hP hw hK
    obtain ⟨hd, hi⟩ := hg
    obtain ⟨f0, f1, f2, f3, f4, f5⟩ := hf it (by simp)
    obtain ⟨hs, hgd, hx, es', ep', hdt, hsz, ent⟩ := frzN I hd
    obtain ⟨rfl, rfl⟩ := dict_ep hod hdt
    obtain ⟨⟨k, q, v⟩, hkv⟩ : ∃ p, xs[i]? = some p := ⟨xs[i], List.getElem?_eq_getElem hi⟩
    obtain ⟨en, hen, hkey⟩ := ent i k q v hkv
    refine next_key_item st hgd hdt hsz hen fun h' st' sb => ?_
    have I1 : Inv X pins σ H { s with heap := h' } := I.turned (t' := s.toks) (fun b ob hb e => (sb.2 b hb).trans e) f0 f1 f3 f4 f5
    obtain ⟨oi, e, c, dd⟩ := id st'
    exact ⟨en.key, rfl, go_of (s := { s with heap := h' }) e c dd (by decide) ⟨.ref q, H, I1, hkey, ⟨rfl, k, q, v, hkv, rfl⟩, st', fun b hb => (hf b hb).1⟩⟩
  done := by
    intro X hP hw hK hc i pins s σ H E I hf st hg
    subst hP hw hK
    obtain ⟨hd, hi⟩ := hg
    obtain ⟨f0, f1, f2, f3, f4, f5⟩ := hf it (by simp)
    obtain ⟨hs, hgd, hx, es', ep', hdt, hsz, ent⟩ := frzN I hd
    obtain ⟨rfl, rfl⟩ := dict_ep hod hdt
    exact next_key_end (I.ok.hd hc) st hgd hdt hsz hi fun h' eb => ⟨rfl, I.turned (t' := s.toks) (fun b ob hb e => eb b ob hb e) f0 f1 f3 f4 f5⟩
  self := fun A i s Q E st h => by
    refine wpAny_pyIter_slot st.typeIs F.slot_dict_keyiterator_iter (wpAny_call_entry F.slot_dict_keyiterator_iter st.typeIs F.entry_dict_keyiterator_iter ?_ (F.args_dict_keyiterator_iter_1 _))
    show wpAny _ _ (ret (.ref it)) _ _ s
    exact wpAny_pure ⟨_, rfl, "dict_keyiterator", _, st.typeIs, F.slot_dict_keyiterator_next.lookup, h⟩
end
/-- for k in d -/
def iKeysN (w : World) (td : TE) : TI := fun σ H R => td σ H fun x H1 => ∃ d o xs, x = .ref d ∧ H1 d = some (.frz o (DN w d xs)) ∧ R (ItN w d o xs) H1
theorem pi_keysN {X : Cx} {tg e : Expr} {td : TE} (he : PE X e td) : PI X tg e (iKeysN X.w td) := by
  refine ⟨fun pins s σ H R I h => ?_⟩
  refine thn (he.run pins s σ H _ I h) fun u s1 ⟨x, H1, I1, rx, d, o, xs, ex, hd, q⟩ => ?_
  subst ex
  obtain rfl : u = Value.ref d := rx
  obtain ⟨hs, hgd, hx, es, ep, hdt, hsz, ent⟩ := frzN I1 hd
  refine iter_keys hs hgd hx hdt (pi_one (tk := s1.toks) I1 _ (turn_keysN _ hdt) ⟨_, Heap.get?_push_size _ rfl, rfl, ?_⟩ q)
  rw [hsz] <;> rfl
end TL
/-! TL: a second layer over HandS: values as trees (T), slots that hold trees (Sl), readings of trees (plain Lean, no heap). -/
namespace TL
open PySem PySem.Spec PyProof.Rows L2
/-! ### trees -/
inductive T where
  | non | bl (b : Bool) | int (i : Int) | str (s : Str)
  | lst (xs : List T) | tup (xs : List T) | fls (xs : List T) | dct (kvs : List (Key × T)) | fdc (kvs : List (Key × T))
  | dn (kvs : List (T × T)) | fdn (kvs : List (T × T)) | st (S : Key → Bool) (n : Nat)
  | raw (v : V) | ob (f : Addr → HO)
/-- the program and the world that are spoken of -/
class TheW where
  P : Program
  w : World
mutual
/-- a tree as a key -/
def T.nk : T → Option NestedKey
  | .non => some .none
  | .bl b => some (.num (if b = true then 1 else 0))
  | .int i => some (.num i)
  | .str s => some (.text s)
  | .tup ts => (T.nks ts).map .tup
  | _ => none
def T.nks : List T → Option (List NestedKey)
  | [] => some []
  | t :: ts => match T.nk t, T.nks ts with
    | some k, some ks => some (k :: ks)
    | _, _ => none
end
variable [TheW]
mutual
inductive Is (K : PySem.W.Frag) (G : Hp) : V → T → Prop
  | non : Is K G .non .non
  | bl {b} : Is K G (.bl b) (.bl b)
  | int {i} : Is K G (.int i) (.int i)
  | str {s} : Is K G (.str s) (.str s)
  | lst {a vs ts} : G a = some (.lst vs) → IsAll K G vs ts → Is K G (.ref a) (.lst ts)
  | tup {a vs ts} : SqT K G a vs → IsAll K G vs ts → Is K G (.ref a) (.tup ts)
  | fls {a vs ts} : SqL K G a vs → IsAll K G vs ts → Is K G (.ref a) (.fls ts)
  | dct {a kvs kts} : G a = some (.dK kvs) → IsKv K G kvs kts → Is K G (.ref a) (.dct kts)
  | fdc {a ob kvs kts} : G a = some (.frz ob (.dK kvs)) → IsKv K G kvs kts → Is K G (.ref a) (.fdc kts)
  | dn {a xs kts} : G a = some (DN TheW.w a xs) → IsKn K G xs kts → Is K G (.ref a) (.dn kts)
  | fdn {a ob xs kts} : G a = some (.frz ob (DN TheW.w a xs)) → IsKn K G xs kts → Is K G (.ref a) (.fdn kts)
  | st {a S n} : G a = some (SetK TheW.P TheW.w a S n) → Is K G (.ref a) (.st S n)
  | raw {v} : Is K G v (.raw v)
  | ob {a f} : G a = some (f a) → Is K G (.ref a) (.ob f)
inductive IsAll (K : PySem.W.Frag) (G : Hp) : List V → List T → Prop
  | nil : IsAll K G [] []
  | cons {v vs t ts} : Is K G v t → IsAll K G vs ts → IsAll K G (v :: vs) (t :: ts)
inductive IsKv (K : PySem.W.Frag) (G : Hp) : List (Key × V) → List (Key × T) → Prop
  | nil : IsKv K G [] []
  | cons {k v vs t ts} : Is K G v t → IsKv K G vs ts → IsKv K G ((k, v) :: vs) ((k, t) :: ts)
inductive IsKn (K : PySem.W.Frag) (G : Hp) : NX → List (T × T) → Prop
  | nil : IsKn K G [] []
  | cons {k q v xs tk t ts} : Is K G (.ref q) tk → T.nk tk = some k → k.depth ≤ 8 → Is K G v t → IsKn K G xs ts → IsKn K G ((k, q, v) :: xs) ((tk, t) :: ts)
end
def Sub (G H : Hp) : Prop := ∀ a o, G a = some o → H a = some o
theorem Sub.refl (G : Hp) : Sub G G := fun _ _ h => h
theorem Sub.trans {G H I : Hp} (a : Sub G H) (b : Sub H I) : Sub G I := fun x o h => b x o (a x o h)
theorem Sub.rd {G H : Hp} {a : Addr} {u : HO} (s : Sub G H) (h : Rd G a u) : Rd H a u := by
  rcases h with h | ⟨o, h⟩
  · exact .inl (s _ _ h)
  · exact .inr ⟨o, s _ _ h⟩
theorem Sub.sqT {K : PySem.W.Frag} {G H : Hp} {a : Addr} {xs : List V} (s : Sub G H) (h : SqT K G a xs) : SqT K H a xs := h.elim (fun h => .inl (s.rd h)) .inr
theorem Sub.sqL {K : PySem.W.Frag} {G H : Hp} {a : Addr} {xs : List V} (s : Sub G H) (h : SqL K G a xs) : SqL K H a xs := h.elim (fun h => .inl (s.rd h)) .inr
theorem Sub.upd {G : Hp} {a : Addr} {o : HO} (h : G a = none) : Sub G (upd G a o) := fun b u e => by rw [upd_ne (ne_of_none e h)]; exact e
theorem Sub.none {G H : Hp} {a : Addr} (s : Sub G H) (h : H a = none) : G a = none := by
  cases e : G a with
  | none => rfl
  | some o => rw [s a o e] at h; cases h
mutual
theorem Is.mono {K : PySem.W.Frag} {G H : Hp} (s : Sub G H) : ∀ {v t}, Is K G v t → Is K H v t
  | _, _, .non => .non
  | _, _, .bl => .bl
  | _, _, .int => .int
  | _, _, .str => .str
  | _, _, .lst h r => .lst (s _ _ h) (IsAll.mono s r)
  | _, _, .tup h r => .tup (s.sqT h) (IsAll.mono s r)
  | _, _, .fls h r => .fls (s.sqL h) (IsAll.mono s r)
  | _, _, .dct h r => .dct (s _ _ h) (IsKv.mono s r)
  | _, _, .fdc h r => .fdc (s _ _ h) (IsKv.mono s r)
  | _, _, .dn h r => .dn (s _ _ h) (IsKn.mono s r)
  | _, _, .fdn h r => .fdn (s _ _ h) (IsKn.mono s r)
  | _, _, .st h => .st (s _ _ h)
  | _, _, .raw => .raw
  | _, _, .ob h => .ob (s _ _ h)
theorem IsAll.mono {K : PySem.W.Frag} {G H : Hp} (s : Sub G H) : ∀ {vs ts}, IsAll K G vs ts → IsAll K H vs ts
  | _, _, .nil => .nil
  | _, _, .cons h r => .cons (Is.mono s h) (IsAll.mono s r)
theorem IsKv.mono {K : PySem.W.Frag} {G H : Hp} (s : Sub G H) : ∀ {vs ts}, IsKv K G vs ts → IsKv K H vs ts
  | _, _, .nil => .nil
  | _, _, .cons h r => .cons (Is.mono s h) (IsKv.mono s r)
theorem IsKn.mono {K : PySem.W.Frag} {G H : Hp} (s : Sub G H) : ∀ {vs ts}, IsKn K G vs ts → IsKn K H vs ts
  | _, _, .nil => .nil
  | _, _, .cons a e d b r => .cons (Is.mono s a) e d (Is.mono s b) (IsKn.mono s r)
end
theorem IsAll.length {K : PySem.W.Frag} {G : Hp} : ∀ {vs ts}, IsAll K G vs ts → vs.length = ts.length
  | _, _, .nil => rfl
  | _, _, .cons _ r => congrArg (· + 1) r.length
theorem IsAll.get {K : PySem.W.Frag} {G : Hp} : ∀ {vs ts} {i : Nat} {t : T}, IsAll K G vs ts → ts[i]? = some t → ∃ v, vs[i]? = some v ∧ Is K G v t
  | _, _, _, _, .nil, e => by simp at e
  | _, _, 0, _, .cons h _, e => by simp at e; subst e; exact ⟨_, rfl, h⟩
  | _, _, i + 1, _, .cons _ r, e => by
    obtain ⟨v, h1, h2⟩ := r.get (i := i) (by simpa using e)
    exact ⟨v, by simpa using h1, h2⟩
theorem IsAll.getV {K : PySem.W.Frag} {G : Hp} : ∀ {vs ts} {i : Nat} {v : V}, IsAll K G vs ts → vs[i]? = some v → ∃ t, ts[i]? = some t ∧ Is K G v t
  | _, _, _, _, .nil, e => by simp at e
  | _, _, 0, _, .cons h _, e => by simp at e; subst e; exact ⟨_, rfl, h⟩
  | _, _, i + 1, _, .cons _ r, e => by
    obtain ⟨v, h1, h2⟩ := r.getV (i := i) (by simpa using e)
    exact ⟨v, by simpa using h1, h2⟩
theorem IsAll.append {K : PySem.W.Frag} {G : Hp} : ∀ {vs ts us ws}, IsAll K G vs ts → IsAll K G us ws → IsAll K G (vs ++ us) (ts ++ ws)
  | _, _, _, _, .nil, s => s
  | _, _, _, _, .cons h r, s => .cons h (r.append s)
theorem IsAll.one {K : PySem.W.Frag} {G : Hp} {v : V} {t : T} (h : Is K G v t) : IsAll K G [v] [t] := .cons h .nil
theorem IsAll.take {K : PySem.W.Frag} {G : Hp} : ∀ {vs ts} (n : Nat), IsAll K G vs ts → IsAll K G (vs.take n) (ts.take n)
  | _, _, 0, _ => .nil
  | _, _, _ + 1, .nil => .nil
  | _, _, n + 1, .cons h r => .cons h (r.take n)
theorem IsAll.drop {K : PySem.W.Frag} {G : Hp} : ∀ {vs ts} (n : Nat), IsAll K G vs ts → IsAll K G (vs.drop n) (ts.drop n)
  | _, _, 0, r => r
  | _, _, _ + 1, .nil => .nil
  | _, _, n + 1, .cons _ r => r.drop n
theorem IsAll.flat {K : PySem.W.Frag} {G : Hp} : ∀ {n : Nat} {vs ts}, IsAll K G vs ts → IsAll K G (List.replicate n vs).flatten (List.replicate n ts).flatten
  | 0, _, _, _ => .nil
  | n + 1, _, _, r => by
    rw [List.replicate_succ, List.replicate_succ, List.flatten_cons, List.flatten_cons]
    exact r.append r.flat
/-! ### what may change besides: the mode -/
def Mu (o : HO) : Prop := (∃ vs, o = .lst vs) ∨ (∃ kvs, o = .dK kvs) ∨ ∃ φ, o = .ext φ ∧ ∀ h, φ h → ∃ a ob, h.get? a = some ob ∧ ∀ vs, ob.data ≠ .fields vs
structure Mode where
  S : Addr → Prop
  U : Addr → Prop
  J : Hp → Prop
  st : ∀ H H', J H → (∀ a o, H a = some o → H' a = some o) → J H'
  wr : ∀ H a o o', J H → ¬ U a → H a = some o → Mu o → J (upd H a o')
  su : ∀ a, S a → U a
def M0 : Mode := ⟨fun _ => False, fun _ => False, fun _ => True, fun _ _ _ _ => trivial, fun _ _ _ _ _ _ _ _ => trivial, fun _ h => h⟩
structure Ok (M : Mode) (G H : Hp) : Prop where
  sub : Sub G H
  j : M.J H
  s : ∀ a, M.S a → G a = none
  u : ∀ a, M.U a → H a ≠ none
structure Go (M : Mode) (G H G' H' : Hp) : Prop where
  gg : Sub G G'
  sub : Sub G' H'
  keep : ∀ a o, ¬ M.S a → H a = some o → H' a = some o
  there : ∀ a, H a ≠ none → H' a ≠ none
  new : ∀ a, G a = none → H a ≠ none → G' a = none
  j : M.J H'
section
variable {M : Mode} {G H G' H' G1 H1 G2 H2 : Hp}
theorem Go.refl (ok : Ok M G H) : Go M G H G H := ⟨.refl _, ok.sub, fun _ _ _ h => h, fun _ h => h, fun _ h _ => h, ok.j⟩
theorem Go.trans (a : Go M G H G1 H1) (b : Go M G1 H1 G2 H2) : Go M G H G2 H2 :=
  ⟨a.gg.trans b.gg, b.sub, fun x o n h => b.keep x o n (a.keep x o n h), fun x h => b.there x (a.there x h), fun x h n => b.new x (a.new x h n) (a.there x n), b.j⟩
theorem Ok.go (ok : Ok M G H) (g : Go M G H G' H') : Ok M G' H' :=
  ⟨g.sub, g.j, fun a h => g.new a (ok.s a h) (ok.u a (M.su a h)), fun a h => g.there a (ok.u a h)⟩
theorem Go.back (g : Go M G H G' H') {a : Addr} (h : H' a = none) : H a = none := by
  cases e : H a with
  | none => rfl
  | some o => exact absurd h (g.there a (by rw [e]; simp))
theorem Ok.noS (ok : Ok M G H) {a : Addr} (h : H a = none) : ¬ M.S a := fun s => ok.u a (M.su a s) h
theorem Ok.noU (ok : Ok M G H) {a : Addr} (h : H a = none) : ¬ M.U a := fun s => ok.u a s h
/-- a new object, not data (yet) -/
theorem Go.lay (ok : Ok M G H) {a : Addr} {o : HO} (h : H a = none) : Go M G H G (upd H a o) :=
  ⟨.refl _, ok.sub.trans (Sub.upd h), fun b u _ e => Sub.upd h b u e, fun b e => by
    by_cases q : b = a
    · subst q; rw [upd_same]; simp
    · rw [upd_ne q]; exact e, fun _ e _ => e, M.st _ _ ok.j (Sub.upd h)⟩
/-- what is new since (G, H) becomes data -/
theorem Go.data (g : Go M G H G' H') {a : Addr} {o : HO} (h : H a = none) (e : H' a = some o) (n : G' a = none) : Go M G H (upd G' a o) H' :=
  ⟨g.gg.trans (Sub.upd n), fun b u q => by
    by_cases z : b = a
    · subst z; rw [upd_same] at q; cases q; exact e
    · rw [upd_ne z] at q; exact g.sub b u q, g.keep, g.there, fun b q k => by
    have z : b ≠ a := fun z => by subst z; exact k h
    rw [upd_ne z]; exact g.new b q k, g.j⟩
/-- a change of what is new since (G, H), no data -/
theorem Go.write (ok : Ok M G H) (g : Go M G H G' H') {a : Addr} {o o' : HO} (h : H a = none) (e : H' a = some o) (m : Mu o) (n : G' a = none) : Go M G H G' (upd H' a o') :=
  ⟨g.gg, fun b u q => by rw [upd_ne (ne_of_none q n)]; exact g.sub b u q, fun b u s q => by rw [upd_ne (ne_of_none q h)]; exact g.keep b u s q, fun b q => by
    by_cases z : b = a
    · subst z; rw [upd_same]; simp
    · rw [upd_ne z]; exact g.there b q, g.new, M.wr _ _ _ _ g.j (ok.noU h) e m⟩
/-- garbage is no data -/
theorem Go.drop (g : Go M G H G' H') (s : Sub G H) (hs : ∀ a, M.S a → G a = none) : Go M G H G H' := ⟨.refl _, fun a o e => g.keep a o (fun z => by rw [hs a z] at e; cases e) (s a o e), g.keep, g.there, fun _ h _ => h, g.j⟩
end
theorem mem_ne {a b : Addr} {os : List Addr} (h : b ∈ os) (n : a ∉ os) : b ≠ a := fun z => n (by rw [← z]; exact h)
/-! ### slots -/
/-- what is one's own: a list, a dict of numbers and texts, a dict of tuples, a set of numbers and texts -/
inductive Ow where
  | l (ts : List T) | d (kts : List (Key × T)) | n (kts : List (T × T)) | s (S : Key → Bool) (n : Nat)
def Ow.fz : Ow → T
  | .l ts => .lst ts
  | .d kts => .dct kts
  | .n kts => .dn kts
  | .s S m => .st S m
inductive OwIs (K : PySem.W.Frag) (G : Hp) (a : Addr) : HO → Ow → Prop
  | l {vs ts} : IsAll K G vs ts → OwIs K G a (.lst vs) (.l ts)
  | d {vs ts} : IsKv K G vs ts → OwIs K G a (.dK vs) (.d ts)
  | n {xs ts} : IsKn K G xs ts → OwIs K G a (DN TheW.w a xs) (.n ts)
  | s {S n} : OwIs K G a (SetK TheW.P TheW.w a S n) (.s S n)
theorem OwIs.mono {K : PySem.W.Frag} {G H : Hp} {a : Addr} {o : HO} {c : Ow} (s : Sub G H) (h : OwIs K G a o c) : OwIs K H a o c := by
  cases h with
  | l h => exact .l (h.mono s)
  | d h => exact .d (h.mono s)
  | n h => exact .n (h.mono s)
  | s => exact .s
theorem OwIs.data {K : PySem.W.Frag} {G G' : Hp} {a : Addr} {o : HO} {c : Ow} (h : OwIs K G a o c) (s : Sub G G') (e : G' a = some o) : Is K G' (.ref a) c.fz := by
  cases h with
  | l h => exact .lst e (h.mono s)
  | d h => exact .dct e (h.mono s)
  | n h => exact .dn e (h.mono s)
  | s => exact .st e
theorem OwIs.mu {K : PySem.W.Frag} {G : Hp} {a : Addr} {o : HO} {c : Ow} (h : OwIs K G a o c) : Mu o := by
  cases h with
  | l h => exact .inl ⟨_, rfl⟩
  | d h => exact .inr (.inl ⟨_, rfl⟩)
  | n h => exact .inr (.inr ⟨_, rfl, fun h ⟨_, _, _, _, o, es, ep, e, _, e2, _⟩ => ⟨_, o, e, fun vs z => by rw [e2] at z; cases z⟩⟩)
  | s => exact .inr (.inr ⟨_, rfl, fun h ⟨o, es, ep, t, e, _, e2, _⟩ => ⟨_, o, e, fun vs z => by rw [e2] at z; cases z⟩⟩)
inductive Sl where
  | no | sh (t : T) | oo (c : Ow)
abbrev Sl.ol (ts : List T) : Sl := .oo (.l ts)
abbrev Sl.od (kts : List (Key × T)) : Sl := .oo (.d kts)
abbrev Sl.on (kts : List (T × T)) : Sl := .oo (.n kts)
abbrev Sl.os (S : Key → Bool) (n : Nat) : Sl := .oo (.s S n)
def Sl.fz : Sl → T
  | .no => .non
  | .sh t => t
  | .oo c => c.fz
/-- a result: data, or a new thing that nobody else holds -/
def Rs (K : PySem.W.Frag) (G H G' H' : Hp) (v : V) : Sl → Prop
  | .no => False
  | .sh t => Is K G' v t
  | .oo c => ∃ a o, v = .ref a ∧ H a = none ∧ H' a = some o ∧ G' a = none ∧ OwIs K G' a o c
theorem Rs.fz {K : PySem.W.Frag} {M : Mode} {G H G' H' : Hp} {v : V} {s : Sl} (r : Rs K G H G' H' v s) (g : Go M G H G' H') : ∃ G'', Go M G H G'' H' ∧ Sub G' G'' ∧ Is K G'' v s.fz := by
  cases s with
  | no => exact r.elim
  | sh t => exact ⟨G', g, .refl _, r⟩
  | oo c =>
    obtain ⟨a, o, rfl, h, e, n, i⟩ := r
    exact ⟨_, g.data h e n, Sub.upd n, i.data (Sub.upd n) upd_same⟩
/-- seen from earlier -/
theorem Rs.early {K : PySem.W.Frag} {M : Mode} {G H G1 H1 G' H' : Hp} {v : V} {s : Sl} (r : Rs K G1 H1 G' H' v s) (g : Go M G H G1 H1) : Rs K G H G' H' v s := by
  cases s with
  | no => exact r
  | sh t => exact r
  | oo c => obtain ⟨a, vs, e, h, r⟩ := r; exact ⟨a, vs, e, g.back h, r⟩
inductive En (K : PySem.W.Frag) (G H : Hp) : List (Option V) → List Sl → List Addr → Prop
  | nil : En K G H [] [] []
  | no {x σ τ os} : En K G H σ τ os → En K G H (x :: σ) (.no :: τ) os
  | sh {v t σ τ os} : Is K G v t → En K G H σ τ os → En K G H (some v :: σ) (.sh t :: τ) os
  | oo {a o c σ τ os} : H a = some o → G a = none → OwIs K G a o c → a ∉ os → En K G H σ τ os → En K G H (some (.ref a) :: σ) (.oo c :: τ) (a :: os)
section
variable {K : PySem.W.Frag} {M : Mode} {G H G' H' : Hp} {σ : List (Option V)} {τ : List Sl} {os : List Addr}
theorem En.mono (hg : Sub G G') (hk : ∀ a ∈ os, ∀ o, H a = some o → H' a = some o) (hn : ∀ a ∈ os, G' a = none) (e : En K G H σ τ os) : En K G' H' σ τ os := by
  induction e with
  | nil => exact .nil
  | no _ ih => exact .no (ih hk hn)
  | sh h _ ih => exact .sh (h.mono hg) (ih hk hn)
  | oo h1 h2 h3 h4 _ ih => exact .oo (hk _ List.mem_cons_self _ h1) (hn _ List.mem_cons_self) (h3.mono hg) h4 (ih (fun a h => hk a (List.mem_cons_of_mem _ h)) fun a h => hn a (List.mem_cons_of_mem _ h))
theorem En.own (e : En K G H σ τ os) : ∀ a ∈ os, G a = none ∧ H a ≠ none := by
  induction e with
  | nil => exact fun _ h => nomatch h
  | no _ ih => exact ih
  | sh _ _ ih => exact ih
  | oo h1 h2 _ _ _ ih =>
    intro a h
    rcases List.mem_cons.mp h with rfl | h
    · exact ⟨h2, by rw [h1]; simp⟩
    · exact ih a h
theorem En.go (e : En K G H σ τ os) (hs : ∀ a ∈ os, ¬ M.S a) (g : Go M G H G' H') : En K G' H' σ τ os :=
  e.mono g.gg (fun a h o q => g.keep a o (hs a h) q) fun a h => g.new a (e.own a h).1 (e.own a h).2
theorem En.length (e : En K G H σ τ os) : σ.length = τ.length := by
  induction e with
  | nil => rfl
  | no _ ih => exact congrArg (· + 1) ih
  | sh _ _ ih => exact congrArg (· + 1) ih
  | oo _ _ _ _ _ ih => exact congrArg (· + 1) ih
theorem En.get (e : En K G H σ τ os) : ∀ {i : Nat} {t : T}, τ[i]? = some (.sh t) → ∃ v, σ[i]? = some (some v) ∧ Is K G v t := by
  induction e with
  | nil => intro i t h; simp at h
  | no _ ih =>
    intro i t h
    cases i with
    | zero => simp at h
    | succ i => obtain ⟨v, h1, h2⟩ := ih (i := i) (t := t) (by simpa using h); exact ⟨v, by simpa using h1, h2⟩
  | sh q _ ih =>
    intro i t h
    cases i with
    | zero => simp at h; subst h; exact ⟨_, rfl, q⟩
    | succ i => obtain ⟨v, h1, h2⟩ := ih (i := i) (t := t) (by simpa using h); exact ⟨v, by simpa using h1, h2⟩
  | oo _ _ _ _ _ ih =>
    intro i t h
    cases i with
    | zero => simp at h
    | succ i => obtain ⟨v, h1, h2⟩ := ih (i := i) (t := t) (by simpa using h); exact ⟨v, by simpa using h1, h2⟩
/-- an own thing: where it stands; what replaces it -/
theorem En.getO (e : En K G H σ τ os) : ∀ {i : Nat} {c : Ow}, τ[i]? = some (.oo c) → ∃ a o, σ[i]? = some (some (.ref a)) ∧ a ∈ os ∧ H a = some o ∧ G a = none ∧ OwIs K G a o c ∧
    ∀ o' c', OwIs K G a o' c' → En K G (upd H a o') σ (τ.set i (.oo c')) os := by
  induction e with
  | nil => intro i t h; simp at h
  | no _ ih =>
    intro i t h
    cases i with
    | zero => simp at h
    | succ i => obtain ⟨a, vs, h1, h2, h3, h4, h5, h6⟩ := ih (i := i) (c := t) (by simpa using h); exact ⟨a, vs, by simpa using h1, h2, h3, h4, h5, fun vs' ts' q => .no (h6 vs' ts' q)⟩
  | sh q _ ih =>
    intro i t h
    cases i with
    | zero => simp at h
    | succ i => obtain ⟨a, vs, h1, h2, h3, h4, h5, h6⟩ := ih (i := i) (c := t) (by simpa using h); exact ⟨a, vs, by simpa using h1, h2, h3, h4, h5, fun vs' ts' z => .sh q (h6 vs' ts' z)⟩
  | oo q1 q2 q3 q4 r ih =>
    intro i t h
    cases i with
    | zero =>
      simp at h
      subst h
      refine ⟨_, _, rfl, List.mem_cons_self, q1, q2, q3, fun vs' ts' z => .oo upd_same q2 z q4 (r.mono (.refl _) (fun b hb o e => ?_) fun b hb => (r.own b hb).1)⟩
      rw [upd_ne (mem_ne hb q4)]
      exact e
    | succ i =>
      obtain ⟨a, vs, h1, h2, h3, h4, h5, h6⟩ := ih (i := i) (c := t) (by simpa using h)
      refine ⟨a, vs, by simpa using h1, List.mem_cons_of_mem _ h2, h3, h4, h5, fun vs' ts' z => .oo ?_ q2 q3 q4 (h6 vs' ts' z)⟩
      rw [upd_ne (mem_ne h2 q4).symm]
      exact q1
theorem En.getL (e : En K G H σ τ os) {i : Nat} {ts : List T} (h : τ[i]? = some (.ol ts)) : ∃ a vs, σ[i]? = some (some (.ref a)) ∧ a ∈ os ∧ H a = some (.lst vs) ∧ G a = none ∧ IsAll K G vs ts ∧
    ∀ vs' ts', IsAll K G vs' ts' → En K G (upd H a (.lst vs')) σ (τ.set i (.ol ts')) os := by
  obtain ⟨a, o, h1, h2, h3, h4, h5, h6⟩ := e.getO h
  cases h5 with
  | l h5 => exact ⟨a, _, h1, h2, h3, h4, h5, fun vs' ts' z => h6 _ _ (.l z)⟩
/-- forgetting a slot -/
theorem En.forget (e : En K G H σ τ os) : ∀ (i : Nat) (x : Option V), ∃ os', En K G H (σ.set i x) (τ.set i .no) os' ∧ ∀ a ∈ os', a ∈ os := by
  induction e with
  | nil => exact fun i x => ⟨[], .nil, fun _ h => h⟩
  | no e ih =>
    intro i x
    cases i with
    | zero => exact ⟨_, .no e, fun _ h => h⟩
    | succ i => obtain ⟨os', h1, h2⟩ := ih i x; exact ⟨os', .no h1, h2⟩
  | sh q e ih =>
    intro i x
    cases i with
    | zero => exact ⟨_, .no e, fun _ h => h⟩
    | succ i => obtain ⟨os', h1, h2⟩ := ih i x; exact ⟨os', .sh q h1, h2⟩
  | oo q1 q2 q3 q4 e ih =>
    intro i x
    cases i with
    | zero => exact ⟨_, .no e, fun _ h => List.mem_cons_of_mem _ h⟩
    | succ i =>
      obtain ⟨os', h1, h2⟩ := ih i x
      exact ⟨_, .oo q1 q2 q3 (fun z => q4 (h2 _ z)) h1, fun a h => (List.mem_cons.mp h).elim (fun z => z ▸ List.mem_cons_self) fun z => List.mem_cons_of_mem _ (h2 a z)⟩
/-- a forgotten slot takes data -/
theorem En.putS (e : En K G H σ τ os) : ∀ {i : Nat} {v : V} {t : T}, τ[i]? = some .no → Is K G v t → En K G H (σ.set i (some v)) (τ.set i (.sh t)) os := by
  induction e with
  | nil => intro i v t h; simp at h
  | no e ih =>
    intro i v t h q
    cases i with
    | zero => exact .sh q e
    | succ i => exact .no (ih (by simpa using h) q)
  | sh z e ih =>
    intro i v t h q
    cases i with
    | zero => simp at h
    | succ i => exact .sh z (ih (by simpa using h) q)
  | oo q1 q2 q3 q4 e ih =>
    intro i v t h q
    cases i with
    | zero => simp at h
    | succ i => exact .oo q1 q2 q3 q4 (ih (by simpa using h) q)
/-- .. or an own thing -/
theorem En.putO (e : En K G H σ τ os) : ∀ {i : Nat} {a : Addr} {o : HO} {c : Ow}, τ[i]? = some .no → H a = some o → G a = none → OwIs K G a o c → a ∉ os →
    ∃ os', En K G H (σ.set i (some (.ref a))) (τ.set i (.oo c)) os' ∧ ∀ b ∈ os', b = a ∨ b ∈ os := by
  induction e with
  | nil => intro i a vs ts h; simp at h
  | no e ih =>
    intro i a vs ts h q1 q2 q3 q4
    cases i with
    | zero => exact ⟨_, .oo q1 q2 q3 q4 e, fun b h => List.mem_cons.mp h⟩
    | succ i => obtain ⟨os', h1, h2⟩ := ih (i := i) (by simpa using h) q1 q2 q3 q4; exact ⟨os', .no h1, h2⟩
  | sh z e ih =>
    intro i a vs ts h q1 q2 q3 q4
    cases i with
    | zero => simp at h
    | succ i => obtain ⟨os', h1, h2⟩ := ih (i := i) (by simpa using h) q1 q2 q3 q4; exact ⟨os', .sh z h1, h2⟩
  | oo z1 z2 z3 z4 e ih =>
    intro i a vs ts h q1 q2 q3 q4
    cases i with
    | zero => simp at h
    | succ i =>
      obtain ⟨os', h1, h2⟩ := ih (i := i) (by simpa using h) q1 q2 q3 (fun z => q4 (List.mem_cons_of_mem _ z))
      refine ⟨_, .oo z1 z2 z3 (fun z => (h2 _ z).elim (fun z => q4 (z ▸ List.mem_cons_self)) z4) h1, fun b h => (List.mem_cons.mp h).elim (fun z => .inr (z ▸ List.mem_cons_self)) fun z => (h2 b z).imp id (List.mem_cons_of_mem _)⟩
end
end TL
namespace TL
open PySem PySem.Spec PyProof.Rows L2
variable [TheW]
/-! ### readings of trees -/
structure Xn where
  cls : Value
  fs : Option (List (Str × V))
def XR (H : Hp) (c : Value) (d : Option Addr) (x : Xn) : Prop := c = x.cls ∧ match x.fs with
  | none => d = none
  | some l => ∃ p, d = some p ∧ H p = some (.xd l)
abbrev TEx := List Sl → (Sl → Prop) → (Xn → Prop) → Prop
abbrev TTx := List Sl → (Bool → Prop) → (Xn → Prop) → Prop
abbrev TAx := List Sl → (List T → Prop) → (Xn → Prop) → Prop
abbrev TOx := List Sl → (Option Int → Prop) → (Xn → Prop) → Prop
/-- the state, seen by trees -/
structure W1 (K : PySem.W.Frag) (M : Mode) (G H : Hp) (σ : List (Option V)) (τ : List Sl) : Prop where
  en : ∃ os, En K G H σ τ os ∧ ∀ a ∈ os, ¬ M.S a
  ok : Ok M G H
/-- what follows an exception -/
def XP (M : Mode) (G H : Hp) (E : XK) (r : Xn → Prop) : Prop := ∀ x c d G' H', Go M G H G' H' → XR H' c d x → r x → E c d H'
def SimE (K : PySem.W.Frag) (M : Mode) (E : XK) (te : TE) (g : TEx) : Prop :=
  ∀ τ q r, g τ q r → ∀ σ G H, W1 K M G H σ τ → ∀ Q : VK, (∀ v s G' H', Go M G H G' H' → Rs K G H G' H' v s → q s → Q v H') → XP M G H E r → te σ H Q
def SimT (K : PySem.W.Frag) (M : Mode) (E : XK) (te : TT) (g : TTx) : Prop :=
  ∀ τ q r, g τ q r → ∀ σ G H, W1 K M G H σ τ → ∀ Q : Bool → Hp → Prop, (∀ b G' H', Go M G H G' H' → q b → Q b H') → XP M G H E r → te σ H Q
def SimA (K : PySem.W.Frag) (M : Mode) (E : XK) (te : TA) (g : TAx) : Prop :=
  ∀ τ q r, g τ q r → ∀ σ G H, W1 K M G H σ τ → ∀ Q : List V → Hp → Prop, (∀ vs ts G' H', Go M G H G' H' → IsAll K G' vs ts → q ts → Q vs H') → XP M G H E r → te σ H Q
def SimO (K : PySem.W.Frag) (M : Mode) (E : XK) (te : TO) (g : TOx) : Prop :=
  ∀ τ q r, g τ q r → ∀ σ G H, W1 K M G H σ τ → ∀ Q : Option Int → Hp → Prop, (∀ i G' H', Go M G H G' H' → q i → Q i H') → XP M G H E r → te σ H Q
section
variable {K : PySem.W.Frag} {M : Mode} {E : XK} {G H G' H' : Hp} {σ : List (Option V)} {τ : List Sl} {r : Xn → Prop}
theorem W1.go (w : W1 K M G H σ τ) (g : Go M G H G' H') : W1 K M G' H' σ τ :=
  let ⟨os, e, s⟩ := w.en
  ⟨⟨os, e.go s g, s⟩, w.ok.go g⟩
theorem XP.go (x : XP M G H E r) (g : Go M G H G' H') : XP M G' H' E r := fun x' c d G2 H2 g2 h k => x x' c d G2 H2 (g.trans g2) h k
/-- an expression's value, made data -/
theorem SimE.data {te : TE} {g : TEx} (h : SimE K M E te g) {q : Sl → Prop} (e : g τ q r) (w : W1 K M G H σ τ) {Q : VK} (hq : ∀ v G' H' s, Go M G H G' H' → Is K G' v s.fz → q s → Q v H') (hx : XP M G H E r) : te σ H Q :=
  h τ q r e σ G H w Q (fun v s G1 H1 g1 rs qs => by
    obtain ⟨G2, g2, _, i⟩ := rs.fz g1
    exact hq v G2 H1 s g2 i qs) hx
/-! ### names, constants -/
def gVar (i : Nat) : TEx := fun τ q _ => match τ[i]? with
  | some (.sh t) => q (.sh t)
  | _ => False
theorem sim_var {i : Nat} : SimE K M E (tVar i) (gVar i) := fun τ q r e σ G H w Q hq _ => by
  unfold gVar at e
  split at e
  · rename_i t h
    obtain ⟨os, en, _⟩ := w.en
    obtain ⟨v, h1, h2⟩ := en.get h
    exact ⟨v, h1, hq v (.sh t) G H (.refl w.ok) h2 e⟩
  · exact e.elim
def gC (t : T) : TEx := fun _ q _ => q (.sh t)
theorem sim_c {v : V} {t : T} (h : ∀ G, Is K G v t) : SimE K M E (tC v) (gC t) := fun τ q r e σ G H w Q hq _ => hq v (.sh t) G H (.refl w.ok) (h G) e
theorem sim_int {i : Int} : SimE K M E (tC (.int i)) (gC (.int i)) := sim_c fun _ => .int
theorem sim_str {i : Str} : SimE K M E (tC (.str i)) (gC (.str i)) := sim_c fun _ => .str
theorem sim_bl {i : Bool} : SimE K M E (tC (.bl i)) (gC (.bl i)) := sim_c fun _ => .bl
theorem sim_non : SimE K M E (tC .non) (gC .non) := sim_c fun _ => .non
theorem sim_raw {v : V} : SimE K M E (tC v) (gC (.raw v)) := sim_c fun _ => .raw
/-! ### operators -/
abbrev GR2 := T → T → (Sl → Prop) → Prop
def SimR2 (K : PySem.W.Frag) (M : Mode) (r : R2) (g : GR2) : Prop := ∀ tx ty q, g tx ty q → ∀ x y G H, Is K G x tx → Is K G y ty → Ok M G H → ∀ Q : VK, (∀ v s G' H', Go M G H G' H' → Rs K G H G' H' v s → q s → Q v H') → r x y H Q
def gOp (g : GR2) (a b : TEx) : TEx := fun τ q r => a τ (fun s => b τ (fun u => g s.fz u.fz q) r) r
theorem sim_op {rr : R2} {g : GR2} {ta tb : TE} {a b : TEx} (hr : SimR2 K M rr g) (ha : SimE K M E ta a) (hb : SimE K M E tb b) : SimE K M E (tOp rr ta tb) (gOp g a b) := fun τ q r e σ G H w Q hq hx =>
  ha.data e w (fun x G1 H1 s g1 ix e1 => hb.data e1 (w.go g1) (fun y G2 H2 u g2 iy e2 =>
    hr s.fz u.fz q e2 x y G2 H2 (ix.mono g2.gg) iy ((w.ok.go g1).go g2) Q fun v s' G3 H3 g3 rs qs => hq v s' G3 H3 ((g1.trans g2).trans g3) (rs.early (g1.trans g2)) qs) (hx.go g1)) hx
theorem SimR2.or1 {r1 r2 : R2} {g : GR2} (h : SimR2 K M r1 g) : SimR2 K M (fun x y H Q => r1 x y H Q ∨ r2 x y H Q) g := fun tx ty q e x y G H ix iy ok Q hq => .inl (h tx ty q e x y G H ix iy ok Q hq)
/-- by the left operand's kind, say -/
theorem SimR2.or {r1 r2 : R2} {g1 g2 g : GR2} (h1 : SimR2 K M r1 g1) (h2 : SimR2 K M r2 g2) (h : ∀ a b q, g a b q → g1 a b q ∨ g2 a b q) : SimR2 K M (fun x y H Q => r1 x y H Q ∨ r2 x y H Q) g :=
  fun tx ty q e x y G H ix iy ok Q hq => (h tx ty q e).elim (fun e => .inl (h1 tx ty q e x y G H ix iy ok Q hq)) fun e => .inr (h2 tx ty q e x y G H ix iy ok Q hq)
def gI2 (C : Int → Int → Prop) (f : Int → Int → T) : GR2 := fun a b q => match a, b with
  | .int i, .int j => C i j ∧ q (.sh (f i j))
  | _, _ => False
def gI (f : Int → Int → T) : GR2 := fun a b q => match a, b with
  | .int i, .int j => q (.sh (f i j))
  | _, _ => False
theorem simr_I {C : Int → Int → Prop} {f : Int → Int → V} {g : Int → Int → T} (h : ∀ i j G, Is K G (f i j) (g i j)) : SimR2 K M (rI C f) (gI2 C g) := fun tx ty q e x y G H ix iy ok Q hq => by
  unfold gI2 at e
  split at e
  · cases ix; cases iy
    exact ⟨_, _, rfl, rfl, e.1, hq _ (.sh _) G H (.refl ok) (h _ _ G) e.2⟩
  · exact e.elim
theorem simr_I0 {f : Int → Int → V} {g : Int → Int → T} (h : ∀ i j G, Is K G (f i j) (g i j)) : SimR2 K M (rI0 f) (gI g) := fun tx ty q e x y G H ix iy ok Q hq => by
  unfold gI at e
  split at e
  · cases ix; cases iy
    exact ⟨_, _, rfl, rfl, hq _ (.sh _) G H (.refl ok) (h _ _ G) e⟩
  · exact e.elim
/-! ### truth -/
/-- a truth value's way -/
def isB (s : Sl) (k : Bool → Prop) : Prop := match s with
  | .sh (.bl b) => k b
  | _ => False
theorem Is.bl_inv {v : V} {b : Bool} (h : Is K G v (.bl b)) : v = .bl b := by cases h; rfl
def gB (a : TEx) : TTx := fun τ q r => a τ (fun s => isB s q) r
theorem isB_cases {s : Sl} {k : Bool → Prop} (h : isB s k) : ∃ b, s = .sh (.bl b) ∧ k b := by
  cases s with
  | sh t => cases t with
    | bl b => exact ⟨b, rfl, h⟩
    | _ => exact h.elim
  | _ => exact h.elim
theorem simt_test {te : TE} {a : TEx} (h : SimE K M E te a) : SimT K M E (tTest te) (gB a) := fun τ q r e σ G H w Q hq hx => h τ _ r e σ G H w _ (fun v s G1 H1 g1 rs qs => by
  obtain ⟨b, rfl, k⟩ := isB_cases qs
  have rs' : Is K G1 v (.bl b) := rs
  exact ⟨b, rs'.bl_inv, hq b G1 H1 g1 k⟩) hx
theorem simt_B {te : TE} {a : TEx} (h : SimE K M E te a) : SimT K M E (tB te) (gB a) := simt_test h
def gAnd (a b : TTx) : TTx := fun τ q r => a τ (fun c => if c = true then b τ q r else q false) r
def gOr (a b : TTx) : TTx := fun τ q r => a τ (fun c => if c = true then q true else b τ q r) r
def gNot (a : TTx) : TTx := fun τ q r => a τ (fun c => q (!c)) r
theorem simt_and {t u : TT} {a b : TTx} (ha : SimT K M E t a) (hb : SimT K M E u b) : SimT K M E (tAnd t u) (gAnd a b) := fun τ q r e σ G H w Q hq hx => ha τ _ r e σ G H w _ (fun c G1 H1 g1 qs => by
  cases c with
  | true => exact hb τ q r (by simpa using qs) σ G1 H1 (w.go g1) Q (fun b G2 H2 g2 k => hq b G2 H2 (g1.trans g2) k) (hx.go g1)
  | false => exact hq false G1 H1 g1 (by simpa using qs)) hx
theorem simt_or {t u : TT} {a b : TTx} (ha : SimT K M E t a) (hb : SimT K M E u b) : SimT K M E (tOr t u) (gOr a b) := fun τ q r e σ G H w Q hq hx => ha τ _ r e σ G H w _ (fun c G1 H1 g1 qs => by
  cases c with
  | false => exact hb τ q r (by simpa using qs) σ G1 H1 (w.go g1) Q (fun b G2 H2 g2 k => hq b G2 H2 (g1.trans g2) k) (hx.go g1)
  | true => exact hq true G1 H1 g1 (by simpa using qs)) hx
theorem simt_not {t : TT} {a : TTx} (ha : SimT K M E t a) : SimT K M E (tNot t) (gNot a) := fun τ q r e σ G H w Q hq hx => ha τ _ r e σ G H w _ (fun c G1 H1 g1 qs => hq _ G1 H1 g1 qs) hx
def gAndV (a b : TEx) : TEx := fun τ q r => a τ (fun s => isB s fun c => if c = true then b τ q r else q (.sh (.bl false))) r
def gOrV (a b : TEx) : TEx := fun τ q r => a τ (fun s => isB s fun c => if c = true then q (.sh (.bl true)) else b τ q r) r
def gNotV (a : TEx) : TEx := fun τ q r => a τ (fun s => isB s fun c => q (.sh (.bl (!c)))) r
theorem sim_andV {t u : TE} {a b : TEx} (ha : SimE K M E t a) (hb : SimE K M E u b) : SimE K M E (tAndV t u) (gAndV a b) := fun τ q r e σ G H w Q hq hx => ha τ _ r e σ G H w _ (fun v s G1 H1 g1 rs qs => by
  obtain ⟨c, rfl, k⟩ := isB_cases qs
  have rs' : Is K G1 v (.bl c) := rs
  refine ⟨c, rs'.bl_inv, ?_⟩
  cases c with
  | true => exact hb τ q r (by simpa using k) σ G1 H1 (w.go g1) Q (fun v s G2 H2 g2 rs qs => hq v s G2 H2 (g1.trans g2) (rs.early g1) qs) (hx.go g1)
  | false => exact hq _ (.sh (.bl false)) G1 H1 g1 .bl (by simpa using k)) hx
theorem sim_orV {t u : TE} {a b : TEx} (ha : SimE K M E t a) (hb : SimE K M E u b) : SimE K M E (tOrV t u) (gOrV a b) := fun τ q r e σ G H w Q hq hx => ha τ _ r e σ G H w _ (fun v s G1 H1 g1 rs qs => by
  obtain ⟨c, rfl, k⟩ := isB_cases qs
  have rs' : Is K G1 v (.bl c) := rs
  refine ⟨c, rs'.bl_inv, ?_⟩
  cases c with
  | false => exact hb τ q r (by simpa using k) σ G1 H1 (w.go g1) Q (fun v s G2 H2 g2 rs qs => hq v s G2 H2 (g1.trans g2) (rs.early g1) qs) (hx.go g1)
  | true => exact hq _ (.sh (.bl true)) G1 H1 g1 .bl (by simpa using k)) hx
theorem sim_notV {t : TE} {a : TEx} (ha : SimE K M E t a) : SimE K M E (tNotV t) (gNotV a) := fun τ q r e σ G H w Q hq hx => ha τ _ r e σ G H w _ (fun v s G1 H1 g1 rs qs => by
  obtain ⟨c, rfl, k⟩ := isB_cases qs
  have rs' : Is K G1 v (.bl c) := rs
  exact ⟨c, rs'.bl_inv, hq _ (.sh (.bl (!c))) G1 H1 g1 .bl k⟩) hx
def gIf (c : TTx) (a b : TEx) : TEx := fun τ q r => c τ (fun k => if k = true then a τ q r else b τ q r) r
theorem sim_if {t : TT} {ta tb : TE} {c : TTx} {a b : TEx} (hc : SimT K M E t c) (ha : SimE K M E ta a) (hb : SimE K M E tb b) : SimE K M E (tIf t ta tb) (gIf c a b) := fun τ q r e σ G H w Q hq hx => hc τ _ r e σ G H w _ (fun c G1 H1 g1 qs => by
  cases c with
  | true => exact ha τ q r (by simpa using qs) σ G1 H1 (w.go g1) Q (fun v s G2 H2 g2 rs qs => hq v s G2 H2 (g1.trans g2) (rs.early g1) qs) (hx.go g1)
  | false => exact hb τ q r (by simpa using qs) σ G1 H1 (w.go g1) Q (fun v s G2 H2 g2 rs qs => hq v s G2 H2 (g1.trans g2) (rs.early g1) qs) (hx.go g1)) hx
/-- a chain of two comparisons -/
def gChain (g g' : GR2) (a b c : TEx) : TEx := fun τ q r => a τ (fun s => b τ (fun u => g s.fz u.fz fun k => isB k fun d => if d = true then c τ (fun x => g' u.fz x.fz q) r else q (.sh (.bl false))) r) r
theorem sim_chain {r1 r2 : R2} {g1 g2 : GR2} {ta tb tc : TE} {a b c : TEx} (h1 : SimR2 K M r1 g1) (h2 : SimR2 K M r2 g2) (ha : SimE K M E ta a) (hb : SimE K M E tb b) (hc : SimE K M E tc c) : SimE K M E (tChain r1 r2 ta tb tc) (gChain g1 g2 a b c) :=
  fun τ q r e σ G H w Q hq hx => ha.data e w (fun x G1 H1 s k1 ix e1 => hb.data e1 (w.go k1) (fun y G2 H2 u k2 iy e2 =>
    h1 s.fz u.fz _ e2 x y G2 H2 (ix.mono k2.gg) iy ((w.ok.go k1).go k2) _ (fun v s' G3 H3 k3 rs qs => by
      obtain ⟨d, rfl, k⟩ := isB_cases qs
      have rs' : Is K G3 v (.bl d) := rs
      refine ⟨d, rs'.bl_inv, ?_⟩
      cases d with
      | true =>
        refine hc.data (by simpa using k) (((w.go k1).go k2).go k3) (fun z G4 H4 u' k4 iz e4 => ?_) (((hx.go k1).go k2).go k3)
        exact h2 u.fz u'.fz q e4 y z G4 H4 ((iy.mono k3.gg).mono k4.gg) iz ((((w.ok.go k1).go k2).go k3).go k4) Q fun v s' G5 H5 k5 rs qs => hq v s' G5 H5 ((((k1.trans k2).trans k3).trans k4).trans k5) (rs.early (((k1.trans k2).trans k3).trans k4)) qs
      | false => exact hq _ (.sh (.bl false)) G3 H3 ((k1.trans k2).trans k3) .bl (by simpa using k))) (hx.go k1)) hx
/-! ### arguments, calls, displays -/
def aNil : TAx := fun _ q _ => q []
def aCons (a : TEx) (b : TAx) : TAx := fun τ q r => a τ (fun s => b τ (fun ts => q (s.fz :: ts)) r) r
theorem sima_nil : SimA K M E tNil aNil := fun τ q r e σ G H w Q hq _ => hq [] [] G H (.refl w.ok) .nil e
theorem sima_cons {te : TE} {ta : TA} {a : TEx} {b : TAx} (ha : SimE K M E te a) (hb : SimA K M E ta b) : SimA K M E (tCons te ta) (aCons a b) := fun τ q r e σ G H w Q hq hx =>
  ha.data e w (fun x G1 H1 s g1 ix e1 => hb τ _ r e1 σ G1 H1 (w.go g1) _ (fun vs ts G2 H2 g2 i2 q2 => hq (x :: vs) (s.fz :: ts) G2 H2 (g1.trans g2) (.cons (ix.mono g2.gg) i2) q2) (hx.go g1)) hx
/-- a built-in's rule, by trees -/
abbrev GC := List T → (Sl → Prop) → Prop
def SimC (K : PySem.W.Frag) (M : Mode) (r : List V → Hp → VK → Prop) (g : GC) : Prop := ∀ ts q, g ts q → ∀ vs G H, IsAll K G vs ts → Ok M G H → ∀ Q : VK, (∀ v s G' H', Go M G H G' H' → Rs K G H G' H' v s → q s → Q v H') → r vs H Q
def gCB (g : GC) (a : TAx) : TEx := fun τ q r => a τ (fun ts => g ts q) r
theorem sim_CB {rr : List V → Hp → VK → Prop} {g : GC} {ta : TA} {a : TAx} (hr : SimC K M rr g) (ha : SimA K M E ta a) : SimE K M E (tCB rr ta) (gCB g a) := fun τ q r e σ G H w Q hq hx =>
  ha τ _ r e σ G H w _ (fun vs ts G1 H1 g1 i1 q1 => hr ts q q1 vs G1 H1 i1 (w.ok.go g1) Q fun v s G2 H2 g2 rs qs => hq v s G2 H2 (g1.trans g2) (rs.early g1) qs) hx
/-- a method's rule, by trees -/
abbrev GM := T → List T → (Sl → Prop) → Prop
def SimM (K : PySem.W.Frag) (M : Mode) (ty : String) (r : V → List V → Hp → VK → Prop) (g : GM) : Prop := ∀ t ts q, g t ts q → ∀ x vs G H, Is K G x t → IsAll K G vs ts → Ok M G H → tyV K ty x H ∧ ∀ Q : VK, (∀ v s G' H', Go M G H G' H' → Rs K G H G' H' v s → q s → Q v H') → r x vs H Q
def gBM (g : GM) (o : TEx) (a : TAx) : TEx := fun τ q r => o τ (fun s => (∃ ts q', g s.fz ts q') ∧ a τ (fun ts => g s.fz ts q) r) r
theorem sim_BM {ty : String} {rr : V → List V → Hp → VK → Prop} {g : GM} {to : TE} {ta : TA} {o : TEx} {a : TAx} (hty : ∀ t ts q, g t ts q → ∀ x G H, Is K G x t → Ok M G H → tyV K ty x H) (hr : SimM K M ty rr g) (ho : SimE K M E to o) (ha : SimA K M E ta a) : SimE K M E (tBM K ty rr to ta) (gBM g o a) := fun τ q r e σ G H w Q hq hx =>
  ho.data e w (fun x G1 H1 s g1 ix e1 => by
    obtain ⟨⟨ts0, q0, z0⟩, e1⟩ := e1
    exact ⟨hty s.fz ts0 q0 z0 x G1 H1 ix (w.ok.go g1), ha τ _ r e1 σ G1 H1 (w.go g1) _ (fun vs ts G2 H2 g2 i2 q2 => (hr s.fz ts q q2 x vs G2 H2 (ix.mono g2.gg) i2 ((w.ok.go g1).go g2)).2 Q fun v s G3 H3 g3 rs qs => hq v s G3 H3 ((g1.trans g2).trans g3) (rs.early (g1.trans g2)) qs) (hx.go g1)⟩) hx
def gBM0 (g : GM) (o : TEx) : TEx := fun τ q r => o τ (fun s => g s.fz [] q) r
theorem sim_BM0 {ty : String} {rr : V → List V → Hp → VK → Prop} {g : GM} {to : TE} {o : TEx} (hr : SimM K M ty rr g) (ho : SimE K M E to o) : SimE K M E (tBM0 K ty rr to) (gBM0 g o) := fun τ q r e σ G H w Q hq hx =>
  ho.data e w (fun x G1 H1 s g1 ix e1 => by
    obtain ⟨h1, h2⟩ := hr s.fz [] q e1 x [] G1 H1 ix .nil (w.ok.go g1)
    exact ⟨h1, h2 Q fun v s G3 H3 g3 rs qs => hq v s G3 H3 (g1.trans g3) (rs.early g1) qs⟩) hx
def gTup (a : TAx) : TEx := fun τ q r => a τ (fun ts => ts.length ≤ sizeLine ∧ q (.sh (.tup ts))) r
def gLst (a : TAx) : TEx := fun τ q r => a τ (fun ts => ts.length ≤ sizeLine ∧ q (.ol ts)) r
theorem Ok.fresh {p : Addr} (ok : Ok M G H) (h : H p = none) : G p = none := ok.sub.none h
/-- a new list -/
theorem ol_new {p : Addr} {vs : List V} {ts : List T} (ok : Ok M G H) (h : H p = none) (i : IsAll K G vs ts) : Go M G H G (upd H p (.lst vs)) ∧ Rs K G H G (upd H p (.lst vs)) (.ref p) (.ol ts) :=
  ⟨.lay ok h, p, .lst vs, rfl, h, upd_same, ok.fresh h, .l i⟩
theorem tup_new {p : Addr} {vs : List V} {ts : List T} (ok : Ok M G H) (h : H p = none) (i : IsAll K G vs ts) : Go M G H (upd G p (.tup vs)) (upd H p (.tup vs)) ∧ Is K (upd G p (.tup vs)) (.ref p) (.tup ts) :=
  ⟨(Go.lay ok h).data h upd_same (ok.fresh h), .tup (SqT.of upd_same) (i.mono (Sub.upd (ok.fresh h)))⟩
theorem sim_tup {ta : TA} {a : TAx} (h : SimA K M E ta a) : SimE K M E (tTup ta) (gTup a) := fun τ q r e σ G H w Q hq hx =>
  h τ _ r e σ G H w _ (fun vs ts G1 H1 g1 i1 ⟨z, q1⟩ => ⟨by rw [i1.length]; exact z, fun p hp => by
    obtain ⟨g2, i2⟩ := tup_new (w.ok.go g1) hp i1
    exact hq _ (.sh _) _ _ (g1.trans g2) i2 q1⟩) hx
theorem sim_lst {ta : TA} {a : TAx} (h : SimA K M E ta a) : SimE K M E (tLst ta) (gLst a) := fun τ q r e σ G H w Q hq hx =>
  h τ _ r e σ G H w _ (fun vs ts G1 H1 g1 i1 ⟨z, q1⟩ => ⟨by rw [i1.length]; exact z, fun p hp => by
    obtain ⟨g2, i2⟩ := ol_new (w.ok.go g1) hp i1
    exact hq _ (.ol ts) _ _ (g1.trans g2) (i2.early g1) q1⟩) hx
/-! ### a def's promise, by trees -/
abbrev SpX := Mode → List T → (Sl → Prop) → (Xn → Prop) → Prop
def lift (K : PySem.W.Frag) (sp : SpX) : Sp := fun vs H Q E => ∃ M G ts q r, Ok M G H ∧ IsAll K G vs ts ∧ sp M ts q r ∧ (∀ v s G' H', Go M G H G' H' → Rs K G H G' H' v s → q s → Q v H') ∧ XP M G H E r
def gCall (M : Mode) (sp : SpX) (a : TAx) : TEx := fun τ q r => a τ (fun ts => sp M ts q r) r
theorem sim_call {sp : SpX} {ta : TA} {a : TAx} (ha : SimA K M E ta a) : SimE K M E (tCall (lift K sp) [] E ta) (gCall M sp a) := fun τ q r e σ G H w Q hq hx =>
  ha τ _ r e σ G H w _ (fun vs ts G1 H1 g1 i1 q1 => by
    rw [List.append_nil]
    exact ⟨M, G1, ts, q, r, w.ok.go g1, i1, q1, fun v s G2 H2 g2 rs qs => hq v s G2 H2 (g1.trans g2) (rs.early g1) qs, hx.go g1⟩) hx
/-- with keywords: p puts the values in the parameters' order -/
def gCallK (M : Mode) (sp : SpX) (p : List T → List T → List T) (a b : TAx) : TEx := fun τ q r => a τ (fun ts => b τ (fun us => sp M (p ts us) q r) r) r
theorem sim_callK {sp : SpX} {gV : List V → List V → List V} {p : List T → List T → List T} {ta tb : TA} {a b : TAx} (hp : ∀ G vs ts us ws, IsAll K G vs ts → IsAll K G us ws → IsAll K G (gV vs us) (p ts ws)) (ha : SimA K M E ta a) (hb : SimA K M E tb b) :
    SimE K M E (tCallK (lift K sp) gV E ta tb) (gCallK M sp p a b) := fun τ q r e σ G H w Q hq hx =>
  ha τ _ r e σ G H w _ (fun vs ts G1 H1 g1 i1 q1 => hb τ _ r q1 σ G1 H1 (w.go g1) _ (fun us ws G2 H2 g2 i2 q2 =>
    ⟨M, G2, p ts ws, q, r, (w.ok.go g1).go g2, hp _ _ _ _ _ (IsAll.mono g2.gg i1) i2, q2, fun v s G3 H3 g3 rs qs => hq v s G3 H3 ((g1.trans g2).trans g3) (rs.early (g1.trans g2)) qs, (hx.go g1).go g2⟩) (hx.go g1)) hx
end
end TL
namespace TL
open PySem PySem.Spec PyProof.Rows L2
variable [TheW]
/-! ### what is walked: a list, a tuple or a text, whichever it is -/
def iSeq (K : PySem.W.Frag) (te : TE) : TI := fun σ H R => te σ H fun x H1 =>
  (∃ a xs, x = .ref a ∧ SqL K H1 a xs ∧ R (Itl K a) H1) ∨ (∃ a xs, x = .ref a ∧ SqT K H1 a xs ∧ R (Itt K a) H1) ∨ ∃ z, x = .str z ∧ R (Its z) H1
theorem pi_seq {X : Cx} {tg e : Expr} {te : TE} (he : PE X e te) : PI X tg e (iSeq X.K te) := by
  refine ⟨fun pins s σ H R I h => thn (he.run pins s σ H _ I h) ?_⟩
  rintro v s1 ⟨x, H1, I1, r1, q1⟩
  rcases q1 with ⟨a, xs, rfl, hs, q⟩ | ⟨a, xs, rfl, hs, q⟩ | ⟨z, rfl, q⟩
  · obtain rfl : v = Value.ref a := r1
    obtain ⟨_, _, p, _⟩ := I1.list hs
    exact wpAny_pyIter_list p.isList (pi_one (tk := s1.toks) I1 _ (turn_list a _) ⟨_, Heap.get?_push_size _ rfl, rfl, rfl⟩ q)
  · obtain rfl : v = Value.ref a := r1
    obtain ⟨its, _, p, _⟩ := I1.tuple hs
    exact wpAny_pyIter_tuple (items := its.toArray) p (pi_one (tk := s1.toks) I1 _ (turn_tuple a _) ⟨_, Heap.get?_push_size _ rfl, rfl, rfl⟩ q)
  · obtain ⟨t, rfl⟩ := r1
    by_cases ha : z.cps.all (· < 128) = true
    · exact wpAny_pyIter_ascii ha (pi_one (tk := s1.toks) I1 _ (turn_str _ z t "str_ascii_iterator" (.inl rfl)) ⟨_, Heap.get?_push_size _ rfl, rfl, rfl⟩ q)
    · exact wpAny_pyIter_wide (by simpa using ha) (pi_one (tk := s1.toks) I1 _ (turn_str _ z t "str_iterator" (.inr rfl)) ⟨_, Heap.get?_push_size _ rfl, rfl, rfl⟩ q)
/-- the iterator J gives just these items, wherever G1 is data -/
def ItOk (K : PySem.W.Frag) (M : Mode) (G1 : Hp) (J : It) (items : List T) : Prop := ∀ G H, Sub G1 G → Ok M G H → ∀ i, (items.length ≤ i → J.stop i H) ∧
  ∀ t, items[i]? = some t → J.go i H ∧ ∀ x H', J.yld i H x H' → ∃ G', Go M G H G' H' ∧ Is K G' x t
abbrev TIx := List Sl → (List T → Prop) → (Xn → Prop) → Prop
def SimI (K : PySem.W.Frag) (M : Mode) (E : XK) (ti : TI) (g : TIx) : Prop :=
  ∀ τ q r, g τ q r → ∀ σ G H, W1 K M G H σ τ → ∀ R : It → Hp → Prop, (∀ J items G' H', Go M G H G' H' → ItOk K M G' J items → q items → R J H') → XP M G H E r → ti σ H R
/-- what a value gives when it is walked -/
def T.items : T → Option (List T)
  | .lst ts => some ts
  | .fls ts => some ts
  | .tup ts => some ts
  | .str z => some (z.cps.toList.map fun c => .str ⟨#[c]⟩)
  | _ => none
def oks {α : Type} (o : Option α) (k : α → Prop) : Prop := match o with
  | some a => k a
  | none => False
theorem oks_cases {α : Type} {o : Option α} {k : α → Prop} (h : oks o k) : ∃ a, o = some a ∧ k a := by
  cases o with
  | none => exact h.elim
  | some a => exact ⟨a, rfl, h⟩
section
variable {K : PySem.W.Frag} {M : Mode} {E : XK} {G H G' H' : Hp} {σ : List (Option V)} {τ : List Sl} {r : Xn → Prop}
theorem sqL_inj {a : Addr} {xs ys : List V} (h : SqL K H a xs) (h' : SqL K H a ys) : xs.length = ys.length → True := fun _ => trivial
theorem itok_list {a : Addr} {vs : List V} {ts : List T} (h : SqL K G a vs) (i : IsAll K G vs ts) : ItOk K M G (Itl K a) ts := fun G1 H1 s ok j => by
  have hs : SqL K H1 a vs := ok.sub.sqL (s.sqL h)
  refine ⟨fun hj => ⟨vs, hs, by rw [i.length]; exact hj⟩, fun t ht => ?_⟩
  obtain ⟨v, hv, iv⟩ := i.get ht
  refine ⟨⟨vs, v, hs, hv⟩, fun x H' y => ?_⟩
  obtain ⟨rfl, y⟩ := y
  have e := y vs hs
  rw [hv] at e
  cases e
  exact ⟨G1, .refl ok, iv.mono s⟩
theorem itok_tup {a : Addr} {vs : List V} {ts : List T} (h : SqT K G a vs) (i : IsAll K G vs ts) : ItOk K M G (Itt K a) ts := fun G1 H1 s ok j => by
  have hs : SqT K H1 a vs := ok.sub.sqT (s.sqT h)
  refine ⟨fun hj => ⟨vs, hs, by rw [i.length]; exact hj⟩, fun t ht => ?_⟩
  obtain ⟨v, hv, iv⟩ := i.get ht
  refine ⟨⟨vs, v, hs, hv⟩, fun x H' y => ?_⟩
  obtain ⟨rfl, y⟩ := y
  have e := y vs hs
  rw [hv] at e
  cases e
  exact ⟨G1, .refl ok, iv.mono s⟩
theorem itok_str {z : Str} : ItOk K M G (Its z) (z.cps.toList.map fun c => .str ⟨#[c]⟩) := fun G1 H1 s ok j => by
  refine ⟨fun hj => by show z.cps.size ≤ j; simpa using hj, fun t ht => ?_⟩
  rw [List.getElem?_map] at ht
  obtain ⟨c, hc, rfl⟩ := Option.map_eq_some_iff.mp ht
  have hz : j < z.cps.size := by simpa using (List.getElem?_eq_some_iff.mp hc).1
  refine ⟨hz, fun x H' y => ?_⟩
  obtain ⟨rfl, d, hd, rfl⟩ := y
  have e : z.cps[j]? = some c := by simpa using hc
  rw [e] at hd
  cases hd
  exact ⟨G1, .refl ok, .str⟩
theorem itok_range {lo : Int} {n : Nat} : ItOk K M G (Itr lo n) ((List.range n).map fun i => .int (lo + (i : Nat))) := fun G1 H1 s ok j => by
  refine ⟨fun hj => by show n ≤ j; simpa using hj, fun t ht => ?_⟩
  rw [List.getElem?_map] at ht
  obtain ⟨c, hc, rfl⟩ := Option.map_eq_some_iff.mp ht
  obtain ⟨h1, h2⟩ := List.getElem?_eq_some_iff.mp hc
  have hn : j < n := by simpa using h1
  have hj : j = c := by simpa using h2
  subst hj
  refine ⟨hn, fun x H' y => ?_⟩
  obtain ⟨rfl, rfl⟩ := y
  exact ⟨G1, .refl ok, .int⟩
def iWalk (a : TEx) : TIx := fun τ q r => a τ (fun s => oks s.fz.items q) r
theorem simi_seq {te : TE} {a : TEx} (ha : SimE K M E te a) : SimI K M E (iSeq K te) (iWalk a) := fun τ q r e σ G H w R hq hx =>
  ha.data e w (fun v G1 H1 s g1 i e1 => by
    obtain ⟨items, h1, k⟩ := oks_cases e1
    cases hs : s.fz with
    | lst ts =>
      rw [hs] at i h1
      cases h1
      cases i with
      | lst h r => exact .inl ⟨_, _, rfl, SqL.of (g1.sub _ _ h), hq _ _ G1 H1 g1 (itok_list (SqL.of h) r) k⟩
    | fls ts =>
      rw [hs] at i h1
      cases h1
      cases i with
      | fls h r => exact .inl ⟨_, _, rfl, g1.sub.sqL h, hq _ _ G1 H1 g1 (itok_list h r) k⟩
    | tup ts =>
      rw [hs] at i h1
      cases h1
      cases i with
      | tup h r => exact .inr (.inl ⟨_, _, rfl, g1.sub.sqT h, hq _ _ G1 H1 g1 (itok_tup h r) k⟩)
    | str z =>
      rw [hs] at i h1
      cases h1
      cases i
      exact .inr (.inr ⟨_, rfl, hq _ _ G1 H1 g1 itok_str k⟩)
    | _ => rw [hs] at h1; cases h1) hx
def rangeT (lo : Int) (n : Nat) : List T := (List.range n).map fun i => .int (lo + (i : Nat))
def iR1 (a : TAx) : TIx := fun τ q r => a τ (fun ts => match ts with
  | [.int j] => (-(2 ^ 62) ≤ j ∧ j < 2 ^ 62) ∧ q (rangeT 0 j.toNat)
  | _ => False) r
theorem simi_range1 {ta : TA} {a : TAx} (ha : SimA K M E ta a) : SimI K M E (iRng1 ta) (iR1 a) := fun τ q r e σ G H w R hq hx =>
  ha τ _ r e σ G H w _ (fun vs ts G1 H1 g1 i1 q1 => by
    split at q1
    · cases i1 with
      | cons i0 i1 => cases i1; cases i0; exact ⟨_, rfl, q1.1.1, q1.1.2, hq _ _ G1 H1 g1 itok_range q1.2⟩
    · exact q1.elim) hx
def iR2 (a : TAx) : TIx := fun τ q r => a τ (fun ts => match ts with
  | [.int i, .int j] => (-(2 ^ 62) ≤ i ∧ i < 2 ^ 62 ∧ -(2 ^ 62) ≤ j ∧ j < 2 ^ 62) ∧ q (rangeT i (j - i).toNat)
  | _ => False) r
theorem simi_range2 {ta : TA} {a : TAx} (ha : SimA K M E ta a) : SimI K M E (iRng2 ta) (iR2 a) := fun τ q r e σ G H w R hq hx =>
  ha τ _ r e σ G H w _ (fun vs ts G1 H1 g1 i1 q1 => by
    split at q1
    · cases i1 with
      | cons i0 i1 =>
        cases i1 with
        | cons i2 i1 => cases i1; cases i0; cases i2; exact ⟨_, _, rfl, q1.1, hq _ _ G1 H1 g1 itok_range q1.2⟩
    · exact q1.elim) hx
/-! ### targets -/
abbrev TGx := T → List Sl → (List Sl → Prop) → Prop
def SimG (K : PySem.W.Frag) (M : Mode) (is : List Nat) (tg : TG) (g : TGx) : Prop :=
  ∀ t τ q, g t τ q → ∀ x σ G H os, Is K G x t → En K G H σ τ os → Ok M G H → ∀ Q : L2.St → Hp → Prop,
    (∀ σ' τ' os', En K G H σ' τ' os' → (∀ a ∈ os', a ∈ os) → (∀ vs, (∀ i ∈ is, i ∈ vs) → wipe σ' vs = wipe σ vs) → q τ' → Q σ' H) → tg x σ H Q
theorem wipe_get (σ : L2.St) : ∀ (vs : List Nat) (j : Nat), (wipe σ vs)[j]? = if j ∈ vs ∧ j < σ.length then some none else σ[j]?
  | [], j => by simp [wipe]
  | v :: vs, j => by
    unfold wipe
    rw [List.getElem?_set, wipe_get σ vs j, wipe_length]
    by_cases h : v = j
    · subst h
      by_cases hl : v < σ.length
      · simp [hl]
      · simp [hl, List.getElem?_eq_none (Nat.le_of_not_lt hl)]
    · rw [if_neg h]
      simp only [List.mem_cons]
      by_cases hm : j ∈ vs
      · simp [hm]
      · simp [hm, Ne.symm h]
theorem wipe_set {σ : L2.St} {vs : List Nat} {i : Nat} {x : Option V} (h : i ∈ vs) : wipe (σ.set i x) vs = wipe σ vs := by
  apply List.ext_getElem?
  intro j
  rw [wipe_get, wipe_get, List.length_set, List.getElem?_set]
  by_cases hj : j ∈ vs ∧ j < σ.length
  · rw [if_pos hj, if_pos hj]
  · rw [if_neg hj, if_neg hj]
    by_cases e : i = j
    · subst e
      have hl : ¬ i < σ.length := fun hl => hj ⟨h, hl⟩
      simp [hl, List.getElem?_eq_none (Nat.le_of_not_lt hl)]
    · rw [if_neg e]
theorem wipe_wipe {σ : L2.St} {vs : List Nat} : wipe (wipe σ vs) vs = wipe σ vs := by
  apply List.ext_getElem?
  intro j
  rw [wipe_get, wipe_get, wipe_length]
  by_cases hj : j ∈ vs ∧ j < σ.length
  · rw [if_pos hj, if_pos hj]
  · rw [if_neg hj, if_neg hj]
def wipeS (τ : List Sl) : List Nat → List Sl
  | [] => τ
  | v :: vs => (wipeS τ vs).set v .no
theorem En.wipe {os : List Addr} (e : En K G H σ τ os) : ∀ vs : List Nat, ∃ os', En K G H (L2.wipe σ vs) (wipeS τ vs) os' ∧ ∀ a ∈ os', a ∈ os
  | [] => ⟨os, e, fun _ h => h⟩
  | v :: vs => by
    obtain ⟨o1, e1, h1⟩ := e.wipe vs
    obtain ⟨o2, e2, h2⟩ := e1.forget v none
    exact ⟨o2, e2, fun a h => h1 a (h2 a h)⟩
def xName (i : Nat) : TGx := fun t τ q => q (τ.set i (.sh t))
theorem set_set {α : Type} {l : List α} {i : Nat} {x y : α} : (l.set i x).set i y = l.set i y := by
  apply List.ext_getElem?
  intro j
  simp only [List.getElem?_set, List.length_set]
  by_cases h : i = j <;> simp [h]
theorem set_out {α : Type} {l : List α} {i : Nat} {x : α} (h : ¬ i < l.length) : l.set i x = l := by
  apply List.ext_getElem?
  intro j
  rw [List.getElem?_set]
  by_cases e : i = j
  · subst e; simp [h, List.getElem?_eq_none (Nat.le_of_not_lt h)]
  · simp [e]
/-- data into a slot -/
theorem En.data {os : List Addr} (e : En K G H σ τ os) (i : Nat) {v : V} {t : T} (h : Is K G v t) : ∃ os', En K G H (σ.set i (some v)) (τ.set i (.sh t)) os' ∧ ∀ a ∈ os', a ∈ os := by
  obtain ⟨o1, e1, h1⟩ := e.forget i (some v)
  by_cases hl : i < τ.length
  · have e2 := e1.putS (i := i) (v := v) (t := t) (by simp [hl]) h
    rw [set_set, set_set] at e2
    exact ⟨o1, e2, h1⟩
  · rw [set_out hl, set_out (by rw [e.length]; exact hl)]
    exact ⟨os, e, fun _ h => h⟩
theorem simg_name {i : Nat} : SimG K M [i] (gName i) (xName i) := fun t τ q e x σ G H os ix en ok Q hq => by
  obtain ⟨o1, e1, h1⟩ := en.data i ix
  exact hq _ _ o1 e1 h1 (fun vs h => wipe_set (h i (by simp))) e
abbrev TGsx := List T → List Sl → (List Sl → Prop) → Prop
def SimGs (K : PySem.W.Frag) (M : Mode) (is : List Nat) (tg : TGs) (g : TGsx) : Prop :=
  ∀ ts τ q, g ts τ q → ∀ xs σ G H os, IsAll K G xs ts → En K G H σ τ os → Ok M G H → ∀ Q : L2.St → Hp → Prop,
    (∀ σ' τ' os', En K G H σ' τ' os' → (∀ a ∈ os', a ∈ os) → (∀ vs, (∀ i ∈ is, i ∈ vs) → wipe σ' vs = wipe σ vs) → q τ' → Q σ' H) → tg xs σ H Q
def xsNil : TGsx := fun ts τ q => ts = [] ∧ q τ
def xsCons (a : TGx) (b : TGsx) : TGsx := fun ts τ q => match ts with
  | t :: ts => a t τ fun τ' => b ts τ' q
  | [] => False
theorem simgs_nil : SimGs K M [] gNil xsNil := fun ts τ q e xs σ G H os ix en ok Q hq => by
  obtain ⟨rfl, e⟩ := e
  cases ix
  exact ⟨rfl, hq σ τ os en (fun _ h => h) (fun _ _ => rfl) e⟩
theorem simgs_cons {is js : List Nat} {t : TG} {u : TGs} {a : TGx} {b : TGsx} (ha : SimG K M is t a) (hb : SimGs K M js u b) : SimGs K M (is ++ js) (gCons t u) (xsCons a b) := fun ts τ q e xs σ G H os ix en ok Q hq => by
  cases ts with
  | nil => exact e.elim
  | cons t0 ts =>
    cases ix with
    | cons i0 ix =>
      refine ⟨_, _, rfl, ha t0 τ _ e _ σ G H os i0 en ok _ fun σ1 τ1 os1 e1 h1 w1 q1 => hb ts τ1 q q1 _ σ1 G H os1 ix e1 ok Q fun σ2 τ2 os2 e2 h2 w2 q2 => hq σ2 τ2 os2 e2 (fun a h => h1 a (h2 a h)) (fun vs h => ?_) q2⟩
      rw [w2 vs fun i hi => h i (List.mem_append_right _ hi), w1 vs fun i hi => h i (List.mem_append_left _ hi)]
def xTup (n : Nat) (b : TGsx) : TGx := fun t τ q => match t with
  | .tup ts => ts.length = n ∧ b ts τ q
  | _ => False
theorem simg_tup {n : Nat} {is : List Nat} {u : TGs} {b : TGsx} (hb : SimGs K M is u b) : SimG K M is (L2.gTup K n u) (xTup n b) := fun t τ q e x σ G H os ix en ok Q hq => by
  cases t with
  | tup ts =>
    obtain ⟨e1, e2⟩ := e
    cases ix with
    | tup h i => exact ⟨_, _, rfl, ok.sub.sqT h, by rw [i.length]; exact e1, hb ts τ q e2 _ σ G H os i en ok Q hq⟩
  | _ => exact e.elim
/-! ### comprehensions -/
/-- no exception -/
def rF : Xn → Prop := fun _ => False
theorem xp_F {E : XK} : XP M G H E rF := fun _ _ _ _ _ _ _ h => h.elim
def lcR (g : TGx) (tt : TTx) (te : TEx) (τ : List Sl) (q : List T → Prop) : List T → List T → Prop
  | [], acc => q acc
  | t :: ts, acc => g t τ fun τ2 => tt τ2 (fun b => if b = true then te τ2 (fun s => acc.length < sizeLine ∧ lcR g tt te τ q ts (acc ++ [s.fz])) rF else lcR g tt te τ q ts acc) rF
def gLc (vs : List Nat) (src : TIx) (g : TGx) (tt : TTx) (te : TEx) : TEx := fun τ q r => src τ (fun items => lcR g tt te (wipeS τ vs) (fun ts => q (.ol ts)) items []) r
def gYes : TTx := fun _ q _ => q true
theorem simt_yes : SimT K M E tYes gYes := fun τ q r e σ G H w Q hq _ => hq true G H (.refl w.ok) e
theorem sim_lc {ti : TI} {tg : TG} {tt : TT} {te : TE} {vs is : List Nat} {src : TIx} {g : TGx} {gt : TTx} {ge : TEx} (hi : SimI K M E ti src) (hg : SimG K M is tg g) (ht : SimT K M L2.E0 tt gt) (he : SimE K M L2.E0 te ge) (hv : ∀ i ∈ is, i ∈ vs) :
    SimE K M E (tLc ti tg tt te vs) (gLc vs src g gt ge) := fun τ q r e σ G H w Q hq hx =>
  hi τ _ r e σ G H w _ (fun J items G1 H1 g1 hJ e1 D hD => by
    have ok1 := w.ok.go g1
    refine ⟨fun i m H' => m = items.length - i ∧ i ≤ items.length ∧ ∃ G' vs' ts, H' D = some (.lst vs') ∧ G' D = none ∧ IsAll K G' vs' ts ∧ Go M G1 H1 G' H' ∧ lcR g gt ge (wipeS τ vs) (fun ts => q (.ol ts)) (items.drop i) ts,
      ⟨items.length, rfl, Nat.zero_le _, G1, [], [], upd_same, ok1.fresh hD, .nil, .lay ok1 hD, e1⟩, ?_⟩
    rintro i m H' ⟨rfl, hi, G', vs', ts, hD', nD', ia, g', el⟩
    have ok' := ok1.go g'
    obtain ⟨hst, hgo⟩ := hJ G' H' g'.gg ok' i
    by_cases hlt : i < items.length
    · refine .inr ⟨?_, fun H'' => ∃ m', m' < items.length - i ∧ (m' = items.length - (i + 1) ∧ i + 1 ≤ items.length ∧ ∃ G' vs' ts, H'' D = some (.lst vs') ∧ G' D = none ∧ IsAll K G' vs' ts ∧ Go M G1 H1 G' H'' ∧ lcR g gt ge (wipeS τ vs) (fun ts => q (.ol ts)) (items.drop (i + 1)) ts), fun H'' h => h, ?_⟩
      · exact (hgo items[i] (by simp [hlt])).1
      · intro x H'' y
        obtain ⟨G2, g2, ix⟩ := (hgo items[i] (by simp [hlt])).2 x H'' y
        rw [List.drop_eq_getElem_cons hlt] at el
        obtain ⟨os, en, hs⟩ := w.en
        have en2 := en.go hs ((g1.trans g').trans g2)
        obtain ⟨os', en3, ho⟩ := en2.wipe vs
        refine hg _ _ _ el x _ G2 H'' os' ix en3 (ok'.go g2) _ fun σ4 τ4 os4 en4 ho4 hw4 q4 => ⟨by rw [hw4 vs hv, wipe_wipe], ?_⟩
        have w4 : W1 K M G2 H'' σ4 τ4 := ⟨⟨os4, en4, fun a h => hs a (ho a (ho4 a h))⟩, ok'.go g2⟩
        refine ht _ _ rF q4 σ4 G2 H'' w4 _ (fun b G5 H5 g5 q5 => ?_) xp_F
        have nS : ¬ M.S D := ok1.noS hD
        have g25 := g2.trans g5
        have hD5 : H5 D = some (.lst vs') := g25.keep D _ nS hD'
        cases b with
        | true =>
          rw [if_pos rfl] at q5
          rw [if_pos rfl]
          refine he.data q5 (w4.go g5) (fun y G6 H6 s6 g6 i6 ⟨z6, q6⟩ => ?_) xp_F
          have g26 := g25.trans g6
          have hD6 : H6 D = some (.lst vs') := g26.keep D _ nS hD'
          have n6 : G6 D = none := g26.new D nD' (by rw [hD']; simp)
          refine ⟨vs', hD6, by rw [ia.length]; exact z6, items.length - (i + 1), by omega, rfl, hlt, G6, vs' ++ [y], ts ++ [s6.fz], upd_same, n6, (ia.mono g26.gg).append (.one i6), (g'.trans g26).write ok1 hD hD6 (.inl ⟨_, rfl⟩) n6, q6⟩
        | false =>
          rw [if_neg (by decide)] at q5
          rw [if_neg (by decide)]
          exact ⟨items.length - (i + 1), by omega, rfl, hlt, G5, vs', ts, hD5, g25.new D nD' (by rw [hD']; simp), ia.mono g25.gg, g'.trans g25, q5⟩
    · have e : i = items.length := by omega
      subst e
      rw [List.drop_length] at el
      exact .inl ⟨hst (Nat.le_refl _), hq (.ref D) (.ol ts) G' H' (g1.trans g') ⟨D, .lst vs', rfl, g1.back hD, hD', nD', .l ia⟩ el⟩) hx
end
end TL
namespace TL
open PySem PySem.Spec PyProof.Rows L2
variable [TheW]
/-! ### statements -/
structure Kn where
  nx : List Sl → Prop
  rt : Sl → Prop
  bk : List Sl → Prop := fun _ => False
  ct : List Sl → Prop := fun _ => False
  ex : Xn → Prop
abbrev TSx := List Sl → Kn → Prop
/-- the state within a def entered at (G0, H0) -/
structure W2 (K : PySem.W.Frag) (M : Mode) (G0 H0 G H : Hp) (σ : List (Option V)) (τ : List Sl) : Prop where
  en : ∃ os, En K G H σ τ os ∧ ∀ a ∈ os, H0 a = none
  go : Go M G0 H0 G H
structure DOk (K : PySem.W.Frag) (M : Mode) (E : XK) (G0 H0 Gb : Hp) (D : Ends) (k : Kn) : Prop where
  nx : ∀ σ τ G H, W2 K M G0 H0 G H σ τ → Sub Gb G → k.nx τ → D.nx σ H
  rt : ∀ v s G H, Go M G0 H0 G H → Rs K G0 H0 G H v s → k.rt s → D.rt v H
  bk : ∀ σ τ G H, W2 K M G0 H0 G H σ τ → Sub Gb G → k.bk τ → D.bk σ H
  ct : ∀ σ τ G H, W2 K M G0 H0 G H σ τ → Sub Gb G → k.ct τ → D.ct σ H
  ex : XP M G0 H0 E k.ex
theorem DOk.mono {K : PySem.W.Frag} {M : Mode} {E : XK} {G0 H0 Gb Gc : Hp} {D : Ends} {k : Kn} (d : DOk K M E G0 H0 Gb D k) (s : Sub Gb Gc) : DOk K M E G0 H0 Gc D k :=
  ⟨fun σ τ G H w z => d.nx σ τ G H w (s.trans z), d.rt, fun σ τ G H w z => d.bk σ τ G H w (s.trans z), fun σ τ G H w z => d.ct σ τ G H w (s.trans z), d.ex⟩
def SimS (K : PySem.W.Frag) (M : Mode) (E : XK) (ts : TS) (g : TSx) : Prop :=
  ∀ G0 H0, Ok M G0 H0 → ∀ τ k, g τ k → ∀ σ G H, W2 K M G0 H0 G H σ τ → ∀ D, DOk K M E G0 H0 G D k → ts D σ H
section
variable {K : PySem.W.Frag} {M : Mode} {E : XK} {G0 H0 G H G' H' : Hp} {σ : List (Option V)} {τ : List Sl} {r : Xn → Prop}
theorem W2.w1 (w : W2 K M G0 H0 G H σ τ) (ok : Ok M G0 H0) : W1 K M G H σ τ :=
  let ⟨os, e, h⟩ := w.en
  ⟨⟨os, e, fun a ha => ok.noS (h a ha)⟩, ok.go w.go⟩
theorem W2.next (w : W2 K M G0 H0 G H σ τ) (ok : Ok M G0 H0) (g : Go M G H G' H') : W2 K M G0 H0 G' H' σ τ :=
  let ⟨os, e, h⟩ := w.en
  ⟨⟨os, e.go (fun a ha => ok.noS (h a ha)) g, h⟩, w.go.trans g⟩
theorem XP.at (x : XP M G0 H0 E r) (g : Go M G0 H0 G H) : XP M G H E r := x.go g
/-- a result into a slot -/
theorem W2.put (w : W2 K M G0 H0 G H σ τ) (ok : Ok M G0 H0) (i : Nat) {v : V} {s : Sl} (g : Go M G H G' H') (rs : Rs K G H G' H' v s) : W2 K M G0 H0 G' H' (σ.set i (some v)) (τ.set i s) := by
  obtain ⟨os, e0, h⟩ := w.en
  have e := e0.go (fun a ha => ok.noS (h a ha)) g
  refine ⟨?_, w.go.trans g⟩
  cases s with
  | no => exact rs.elim
  | sh t =>
    obtain ⟨o1, e1, h1⟩ := e.data i (show Is K G' v t from rs)
    exact ⟨o1, e1, fun a ha => h a (h1 a ha)⟩
  | oo c =>
    obtain ⟨a, o, rfl, ha, hl, hn, ia⟩ := rs
    obtain ⟨o1, e1, h1⟩ := e.forget i (some (.ref a))
    by_cases hi : i < τ.length
    · obtain ⟨o2, e2, h2⟩ := e1.putO (i := i) (by simp [hi]) hl hn ia (fun z => (e0.own a (h1 a z)).2 ha)
      rw [set_set, set_set] at e2
      exact ⟨o2, e2, fun b hb => (h2 b hb).elim (fun z => by rw [z]; exact w.go.back ha) fun z => h b (h1 b z)⟩
    · rw [set_out hi, set_out (by rw [e.length]; exact hi)]
      exact ⟨os, e, h⟩
theorem Rs.at0 {v : V} {s : Sl} (rs : Rs K G H G' H' v s) (g : Go M G0 H0 G H) : Rs K G0 H0 G' H' v s := rs.early g
def sNext : TSx := fun τ k => k.nx τ
def sSeq (a b : TSx) : TSx := fun τ k => a τ { k with nx := fun τ' => b τ' k }
theorem sims_next : SimS K M E tNext sNext := fun G0 H0 ok τ k e σ G H w D d => d.nx σ τ G H w (.refl _) e
theorem sims_seq {t u : TS} {a b : TSx} (ha : SimS K M E t a) (hb : SimS K M E u b) : SimS K M E (tSeq t u) (sSeq a b) := fun G0 H0 ok τ k e σ G H w D d =>
  ha G0 H0 ok τ _ e σ G H w _ ⟨fun σ1 τ1 G1 H1 w1 z e1 => hb G0 H0 ok τ1 k e1 σ1 G1 H1 w1 D (d.mono z), d.rt, d.bk, d.ct, d.ex⟩
def sBrk : TSx := fun τ k => k.bk τ
def sCnt : TSx := fun τ k => k.ct τ
theorem sims_brk : SimS K M E tBreak sBrk := fun G0 H0 ok τ k e σ G H w D d => d.bk σ τ G H w (.refl _) e
theorem sims_cnt : SimS K M E tCont sCnt := fun G0 H0 ok τ k e σ G H w D d => d.ct σ τ G H w (.refl _) e
def sSet (i : Nat) (a : TEx) : TSx := fun τ k => a τ (fun s => k.nx (τ.set i s)) k.ex
theorem sims_set {i : Nat} {te : TE} {a : TEx} (ha : SimE K M E te a) : SimS K M E (tAsg te (gName i)) (sSet i a) := fun G0 H0 ok τ k e σ G H w D d =>
  ha τ _ _ e σ G H (w.w1 ok) _ (fun v s G1 H1 g rs q => d.nx _ _ G1 H1 (w.put ok i g rs) g.gg q) (d.ex.at w.go)
/-- targets of other forms -/
def sAsg (a : TEx) (g : TGx) : TSx := fun τ k => a τ (fun s => g s.fz τ k.nx) k.ex
theorem sims_asg {te : TE} {a : TEx} {is : List Nat} {tg : TG} {g : TGx} (ha : SimE K M E te a) (hg : SimG K M is tg g) : SimS K M E (tAsg te tg) (sAsg a g) := fun G0 H0 ok τ k e σ G H w D d =>
  ha.data e (w.w1 ok) (fun v G1 H1 s g1 i q => by
    obtain ⟨os, e0, h⟩ := w.en
    have e1 := e0.go (fun a ha => ok.noS (h a ha)) g1
    exact hg _ τ _ q v σ G1 H1 os i e1 (ok.go (w.go.trans g1)) _ fun σ2 τ2 os2 e2 h2 _ q2 => d.nx _ _ G1 H1 ⟨⟨os2, e2, fun a ha => h a (h2 a ha)⟩, w.go.trans g1⟩ g1.gg q2) (d.ex.at w.go)
def sIf (c : TTx) (a b : TSx) : TSx := fun τ k => c τ (fun d => if d = true then a τ k else b τ k) k.ex
theorem sims_if {tc : TT} {t u : TS} {c : TTx} {a b : TSx} (hc : SimT K M E tc c) (ha : SimS K M E t a) (hb : SimS K M E u b) : SimS K M E (tIfS tc t u) (sIf c a b) := fun G0 H0 ok τ k e σ G H w D d =>
  hc τ _ _ e σ G H (w.w1 ok) _ (fun c G1 H1 g q => by
    cases c with
    | true => exact ha G0 H0 ok τ k (by simpa using q) σ G1 H1 (w.next ok g) D (d.mono g.gg)
    | false => exact hb G0 H0 ok τ k (by simpa using q) σ G1 H1 (w.next ok g) D (d.mono g.gg)) (d.ex.at w.go)
def sRet (a : TEx) : TSx := fun τ k => a τ k.rt k.ex
theorem sims_ret {te : TE} {a : TEx} (ha : SimE K M E te a) : SimS K M E (tRet te) (sRet a) := fun G0 H0 ok τ k e σ G H w D d =>
  ha τ _ _ e σ G H (w.w1 ok) _ (fun v s G1 H1 g rs q => d.rt v s G1 H1 (w.go.trans g) (rs.at0 w.go) q) (d.ex.at w.go)
/-- return x, x an own list perhaps -/
def sRetV (i : Nat) : TSx := fun τ k => match τ[i]? with
  | some (.sh t) => k.rt (.sh t)
  | some (.oo c) => k.rt (.oo c)
  | _ => False
theorem sims_retV {i : Nat} : SimS K M E (tRet (tVar i)) (sRetV i) := fun G0 H0 ok τ k e σ G H w D d => by
  unfold sRetV at e
  obtain ⟨os, en, h⟩ := w.en
  split at e
  · rename_i t ht
    obtain ⟨v, h1, h2⟩ := en.get ht
    exact ⟨v, h1, d.rt v (.sh t) G H w.go h2 e⟩
  · rename_i c hc
    obtain ⟨a, o, h1, h2, h3, h4, h5, _⟩ := en.getO hc
    exact ⟨_, h1, d.rt _ (.oo c) G H w.go ⟨a, o, rfl, h a h2, h3, h4, h5⟩ e⟩
  · exact e.elim
/-- return a if c else b: each by itself -/
theorem sims_retIf {tc : TT} {ta tb : TE} {c : TTx} {a b : TSx} (hc : SimT K M E tc c) (ha : SimS K M E (tRet ta) a) (hb : SimS K M E (tRet tb) b) : SimS K M E (tRet (tIf tc ta tb)) (sIf c a b) := sims_if (t := tRet ta) (u := tRet tb) hc ha hb
def sRetN : TSx := fun τ k => k.rt (.sh .non)
theorem sims_retN : SimS K M E tRetN sRetN := fun G0 H0 ok τ k e σ G H w D d => d.rt _ (.sh .non) G H w.go .non e
def sDrop (a : TEx) : TSx := fun τ k => a τ (fun _ => k.nx τ) k.ex
theorem sims_drop {te : TE} {a : TEx} (ha : SimE K M E te a) : SimS K M E (tDrop te) (sDrop a) := fun G0 H0 ok τ k e σ G H w D d =>
  ha τ _ _ e σ G H (w.w1 ok) _ (fun v s G1 H1 g rs q => d.nx _ _ G1 H1 (w.next ok g) g.gg q) (d.ex.at w.go)
def sRaise (C : Addr) : TSx := fun τ k => k.ex ⟨.ref C, none⟩
theorem sims_raise {C : Addr} : SimS K M E (fun _ _ H => E (.ref C) none H) (sRaise C) := fun G0 H0 ok τ k e σ G H w D d => d.ex _ _ _ G H w.go ⟨rfl, rfl⟩ e
/-- x.append(e) -/
def sApp (i : Nat) (a : TEx) : TSx := fun τ k => a τ (fun s => match τ[i]? with
  | some (.oo (.l ts)) => ts.length < sizeLine ∧ k.nx (τ.set i (.ol (ts ++ [s.fz])))
  | _ => False) k.ex ∧ ∃ ts, τ[i]? = some (.ol ts)
theorem W2.ol (w : W2 K M G0 H0 G H σ τ) (ok : Ok M G0 H0) {i : Nat} {ts : List T} (h : τ[i]? = some (.ol ts)) : ∃ a vs, σ[i]? = some (some (.ref a)) ∧ H a = some (.lst vs) ∧ IsAll K G vs ts ∧
    ∀ vs' ts', IsAll K G vs' ts' → W2 K M G0 H0 G (upd H a (.lst vs')) σ (τ.set i (.ol ts')) := by
  obtain ⟨os, en, ho⟩ := w.en
  obtain ⟨a, vs, h1, h2, h3, h4, h5, h6⟩ := en.getL h
  exact ⟨a, vs, h1, h3, h5, fun vs' ts' z => ⟨⟨os, h6 vs' ts' z, ho⟩, w.go.write ok (ho a h2) h3 (.inl ⟨_, rfl⟩) h4⟩⟩
theorem sims_app {i : Nat} {te : TE} {a : TEx} (ha : SimE K M E te a) : SimS K M E (tDrop (tBM K "list" rAppend (tVar i) (tCons te tNil))) (sApp i a) := fun G0 H0 ok τ k e σ G H w D d => by
  obtain ⟨e, ts, ht⟩ := e
  obtain ⟨p, vs, h1, h2, h3, _⟩ := w.ol ok ht
  refine ⟨_, h1, .inl ⟨rfl, _, SqL.of h2⟩, ha.data e (w.w1 ok) (fun v G1 H1 s g i1 q => ?_) (d.ex.at w.go)⟩
  rw [ht] at q
  obtain ⟨q1, q2⟩ := q
  obtain ⟨p', vs', h1', h2', h3', h4'⟩ := (w.next ok g).ol ok ht
  rw [h1] at h1'
  obtain rfl : p = p' := by simpa using h1'
  exact ⟨p, vs', v, rfl, rfl, h2', by rw [h3'.length]; exact q1, d.nx _ _ _ _ (h4' (vs' ++ [v]) (ts ++ [s.fz]) (h3'.append (.one i1))) g.gg q2⟩
/-- x.extend(e) -/
def rExtS (K : PySem.W.Frag) : V → List V → Hp → VK → Prop := rExtend
/-! ### loops -/
def forR (g : TGx) (b : TSx) (k : Kn) : List T → List Sl → Prop
  | [], τ => k.nx τ
  | t :: ts, τ => g t τ fun τ2 => b τ2 { k with nx := forR g b k ts, ct := forR g b k ts, bk := k.nx }
def sFor (src : TIx) (g : TGx) (b : TSx) : TSx := fun τ k => src τ (fun items => forR g b k items τ) k.ex
theorem sims_for {ti : TI} {tg : TG} {tb : TS} {is : List Nat} {src : TIx} {g : TGx} {b : TSx} (hi : SimI K M E ti src) (hg : SimG K M is tg g) (hb : SimS K M E tb b) : SimS K M E (tFor ti tg tb) (sFor src g b) := fun G0 H0 ok τ k e σ G H w D d =>
  hi τ _ _ e σ G H (w.w1 ok) _ (fun J items G1 H1 g1 hJ e1 => by
    refine ⟨fun i m σ' H' => m = items.length - i ∧ i ≤ items.length ∧ ∃ G' τ', W2 K M G0 H0 G' H' σ' τ' ∧ Sub G1 G' ∧ forR g b k (items.drop i) τ', ⟨items.length, rfl, Nat.zero_le _, G1, τ, w.next ok g1, .refl _, e1⟩, ?_⟩
    rintro i m σ' H' ⟨rfl, hi, G', τ', w', hs, el⟩
    obtain ⟨hst, hgo⟩ := hJ G' H' hs (ok.go w'.go) i
    by_cases hlt : i < items.length
    · refine .inr ⟨(hgo items[i] (by simp [hlt])).1, fun σ'' H'' => ∃ G' τ', W2 K M G0 H0 G' H'' σ'' τ' ∧ Sub G1 G' ∧ forR g b k (items.drop (i + 1)) τ', fun σ'' H'' ⟨G', τ', h⟩ => ⟨items.length - (i + 1), by omega, rfl, hlt, G', τ', h⟩, fun x H'' y => ?_⟩
      obtain ⟨G2, g2, ix⟩ := (hgo items[i] (by simp [hlt])).2 x H'' y
      rw [List.drop_eq_getElem_cons hlt] at el
      obtain ⟨os, en, ho⟩ := w'.en
      have en2 := en.go (fun a ha => ok.noS (ho a ha)) g2
      refine hg _ _ _ el x σ' G2 H'' os ix en2 (ok.go (w'.go.trans g2)) _ fun σ4 τ4 os4 en4 ho4 _ q4 => ?_
      have w4 : W2 K M G0 H0 G2 H'' σ4 τ4 := ⟨⟨os4, en4, fun a h => ho a (ho4 a h)⟩, w'.go.trans g2⟩
      refine hb G0 H0 ok τ4 _ q4 σ4 G2 H'' w4 _ ⟨fun σ5 τ5 G5 H5 w5 z5 q5 => ⟨G5, τ5, w5, (hs.trans g2.gg).trans z5, q5⟩, d.rt, fun σ5 τ5 G5 H5 w5 z5 q5 => d.nx σ5 τ5 G5 H5 w5 (((g1.gg.trans hs).trans g2.gg).trans z5) q5, fun σ5 τ5 G5 H5 w5 z5 q5 => ⟨G5, τ5, w5, (hs.trans g2.gg).trans z5, q5⟩, d.ex⟩
    · have e : i = items.length := by omega
      subst e
      rw [List.drop_length] at el
      exact .inl ⟨hst (Nat.le_refl _), d.nx σ' τ' G' H' w' (g1.gg.trans hs) el⟩) (d.ex.at w.go)
/-- while: a word of the slots and a number that falls -/
def sWhile (c : TTx) (b : TSx) : TSx := fun τ k => ∃ I : Nat → List Sl → Prop, (∃ m, I m τ) ∧ ∀ m τ, I m τ → c τ (fun d => if d = true then b τ { k with nx := fun τ' => ∃ m', m' < m ∧ I m' τ', ct := fun τ' => ∃ m', m' < m ∧ I m' τ', bk := k.nx } else k.nx τ) k.ex
theorem sims_while {tc : TT} {tb : TS} {c : TTx} {b : TSx} (hc : SimT K M E tc c) (hb : SimS K M E tb b) : SimS K M E (tWhile tc tb) (sWhile c b) := fun G0 H0 ok τ k e σ G H w D d => by
  obtain ⟨I, ⟨m0, i0⟩, turn⟩ := e
  refine ⟨fun m σ' H' => ∃ G' τ', W2 K M G0 H0 G' H' σ' τ' ∧ Sub G G' ∧ I m τ', ⟨m0, G, τ, w, .refl _, i0⟩, ?_⟩
  rintro m σ' H' ⟨G', τ', w', hs, im⟩
  refine hc τ' _ _ (turn m τ' im) σ' G' H' (w'.w1 ok) _ (fun c G1 H1 g q => ?_) (d.ex.at w'.go)
  cases c with
  | true =>
    rw [if_pos rfl] at q
    rw [if_pos rfl]
    refine ⟨fun σ'' H'' => ∃ m', m' < m ∧ ∃ G' τ', W2 K M G0 H0 G' H'' σ'' τ' ∧ Sub G G' ∧ I m' τ', fun σ'' H'' h => h, ?_⟩
    refine hb G0 H0 ok τ' _ q σ' G1 H1 (w'.next ok g) _ ⟨fun σ5 τ5 G5 H5 w5 z5 ⟨m', h1, h2⟩ => ⟨m', h1, G5, τ5, w5, (hs.trans g.gg).trans z5, h2⟩, d.rt, fun σ5 τ5 G5 H5 w5 z5 q5 => d.nx σ5 τ5 G5 H5 w5 ((hs.trans g.gg).trans z5) q5, fun σ5 τ5 G5 H5 w5 z5 ⟨m', h1, h2⟩ => ⟨m', h1, G5, τ5, w5, (hs.trans g.gg).trans z5, h2⟩, d.ex⟩
  | false =>
    rw [if_neg (by decide)] at q
    rw [if_neg (by decide)]
    exact d.nx _ _ _ _ (w'.next ok g) (hs.trans g.gg) q
/-! ### an own list looked at, made data for good -/
def Sl.froz : Sl → Sl
  | .oo c => .sh c.fz
  | s => s
theorem En.frz {os : List Addr} (e : En K G H σ τ os) (sg : Sub G H) : ∃ Gf, Sub G Gf ∧ Sub Gf H ∧ (∀ a, G a = none → a ∉ os → Gf a = none) ∧ En K Gf H σ (τ.map Sl.froz) [] := by
  induction e with
  | nil => exact ⟨G, .refl _, sg, fun _ h _ => h, .nil⟩
  | no e ih =>
    obtain ⟨Gf, h1, h2, h3, h4⟩ := ih
    exact ⟨Gf, h1, h2, h3, .no h4⟩
  | sh i e ih =>
    obtain ⟨Gf, h1, h2, h3, h4⟩ := ih
    exact ⟨Gf, h1, h2, h3, .sh (i.mono h1) h4⟩
  | @oo a o c σ τ os q1 q2 q3 q4 e ih =>
    obtain ⟨Gf, h1, h2, h3, h4⟩ := ih
    have n := h3 a q2 q4
    refine ⟨upd Gf a o, h1.trans (Sub.upd n), fun b o z => ?_, fun b z k => ?_, .sh (q3.data (h1.trans (Sub.upd n)) upd_same) (h4.mono (Sub.upd n) (fun _ h => nomatch h) fun _ h => nomatch h)⟩
    · by_cases hb : b = a
      · subst hb; rw [upd_same] at z; cases z; exact q1
      · rw [upd_ne hb] at z; exact h2 b o z
    · rw [upd_ne fun y => k (by rw [y]; exact List.mem_cons_self)]
      exact h3 b z fun y => k (List.mem_cons_of_mem _ y)
def Sl.scl : Sl → Prop
  | .sh .non | .sh (.bl _) | .sh (.int _) | .sh (.str _) => True
  | _ => False
theorem W1.frz (w : W1 K M G H σ τ) : ∃ Gf, Sub G Gf ∧ W1 K M Gf H σ (τ.map Sl.froz) := by
  obtain ⟨os, e, hs⟩ := w.en
  obtain ⟨Gf, h1, h2, h3, h4⟩ := e.frz w.ok.sub
  exact ⟨Gf, h1, ⟨[], h4, fun _ h => nomatch h⟩, h2, w.ok.j, fun a h => h3 a (w.ok.s a h) fun z => hs a z h, w.ok.u⟩
/-- a plain value made of own lists too -/
def gBor (a : TEx) : TEx := fun τ q r => a (τ.map Sl.froz) (fun s => s.scl ∧ q s) r
theorem sim_bor {te : TE} {a : TEx} (ha : SimE K M E te a) : SimE K M E te (gBor a) := fun τ q r e σ G H w Q hq hx => by
  obtain ⟨Gf, h1, wf⟩ := w.frz
  have dn : ∀ {G' H'}, Go M Gf H G' H' → Go M G H G H' := fun g => ⟨.refl _, fun a o z => g.sub a o (g.gg a o (h1 a o z)), g.keep, g.there, fun _ h _ => h, g.j⟩
  refine ha _ _ r e σ Gf H wf Q (fun v s G1 H1 g rs ⟨z, q1⟩ => hq v s G H1 (dn g) ?_ q1) fun x c d G1 H1 g => hx x c d G H1 (dn g)
  cases s with
  | sh t =>
    have rs' : Is K G1 v t := rs
    cases t with
    | non => cases rs'; exact .non
    | bl b => cases rs'; exact .bl
    | int b => cases rs'; exact .int
    | str b => cases rs'; exact .str
    | _ => exact z.elim
  | _ => exact z.elim
def gBorT (a : TTx) : TTx := fun τ q r => a (τ.map Sl.froz) q r
theorem simt_bor {te : TT} {a : TTx} (ha : SimT K M E te a) : SimT K M E te (gBorT a) := fun τ q r e σ G H w Q hq hx => by
  obtain ⟨Gf, h1, wf⟩ := w.frz
  have dn : ∀ {G' H'}, Go M Gf H G' H' → Go M G H G H' := fun g => ⟨.refl _, fun a o z => g.sub a o (g.gg a o (h1 a o z)), g.keep, g.there, fun _ h _ => h, g.j⟩
  exact ha _ _ r e σ Gf H wf Q (fun v G1 H1 g q1 => hq v G H1 (dn g) q1) fun x c d G1 H1 g => hx x c d G H1 (dn g)
theorem En.frz1 {os : List Addr} (e : En K G H σ τ os) : ∀ {i : Nat} {c : Ow}, τ[i]? = some (.oo c) → ∃ a o os', H a = some o ∧ a ∈ os ∧ G a = none ∧ σ[i]? = some (some (.ref a)) ∧ OwIs K G a o c ∧ En K G H (σ.set i (some (.ref a))) (τ.set i .no) os' ∧ ∀ b ∈ os', b ∈ os ∧ b ≠ a := by
  induction e with
  | nil => intro i ts h; simp at h
  | no e ih =>
    intro i ts h
    cases i with
    | zero => simp at h
    | succ i => obtain ⟨a, vs, os', h1, h2, h3, h3', h3'', h4, h5⟩ := ih (i := i) (by simpa using h); exact ⟨a, vs, os', h1, h2, h3, by simpa using h3', h3'', .no h4, h5⟩
  | sh q e ih =>
    intro i ts h
    cases i with
    | zero => simp at h
    | succ i => obtain ⟨a, vs, os', h1, h2, h3, h3', h3'', h4, h5⟩ := ih (i := i) (by simpa using h); exact ⟨a, vs, os', h1, h2, h3, by simpa using h3', h3'', .sh q h4, h5⟩
  | @oo a0 o0 c0 σ τ os q1 q2 q3 q4 e ih =>
    intro i ts h
    cases i with
    | zero =>
      simp at h
      subst h
      exact ⟨a0, o0, os, q1, List.mem_cons_self, q2, rfl, q3, .no e, fun b hb => ⟨List.mem_cons_of_mem _ hb, mem_ne hb q4⟩⟩
    | succ i =>
      obtain ⟨a, vs, os', h1, h2, h3, h3', h3'', h4, h5⟩ := ih (i := i) (by simpa using h)
      refine ⟨a, vs, a0 :: os', h1, List.mem_cons_of_mem _ h2, h3, by simpa using h3', h3'', .oo q1 q2 q3 (fun z => q4 (h5 _ z).1) h4, fun b hb => ?_⟩
      rcases List.mem_cons.mp hb with rfl | hb
      · exact ⟨List.mem_cons_self, (mem_ne h2 q4).symm⟩
      · exact ⟨List.mem_cons_of_mem _ (h5 b hb).1, (h5 b hb).2⟩
theorem set_back {α : Type} {l : List α} {i : Nat} {x : α} (h : l[i]? = some x) : l.set i x = l := by
  apply List.ext_getElem?
  intro j
  rw [List.getElem?_set]
  by_cases e : i = j
  · subst e
    rw [if_pos rfl, h]
    obtain ⟨h1, _⟩ := List.getElem?_eq_some_iff.mp h
    rw [if_pos h1]
  · rw [if_neg e]
/-- from here on slot i holds data -/
def frzAt (τ : List Sl) (i : Nat) : List Sl := match τ[i]? with
  | some (.oo c) => τ.set i (.sh c.fz)
  | _ => τ
theorem W2.frzAt (w : W2 K M G0 H0 G H σ τ) (i : Nat) : ∃ G', Sub G G' ∧ W2 K M G0 H0 G' H σ (frzAt τ i) := by
  obtain ⟨os, e, h⟩ := w.en
  unfold TL.frzAt
  split
  · rename_i c hc
    obtain ⟨a, o, os', h1, h2, h3, h3', h3'', h4, h5⟩ := e.frz1 hc
    have e2 : En K (upd G a o) H (σ.set i (some (.ref a))) (τ.set i .no) os' := h4.mono (Sub.upd h3) (fun _ _ _ z => z) fun b hb => by
      rw [upd_ne (h5 b hb).2]
      exact (e.own b (h5 b hb).1).1
    have e3 := e2.putS (i := i) (v := .ref a) (t := c.fz) (by obtain ⟨hi, _⟩ := List.getElem?_eq_some_iff.mp hc; simp [hi]) (h3''.data (Sub.upd h3) upd_same)
    rw [set_set, set_set, set_back h3'] at e3
    exact ⟨_, Sub.upd h3, ⟨os', e3, fun b hb => h b (h5 b hb).1⟩, w.go.data (h a h2) h1 h3⟩
  · exact ⟨G, .refl _, w⟩
def sFrz (i : Nat) (a : TSx) : TSx := fun τ k => a (frzAt τ i) k
theorem sims_frz (i : Nat) {t : TS} {a : TSx} (ha : SimS K M E t a) : SimS K M E t (sFrz i a) := fun G0 H0 ok τ k e σ G H w D d => by
  obtain ⟨G', h1, w'⟩ := w.frzAt i
  exact ha G0 H0 ok _ k e σ G' H w' D (d.mono h1)
end
end TL
namespace TL
open PySem PySem.Spec PyProof.Rows L2
variable [TheW]
/-! ### a rule of the layer and its reading by trees, together -/
structure GE (X : Cx) (M : Mode) (E : XK) (e : Expr) (te : TE) (g : TEx) : Prop where
  p : PE X e te
  s : SimE X.K M E te g
structure GT (X : Cx) (M : Mode) (E : XK) (e : Expr) (te : TT) (g : TTx) : Prop where
  p : PT X e te
  s : SimT X.K M E te g
structure GW (X : Cx) (M : Mode) (E : XK) (e : Expr) (te : TT) (g : TTx) : Prop where
  p : PW X e te
  s : SimT X.K M E te g
structure GTs (X : Cx) (M : Mode) (E : XK) (e : List Expr) (te : TT) (g : TTx) : Prop where
  p : PTs X e te
  s : SimT X.K M E te g
structure GA (X : Cx) (M : Mode) (E : XK) (e : List Expr) (te : TA) (g : TAx) : Prop where
  p : PA X e te
  s : SimA X.K M E te g
structure GK (X : Cx) (M : Mode) (E : XK) (e : List Keyword) (te : TA) (g : TAx) : Prop where
  p : PK X e te
  s : SimA X.K M E te g
structure GI (X : Cx) (M : Mode) (E : XK) (tg e : Expr) (te : TI) (g : TIx) : Prop where
  p : PI X tg e te
  s : SimI X.K M E te g
structure GG (X : Cx) (M : Mode) (is : List Nat) (e : Expr) (te : TG) (g : TGx) : Prop where
  p : PG X e te
  s : SimG X.K M is te g
structure GGs (X : Cx) (M : Mode) (is : List Nat) (e : List Expr) (te : TGs) (g : TGsx) : Prop where
  p : PGs X e te
  s : SimGs X.K M is te g
structure GO (X : Cx) (M : Mode) (E : XK) (e : Option Expr) (te : TO) (g : TOx) : Prop where
  p : PO X e te
  s : SimO X.K M E te g
structure GS (X : Cx) (M : Mode) (E : XK) (e : Stmt) (te : TS) (g : TSx) : Prop where
  p : PS X e te
  s : SimS X.K M E te g
structure GSs (X : Cx) (M : Mode) (E : XK) (e : List Stmt) (te : TS) (g : TSx) : Prop where
  p : PSs X e te
  s : SimS X.K M E te g
section
variable {X : Cx} {M : Mode} {E : XK} {a b c : Expr} {ta tb tc : TE} {ga gb gc : TEx} {pos : Pos}
/-- the name in the i-th slot -/
theorem ge_v (i : Nat) {x : Str} (hN : X.N[i]? = some x := by rfl) (hv : Vis X.env.scope x := by first | exact Or.inl rfl | exact Or.inr (Or.inl rfl) | exact Or.inr (Or.inr rfl)) (hd : (x == ("__debug__" : Str)) = false := by decide)
    (hcd : (x == ("__classdict__" : Str)) = false := by decide) : GE X M E (.Name x pos) (tVar i) (gVar i) := ⟨pe_var hN hv hd hcd, sim_var⟩
theorem ge_int {i : Int} {j} : GE X M E (.Constant (.int i) j pos) (tC (.int i)) (gC (.int i)) := ⟨pe_int, sim_int⟩
theorem ge_str {i : Str} {j} : GE X M E (.Constant (.str i) j pos) (tC (.str i)) (gC (.str i)) := ⟨pe_str, sim_str⟩
theorem ge_bl {i : Bool} {j} : GE X M E (.Constant (.bool i) j pos) (tC (.bl i)) (gC (.bl i)) := ⟨pe_bl, sim_bl⟩
theorem ge_non {j} : GE X M E (.Constant .none j pos) (tC .non) (gC .non) := ⟨pe_non, sim_non⟩
/-- a module's number, text -/
theorem ge_gint {x : Str} {i : Int} (hm : ∃ t, X.mg x = some (.int i t)) (hg : Gl X x := by rfl) (hd : (x == ("__debug__" : Str)) = false := by decide) : GE X M E (.Name x pos) (tC (.int i)) (gC (.int i)) :=
  let ⟨t, h⟩ := hm
  ⟨pe_glob hg h (v := .int i) ⟨t, rfl⟩ hd, sim_int⟩
theorem ge_gstr {x : Str} {i : Str} (hm : ∃ t, X.mg x = some (.str i t)) (hg : Gl X x := by rfl) (hd : (x == ("__debug__" : Str)) = false := by decide) : GE X M E (.Name x pos) (tC (.str i)) (gC (.str i)) :=
  let ⟨t, h⟩ := hm
  ⟨pe_glob hg h (v := .str i) ⟨t, rfl⟩ hd, sim_str⟩
/-- a built-in type as a value; a class of the module's -/
theorem ge_ty {x : Str} {n : String} (hm : X.mg x = none) (hv : bootBuiltins x = some (.type n) := by decide +kernel) (hg : Gl X x := by rfl) (hn : x ≠ "__name__" := by decide) (hd : (x == ("__debug__" : Str)) = false := by decide) : GE X M E (.Name x pos) (tC (.ty n)) (gC (.raw (.ty n))) :=
  ⟨pe_bltn hg hm hv rfl hn hd, sim_raw⟩
theorem ge_cls {x : Str} {C : Addr} (hm : X.mg x = some (.ref C)) (hg : Gl X x := by rfl) (hd : (x == ("__debug__" : Str)) = false := by decide) : GE X M E (.Name x pos) (tC (.ref C)) (gC (.raw (.ref C))) := ⟨pe_glob hg hm rfl hd, sim_raw⟩
/-- an operator: its rule by values, its rule by trees -/
theorem ge_bin {op : Operator} {r : R2} {g : GR2} (ho : OpR X (binaryOp op) r) (hr : SimR2 X.K M r g) (ha : GE X M E a ta ga) (hb : GE X M E b tb gb) : GE X M E (.BinOp a op b pos) (tOp r ta tb) (gOp g ga gb) := ⟨pe_op ho ha.p hb.p, sim_op hr ha.s hb.s⟩
theorem ge_cmp {op : CmpOp} {r : R2} {g : GR2} (ho : OpR X (compareOp op) r) (hr : SimR2 X.K M r g) (ha : GE X M E a ta ga) (hb : GE X M E b tb gb) (hm : behindInMarks op b = false := by first | rfl | exact nomark _) : GE X M E (.Compare a [op] [b] pos) (tOp r ta tb) (gOp g ga gb) := ⟨pe_cmpR ho ha.p hb.p hm, sim_op hr ha.s hb.s⟩
theorem gt_cmp {op : CmpOp} {r : R2} {g : GR2} (ho : OpR X (compareOp op) r) (hr : SimR2 X.K M r g) (ha : GE X M E a ta ga) (hb : GE X M E b tb gb) (hm : behindInMarks op b = false := by first | rfl | exact nomark _) : GT X M E (.Compare a [op] [b] pos) (tTest (tOp r ta tb)) (gB (gOp g ga gb)) := ⟨pt_cmpR ho ha.p hb.p hm, simt_test (sim_op hr ha.s hb.s)⟩
theorem ge_chain {op op' : CmpOp} {r r' : R2} {g g' : GR2} (ho : OpR X (compareOp op) r) (hr : SimR2 X.K M r g) (ho' : OpR X (compareOp op') r') (hr' : SimR2 X.K M r' g') (ha : GE X M E a ta ga) (hb : GE X M E b tb gb) (hc : GE X M E c tc gc) (hm : lastMarks [op, op'] [b, c] = false := by rfl) :
    GE X M E (.Compare a [op, op'] [b, c] pos) (tChain r r' ta tb tc) (gChain g g' ga gb gc) := ⟨pe_chain ho ho' ha.p hb.p hc.p (hm := hm), sim_chain hr hr' ha.s hb.s hc.s⟩
theorem gt_val (ha : GE X M E a ta ga) (he : ∀ whole, isTrue a X.env whole = (do let v ← whole; standAt a.pos; holding [v] (truthy v)) := by intro _; rfl) : GT X M E a (tB ta) (gB ga) := ⟨pt_val ha.p he, simt_B ha.s⟩
variable {tA tB' : TT} {gA gB' : TTx} {rest : List Expr}
theorem gw_and1 (ha : GT X M E a tA gA) : GW X M E (.BoolOp .And [a] pos) tA gA := ⟨pw_and1 ha.p, ha.s⟩
theorem gw_or1 (ha : GT X M E a tA gA) : GW X M E (.BoolOp .Or [a] pos) tA gA := ⟨pw_or1 ha.p, ha.s⟩
theorem gw_and (ha : GT X M E a tA gA) (hb : GW X M E (.BoolOp .And (b :: rest) pos) tB' gB') : GW X M E (.BoolOp .And (a :: b :: rest) pos) (tAnd tA tB') (gAnd gA gB') := ⟨pw_and ha.p hb.p, simt_and ha.s hb.s⟩
theorem gw_or (ha : GT X M E a tA gA) (hb : GW X M E (.BoolOp .Or (b :: rest) pos) tB' gB') : GW X M E (.BoolOp .Or (a :: b :: rest) pos) (tOr tA tB') (gOr gA gB') := ⟨pw_or ha.p hb.p, simt_or ha.s hb.s⟩
theorem GW.t {e : Expr} (h : GW X M E e tA gA) : GT X M E e tA gA := ⟨h.p.pt, h.s⟩
theorem gt_not (ha : GT X M E a tA gA) : GT X M E (.UnaryOp .Not a pos) (tNot tA) (gNot gA) := ⟨pt_not ha.p, simt_not ha.s⟩
theorem ge_one {op} (ha : GE X M E a ta ga) : GE X M E (.BoolOp op [a] pos) ta ga := ⟨pe_one ha.p, ha.s⟩
theorem ge_and (ha : GE X M E a ta ga) (hb : GE X M E (.BoolOp .And (b :: rest) pos) tb gb) : GE X M E (.BoolOp .And (a :: b :: rest) pos) (tAndV ta tb) (gAndV ga gb) := ⟨pe_and ha.p hb.p, sim_andV ha.s hb.s⟩
theorem ge_or (ha : GE X M E a ta ga) (hb : GE X M E (.BoolOp .Or (b :: rest) pos) tb gb) : GE X M E (.BoolOp .Or (a :: b :: rest) pos) (tOrV ta tb) (gOrV ga gb) := ⟨pe_or ha.p hb.p, sim_orV ha.s hb.s⟩
theorem ge_not (ha : GE X M E a ta ga) : GE X M E (.UnaryOp .Not a pos) (tNotV ta) (gNotV ga) := ⟨pe_not ha.p, sim_notV ha.s⟩
theorem ge_if {t : Expr} (hc : GT X M E t tA gA) (ha : GE X M E a ta ga) (hb : GE X M E b tb gb) : GE X M E (.IfExp t a b pos) (tIf tA ta tb) (gIf gA ga gb) := ⟨pe_ifExp hc.p ha.p hb.p, sim_if hc.s ha.s hb.s⟩
theorem ge_bor (ha : GE X M E a ta ga) : GE X M E a ta (gBor ga) := ⟨ha.p, sim_bor ha.s⟩
theorem gt_bor (ha : GT X M E a tA gA) : GT X M E a tA (gBorT gA) := ⟨ha.p, simt_bor ha.s⟩
variable {es : List Expr} {t : TA} {gt : TAx}
theorem ga_nil : GA X M E [] tNil aNil := ⟨pa_nil, sima_nil⟩
theorem ga_cons (ha : GE X M E a ta ga) (hr : GA X M E es t gt) (hs : starEach (a :: es) X.env = (false, eval a X.env) :: starEach es X.env := by rfl) : GA X M E (a :: es) (tCons ta t) (aCons ga gt) := ⟨pa_cons ha.p hr.p hs, sima_cons ha.s hr.s⟩
theorem gk_nil : GK X M E [] tNil aNil := ⟨pk_nil, sima_nil⟩
theorem gk_cons {nm : Option Str} {kpos : Pos} {kws : List Keyword} (ha : GE X M E a ta ga) (hr : GK X M E kws t gt) : GK X M E (⟨nm, a, kpos⟩ :: kws) (tCons ta t) (aCons ga gt) := ⟨pk_cons ha.p hr.p, sima_cons ha.s hr.s⟩
theorem ge_tup {n} (h : GA X M E es t gt) : GE X M E (.Tuple es n pos) (tTup t) (gTup gt) := ⟨pe_tup h.p, sim_tup h.s⟩
theorem ge_lst (h : GA X M E es t gt) : GE X M E (.List es pos) (tLst t) (gLst gt) := ⟨pe_lst h.p, sim_lst h.s⟩
variable {x : Str} {p : Pos} {id : String} {r : List V → Hp → VK → Prop} {g : GC}
theorem ge_callB (hc : CallR X (.builtin id) r) (hr : SimC X.K M r g) (hm : X.mg x = none) (ha : GA X M E (a :: es) t gt) (hv : bootBuiltins x = some (.builtin id) := by decide +kernel) (hg : Gl X x := by rfl) (hn : x ≠ "__name__" := by decide) (hdb : (x == ("__debug__" : Str)) = false := by decide)
    (he : starEach (a :: es) X.env = (false, eval a X.env) :: starEach es X.env := by rfl) (hpl : (backTo pos (starEach es X.env)).any (·.1) = false := by rfl) : GE X M E (.Call (.Name x p) (a :: es) [] pos) (tCB r t) (gCB g gt) := ⟨pe_callB hc hg hm hv ha.p hn hdb he hpl, sim_CB hr ha.s⟩
theorem ge_callTy (hc : CallR X (.type id) r) (hr : SimC X.K M r g) (hm : X.mg x = none) (ha : GA X M E (a :: es) t gt) (hv : bootBuiltins x = some (.type id) := by decide +kernel) (hg : Gl X x := by rfl) (hn : x ≠ "__name__" := by decide) (hdb : (x == ("__debug__" : Str)) = false := by decide)
    (he : starEach (a :: es) X.env = (false, eval a X.env) :: starEach es X.env := by rfl) (hpl : (backTo pos (starEach es X.env)).any (·.1) = false := by rfl) : GE X M E (.Call (.Name x p) (a :: es) [] pos) (tCB r t) (gCB g gt) := ⟨pe_callTy hc hg hm hv ha.p hn hdb he hpl, sim_CB hr ha.s⟩
/-- a def of the text -/
theorem ge_call {CX : CXT} {k : Nat} {f : Addr} {fd : FuncData} {ps : List Str} {sp : SpX} (F : FnOk X.prog X.w X.K X.mg X.base CX k f fd ps (lift X.K sp)) (hr : Room k X.A) (hm : X.mg x = some (.ref f)) (hk : PySem.W.keepIn X.K (.ref f) = true) (hb : Binds X.K fd ps []) (hx : Passes CX X E) (ha : GA X M E (a :: es) t gt)
    (hg : Gl X x := by rfl) (hdb : (x == ("__debug__" : Str)) = false := by decide) (he : starEach (a :: es) X.env = (false, eval a X.env) :: starEach es X.env := by rfl) (hpl : (backTo pos (starEach es X.env)).any (·.1) = false := by rfl) :
    GE X M E (.Call (.Name x p) (a :: es) [] pos) (tCall (lift X.K sp) [] E t) (gCall M sp gt) := ⟨pe_call F hr hg hm hk hb .nil hx ha.p hdb he hpl, sim_call ha.s⟩
/-- a comprehension of one clause; own: its names and their slots -/
abbrev BlkT (α : Type) : Type := Shared → Hp → Addr → List (Str × Addr) → List Addr → α
/-- the reading of a block's part, which hangs on nothing of the block's entry -/
def BlkT.at {α : Type} (t : BlkT α) (s : Shared) : α := t s (fun _ => none) 0 [] []
def BlkT.Same {α : Type} (t : BlkT α) (s : Shared) : Prop := ∀ s' H C cl fp, t s' H C cl fp = t.at s
theorem ge_lc {elt tg iter : Expr} {ifs : List Expr} {scope : Scope} (own : List (Str × Nat)) {wi : TI} {g : BlkT TG} {tt : BlkT TT} {te : BlkT TE} {is : List Nat} {gi : TIx} {gg : TGx} {gtt : TTx} {ge : TEx} (hc : X.calm = true) (hN : X.N.Nodup) (hi : GI X M E tg iter wi gi) (ok : BlkOk X.N X.env.scope scope own)
    (hg : ∀ (s : Shared) (H : Hp) (C : Addr) (cl : List (Str × Addr)) (fp : List Addr), GG (X.blk s H scope (compEnvC scope cl C X.env) fp) M is tg (g s H C cl fp) gg) (ht : ∀ (s : Shared) (H : Hp) (C : Addr) (cl : List (Str × Addr)) (fp : List Addr), GTs (X.blk s H scope (compEnvC scope cl C X.env) fp) M L2.E0 ifs (tt s H C cl fp) gtt)
    (he : ∀ (s : Shared) (H : Hp) (C : Addr) (cl : List (Str × Addr)) (fp : List Addr), GE (X.blk s H scope (compEnvC scope cl C X.env) fp) M L2.E0 elt (te s H C cl fp) ge) (s0 : Shared) (hv : ∀ i ∈ is, i ∈ own.map (·.2) := by decide) (hs : ∀ x, foldedSetIterable iter X.env x = pure x := by intro _; rfl)
    (sg : BlkT.Same g s0 := by exact fun _ _ _ _ _ => rfl) (st : BlkT.Same tt s0 := by exact fun _ _ _ _ _ => rfl) (se : BlkT.Same te s0 := by exact fun _ _ _ _ _ => rfl) :
    GE X M E (.ListComp elt [⟨tg, iter, ifs, 0⟩] scope pos) (tLc wi (g.at s0) (tt.at s0) (te.at s0) (own.map (·.2))) (gLc (own.map (·.2)) gi gg gtt ge) :=
  ⟨pe_lc hc hN hi.p ok (fun s H C cl fp => sg s H C cl fp ▸ (hg s H C cl fp).p) (fun s H C cl fp => st s H C cl fp ▸ (ht s H C cl fp).p) (fun s H C cl fp => se s H C cl fp ▸ (he s H C cl fp).p) hs,
    sim_lc hi.s (hg s0 (fun _ => none) 0 [] []).s (ht s0 (fun _ => none) 0 [] []).s (he s0 (fun _ => none) 0 [] []).s hv⟩
/-! ### walked things, targets, parts of slices -/
theorem gts_nil : GTs X M E [] tYes gYes := ⟨pts_nil, simt_yes⟩
theorem gts_one (h : GT X M E c tA gA) : GTs X M E [c] tA gA := ⟨pts_one h.p, h.s⟩
theorem gi_seq {tg : Expr} (ha : GE X M E a ta ga) : GI X M E tg a (iSeq X.K ta) (iWalk ga) := ⟨pi_seq ha.p, simi_seq ha.s⟩
theorem gi_range1 {tg : Expr} (hm : X.mg "range" = none) (ha : GA X M E [a] t gt) (hg : Gl X "range" := by rfl) (hs : starEach [a] X.env = [(false, eval a X.env)] := by rfl) : GI X M E tg (.Call (.Name "range" p) [a] [] pos) (iRng1 t) (iR1 gt) := ⟨pi_range1 hg hm ha.p hs, simi_range1 ha.s⟩
theorem gi_range2 {tg : Expr} (hm : X.mg "range" = none) (ha : GA X M E [a, b] t gt) (hg : Gl X "range" := by rfl) (hs : starEach [a, b] X.env = [(false, eval a X.env), (false, eval b X.env)] := by rfl) (hs2 : starEach [b] X.env = [(false, eval b X.env)] := by rfl) : GI X M E tg (.Call (.Name "range" p) [a, b] [] pos) (iRng2 t) (iR2 gt) := ⟨pi_range2 hg hm ha.p hs hs2, simi_range2 ha.s⟩
theorem gg_name (i : Nat) {y : Str} (hN : X.N.Nodup) (hi : X.N[i]? = some y := by rfl) (hx : Loc X.env.scope y := by first | exact Or.inl rfl | exact Or.inr rfl) (hf : X.fn y = true ∨ X.env.scope.names.lookup y = some .local := by first | exact .inl rfl | exact .inr rfl) : GG X M [i] (.Name y pos) (gName i) (xName i) := ⟨pg_name hN hi hx hf, simg_name⟩
theorem ggs_nil : GGs X M [] [] gNil xsNil := ⟨pgs_nil, simgs_nil⟩
theorem ggs_cons {e : Expr} {is js : List Nat} {t : TG} {u : TGs} {gx : TGx} {gy : TGsx} (h1 : GG X M is e t gx) (h2 : GGs X M js es u gy) (hs : (assignEach (e :: es) X.env).map (·.2) = assign e X.env :: (assignEach es X.env).map (·.2) := by rfl) : GGs X M (is ++ js) (e :: es) (gCons t u) (xsCons gx gy) := ⟨pgs_cons h1.p h2.p hs, simgs_cons h1.s h2.s⟩
theorem gg_tup {k n : Nat} {is : List Nat} {t : TGs} {gx : TGsx} (hc : X.calm = true) (h : GGs X M is es t gx) (hn : (assignEach es X.env).length = n := by rfl) (hst : (assignEach es X.env).findIdx? (·.1) = none := by rfl) : GG X M is (.Tuple es k pos) (L2.gTup X.K n t) (xTup n gx) := ⟨pg_tup hc h.p hn hst, simg_tup h.s⟩
def oNo : TOx := fun _ q _ => q none
def isI (t : T) (k : Int → Prop) : Prop := match t with
  | .int i => k i
  | _ => False
def oSome (a : TEx) : TOx := fun τ q r => a τ (fun s => isI s.fz fun i => q (some i)) r
theorem go_none : GO X M E none tNoPart oNo := ⟨po_none, fun τ q r e σ G H w Q hq _ => hq none G H (.refl w.ok) e⟩
theorem go_some (ha : GE X M E a ta ga) : GO X M E (some a) (tPart ta) (oSome ga) := ⟨po_some ha.p, fun τ q r e σ G H w Q hq hx => ha.s.data e w (fun v G1 H1 s g1 i e1 => by
  cases hs : s.fz with
  | int j =>
    rw [hs] at e1 i
    cases i
    exact ⟨j, rfl, hq (some j) G1 H1 g1 e1⟩
  | _ => rw [hs] at e1; exact e1.elim) hx⟩
/-- a slice -/
def SimSl (K : PySem.W.Frag) (M : Mode) (r : V → Option Int → Option Int → Hp → VK → Prop) (g : T → Option Int → Option Int → (Sl → Prop) → Prop) : Prop :=
  ∀ t lo hi q, g t lo hi q → ∀ x G H, Is K G x t → Ok M G H → ∀ Q : VK, (∀ v s G' H', Go M G H G' H' → Rs K G H G' H' v s → q s → Q v H') → r x lo hi H Q
def gSli (g : T → Option Int → Option Int → (Sl → Prop) → Prop) (a : TEx) (lo hi : TOx) : TEx := fun τ q r => a τ (fun s => lo τ (fun l => hi τ (fun u => g s.fz l u q) r) r) r
theorem ge_slice {rr : V → Option Int → Option Int → Hp → VK → Prop} {g : T → Option Int → Option Int → (Sl → Prop) → Prop} {lo hi : Option Expr} {tl th : TO} {gl gh : TOx} {p2 : Pos} (hp : SlR X rr) (hr : SimSl X.K M rr g) (ha : GE X M E a ta ga) (hl : GO X M E lo tl gl) (hh : GO X M E hi th gh) :
    GE X M E (.Subscript a (.Slice lo hi none p2) pos) (tSl rr ta tl th) (gSli g ga gl gh) := ⟨pe_slice hp ha.p hl.p hh.p, fun τ q r e σ G H w Q hq hx => ha.s.data e w (fun v G1 H1 s g1 i e1 =>
      hl.s τ _ r e1 σ G1 H1 (w.go g1) _ (fun l G2 H2 g2 e2 => hh.s τ _ r e2 σ G2 H2 ((w.go g1).go g2) _ (fun u G3 H3 g3 e3 => hr s.fz l u q e3 v G3 H3 ((i.mono g2.gg).mono g3.gg) (((w.ok.go g1).go g2).go g3) Q fun v s' G4 H4 g4 rs qs => hq v s' G4 H4 (((g1.trans g2).trans g3).trans g4) (rs.early ((g1.trans g2).trans g3)) qs) ((hx.go g1).go g2)) (hx.go g1)) hx⟩
theorem ge_ix {rr : R2} {g : GR2} (hp : IxR X rr) (hr : SimR2 X.K M rr g) (ha : GE X M E a ta ga) (hb : GE X M E b tb gb) (hs : PlainIx b := by exact fun _ _ => rfl) : GE X M E (.Subscript a b pos) (tOp rr ta tb) (gOp g ga gb) := ⟨pe_ix hp ha.p hb.p hs, sim_op hr ha.s hb.s⟩
/-- methods of built-in types -/
theorem ge_bm {ty id : String} {name : Str} {rr : V → List V → Hp → VK → Prop} {g : GM} {apos : Pos} (pa : PlainAttrs ty) (slot : Slot ty name id) (hty : typeOf (.builtin id) = pure (.type "method_descriptor")) (hm : MtR X id rr) (hr : SimM X.K M ty rr g) (hT : ∀ t ts q, g t ts q → ∀ x G H, Is X.K G x t → Ok M G H → tyV X.K ty x H)
    (ho : GE X M E a ta ga) (ha : GA X M E (b :: es) t gt) (hbase : attributeBase a name X.env (eval a X.env) = eval a X.env := by rfl)
    (hfew : ((backTo pos (starEach (b :: es) X.env)).all (fun x => !x.1) && (backToKw pos (keywordEach [] X.env)).all (fun x => x.1.isSome) && decide ((b :: es).length + ([] : List Keyword).length + (if ([] : List Keyword).isEmpty then 0 else 1) < 30)) = true := by rfl)
    (hline : (apos.endLine == pos.line) = true := by rfl) (hs : starEach (b :: es) X.env = (false, eval b X.env) :: starEach es X.env := by rfl) (hplain : (backTo pos (starEach es X.env)).any (·.1) = false := by rfl) :
    GE X M E (.Call (.Attribute a name apos) (b :: es) [] pos) (tBM X.K ty rr ta t) (gBM g ga gt) := ⟨pe_bm pa slot hty hm ho.p ha.p hbase hfew hline hs hplain, sim_BM hT hr ho.s ha.s⟩
theorem ge_bm0 {ty id : String} {name : Str} {rr : V → List V → Hp → VK → Prop} {g : GM} {apos : Pos} (pa : PlainAttrs ty) (slot : Slot ty name id) (hty : typeOf (.builtin id) = pure (.type "method_descriptor")) (hm : MtR X id rr) (hr : SimM X.K M ty rr g) (ho : GE X M E a ta ga)
    (hbase : attributeBase a name X.env (eval a X.env) = eval a X.env := by rfl) (hline : (apos.endLine == pos.line) = true := by rfl) : GE X M E (.Call (.Attribute a name apos) [] [] pos) (tBM0 X.K ty rr ta) (gBM0 g ga) := ⟨pe_bm0 pa slot hty hm ho.p hbase hline, sim_BM0 hr ho.s⟩
/-! ### statements -/
variable {st : Stmt} {sts sts' : List Stmt} {ts tu : TS} {gs gu : TSx}
theorem gss_nil : GSs X M E [] tNext sNext := ⟨pss_nil, sims_next⟩
theorem gss_one (h : GS X M E st ts gs) : GSs X M E [st] ts gs := ⟨pss_one h.p, h.s⟩
theorem gss_cons (h : GS X M E st ts gs) (h2 : GSs X M E sts tu gu) : GSs X M E (st :: sts) (tSeq ts tu) (sSeq gs gu) := ⟨pss_cons h.p h2.p, sims_seq h.s h2.s⟩
theorem gs_pass : GS X M E (.Pass pos) tNext sNext := ⟨ps_pass, sims_next⟩
theorem gs_brk : GS X M E (.Break pos) tBreak sBrk := ⟨ps_break, sims_brk⟩
theorem gs_cnt : GS X M E (.Continue pos) tCont sCnt := ⟨ps_continue, sims_cnt⟩
theorem gs_set (i : Nat) {y : Str} {pos' : Pos} (hN : X.N.Nodup) (he : GE X M E a ta ga) (hi : X.N[i]? = some y := by rfl) (hx : Loc X.env.scope y := by first | exact Or.inl rfl | exact Or.inr rfl) (hs : swapsWith a (some (.Name y pos')) pos.line X.env = pure false := by rfl)
    (hf : X.fn y = true ∨ X.env.scope.names.lookup y = some .local := by first | exact .inl rfl | exact .inr rfl) : GS X M E (.Assign [.Name y pos'] a pos) (tAsg ta (gName i)) (sSet i ga) := ⟨ps_set hN hi hx he.p hs hf, sims_set he.s⟩
/-- y = [..], y a plain local name -/
theorem gs_setLc (i : Nat) {y : Str} {py spos : Pos} {elt tg iter : Expr} {ifs : List Expr} {scope : Scope} (own : List (Str × Nat)) {wi : TI} {g : BlkT TG} {tt : BlkT TT} {te : BlkT TE} {is : List Nat} {gi : TIx} {gg : TGx} {gtt : TTx} {ge : TEx} (hc : X.calm = true) (hN : X.N.Nodup) (hi : GI X M E tg iter wi gi) (ok : BlkOk X.N X.env.scope scope own)
    (hg : ∀ (s : Shared) (H : Hp) (C : Addr) (cl : List (Str × Addr)) (fp : List Addr), GG (X.blk s H scope (compEnvC scope cl C X.env) fp) M is tg (g s H C cl fp) gg) (ht : ∀ (s : Shared) (H : Hp) (C : Addr) (cl : List (Str × Addr)) (fp : List Addr), GTs (X.blk s H scope (compEnvC scope cl C X.env) fp) M L2.E0 ifs (tt s H C cl fp) gtt)
    (he : ∀ (s : Shared) (H : Hp) (C : Addr) (cl : List (Str × Addr)) (fp : List Addr), GE (X.blk s H scope (compEnvC scope cl C X.env) fp) M L2.E0 elt (te s H C cl fp) ge) (s0 : Shared) (hv : ∀ i ∈ is, i ∈ own.map (·.2) := by decide) (hy : X.N[i]? = some y := by rfl) (hyl : X.env.scope.names.lookup y = some .local := by rfl)
    (hsw : swapsWith (.ListComp elt [⟨tg, iter, ifs, 0⟩] scope pos) (some (.Name y py)) spos.line X.env = pure true := by exact sw_true rfl rfl rfl (by decide +kernel)) (hs : ∀ x, foldedSetIterable iter X.env x = pure x := by intro _; rfl)
    (sg : BlkT.Same g s0 := by exact fun _ _ _ _ _ => rfl) (st : BlkT.Same tt s0 := by exact fun _ _ _ _ _ => rfl) (se : BlkT.Same te s0 := by exact fun _ _ _ _ _ => rfl) :
    GS X M E (.Assign [.Name y py] (.ListComp elt [⟨tg, iter, ifs, 0⟩] scope pos) spos) (tAsg (tLc wi (g.at s0) (tt.at s0) (te.at s0) (own.map (·.2))) (gName i)) (sSet i (gLc (own.map (·.2)) gi gg gtt ge)) :=
  ⟨ps_setLc hc hN hy hyl hsw hi.p ok (fun s H C cl fp => sg s H C cl fp ▸ (hg s H C cl fp).p) (fun s H C cl fp => st s H C cl fp ▸ (ht s H C cl fp).p) (fun s H C cl fp => se s H C cl fp ▸ (he s H C cl fp).p) hs,
    sims_set (sim_lc hi.s (hg s0 (fun _ => none) 0 [] []).s (ht s0 (fun _ => none) 0 [] []).s (he s0 (fun _ => none) 0 [] []).s hv)⟩
theorem gs_asg {tg : Expr} {is : List Nat} {tgt : TG} {g : TGx} (he : GE X M E a ta ga) (hg : GG X M is tg tgt g) (hs : swapsWithSole [tg] a pos.line X.env = pure false := by rfl) (hw : swappedStores [tg] a X.env = pure none := by rfl) (h1 : (assignEach [tg] X.env).map (·.2) = [assign tg X.env] := by rfl) :
    GS X M E (.Assign [tg] a pos) (tAsg ta tgt) (sAsg ga g) := ⟨ps_asg he.p hg.p hs hw h1, sims_asg he.s hg.s⟩
theorem gs_if (hc : GT X M E c tA gA) (ha : GSs X M E sts ts gs) (hb : GSs X M E sts' tu gu) : GS X M E (.If c sts sts' pos) (tIfS tA ts tu) (sIf gA gs gu) := ⟨ps_if hc.p ha.p hb.p, sims_if hc.s ha.s hb.s⟩
theorem gs_ret (he : GE X M E a ta ga) : GS X M E (.Return (some a) pos) (tRet ta) (sRet ga) := ⟨ps_ret he.p, sims_ret he.s⟩
theorem gs_retN : GS X M E (.Return none pos) tRetN sRetN := ⟨ps_retN, sims_retN⟩
/-- a value handed back, own lists as they are: the names and the ifs of a return -/
structure GR (X : Cx) (M : Mode) (E : XK) (e : Expr) (te : TE) (g : TSx) : Prop where
  p : PE X e te
  s : SimS X.K M E (tRet te) g
theorem gr_v (i : Nat) {x : Str} (hN : X.N[i]? = some x := by rfl) (hv : Vis X.env.scope x := by first | exact Or.inl rfl | exact Or.inr (Or.inl rfl) | exact Or.inr (Or.inr rfl)) (hd : (x == ("__debug__" : Str)) = false := by decide)
    (hcd : (x == ("__classdict__" : Str)) = false := by decide) : GR X M E (.Name x pos) (tVar i) (sRetV i) := ⟨pe_var hN hv hd hcd, sims_retV⟩
theorem gr_e (h : GE X M E a ta ga) : GR X M E a ta (sRet ga) := ⟨h.p, sims_ret h.s⟩
theorem gr_if {t : Expr} {ga gb : TSx} (hc : GT X M E t tA gA) (ha : GR X M E a ta ga) (hb : GR X M E b tb gb) : GR X M E (.IfExp t a b pos) (tIf tA ta tb) (sIf gA ga gb) := ⟨pe_ifExp hc.p ha.p hb.p, sims_retIf hc.s ha.s hb.s⟩
theorem gs_retR {ga : TSx} (h : GR X M E a ta ga) : GS X M E (.Return (some a) pos) (tRet ta) ga := ⟨ps_ret h.p, h.s⟩
theorem gs_expr (he : GE X M E a ta ga) (hs : swapsWith a none pos.line X.env = pure false := by rfl) : GS X M E (.Expr a pos) (tDrop ta) (sDrop ga) := ⟨ps_expr he.p hs, sims_drop he.s⟩
/-- x.append(e), x in the i-th slot -/
theorem gs_app (i : Nat) {x : Str} {p1 p2 cpos : Pos} (he : GE X M E a ta ga) (hN : X.N[i]? = some x := by rfl) (hv : Vis X.env.scope x := by first | exact Or.inl rfl | exact Or.inr (Or.inl rfl) | exact Or.inr (Or.inr rfl))
    (hd : (x == ("__debug__" : Str)) = false := by decide) (hcd : (x == ("__classdict__" : Str)) = false := by decide) (hbase : attributeBase (.Name x p1) "append" X.env (eval (.Name x p1) X.env) = eval (.Name x p1) X.env := by rfl)
    (hfew : ((backTo cpos (starEach [a] X.env)).all (fun x => !x.1) && (backToKw cpos (keywordEach [] X.env)).all (fun x => x.1.isSome) && decide (([a] : List Expr).length + ([] : List Keyword).length + (if ([] : List Keyword).isEmpty then 0 else 1) < 30)) = true := by rfl)
    (hline : (p2.endLine == cpos.line) = true := by rfl) (hs : starEach [a] X.env = (false, eval a X.env) :: starEach [] X.env := by rfl) (hplain : (backTo cpos (starEach [] X.env)).any (·.1) = false := by rfl)
    (hsw : swapsWith (.Call (.Attribute (.Name x p1) "append" p2) [a] [] cpos) none pos.line X.env = pure false := by rfl) :
    GS X M E (.Expr (.Call (.Attribute (.Name x p1) "append" p2) [a] [] cpos) pos) (tDrop (tBM X.K "list" rAppend (tVar i) (tCons ta tNil))) (sApp i ga) :=
  ⟨ps_expr (pe_bm PySem.F.plainAttrs_list PySem.F.slot_list_append PySem.F.type_list_append mt_append (pe_var hN hv hd hcd) (pa_cons he.p pa_nil hs) hbase hfew hline hs hplain) hsw, sims_app he.s⟩
theorem gs_for {tg iter : Expr} {wi : TI} {gi : TIx} {is : List Nat} {tgt : TG} {g : TGx} (hp : PassesOwn (model X.prog X.w) X.A X.env X.xe) (hc : X.calm = true) (hi : GI X M E tg iter wi gi) (hg : GG X M is tg tgt g) (hb : GSs X M E sts ts gs) (hs : ∀ x, foldedSetIterable iter X.env x = pure x := by intro _; rfl) :
    GS X M E (.For tg iter sts [] pos) (tFor wi tgt ts) (sFor gi g gs) := ⟨ps_for hp hc hi.p hg.p hb.p hs, sims_for hi.s hg.s hb.s⟩
theorem gs_while (hp : PassesOwn (model X.prog X.w) X.A X.env X.xe) (hc : GT X M E c tA gA) (hb : GSs X M E sts ts gs) : GS X M E (.While c sts [] pos) (tWhile tA ts) (sWhile gA gs) := ⟨ps_while hp hc.p hb.p, sims_while hc.s hb.s⟩
theorem gs_frz (i : Nat) (h : GS X M E st ts gs) : GS X M E st ts (sFrz i gs) := ⟨h.p, sims_frz i h.s⟩
/-- raise C('..'), C an own class without own __init__ -/
theorem gs_raise {C : Addr} {x m : Str} {j : Nat} {p p2 p3 : Pos} (hc : X.calm = true) (tk : Takes X (fun cls d _ H => E cls d H)) (q : PySem.W.excIn X.K C [.type "ValueError", .type "Exception", .type "BaseException", .type "object"] "ValueError.__new__" = true)
    (gC : X.mg x = some (.ref C)) (kC : PySem.W.keepIn X.K (.ref C) = true) (bC : PySem.W.subIn X.K (.ref C) (.type "BaseException") = some true) (tC : PySem.W.typeIn X.K (.ref C) = some (.type "type")) (hg : Gl X x := by rfl) (hd : (x == ("__debug__" : Str)) = false := by decide) :
    GS X M E (.Raise (some (.Call (.Name x p) [.Constant (.str m) j p2] [] p3)) none pos) (fun _ _ H => E (.ref C) none H) (sRaise C) := ⟨ps_raise hc tk (pmk_own PySem.F.excBase_ValueError q gC kC (raises_own bC tC) hg hd), sims_raise⟩
end
/-! ### a def -/
def startS (N : List Str) (ts : List T) : List Sl := ts.map .sh ++ List.replicate (N.length - ts.length) .no
theorem en_start {K : PySem.W.Frag} {G H : Hp} {N : List Str} {vs : List V} {ts : List T} (h : IsAll K G vs ts) : En K G H (L2.start N vs) (startS N ts) [] := by
  unfold L2.start startS
  rw [h.length]
  generalize N.length - ts.length = n
  induction h using IsAll.rec (motive_1 := fun _ _ _ => True) (motive_3 := fun _ _ _ => True) (motive_4 := fun _ _ _ => True) with
  | nil =>
    induction n with
    | zero => exact .nil
    | succ n ih => exact .no ih
  | cons i r ih1 ih2 => exact .sh i ih2
  | _ => first | trivial | (intros; trivial)
def KnOf (q : Sl → Prop) (r : Xn → Prop) : Kn := { nx := fun _ => q (.sh .non), rt := q, ex := r }
section
variable {P : Program} {w : World} {K : PySem.W.Frag} {mg : Str → Option Value} {base : Heap} {x qual : Str} {params : Arguments} {body : List Stmt} {scope : Scope} {f : Addr} {fd : FuncData}
theorem mk_fn {N ps : List Str} {k : Nat} {sp : SpX} (F : FunD K x qual params body scope [] [] f fd) (S : FnScope N ps scope) (hl : ∀ M ts q r, sp M ts q r → ts.length = ps.length)
    (hbody : ∀ (cdv : Value) (A : Around) (outer : List Env) (s : Shared) (H : Hp) (E : XK) (M : Mode), Room k (A.deeper (envOfC qual scope s.heap.objs.size f cdv)) →
      ∃ t g, GSs (cxOf (L2.CX P w) P w K mg base N qual scope f cdv A outer s H E) M E body t g ∧ ∀ ts q r, sp M ts q r → g (startS N ts) (KnOf q r)) : FnOk P w K mg base (L2.CX P w) (k + 1) f fd ps (lift K sp) := by
  refine F.ok S (fun vs H Q E ⟨M, G, ts, q, r, _, i, hs, _⟩ => by rw [i.length]; exact hl M ts q r hs) fun cdv A outer s H vs Q E hr ⟨M, G, ts, q, r, ok, i, hs, hq, hx⟩ => ?_
  obtain ⟨t, g, hp, hg⟩ := hbody cdv A outer s H E M hr
  refine ⟨t, hp.p, hp.s G H ok (startS N ts) (KnOf q r) (hg ts q r hs) (L2.start N vs) G H ⟨⟨[], en_start i, fun _ h => nomatch h⟩, .refl ok⟩ _ ⟨?_, hq, fun _ _ _ _ _ _ h => h.elim, fun _ _ _ _ _ _ h => h.elim, hx⟩⟩
  exact fun σ τ G1 H1 w1 _ z => hq .non (.sh .non) G1 H1 w1.go .non z
end
end TL
namespace TL
open PySem PySem.Spec PyProof.Rows L2
variable [TheW]
/-! ### the operators, by trees -/
section
variable {X : Cx} {K : PySem.W.Frag} {M : Mode}
theorem CallR.or {f : Value} {r r' : List V → Hp → VK → Prop} (h : CallR X f r) (h' : CallR X f r') : CallR X f (fun xs H Q => r xs H Q ∨ r' xs H Q) := fun pins s σ H xs us Q I rx q => q.elim (h pins s σ H xs us Q I rx) (h' pins s σ H xs us Q I rx)
theorem OpR.or' {f : Value → Value → Sem Value} {r r' : R2} (h : OpR X f r) (h' : OpR X f r') : OpR X f (fun x y H Q => r x y H Q ∨ r' x y H Q) := fun pins s σ H x y v u Q I rx ry q => q.elim (h pins s σ H x y v u Q I rx ry) (h' pins s σ H x y v u Q I rx ry)
/-- a + b -/
def gAdd : GR2 := fun a b q => match a, b with
  | .int i, .int j => q (.sh (.int (i + j)))
  | .str x, .str y => x.length + y.length ≤ sizeLine ∧ q (.sh (.str (x ++ y)))
  | .lst xs, .lst ys => xs.length + ys.length ≤ sizeLine ∧ q (.ol (xs ++ ys))
  | .tup xs, .tup ys => xs.length + ys.length ≤ sizeLine ∧ q (.sh (.tup (xs ++ ys)))
  | _, _ => False
def rAddU (K : PySem.W.Frag) : R2 := fun x y H Q => rI0 (fun i j => .int (i + j)) x y H Q ∨ ((∃ i j, x = .str i ∧ y = .str j ∧ i.length + j.length ≤ sizeLine ∧ Q (.str (i ++ j)) H) ∨ (rCat x y H Q ∨ rCatA K x y H Q))
theorem op_addU : OpR X (binaryOp .Add) (rAddU X.K) := OpR.or' op_add (OpR.or' op_add_str (OpR.or' op_cat op_catA))
theorem simr_add : SimR2 K M (rAddU K) gAdd := fun tx ty q e x y G H ix iy ok Q hq => by
  unfold gAdd at e
  split at e
  · cases ix; cases iy
    exact .inl ⟨_, _, rfl, rfl, hq _ (.sh _) G H (.refl ok) .int e⟩
  · cases ix; cases iy
    exact .inr (.inl ⟨_, _, rfl, rfl, e.1, hq _ (.sh _) G H (.refl ok) .str e.2⟩)
  · cases ix with
    | lst h1 i1 =>
      cases iy with
      | lst h2 i2 =>
        refine .inr (.inr (.inl ⟨_, _, _, _, rfl, rfl, ok.sub _ _ h1, ok.sub _ _ h2, by rw [i1.length, i2.length]; exact e.1, fun p hp => ?_⟩))
        obtain ⟨g, r⟩ := ol_new ok hp (i1.append i2)
        exact hq _ _ _ _ g r e.2
  · cases ix with
    | tup h1 i1 =>
      cases iy with
      | tup h2 i2 =>
        refine .inr (.inr (.inr ⟨_, _, _, _, rfl, rfl, ok.sub.sqT h1, ok.sub.sqT h2, by rw [i1.length, i2.length]; exact e.1, fun z => ?_, fun _ z => ?_, fun _ _ p hp => ?_⟩))
        · subst z
          cases i1
          exact hq _ (.sh _) G H (.refl ok) (.tup h2 i2) e.2
        · subst z
          cases i2
          have e2 := e.2
          rw [List.append_nil] at e2
          exact hq _ (.sh _) G H (.refl ok) (.tup h1 i1) e2
        · obtain ⟨g, r⟩ := tup_new ok hp (i1.append i2)
          exact hq _ (.sh _) _ _ g r e.2
  · exact e.elim
def gSub : GR2 := gI fun i j => .int (i - j)
theorem simr_sub : SimR2 K M (rI0 fun i j => .int (i - j)) gSub := simr_I0 fun _ _ _ => .int
/-- a * b -/
def mulS (x : Str) (n : Nat) : Str := if n < 1 then Str.empty else if (n == 1 || x.length == 0) = true then x else ⟨(List.replicate n x.cps).foldl (· ++ ·) #[]⟩
theorem op_mul_str : OpR X (binaryOp .Mult) (fun x y H Q => ∃ (z : Str) (n : Nat), x = .str z ∧ y = .int n ∧ n ≤ 1000 ∧ z.length ≤ 1000 ∧ Q (.str (mulS z n)) H) := by
  intro pins s σ H x y v u Q I rx ry h
  obtain ⟨z, n, rfl, rfl, h1, h2, q⟩ := h
  obtain ⟨t, rfl⟩ := rx
  obtain ⟨t', rfl⟩ := ry
  have fin : ∀ tk tok, EP X pins σ Q (.str (mulS z n) tk) { s with toks := tok } := fun tk tok => ⟨.str _, H, I.tok _, ⟨_, rfl⟩, q⟩
  have hm : z.length * n ≤ 1000000 := Nat.mul_le_mul h2 h1
  refine PySem.P.mul_str ?_ (fun h3 _ => ?_) (fun h3 _ => ?_) ?_
  · rw [decide_eq_false (by omega), decide_eq_false (by omega)] <;> rfl
  · have hn : (0 : Int) < n := by omega
    have h4 : (n : Int) ≤ 1000 := by omega
    have h5 : (9223372036854775 : Int) ≤ (2 ^ 63 - 1) / (n : Int) := by
      refine (Int.le_ediv_iff_mul_le hn).mpr ?_
      have : 9223372036854775 * (n : Int) ≤ 9223372036854775 * 1000 := Int.mul_le_mul_of_nonneg_left h4 (by decide)
      omega
    omega
  · have e : (n : Int).toNat = n := by simp
    rw [e]
    have hs : (z.length * n) ≤ sizeLine := Nat.le_trans hm (by decide)
    show decide (_ > _) = false
    simpa using hs
  · have e : (n : Int).toNat = n := by simp
    unfold mulS at fin
    by_cases c1 : n < 1
    · rw [if_pos (by omega)]
      rw [if_pos c1] at fin
      exact ⟨by decide, fin _ _⟩
    · rw [if_neg (by omega)]
      rw [if_neg c1] at fin
      have e2 : (((n : Int) == 1) || z.length == 0) = (n == 1 || z.length == 0) := by
        congr 1
        rw [Bool.eq_iff_iff]
        simp
        omega
      rw [e2]
      cases c2 : (n == 1 || z.length == 0)
      · rw [if_neg (by decide), e]
        rw [c2, if_neg (by decide)] at fin
        refine ⟨?_, fin _ _⟩
        have hl : ∀ (m : Nat) (acc : Array Nat), ((List.replicate m z.cps).foldl (· ++ ·) acc).size = acc.size + m * z.cps.size := by
          intro m
          induction m with
          | zero => intro acc; simp
          | succ m ih => intro acc; rw [List.replicate_succ, List.foldl_cons, ih, Array.size_append, Nat.succ_mul]; omega
        show ((List.replicate n z.cps).foldl (· ++ ·) #[]).size ≤ sizeLine
        rw [hl]
        have : n * z.cps.size ≤ 1000 * 1000 := Nat.mul_le_mul h1 h2
        have hs : (1000 * 1000 : Nat) ≤ sizeLine := by decide
        simp only [Array.size_empty]
        omega
      · rw [if_pos rfl]
        rw [c2, if_pos rfl] at fin
        exact fin _ _
def gMul : GR2 := fun a b q => match a, b with
  | .int i, .int j => CMul i j ∧ q (.sh (.int (i * j)))
  | .str z, .int n => (0 ≤ n ∧ n ≤ 1000 ∧ z.length ≤ 1000) ∧ q (.sh (.str (mulS z n.toNat)))
  | .lst xs, .int n => (0 ≤ n ∧ n ≤ 100000 ∧ xs.length * n.toNat ≤ sizeLine) ∧ q (.ol (List.replicate n.toNat xs).flatten)
  | _, _ => False
def rMulU : R2 := fun x y H Q => rI CMul (fun i j => .int (i * j)) x y H Q ∨ ((∃ (z : Str) (n : Nat), x = .str z ∧ y = .int n ∧ n ≤ 1000 ∧ z.length ≤ 1000 ∧ Q (.str (mulS z n)) H) ∨ rRep x y H Q)
theorem op_mulU : OpR X (binaryOp .Mult) rMulU := OpR.or' op_mul (OpR.or' op_mul_str op_rep)
theorem simr_mul : SimR2 K M rMulU gMul := fun tx ty q e x y G H ix iy ok Q hq => by
  unfold gMul at e
  split at e
  · cases ix; cases iy
    exact .inl ⟨_, _, rfl, rfl, e.1, hq _ (.sh _) G H (.refl ok) .int e.2⟩
  · rename_i z n
    cases ix; cases iy
    obtain ⟨⟨h0, h1, h2⟩, e⟩ := e
    have en : ((n.toNat : Nat) : Int) = n := by omega
    exact .inr (.inl ⟨z, n.toNat, rfl, by rw [en], by omega, h2, hq _ (.sh _) G H (.refl ok) .str e⟩)
  · cases ix with
    | lst h1 i1 =>
      cases iy
      obtain ⟨⟨h0, h3, h2⟩, e⟩ := e
      refine .inr (.inr ⟨_, _, _, rfl, rfl, ok.sub _ _ h1, by omega, by omega, by rw [i1.length]; exact h2, fun p hp => ?_⟩)
      obtain ⟨g, r⟩ := ol_new ok hp (i1.flat (n := Int.toNat _))
      exact hq _ _ _ _ g r e
  · exact e.elim
def gMod : GR2 := gI2 (fun _ j => 0 < j) fun i j => .int (i % j)
theorem simr_mod : SimR2 K M (rI (fun _ j => 0 < j) fun i j => .int (i % j)) gMod := simr_I fun _ _ _ => .int
def gDiv : GR2 := gI2 CDiv fun i j => .int (i / j)
theorem simr_div : SimR2 K M (rI CDiv fun i j => .int (i / j)) gDiv := simr_I fun _ _ _ => .int
def gPow : GR2 := gI2 CPow fun i j => .int (i ^ j.toNat)
theorem simr_pow : SimR2 K M (rI CPow fun i j => .int (i ^ j.toNat)) gPow := simr_I fun _ _ _ => .int
/-! ### data: ==, in, repr -/
end
mutual
def T.py : T → Option PyData
  | .non => some .none
  | .bl b => some (.bool b)
  | .int i => some (.int i)
  | .str x => some (.str x)
  | .lst xs => (pyAll xs).map .list
  | .fls xs => (pyAll xs).map .list
  | .tup xs => (pyAll xs).map .tuple
  | _ => none
def pyAll : List T → Option (List PyData)
  | [] => some []
  | t :: ts => match t.py, pyAll ts with
    | some d, some ds => some (d :: ds)
    | _, _ => none
end
mutual
theorem Is.dp {K : PySem.W.Frag} {G H : Hp} (s : Sub G H) : ∀ {v : V} {t : T} {d : PyData}, Is K G v t → t.py = some d → Dp K H v d
  | _, _, _, .non, e => by simp only [T.py] at e; cases e; exact .non
  | _, _, _, .bl, e => by simp only [T.py] at e; cases e; exact .bl _
  | _, _, _, .int, e => by simp only [T.py] at e; cases e; exact .int _
  | _, _, _, .str, e => by simp only [T.py] at e; cases e; exact .str _
  | _, _, _, .lst h r, e => by
    simp only [T.py] at e
    obtain ⟨ds, h1, rfl⟩ := Option.map_eq_some_iff.mp e
    exact .lst (SqL.of (s _ _ h)) (r.dp s h1)
  | _, _, _, .fls h r, e => by
    simp only [T.py] at e
    obtain ⟨ds, h1, rfl⟩ := Option.map_eq_some_iff.mp e
    exact .lst (s.sqL h) (r.dp s h1)
  | _, _, _, .tup h r, e => by
    simp only [T.py] at e
    obtain ⟨ds, h1, rfl⟩ := Option.map_eq_some_iff.mp e
    exact .tup (s.sqT h) (r.dp s h1)
  | _, _, _, .dct _ _, e => by simp only [T.py] at e; cases e
  | _, _, _, .fdc _ _, e => by simp only [T.py] at e; cases e
  | _, _, _, .dn _ _, e => by simp only [T.py] at e; cases e
  | _, _, _, .fdn _ _, e => by simp only [T.py] at e; cases e
  | _, _, _, .st _, e => by simp only [T.py] at e; cases e
  | _, _, _, .raw, e => by simp only [T.py] at e; cases e
  | _, _, _, .ob _, e => by simp only [T.py] at e; cases e
theorem IsAll.dp {K : PySem.W.Frag} {G H : Hp} (s : Sub G H) : ∀ {vs : List V} {ts : List T} {ds : List PyData}, IsAll K G vs ts → pyAll ts = some ds → DpAll K H vs ds
  | _, _, _, .nil, e => by simp only [pyAll] at e; cases e; exact .nil
  | _, _, _, .cons (t := t) (ts := ts) h r, e => by
    simp only [pyAll] at e
    cases h1 : t.py with
    | none => simp only [h1] at e; cases e
    | some d =>
      cases h2 : pyAll ts with
      | none => simp only [h1, h2] at e; cases e
      | some ds => simp only [h1, h2] at e; cases e; exact .cons (h.dp s h1) (r.dp s h2)
end
section
variable {X : Cx} {K : PySem.W.Frag} {M : Mode}
/-- two plain values -/
def scl2 : T → T → Option Bool
  | .non, .non => some true
  | .int i, .int j => some (decide (i = j))
  | .bl i, .bl j => some (decide (i = j))
  | .str i, .str j => some (decide (i = j))
  | .non, .int _ | .int _, .non | .non, .bl _ | .bl _, .non | .non, .str _ | .str _, .non | .int _, .str _ | .str _, .int _ | .bl _, .str _ | .str _, .bl _ => some false
  | _, _ => none
def eqD (a b : T) (k : Bool → Prop) : Prop := match scl2 a b with
  | some c => k c
  | none => match a.py, b.py with
    | some d, some e => SeqAt.shaped d = true ∧ SeqAt.shaped e = true ∧ k (PyData.eqv d e)
    | _, _ => False
theorem scl2_ok {K : PySem.W.Frag} {G : Hp} {x y : V} {a b : T} {c : Bool} (h : scl2 a b = some c) (ix : Is K G x a) (iy : Is K G y b) : scal x y = true ∧ decide (x = y) = c := by
  unfold scl2 at h
  split at h <;> first
    | (cases h; cases ix; cases iy; exact ⟨rfl, by first | decide | simp⟩)
    | cases h
def gEq : GR2 := fun a b q => eqD a b fun c => q (.sh (.bl c))
def gNe : GR2 := fun a b q => eqD a b fun c => q (.sh (.bl (!c)))
def rEqU (K : PySem.W.Frag) : R2 := fun x y H Q => rEq x y H Q ∨ rEqD K x y H Q
def rNeU (K : PySem.W.Frag) : R2 := fun x y H Q => rNe x y H Q ∨ rNeD K x y H Q
theorem op_eqU (hu : X.A.units + 64 < cLine) : OpR X (compareOp .Eq) (rEqU X.K) := OpR.or' op_eq (op_eqD hu)
theorem op_neU (hu : X.A.units + 64 < cLine) : OpR X (compareOp .NotEq) (rNeU X.K) := OpR.or' op_ne (op_neD hu)
theorem simr_eq : SimR2 K M (rEqU K) gEq := fun tx ty q e x y G H ix iy ok Q hq => by
  unfold gEq eqD at e
  split at e
  · rename_i c hc
    obtain ⟨h1, h2⟩ := scl2_ok hc ix iy
    exact .inl ⟨h1, hq _ (.sh (.bl _)) G H (.refl ok) .bl (by rw [h2]; exact e)⟩
  · split at e
    · rename_i d d' h1 h2
      exact .inr ⟨d, d', ix.dp ok.sub h1, iy.dp ok.sub h2, e.1, e.2.1, hq _ (.sh (.bl _)) G H (.refl ok) .bl e.2.2⟩
    · exact e.elim
theorem simr_ne : SimR2 K M (rNeU K) gNe := fun tx ty q e x y G H ix iy ok Q hq => by
  unfold gNe eqD at e
  split at e
  · rename_i c hc
    obtain ⟨h1, h2⟩ := scl2_ok hc ix iy
    exact .inl ⟨h1, hq _ (.sh (.bl _)) G H (.refl ok) .bl (by rw [h2]; exact e)⟩
  · split at e
    · rename_i d d' h1 h2
      exact .inr ⟨d, d', ix.dp ok.sub h1, iy.dp ok.sub h2, e.1, e.2.1, hq _ (.sh (.bl _)) G H (.refl ok) .bl e.2.2⟩
    · exact e.elim
/-- order: ints, texts -/
def gLt : GR2 := fun a b q => match a, b with
  | .int i, .int j => q (.sh (.bl (decide (i < j))))
  | .str i, .str j => q (.sh (.bl (decide (i.cps.toList < j.cps.toList))))
  | _, _ => False
def gLe : GR2 := fun a b q => match a, b with
  | .int i, .int j => q (.sh (.bl (decide (i ≤ j))))
  | .str i, .str j => q (.sh (.bl (!decide (j.cps.toList < i.cps.toList))))
  | _, _ => False
def gGt : GR2 := fun a b q => gLt b a q
def gGe : GR2 := fun a b q => gLe b a q
def rLtU : R2 := fun x y H Q => rI0 (fun i j => .bl (decide (i < j))) x y H Q ∨ ∃ i j, x = .str i ∧ y = .str j ∧ Q (.bl (decide (i.cps.toList < j.cps.toList))) H
def rLeU : R2 := fun x y H Q => rI0 (fun i j => .bl (decide (i ≤ j))) x y H Q ∨ ∃ i j, x = .str i ∧ y = .str j ∧ Q (.bl (!decide (j.cps.toList < i.cps.toList))) H
def rGtU : R2 := fun x y H Q => rI0 (fun i j => .bl (decide (j < i))) x y H Q ∨ ∃ i j, x = .str i ∧ y = .str j ∧ Q (.bl (decide (j.cps.toList < i.cps.toList))) H
def rGeU : R2 := fun x y H Q => rI0 (fun i j => .bl (decide (j ≤ i))) x y H Q ∨ ∃ i j, x = .str i ∧ y = .str j ∧ Q (.bl (!decide (i.cps.toList < j.cps.toList))) H
theorem op_ltU : OpR X (compareOp .Lt) rLtU := OpR.or' op_lt op_lt_str
theorem op_leU : OpR X (compareOp .LtE) rLeU := OpR.or' op_le op_le_str
theorem op_gtU : OpR X (compareOp .Gt) rGtU := OpR.or' op_gt op_gt_str
theorem op_geU : OpR X (compareOp .GtE) rGeU := OpR.or' op_ge op_ge_str
theorem simr_lt : SimR2 K M rLtU gLt := fun tx ty q e x y G H ix iy ok Q hq => by
  unfold gLt at e
  split at e
  · cases ix; cases iy; exact .inl ⟨_, _, rfl, rfl, hq _ (.sh _) G H (.refl ok) .bl e⟩
  · cases ix; cases iy; exact .inr ⟨_, _, rfl, rfl, hq _ (.sh _) G H (.refl ok) .bl e⟩
  · exact e.elim
theorem simr_le : SimR2 K M rLeU gLe := fun tx ty q e x y G H ix iy ok Q hq => by
  unfold gLe at e
  split at e
  · cases ix; cases iy; exact .inl ⟨_, _, rfl, rfl, hq _ (.sh _) G H (.refl ok) .bl e⟩
  · cases ix; cases iy; exact .inr ⟨_, _, rfl, rfl, hq _ (.sh _) G H (.refl ok) .bl e⟩
  · exact e.elim
theorem simr_gt : SimR2 K M rGtU gGt := fun tx ty q e x y G H ix iy ok Q hq => by
  unfold gGt gLt at e
  split at e
  · cases ix; cases iy; exact .inl ⟨_, _, rfl, rfl, hq _ (.sh _) G H (.refl ok) .bl e⟩
  · cases ix; cases iy; exact .inr ⟨_, _, rfl, rfl, hq _ (.sh _) G H (.refl ok) .bl e⟩
  · exact e.elim
theorem simr_ge : SimR2 K M rGeU gGe := fun tx ty q e x y G H ix iy ok Q hq => by
  unfold gGe gLe at e
  split at e
  · cases ix; cases iy; exact .inl ⟨_, _, rfl, rfl, hq _ (.sh _) G H (.refl ok) .bl e⟩
  · cases ix; cases iy; exact .inr ⟨_, _, rfl, rfl, hq _ (.sh _) G H (.refl ok) .bl e⟩
  · exact e.elim
/-- x is None, x is not None -/
def T.isN : T → Option Bool
  | .non => some true
  | .raw _ => none
  | _ => some false
def gIsN : GR2 := fun a b q => match b with
  | .non => oks a.isN fun c => q (.sh (.bl c))
  | _ => False
def gNotN : GR2 := fun a b q => match b with
  | .non => oks a.isN fun c => q (.sh (.bl (!c)))
  | _ => False
theorem isN_ok {G : Hp} {x : V} {a : T} {c : Bool} (i : Is K G x a) (h : a.isN = some c) : decide (x = .non) = c := by
  cases i <;> simp only [T.isN] at h <;> first
    | (cases h; done)
    | (cases h; rfl)
    | (injection h with h; subst h; simp)
theorem simr_isN : SimR2 K M (fun x y H Q => y = .non ∧ Q (.bl (decide (x = .non))) H) gIsN := fun tx ty q e x y G H ix iy ok Q hq => by
  unfold gIsN at e
  split at e
  · cases iy
    obtain ⟨c, h, e⟩ := oks_cases e
    exact ⟨rfl, hq _ (.sh (.bl _)) G H (.refl ok) .bl (by rw [isN_ok ix h]; exact e)⟩
  · exact e.elim
theorem simr_notN : SimR2 K M (fun x y H Q => y = .non ∧ Q (.bl (!decide (x = .non))) H) gNotN := fun tx ty q e x y G H ix iy ok Q hq => by
  unfold gNotN at e
  split at e
  · cases iy
    obtain ⟨c, h, e⟩ := oks_cases e
    exact ⟨rfl, hq _ (.sh (.bl _)) G H (.refl ok) .bl (by rw [isN_ok ix h]; exact e)⟩
  · exact e.elim
/-- a sign in a text -/
def gInS : GR2 := fun a b q => match a, b with
  | .str x, .str z => oks (match x.cps.toList with | [c] => some c | _ => none) fun c => q (.sh (.bl (decide (c ∈ z.cps.toList))))
  | _, _ => False
def gNotInS : GR2 := fun a b q => match a, b with
  | .str x, .str z => oks (match x.cps.toList with | [c] => some c | _ => none) fun c => q (.sh (.bl (!decide (c ∈ z.cps.toList))))
  | _, _ => False
theorem one_sign {x : Str} {c : Nat} (h : (match x.cps.toList with | [c] => some c | _ => none) = some c) : x = ⟨#[c]⟩ := by
  split at h
  · rename_i d hd
    cases h
    obtain ⟨a⟩ := x
    congr 1
    apply Array.toList_inj.mp
    simpa using hd
  · cases h
theorem simr_inS : SimR2 K M (fun x y H Q => ∃ (c : Nat) (z : Str), x = .str ⟨#[c]⟩ ∧ y = .str z ∧ Q (.bl (decide (c ∈ z.cps.toList))) H) gInS := fun tx ty q e x y G H ix iy ok Q hq => by
  unfold gInS at e
  split at e
  · cases ix; cases iy
    obtain ⟨c, h, e⟩ := oks_cases e
    exact ⟨c, _, by rw [one_sign h], rfl, hq _ (.sh (.bl _)) G H (.refl ok) .bl e⟩
  · exact e.elim
theorem simr_notInS : SimR2 K M (fun x y H Q => ∃ (c : Nat) (z : Str), x = .str ⟨#[c]⟩ ∧ y = .str z ∧ Q (.bl (!decide (c ∈ z.cps.toList))) H) gNotInS := fun tx ty q e x y G H ix iy ok Q hq => by
  unfold gNotInS at e
  split at e
  · cases ix; cases iy
    obtain ⟨c, h, e⟩ := oks_cases e
    exact ⟨c, _, by rw [one_sign h], rfl, hq _ (.sh (.bl _)) G H (.refl ok) .bl e⟩
  · exact e.elim
end
end TL
namespace TL
open PySem PySem.Spec PyProof.Rows L2
variable [TheW]
section
variable {X : Cx} {K : PySem.W.Frag} {M : Mode}
/-! ### built-ins -/
/-- a value's type by name -/
def T.tyN : T → Option String
  | .non => some "NoneType" | .bl _ => some "bool" | .int _ => some "int" | .str _ => some "str"
  | .lst _ => some "list" | .fls _ => some "list" | .tup _ => some "tuple" | .dct _ => some "dict"
  | _ => none
theorem Rd.tyL {H : Hp} {a : Addr} {xs : List V} (h : SqL K H a xs) : TyX K H (.ref a) (.type "list") := by
  rcases h with (h | ⟨o, h⟩) | ⟨o, _, _, h, c, _⟩
  · exact .base (.lst h)
  · exact .base (.frz h)
  · exact .kList h c
theorem Rd.tyT {H : Hp} {a : Addr} {xs : List V} (h : SqT K H a xs) : TyX K H (.ref a) (.type "tuple") := by
  rcases h with (h | ⟨o, h⟩) | ⟨o, _, _, h, c, _⟩
  · exact .base (.tup h)
  · exact .fTuple h
  · exact .kTuple h c
theorem Is.tyX {G H : Hp} (s : Sub G H) {x : V} {t : T} {n : String} (i : Is K G x t) (h : t.tyN = some n) : TyX K H x (.type n) := by
  cases i with
  | non => cases h; exact .base .non
  | bl => cases h; exact .base (.bl _)
  | int => cases h; exact .base (.int _)
  | str => cases h; exact .base (.str _)
  | lst g _ => cases h; exact .base (.lst (s _ _ g))
  | fls g _ => cases h; exact Rd.tyL (s.sqL g)
  | tup g _ => cases h; exact Rd.tyT (s.sqT g)
  | dct g _ => cases h; exact .base (.dK (s _ _ g))
  | raw => cases h
  | ob _ => cases h
  | fdc g _ => cases h
  | dn g _ => cases h
  | fdn g _ => cases h
  | st g => cases h
def kitsB (a : String) : List String → Option Bool
  | [] => some false
  | c :: cs => match kitB a c with
    | some true => some true
    | some false => kitsB a cs
    | none => none
theorem kitsB_ok {a : String} : ∀ {cs : List String} {b : Bool}, kitsB a cs = some b → PySem.W.kitAny K (.type a) (cs.map .type) = some b
  | [], b, h => by cases h; rfl
  | c :: cs, b, h => by
    unfold kitsB at h
    cases hk : kitB a c with
    | none => rw [hk] at h; cases h
    | some d =>
      rw [hk] at h
      cases d with
      | true => cases h; exact kitAny_cons (kit_ty hk) (fun z => nomatch z) fun _ => rfl
      | false => exact kitAny_cons (kit_ty hk) (fun _ => kitsB_ok h) fun z => nomatch z
/-- isinstance(x, T), a built-in type -/
def isiB (t c : T) : Option Bool := match t.tyN with
  | none => none
  | some a => match c with
    | .raw (.ty n) => kitB a n
    | _ => none
def gIsi : GC := fun ts q => match ts with
  | [t, c] => oks (isiB t c) fun b => q (.sh (.bl b))
  | _ => False
theorem simc_isi : SimC K M (rIsi K) gIsi := fun ts q e vs G H i ok Q hq => by
  unfold gIsi at e
  split at e
  · rename_i t c
    obtain ⟨b, hb, e'⟩ := oks_cases e
    cases i with
    | cons i1 i =>
      cases i with
      | cons i2 i =>
        cases i
        unfold isiB at hb
        split at hb
        · cases hb
        · rename_i a ha
          split at hb
          · cases i2
            exact ⟨_, _, _, _, b, rfl, .ty _, i1.tyX ok.sub ha, kit_ty hb, hq _ (.sh _) G H (.refl ok) .bl e'⟩
          · cases hb
  · exact e.elim
/-- isinstance(x, (T, ..)), the types written there -/
def tyArgs : List String → TA
  | [] => tNil
  | n :: ns => tCons (tC (.ty n)) (tyArgs ns)
theorem tyArgs_run {σ : L2.St} {H : Hp} : ∀ {ns : List String} {Q : List V → Hp → Prop}, Q (ns.map V.ty) H → tyArgs ns σ H Q
  | [], _, h => h
  | n :: ns, Q, h => tyArgs_run (ns := ns) (Q := fun xs H2 => Q (.ty n :: xs) H2) h
theorem clsTys : ∀ ns : List String, Paired ClsV (ns.map V.ty) (ns.map Value.type)
  | [] => .nil
  | n :: ns => .cons (.ty n) (clsTys ns)
def gIsiT (ns : List String) (a : TEx) : TEx := fun τ q r => a τ (fun s => oks (s.fz.tyN.bind fun t => kitsB t ns) fun b => q (.sh (.bl b))) r
theorem sim_isiT {E : XK} {te : TE} {a : TEx} {ns : List String} (hn : ns.length ≤ 100) (ha : SimE K M E te a) : SimE K M E (tCB (rIsiT K) (tCons te (tCons (tTup (tyArgs ns)) tNil))) (gIsiT ns a) := fun τ q r e σ G H w Q hq hx =>
  ha.data e w (fun v G1 H1 s g1 i e1 => by
    obtain ⟨b, hb, e1⟩ := oks_cases e1
    obtain ⟨n, hn1, hn2⟩ := Option.bind_eq_some_iff.mp hb
    refine tyArgs_run (ns := ns) ⟨by rw [List.length_map]; exact Nat.le_trans hn (by decide), fun p hp => ?_⟩
    have g2 : Go M G1 H1 G1 (upd H1 p (.tup (ns.map V.ty))) := .lay (w.ok.go g1) hp
    exact ⟨v, p, _, _, _, b, rfl, upd_same, clsTys ns, i.tyX g2.sub hn1, kitsB_ok hn2, hq _ (.sh (.bl b)) _ _ (g1.trans g2) .bl e1⟩) hx
/-- the types' answers -/
theorem kit_str_str : kitB "str" "str" = some true := by decide +kernel
theorem kit_list_str : kitB "list" "str" = some false := by decide +kernel
theorem kit_tuple_str : kitB "tuple" "str" = some false := by decide +kernel
theorem kit_int_str : kitB "int" "str" = some false := by decide +kernel
theorem kit_bool_str : kitB "bool" "str" = some false := by decide +kernel
theorem kit_none_str : kitB "NoneType" "str" = some false := by decide +kernel
theorem kit_dict_str : kitB "dict" "str" = some false := by decide +kernel
theorem kit_str_list : kitB "str" "list" = some false := by decide +kernel
theorem kit_list_list : kitB "list" "list" = some true := by decide +kernel
theorem kit_tuple_list : kitB "tuple" "list" = some false := by decide +kernel
theorem kit_int_list : kitB "int" "list" = some false := by decide +kernel
theorem kit_bool_list : kitB "bool" "list" = some false := by decide +kernel
theorem kit_none_list : kitB "NoneType" "list" = some false := by decide +kernel
theorem kit_dict_list : kitB "dict" "list" = some false := by decide +kernel
theorem kit_str_tuple : kitB "str" "tuple" = some false := by decide +kernel
theorem kit_list_tuple : kitB "list" "tuple" = some false := by decide +kernel
theorem kit_tuple_tuple : kitB "tuple" "tuple" = some true := by decide +kernel
theorem kit_int_tuple : kitB "int" "tuple" = some false := by decide +kernel
theorem kit_bool_tuple : kitB "bool" "tuple" = some false := by decide +kernel
theorem kit_none_tuple : kitB "NoneType" "tuple" = some false := by decide +kernel
theorem kit_dict_tuple : kitB "dict" "tuple" = some false := by decide +kernel
theorem kit_str_int : kitB "str" "int" = some false := by decide +kernel
theorem kit_list_int : kitB "list" "int" = some false := by decide +kernel
theorem kit_tuple_int : kitB "tuple" "int" = some false := by decide +kernel
theorem kit_int_int : kitB "int" "int" = some true := by decide +kernel
theorem kit_bool_int : kitB "bool" "int" = some true := by decide +kernel
theorem kit_none_int : kitB "NoneType" "int" = some false := by decide +kernel
theorem kit_dict_int : kitB "dict" "int" = some false := by decide +kernel
theorem kit_str_bool : kitB "str" "bool" = some false := by decide +kernel
theorem kit_list_bool : kitB "list" "bool" = some false := by decide +kernel
theorem kit_tuple_bool : kitB "tuple" "bool" = some false := by decide +kernel
theorem kit_int_bool : kitB "int" "bool" = some false := by decide +kernel
theorem kit_bool_bool : kitB "bool" "bool" = some true := by decide +kernel
theorem kit_none_bool : kitB "NoneType" "bool" = some false := by decide +kernel
theorem kit_dict_bool : kitB "dict" "bool" = some false := by decide +kernel
theorem kit_str_dict : kitB "str" "dict" = some false := by decide +kernel
theorem kit_list_dict : kitB "list" "dict" = some false := by decide +kernel
theorem kit_tuple_dict : kitB "tuple" "dict" = some false := by decide +kernel
theorem kit_int_dict : kitB "int" "dict" = some false := by decide +kernel
theorem kit_bool_dict : kitB "bool" "dict" = some false := by decide +kernel
theorem kit_none_dict : kitB "NoneType" "dict" = some false := by decide +kernel
theorem kit_dict_dict : kitB "dict" "dict" = some true := by decide +kernel
/-- truths of a list -/
def blAll : List T → Option (List Bool)
  | [] => some []
  | .bl b :: ts => (blAll ts).map (b :: ·)
  | _ => none
theorem blAll_ok {G : Hp} : ∀ {ts : List T} {vs : List V} {bs : List Bool}, IsAll K G vs ts → blAll ts = some bs → vs = bs.map V.bl
  | _, _, _, .nil, h => by simp only [blAll] at h; cases h; rfl
  | _, _, _, .cons (t := t) i r, h => by
    cases t with
    | bl b =>
      simp only [blAll] at h
      obtain ⟨cs, h1, rfl⟩ := Option.map_eq_some_iff.mp h
      cases i
      rw [blAll_ok r h1] <;> rfl
    | _ => simp [blAll] at h
theorem blAll_map {α : Type} (f : α → Bool) : ∀ l : List α, blAll (l.map fun a => .bl (f a)) = some (l.map f)
  | [] => rfl
  | a :: l => by simp only [List.map_cons, blAll, blAll_map f l]; rfl
def gAll : GC := fun ts q => match ts with
  | [.lst xs] => oks (blAll xs) fun bs => q (.sh (.bl (bs.all id)))
  | _ => False
def gAny : GC := fun ts q => match ts with
  | [.lst xs] => oks (blAll xs) fun bs => q (.sh (.bl (bs.any id)))
  | _ => False
theorem simc_all : SimC K M (rAll K) gAll := fun ts q e vs G H i ok Q hq => by
  unfold gAll at e
  split at e
  · obtain ⟨b, hb, e⟩ := oks_cases e
    cases i with
    | cons i1 i =>
      cases i
      cases i1 with
      | lst h r =>
        have z := blAll_ok r hb
        subst z
        exact ⟨_, b, rfl, SqL.of (ok.sub _ _ h), hq _ (.sh _) G H (.refl ok) .bl e⟩
  · exact e.elim
theorem simc_any : SimC K M (rAny K) gAny := fun ts q e vs G H i ok Q hq => by
  unfold gAny at e
  split at e
  · obtain ⟨b, hb, e⟩ := oks_cases e
    cases i with
    | cons i1 i =>
      cases i
      cases i1 with
      | lst h r =>
        have z := blAll_ok r hb
        subst z
        exact ⟨_, b, rfl, SqL.of (ok.sub _ _ h), hq _ (.sh _) G H (.refl ok) .bl e⟩
  · exact e.elim
def gLen : GC := fun ts q => match ts with
  | [.str z] => z.length ≤ sizeLine ∧ q (.sh (.int z.length))
  | [.lst xs] => q (.sh (.int xs.length))
  | [.fls xs] => q (.sh (.int xs.length))
  | [.tup xs] => q (.sh (.int xs.length))
  | _ => False
theorem simc_len : SimC K M (fun xs H Q => ∃ x n, xs = [x] ∧ LenV K x H n ∧ Q (.int n) H) gLen := fun ts q e vs G H i ok Q hq => by
  unfold gLen at e
  split at e
  · cases i with
    | cons i1 i => cases i; cases i1; exact ⟨_, _, rfl, ⟨e.1, rfl⟩, hq _ (.sh _) G H (.refl ok) .int e.2⟩
  · cases i with
    | cons i1 i =>
      cases i
      cases i1 with
      | lst h r => exact ⟨_, _, rfl, .inl ⟨_, SqL.of (ok.sub _ _ h), rfl⟩, by rw [r.length]; exact hq _ (.sh _) G H (.refl ok) .int e⟩
  · cases i with
    | cons i1 i =>
      cases i
      cases i1 with
      | fls h r => exact ⟨_, _, rfl, .inl ⟨_, ok.sub.sqL h, rfl⟩, by rw [r.length]; exact hq _ (.sh _) G H (.refl ok) .int e⟩
  · cases i with
    | cons i1 i =>
      cases i
      cases i1 with
      | tup h r => exact ⟨_, _, rfl, .inr ⟨_, ok.sub.sqT h, rfl⟩, by rw [r.length]; exact hq _ (.sh _) G H (.refl ok) .int e⟩
  · exact e.elim
def gInt1 : GC := fun ts q => match ts with
  | [.int i] => q (.sh (.int i))
  | [.bl b] => q (.sh (.int (if b then 1 else 0)))
  | _ => False
theorem simc_int : SimC K M (fun xs H Q => (∃ i, xs = [.int i] ∧ Q (.int i) H) ∨ ∃ k, xs = [.bl k] ∧ Q (.int (if k then 1 else 0)) H) gInt1 := fun ts q e vs G H i ok Q hq => by
  unfold gInt1 at e
  split at e
  · cases i with
    | cons i1 i => cases i; cases i1; exact .inl ⟨_, rfl, hq _ (.sh _) G H (.refl ok) .int e⟩
  · cases i with
    | cons i1 i => cases i; cases i1; exact .inr ⟨_, rfl, hq _ (.sh _) G H (.refl ok) .int e⟩
  · exact e.elim
def gAbs : GC := fun ts q => match ts with
  | [.int i] => q (.sh (.int (if i < 0 then -i else i)))
  | _ => False
theorem simc_abs : SimC K M (fun xs H Q => ∃ i, xs = [.int i] ∧ Q (.int (if i < 0 then -i else i)) H) gAbs := fun ts q e vs G H i ok Q hq => by
  unfold gAbs at e
  split at e
  · cases i with
    | cons i1 i => cases i; cases i1; exact ⟨_, rfl, hq _ (.sh _) G H (.refl ok) .int e⟩
  · exact e.elim
def gMin2 : GC := fun ts q => match ts with
  | [.int i, .int j] => q (.sh (.int (if j < i then j else i)))
  | _ => False
theorem simc_min2 : SimC K M (fun xs H Q => ∃ i j, xs = [.int i, .int j] ∧ Q (.int (if j < i then j else i)) H) gMin2 := fun ts q e vs G H i ok Q hq => by
  unfold gMin2 at e
  split at e
  · cases i with
    | cons i1 i =>
      cases i with
      | cons i2 i => cases i; cases i1; cases i2; exact ⟨_, _, rfl, hq _ (.sh _) G H (.refl ok) .int e⟩
  · exact e.elim
/-- tuple(..), list(..) -/
def gTupleOf : GC := fun ts q => match ts with
  | [.lst xs] => q (.sh (.tup xs))
  | [.fls xs] => q (.sh (.tup xs))
  | [.tup xs] => q (.sh (.tup xs))
  | _ => False
theorem simc_tuple : SimC K M (fun xs H Q => ∃ p ys, xs = [.ref p] ∧ ((SqL K H p ys ∧ ∀ l, H l = none → Q (.ref l) (upd H l (.tup ys))) ∨ (SqT K H p ys ∧ Q (.ref p) H))) gTupleOf := fun ts q e vs G H i ok Q hq => by
  unfold gTupleOf at e
  split at e
  · cases i with
    | cons i1 i =>
      cases i
      cases i1 with
      | lst h r =>
        refine ⟨_, _, rfl, .inl ⟨SqL.of (ok.sub _ _ h), fun l hl => ?_⟩⟩
        obtain ⟨g, z⟩ := tup_new ok hl r
        exact hq _ (.sh _) _ _ g z e
  · cases i with
    | cons i1 i =>
      cases i
      cases i1 with
      | fls h r =>
        refine ⟨_, _, rfl, .inl ⟨ok.sub.sqL h, fun l hl => ?_⟩⟩
        obtain ⟨g, z⟩ := tup_new ok hl r
        exact hq _ (.sh _) _ _ g z e
  · cases i with
    | cons i1 i =>
      cases i
      cases i1 with
      | tup h r => exact ⟨_, _, rfl, .inr ⟨ok.sub.sqT h, hq _ (.sh _) G H (.refl ok) (.tup h r) e⟩⟩
  · exact e.elim
def gListOf : GC := fun ts q => match ts with
  | [.lst xs] => q (.ol xs)
  | [.fls xs] => q (.ol xs)
  | [.tup xs] => q (.ol xs)
  | _ => False
theorem simc_list : SimC K M (fun xs H Q => ∃ p ys, xs = [.ref p] ∧ (SqL K H p ys ∨ SqT K H p ys) ∧ ∀ l, H l = none → Q (.ref l) (upd H l (.lst ys))) gListOf := fun ts q e vs G H i ok Q hq => by
  unfold gListOf at e
  split at e
  · cases i with
    | cons i1 i =>
      cases i
      cases i1 with
      | lst h r =>
        refine ⟨_, _, rfl, .inl (SqL.of (ok.sub _ _ h)), fun l hl => ?_⟩
        obtain ⟨g, z⟩ := ol_new ok hl r
        exact hq _ _ _ _ g z e
  · cases i with
    | cons i1 i =>
      cases i
      cases i1 with
      | fls h r =>
        refine ⟨_, _, rfl, .inl (ok.sub.sqL h), fun l hl => ?_⟩
        obtain ⟨g, z⟩ := ol_new ok hl r
        exact hq _ _ _ _ g z e
  · cases i with
    | cons i1 i =>
      cases i
      cases i1 with
      | tup h r =>
        refine ⟨_, _, rfl, .inr (ok.sub.sqT h), fun l hl => ?_⟩
        obtain ⟨g, z⟩ := ol_new ok hl r
        exact hq _ _ _ _ g z e
  · exact e.elim
/-! ### methods of texts -/
def strsT : List T → Option (List Str)
  | [] => some []
  | .str z :: ts => (strsT ts).map (z :: ·)
  | _ => none
theorem strsT_ok {G : Hp} : ∀ {ts : List T} {vs : List V} {bs : List Str}, IsAll K G vs ts → strsT ts = some bs → vs = bs.map V.str
  | _, _, _, .nil, h => by simp only [strsT] at h; cases h; rfl
  | _, _, _, .cons (t := t) i r, h => by
    cases t with
    | str b =>
      simp only [strsT] at h
      obtain ⟨cs, h1, rfl⟩ := Option.map_eq_some_iff.mp h
      cases i
      rw [strsT_ok r h1] <;> rfl
    | _ => simp [strsT] at h
theorem strsT_map : ∀ l : List Str, strsT (l.map .str) = some l
  | [] => rfl
  | a :: l => by simp only [List.map_cons, strsT, strsT_map l]; rfl
theorem isAll_strs {G : Hp} : ∀ l : List Str, IsAll K G (l.map V.str) (l.map T.str)
  | [] => .nil
  | a :: l => .cons .str (isAll_strs l)
def okStr : T → Prop
  | .str _ => True
  | _ => False
def gSplit : GM := fun t ts q => match t, ts with
  | .str a, [.str b] => ((b.length == 0) = false ∧ a.length + 2 ≤ sizeLine) ∧ q (.ol ((Txt.split a b).map .str))
  | _, _ => False
def gJoin : GM := fun t ts q => match t, ts with
  | .str a, [.lst xs] => oks (strsT xs) fun ys => (ys.map (·.length)).sum + ys.length * a.length ≤ 16777216 ∧ q (.sh (.str (Txt.join a ys)))
  | .str a, [.tup xs] => oks (strsT xs) fun ys => (ys.map (·.length)).sum + ys.length * a.length ≤ 16777216 ∧ q (.sh (.str (Txt.join a ys)))
  | _, _ => False
def gStr0 (C : Str → Prop) (f : Str → T) : GM := fun t ts q => match t, ts with
  | .str a, [] => C a ∧ q (.sh (f a))
  | _, _ => False
def gStr1 (f : Str → Str → T) : GM := fun t ts q => match t, ts with
  | .str a, [.str b] => q (.sh (f a b))
  | _, _ => False
theorem simm_split : SimM K M "str" (fun x xs H Q => ∃ a b, x = .str a ∧ xs = [.str b] ∧ (b.length == 0) = false ∧ a.length + 2 ≤ sizeLine ∧ rNewStrs (Txt.split a b) H Q) gSplit := fun t ts q e x vs G H i iv ok => by
  unfold gSplit at e
  split at e
  · cases i
    cases iv with
    | cons i1 iv =>
      cases iv; cases i1
      refine ⟨rfl, fun Q hq => ⟨_, _, rfl, rfl, e.1.1, e.1.2, fun p hp => ?_⟩⟩
      obtain ⟨g, z⟩ := ol_new ok hp (isAll_strs (K := K) (Txt.split _ _))
      exact hq _ _ _ _ g z e.2
  · exact e.elim
theorem simm_join : SimM K M "str" (fun x xs H Q => ∃ a p, ∃ ys : List Str, x = .str a ∧ xs = [.ref p] ∧ (SqL K H p (ys.map V.str) ∨ SqT K H p (ys.map V.str)) ∧ (ys.map (·.length)).sum + ys.length * a.length ≤ 16777216 ∧ Q (.str (Txt.join a ys)) H) gJoin := fun t ts q e x vs G H i iv ok => by
  unfold gJoin at e
  split at e
  · obtain ⟨ys, hy, e⟩ := oks_cases e
    cases i
    cases iv with
    | cons i1 iv =>
      cases iv
      cases i1 with
      | lst h r =>
        have z := strsT_ok r hy
        subst z
        exact ⟨rfl, fun Q hq => ⟨_, _, ys, rfl, rfl, .inl (SqL.of (ok.sub _ _ h)), e.1, hq _ (.sh _) G H (.refl ok) .str e.2⟩⟩
  · obtain ⟨ys, hy, e⟩ := oks_cases e
    cases i
    cases iv with
    | cons i1 iv =>
      cases iv
      cases i1 with
      | tup h r =>
        have z := strsT_ok r hy
        subst z
        exact ⟨rfl, fun Q hq => ⟨_, _, ys, rfl, rfl, .inr (ok.sub.sqT h), e.1, hq _ (.sh _) G H (.refl ok) .str e.2⟩⟩
  · exact e.elim
theorem simm_str0 {C : Str → Prop} {f : Str → V} {g : Str → T} (h : ∀ a G, Is K G (f a) (g a)) : SimM K M "str" (fun x xs H Q => ∃ a, x = .str a ∧ xs = [] ∧ C a ∧ Q (f a) H) (gStr0 C g) := fun t ts q e x vs G H i iv ok => by
  unfold gStr0 at e
  split at e
  · cases i; cases iv
    exact ⟨rfl, fun Q hq => ⟨_, rfl, rfl, e.1, hq _ (.sh _) G H (.refl ok) (h _ G) e.2⟩⟩
  · exact e.elim
theorem simm_str1 {f : Str → Str → V} {g : Str → Str → T} (h : ∀ a b G, Is K G (f a b) (g a b)) : SimM K M "str" (fun x xs H Q => ∃ a b, x = .str a ∧ xs = [.str b] ∧ Q (f a b) H) (gStr1 g) := fun t ts q e x vs G H i iv ok => by
  unfold gStr1 at e
  split at e
  · cases i
    cases iv with
    | cons i1 iv =>
      cases iv; cases i1
      exact ⟨rfl, fun Q hq => ⟨_, _, rfl, rfl, hq _ (.sh _) G H (.refl ok) (h _ _ G) e⟩⟩
  · exact e.elim
/-! ### subscripts, slices -/
def gIx : GR2 := fun a b q => match a, b with
  | .lst xs, .int i => oks (atI xs i) fun t => q (.sh t)
  | .fls xs, .int i => oks (atI xs i) fun t => q (.sh t)
  | .tup xs, .int i => oks (atI xs i) fun t => q (.sh t)
  | .str z, .int i => z.length ≤ sizeLine ∧ oks (atI z.cps.toList i) fun c => q (.sh (.str ⟨#[c]⟩))
  | _, _ => False
theorem IsAll.at {G : Hp} {vs : List V} {ts : List T} {i : Int} {t : T} (h : IsAll K G vs ts) (e : atI ts i = some t) : ∃ v, atI vs i = some v ∧ Is K G v t := by
  unfold atI at e ⊢
  rw [h.length]
  obtain ⟨j, h1, h2⟩ := Option.bind_eq_some_iff.mp e
  obtain ⟨v, h3, h4⟩ := h.get h2
  exact ⟨v, by rw [h1]; exact h3, h4⟩
theorem simr_ix : SimR2 K M (rIx K) gIx := fun tx ty q e x y G H ix iy ok Q hq => by
  unfold gIx at e
  split at e
  · obtain ⟨t, ht, e⟩ := oks_cases e
    cases iy
    cases ix with
    | lst h r =>
      obtain ⟨v, h1, h2⟩ := r.at ht
      exact .inl ⟨_, _, _, v, rfl, rfl, SqL.of (ok.sub _ _ h), h1, hq _ (.sh _) G H (.refl ok) h2 e⟩
  · obtain ⟨t, ht, e⟩ := oks_cases e
    cases iy
    cases ix with
    | fls h r =>
      obtain ⟨v, h1, h2⟩ := r.at ht
      exact .inl ⟨_, _, _, v, rfl, rfl, ok.sub.sqL h, h1, hq _ (.sh _) G H (.refl ok) h2 e⟩
  · obtain ⟨t, ht, e⟩ := oks_cases e
    cases iy
    cases ix with
    | tup h r =>
      obtain ⟨v, h1, h2⟩ := r.at ht
      exact .inr (.inl ⟨_, _, _, v, rfl, rfl, ok.sub.sqT h, h1, hq _ (.sh _) G H (.refl ok) h2 e⟩)
  · obtain ⟨e0, e⟩ := e
    obtain ⟨c, hc, e⟩ := oks_cases e
    cases iy; cases ix
    exact .inr (.inr ⟨_, _, c, rfl, rfl, e0, hc, hq _ (.sh _) G H (.refl ok) .str e⟩)
  · exact e.elim
def cutT (xs : List T) (lo hi : Option Int) : List T := (xs.drop (HT.sIx xs.length 0 lo)).take (HT.sIx xs.length xs.length hi - HT.sIx xs.length 0 lo)
theorem IsAll.cut {G : Hp} {vs : List V} {ts : List T} (h : IsAll K G vs ts) (lo hi : Option Int) : IsAll K G (cutV vs lo hi) (cutT ts lo hi) := by
  unfold cutV cutT
  rw [h.length]
  exact (h.drop _).take _
def gCut : T → Option Int → Option Int → (Sl → Prop) → Prop := fun t lo hi q => match t with
  | .str z => z.length ≤ sizeLine ∧ q (.sh (.str (cutS z lo hi)))
  | .lst xs => q (.ol (cutT xs lo hi))
  | .fls xs => q (.ol (cutT xs lo hi))
  | .tup xs => q (.sh (.tup (cutT xs lo hi)))
  | _ => False
def rCutU (K : PySem.W.Frag) : V → Option Int → Option Int → Hp → VK → Prop := fun x lo hi H Q => rSlS x lo hi H Q ∨ (rSlL K x lo hi H Q ∨ rSlA K x lo hi H Q)
theorem sl_U : SlR X (rCutU X.K) := SlR.or sl_str (SlR.or sl_list sl_tupA)
theorem simsl_cut : SimSl K M (rCutU K) gCut := fun t lo hi q e x G H ix ok Q hq => by
  unfold gCut at e
  split at e
  · cases ix
    exact .inl ⟨_, rfl, e.1, hq _ (.sh _) G H (.refl ok) .str e.2⟩
  · cases ix with
    | lst h r =>
      refine .inr (.inl ⟨_, _, rfl, SqL.of (ok.sub _ _ h), fun p hp => ?_⟩)
      obtain ⟨g, z⟩ := ol_new ok hp (r.cut lo hi)
      exact hq _ _ _ _ g z e
  · cases ix with
    | fls h r =>
      refine .inr (.inl ⟨_, _, rfl, ok.sub.sqL h, fun p hp => ?_⟩)
      obtain ⟨g, z⟩ := ol_new ok hp (r.cut lo hi)
      exact hq _ _ _ _ g z e
  · rename_i ts0
    cases ix with
    | tup h r =>
      refine .inr (.inr ⟨_, _, rfl, ok.sub.sqT h, fun hw => ?_, fun _ p hp => ?_⟩)
      · have ez : cutT ts0 lo hi = ts0 := by
          unfold cutT
          rw [r.length] at hw
          rw [hw.1, hw.2, List.drop_zero, Nat.sub_zero, List.take_length]
        rw [ez] at e
        exact hq _ (.sh _) G H (.refl ok) (.tup h r) e
      · obtain ⟨g, z⟩ := tup_new ok hp (r.cut lo hi)
        exact hq _ (.sh _) _ _ g z e
  · exact e.elim
end
end TL
namespace TL
open PySem PySem.Spec PyProof.Rows L2
variable [TheW]
/-! ### the law's draw: its dict at d, its large numbers at L, its cells at C -/
abbrev Tb := List (Addr × Str)
theorem code_ne {H : Hp} {a c : Addr} {q : Str} {o : HO} (h : H a = some o) (m : Mu o) (e : H c = some (LamX.CodeO c q)) : c ≠ a := fun z => by
  subst z
  rw [h] at e
  cases e
  rcases m with ⟨_, z⟩ | ⟨_, z⟩ | ⟨φ, z, m⟩
  · cases z
  · cases z
  · have z' := HO.ext.inj z
    generalize ho : ({ cls := .none, data := .fields #[.none, .str q 0] } : Obj) = ob
    have hd : ob.data = .fields #[.none, .str q 0] := by rw [← ho]
    have hg : ∀ b, (⟨Array.replicate (c + 1) ob, {}⟩ : Heap).get? b = none ∨ (⟨Array.replicate (c + 1) ob, {}⟩ : Heap).get? b = some ob := fun b => by
      by_cases hb : b < c + 1
      · right
        unfold Heap.get?
        have e1 : (Array.replicate (c + 1) ob)[b]? = some ob := by simp [hb]
        simp only [e1]
        subst ho
        rfl
      · left
        unfold Heap.get?
        have e1 : (Array.replicate (c + 1) ob)[b]? = none := by rw [Array.getElem?_eq_none_iff]; simp only [Array.size_replicate]; exact Nat.le_of_not_lt hb
        simp only [e1]
    have hc : (⟨Array.replicate (c + 1) ob, {}⟩ : Heap).get? c = some ob := by
      unfold Heap.get?
      have e1 : (Array.replicate (c + 1) ob)[c]? = some ob := by simp
      simp only [e1]
      subst ho
      rfl
    have key : φ ⟨Array.replicate (c + 1) ob, {}⟩ := by
      rw [← z']
      exact ⟨ob, #[.none, .str q 0], 0, hc, hd, rfl⟩
    obtain ⟨a, ob', e, n⟩ := m _ key
    rcases hg a with e1 | e1
    · rw [e1] at e
      cases e
    · rw [e1] at e
      cases e
      exact n _ hd
theorem tbl_ne {H : Hp} {a P : Addr} {o : HO} {ps : Array Value} (h : H a = some o) (m : Mu o) (e : H P = some (.tbl ps)) : P ≠ a := fun z => by
  subst z
  rw [h] at e
  cases e
  rcases m with ⟨_, z⟩ | ⟨_, z⟩ | ⟨_, z, _⟩ <;> cases z
theorem tabs_wr {T : Tb} {H : Hp} {a : Addr} {o o' : HO} (j : LamX.Tabs T H) (h : H a = some o) (m : Mu o) : LamX.Tabs T (upd H a o') := fun p hp => by
  obtain ⟨ps, h1, h2, h3⟩ := j p hp
  refine ⟨ps, by rw [upd_ne (tbl_ne h m h1)]; exact h1, h2, fun pos cv hc => ?_⟩
  obtain ⟨c, e1, e2⟩ := h3 pos cv hc
  exact ⟨c, e1, by rw [upd_ne (code_ne h m e2)]; exact e2⟩
/-- nothing but the tables -/
def MT (T : Tb) : Mode where
  S := fun a => ∃ p ∈ T, p.1 = a
  U := fun a => ∃ p ∈ T, p.1 = a
  J := fun H => LamX.Tabs T H
  st := fun _ _ j s => j.ext s
  wr := fun _ _ _ _ j _ h m => tabs_wr j h m
  su := fun _ h => h
def drwE (L C : Addr) (r t : Int) : List (Key × V) := [(.inr "large", .ref L), (.inr "rest", .int r), (.inr "cells", .ref C), (.inr "turn", .int t)]
structure Drw (d L C : Addr) (cs : List Int) (H : Hp) : Prop where
  ne : L ≠ C
  d : ∃ r t, H d = some (.dK (drwE L C r t))
  l : ∃ ls : List Int, H L = some (.lst (ls.map V.int))
  c : H C = some (.lst (cs.map V.int))
theorem Drw.dL {d L C : Addr} {cs : List Int} {H : Hp} (w : Drw d L C cs H) : L ≠ d := fun z => by
  obtain ⟨r, t, h⟩ := w.d
  obtain ⟨ls, e⟩ := w.l
  subst z
  rw [h] at e
  cases e
theorem Drw.dC {d L C : Addr} {cs : List Int} {H : Hp} (w : Drw d L C cs H) : C ≠ d := fun z => by
  obtain ⟨r, t, h⟩ := w.d
  have e := w.c
  subst z
  rw [h] at e
  cases e
/-- the draw's mode -/
def DM (d L C : Addr) (cs : List Int) (T : Tb) : Mode where
  S := fun a => (a = d ∨ a = L) ∨ ∃ p ∈ T, p.1 = a
  U := fun a => (a = C ∨ a = d ∨ a = L) ∨ ∃ p ∈ T, p.1 = a
  J := fun H => Drw d L C cs H ∧ LamX.Tabs T H
  st := fun _ _ ⟨w, j⟩ s => ⟨⟨w.ne, let ⟨r, t, h⟩ := w.d; ⟨r, t, s _ _ h⟩, let ⟨ls, h⟩ := w.l; ⟨ls, s _ _ h⟩, s _ _ w.c⟩, j.ext s⟩
  wr := fun H a o o' ⟨w, j⟩ u h m => ⟨⟨w.ne, let ⟨r, t, h⟩ := w.d; ⟨r, t, by rw [upd_ne (fun z => u (.inl (.inr (.inl z.symm))))]; exact h⟩, let ⟨ls, h⟩ := w.l; ⟨ls, by rw [upd_ne (fun z => u (.inl (.inr (.inr z.symm))))]; exact h⟩, by rw [upd_ne (fun z => u (.inl (.inl z.symm)))]; exact w.c⟩, tabs_wr j h m⟩
  su := fun a h => h.elim (fun h => .inl (.inr h)) .inr
theorem k_lr : (Sum.inr ("large" : Str) : Key) ≠ Sum.inr ("rest" : Str) := by decide
theorem k_lc : (Sum.inr ("large" : Str) : Key) ≠ Sum.inr ("cells" : Str) := by decide
theorem k_lt : (Sum.inr ("large" : Str) : Key) ≠ Sum.inr ("turn" : Str) := by decide
theorem k_rc : (Sum.inr ("rest" : Str) : Key) ≠ Sum.inr ("cells" : Str) := by decide
theorem k_rt : (Sum.inr ("rest" : Str) : Key) ≠ Sum.inr ("turn" : Str) := by decide
theorem k_ct : (Sum.inr ("cells" : Str) : Key) ≠ Sum.inr ("turn" : Str) := by decide
theorem drw_l {L C : Addr} {r t : Int} : valV (drwE L C r t) (.inr "large") = some (.ref L) := valV_pos rfl
theorem drw_r {L C : Addr} {r t : Int} : valV (drwE L C r t) (.inr "rest") = some (.int r) := (valV_neg k_lr).trans (valV_pos rfl)
theorem drw_c {L C : Addr} {r t : Int} : valV (drwE L C r t) (.inr "cells") = some (.ref C) := ((valV_neg k_lc).trans (valV_neg k_rc)).trans (valV_pos rfl)
theorem drw_t {L C : Addr} {r t : Int} : valV (drwE L C r t) (.inr "turn") = some (.int t) := (((valV_neg k_lt).trans (valV_neg k_rt)).trans (valV_neg k_ct)).trans (valV_pos rfl)
theorem drw_pr {L C : Addr} {r t n : Int} : putK (drwE L C r t) (.inr "rest") (.int n) = drwE L C n t := by
  unfold putK
  rw [valV_any, drw_r]
  simp only [Option.isSome_some, if_true, drwE, List.map_cons, List.map_nil]
  rw [if_neg k_lr, if_neg k_rc.symm, if_neg k_rt.symm]
theorem drw_pt {L C : Addr} {r t n : Int} : putK (drwE L C r t) (.inr "turn") (.int n) = drwE L C r n := by
  unfold putK
  rw [valV_any, drw_t]
  simp only [Option.isSome_some, if_true, drwE, List.map_cons, List.map_nil]
  rw [if_neg k_lt, if_neg k_rt, if_neg k_ct]
section
variable {X : Cx} {K : PySem.W.Frag} {M : Mode} {E : XK} {G H G' H' : Hp} {d L C : Addr} {cs : List Int} {T : Tb} {τ : List Sl}
/-- what may change by others changes -/
theorem Go.alt (ok : Ok M G H) {a : Addr} {o o' : HO} (s : M.S a) (e : H a = some o) (j : M.J (upd H a o')) : Go M G H G (upd H a o') :=
  ⟨.refl _, fun b u q => by rw [upd_ne (ne_of_none q (ok.s a s))]; exact ok.sub b u q, fun b u n q => by rw [upd_ne (fun z => n (by rw [z]; exact s))]; exact q, fun b q => by
    by_cases z : b = a
    · subst z; rw [upd_same]; simp
    · rw [upd_ne z]; exact q, fun _ h _ => h, j⟩
theorem Ok.put (ok : Ok (DM d L C cs T) G H) {r t : Int} : ∃ o, H d = some o ∧ (DM d L C cs T).J (upd H d (.dK (drwE L C r t))) := by
  obtain ⟨w, j⟩ := ok.j
  obtain ⟨r0, t0, h0⟩ := w.d
  exact ⟨_, h0, ⟨w.ne, ⟨r, t, upd_same⟩, let ⟨ls, h⟩ := w.l; ⟨ls, by rw [upd_ne w.dL]; exact h⟩, by rw [upd_ne w.dC]; exact w.c⟩, tabs_wr j h0 (.inr (.inl ⟨_, rfl⟩))⟩
theorem Ok.popL (ok : Ok (DM d L C cs T) G H) {ls : List Int} : ∃ o, H L = some o ∧ (DM d L C cs T).J (upd H L (.lst (ls.map V.int))) := by
  obtain ⟨w, j⟩ := ok.j
  obtain ⟨l0, h0⟩ := w.l
  exact ⟨_, h0, ⟨w.ne, let ⟨r, t, h⟩ := w.d; ⟨r, t, by rw [upd_ne w.dL.symm]; exact h⟩, ⟨ls, upd_same⟩, by rw [upd_ne w.ne.symm]; exact w.c⟩, tabs_wr j h0 (.inl ⟨_, rfl⟩)⟩
def IsDM (M : Mode) (d : Addr) : Prop := ∃ L C cs T, M = DM d L C cs T
/-- the draw stands in the i-th slot -/
def atD (M : Mode) (i : Nat) (τ : List Sl) : Prop := ∃ d, τ[i]? = some (.sh (.raw (.ref d))) ∧ IsDM M d
theorem raw_inv {v u : V} (h : Is K G v (.raw u)) : v = u := by cases h; rfl
/-- draw['rest'], draw['turn'] -/
def gDi (M : Mode) (i : Nat) : TEx := fun τ q _ => atD M i τ ∧ ∀ n : Int, q (.sh (.int n))
theorem W1.atD {σ : List (Option V)} (w : W1 K M G H σ τ) {i : Nat} (h : atD M i τ) : ∃ d L C cs T, σ[i]? = some (some (.ref d)) ∧ M = DM d L C cs T := by
  obtain ⟨d, h1, L, C, cs, T, hM⟩ := h
  obtain ⟨os, en, _⟩ := w.en
  obtain ⟨v, h2, h3⟩ := en.get h1
  cases raw_inv h3
  exact ⟨d, L, C, cs, T, h2, hM⟩
theorem sim_di {i : Nat} {x : Str} (hx : x = "rest" ∨ x = "turn") : SimE K M E (tDGet (tVar i) (tC (.str x))) (gDi M i) := fun τ q r e σ G H w Q hq _ => by
  obtain ⟨d, L, C, cs, T, h1, rfl⟩ := w.atD e.1
  obtain ⟨r, t, h⟩ := w.ok.j.1.d
  refine ⟨_, h1, d, ?_⟩
  rcases hx with rfl | rfl
  · exact ⟨.int r, rfl, by rw [← drw_r (L := L) (C := C) (r := r) (t := t)]; exact DGet.k (k := .inr "rest") h, hq _ (.sh (.int r)) G H (.refl w.ok) .int (e.2 r)⟩
  · exact ⟨.int t, rfl, by rw [← drw_t (L := L) (C := C) (r := r) (t := t)]; exact DGet.k (k := .inr "turn") h, hq _ (.sh (.int t)) G H (.refl w.ok) .int (e.2 t)⟩
/-- draw['rest'] = .., draw['turn'] = .. -/
def sDi (M : Mode) (i : Nat) (a : TEx) : TSx := fun τ k => a τ (fun s => atD M i τ ∧ (∃ n : Int, s = .sh (.int n)) ∧ k.nx τ) k.ex
theorem sims_di {i : Nat} {x : Str} {te : TE} {a : TEx} (hx : x = "rest" ∨ x = "turn") (ha : SimE K M E te a) : SimS K M E (sDPut (tVar i) (tC (.str x)) te) (sDi M i a) := fun G0 H0 ok τ k e σ G H w D dk =>
  ha τ _ _ e σ G H (w.w1 ok) _ (fun v s G1 H1 g rs q => by
    obtain ⟨q1, ⟨n, rfl⟩, q3⟩ := q
    have w1 := w.next ok g
    have ok1 := (w1.w1 ok).ok
    obtain ⟨d, L, C, cs, T, h1, rfl⟩ := (w1.w1 ok).atD q1
    obtain ⟨r, t, h⟩ := ok1.j.1.d
    cases rs
    refine ⟨_, h1, d, ?_⟩
    rcases hx with rfl | rfl
    · obtain ⟨o, ho, j⟩ := ok1.put (r := n) (t := t)
      refine ⟨_, rfl, DPut.k (k := .inr "rest") h (by rw [sizeLine_eq]; exact (by decide : (4 : Nat) < 16777216)), ?_⟩
      rw [drw_pr]
      exact dk.nx _ _ G1 _ (w1.next ok (Go.alt ok1 (.inl (.inl rfl)) ho j)) g.gg q3
    · obtain ⟨o, ho, j⟩ := ok1.put (r := r) (t := n)
      refine ⟨_, rfl, DPut.k (k := .inr "turn") h (by rw [sizeLine_eq]; exact (by decide : (4 : Nat) < 16777216)), ?_⟩
      rw [drw_pt]
      exact dk.nx _ _ G1 _ (w1.next ok (Go.alt ok1 (.inl (.inl rfl)) ho j)) g.gg q3) (dk.ex.at w.go)
/-- for .. in draw['cells'] -/
def iDc (M : Mode) (i : Nat) : TIx := fun τ q _ => ∃ d L C cs Z, τ[i]? = some (.sh (.raw (.ref d))) ∧ M = DM d L C cs Z ∧ q (cs.map fun n => .int n)
theorem simi_dc {i : Nat} : SimI K M E (iSeq K (tDGet (tVar i) (tC (.str "cells")))) (iDc M i) := fun τ q r e σ G H w R hq _ => by
  obtain ⟨d, L, C, cs, T, h1, rfl, e⟩ := e
  obtain ⟨os, en, _⟩ := w.en
  obtain ⟨v, h2, h3⟩ := en.get h1
  cases raw_inv h3
  obtain ⟨r, t, h⟩ := w.ok.j.1.d
  refine ⟨_, h2, d, .ref C, rfl, by rw [← drw_c (L := L) (C := C) (r := r) (t := t)]; exact DGet.k (k := .inr "cells") h, .inl ⟨C, _, rfl, SqL.of w.ok.j.1.c, hq _ _ G H (.refl w.ok) (fun G1 H1 s ok j => ?_) e⟩⟩
  have hs : SqL K H1 C (cs.map V.int) := SqL.of ok.j.1.c
  refine ⟨fun hj => ⟨_, hs, by simpa using hj⟩, fun t ht => ?_⟩
  rw [List.getElem?_map] at ht
  obtain ⟨c, hc, rfl⟩ := Option.map_eq_some_iff.mp ht
  have hv : (cs.map V.int)[j]? = some (.int c) := by rw [List.getElem?_map, hc]; rfl
  refine ⟨⟨_, _, hs, hv⟩, fun x H' y => ?_⟩
  obtain ⟨rfl, y⟩ := y
  have e := y _ hs
  rw [hv] at e
  cases e
  exact ⟨G1, .refl ok, .int⟩
/-- draw['large'].pop(0) if draw['large'] != [] else .. -/
def gDpop (M : Mode) (i : Nat) (b : TEx) : TEx := fun τ q r => atD M i τ ∧ (∀ n : Int, q (.sh (.int n))) ∧ b τ q r
theorem dpAll_ints {H : Hp} : ∀ ls : List Int, DpAll K H (ls.map V.int) (ls.map PyData.int)
  | [] => .nil
  | n :: ls => .cons (.int n) (dpAll_ints ls)
theorem pop0 {n : Nat} (h : 0 < n) : seqIndex? 0 n = some 0 := by
  unfold seqIndex?
  simp
  omega
theorem sim_dpop {i : Nat} {tb : TE} {b : TEx} (hb : SimE K M E tb b) : SimE K M E (tIf (tTest (tOp (rNeU K) (tDGet (tVar i) (tC (.str "large"))) (tLst tNil))) (tBM K "list" rPopAt (tDGet (tVar i) (tC (.str "large"))) (tCons (tC (.int 0)) tNil)) tb) (gDpop M i b) := fun τ q r e σ G H w Q hq hx => by
  obtain ⟨e1, e2, e3⟩ := e
  obtain ⟨d, L, C, cs, T, h1, rfl⟩ := w.atD e1
  obtain ⟨r, t, h⟩ := w.ok.j.1.d
  obtain ⟨ls, hl⟩ := w.ok.j.1.l
  refine ⟨_, h1, d, .ref L, rfl, by rw [← drw_l (L := L) (C := C) (r := r) (t := t)]; exact DGet.k (k := .inr "large") h, ⟨Nat.zero_le _, fun p hp => ?_⟩⟩
  have g1 : Go (DM d L C cs T) G H G (upd H p (.lst [])) := .lay w.ok hp
  have hl1 : upd H p (.lst []) L = some (.lst (ls.map V.int)) := by rw [upd_ne (ne_of_none hl hp)]; exact hl
  have h11 : upd H p (.lst []) d = some (.dK (drwE L C r t)) := by rw [upd_ne (ne_of_none h hp)]; exact h
  refine .inr ⟨.list (ls.map PyData.int), .list [], .lst (SqL.of hl1) (dpAll_ints ls), .lst (SqL.of upd_same) .nil, PySem.W.shaped_ints ls, by decide +kernel, ⟨_, rfl, ?_⟩⟩
  cases ls with
  | nil =>
    have z : (!PyData.eqv (.list (([] : List Int).map PyData.int)) (.list [])) = false := by decide +kernel
    rw [z, if_neg (by decide)]
    exact hb τ q _ e3 σ G _ (w.go g1) Q (fun v s G2 H2 g2 rs qs => hq v s G2 H2 (g1.trans g2) (rs.early g1) qs) (hx.go g1)
  | cons l ls =>
    have z : (!PyData.eqv (.list ((l :: ls).map PyData.int)) (.list [])) = true := by simp [PyData.eqv, PyData.eqvAll]
    rw [z, if_pos rfl]
    refine ⟨_, h1, d, .ref L, rfl, by rw [← drw_l (L := L) (C := C) (r := r) (t := t)]; exact DGet.k (k := .inr "large") h11, .inl ⟨rfl, _, SqL.of hl1⟩, ?_⟩
    refine ⟨L, _, 0, 0, .int l, rfl, rfl, hl1, by decide, by decide, pop0 (by simp), rfl, ?_⟩
    obtain ⟨o, ho, j⟩ := (w.ok.go g1).popL (ls := ls)
    have g2 := Go.alt (w.ok.go g1) (.inl (.inr rfl)) ho j
    exact hq _ (.sh (.int l)) G _ (g1.trans g2) .int (e2 l)
end
end TL
namespace TL
open PySem PySem.Spec PyProof.Rows L2
variable [TheW]
/-! ### repr: no container is being shown already (guards) -/
structure ShOk (d : PyData) : Prop where
  s : d.showable = true
  l : d.leavesShort 13 = true
  b : d.bulk ≤ 2 ^ 20
  p : d.depth ≤ 60
  n : d.hasDict = false
theorem ShOk.fits {d : PyData} (h : ShOk d) : d.shown.length ≤ sizeLine := PyData.shown_fits_bulk (by decide) (by decide) h.l h.b
def rShow (K : PySem.W.Frag) : List V → Hp → VK → Prop := fun xs H Q => ∃ x d, xs = [x] ∧ Dp K H x d ∧ ShOk d ∧ Q (.str d.shown) H
section
variable {X : Cx} {K : PySem.W.Frag} {M : Mode} {E : XK}
theorem call_show (hg : X.A.guards = some []) (hu : X.A.units + 64 < cLine) : CallR X (.builtin "repr") (rShow X.K) := fun pins s σ H xs us Q I rx h => by
  obtain ⟨x, d, rfl, hd, ok, q⟩ := h
  obtain ⟨u, rfl, ru⟩ := rx.one
  have fin : ∀ (h' : Heap) (t tk : Tok), (∀ b o, s.heap.get? b = some o → h'.get? b = some o) → EP X pins σ Q (.str d.shown t) { s with heap := h', toks := tk } := fun h' t tk hk => ⟨.str _, H, I.kept hk, ⟨_, rfl⟩, q⟩
  have one : ∀ t tk : Tok, EP X pins σ Q (.str d.shown t) { s with toks := tk } := fun t tk => fin s.heap t tk fun _ _ e => e
  obtain ⟨as, r⟩ := Dp.reads I d x u hd ru
  have hp : X.A.units + (d.depth + 1) < cLine := by have := ok.p; omega
  cases r with
  | none => exact PySem.P.repr_of_none (one _ _)
  | bool b => exact PySem.P.repr_of_bool (by have e := one s.toks (s.toks + 1); simp only [PyData.shown] at e; exact e)
  | int i t => exact PySem.P.repr_of_int (by have z := ok.s; simpa [PyData.showable] using z) (by have e := one s.toks (s.toks + 1); simp only [PyData.shown] at e; exact e)
  | str y t => exact PySem.P.repr_of_str (by have e := one s.toks (s.toks + 1); simp only [PyData.shown] at e; exact e) (by have z := ok.fits; simpa only [PyData.shown] using z)
  | list h1 h2 h3 h4 => exact repr_of_reads' (.list h1 h2 h3 h4) ok.s (PyData.noDict_hsm ok.n) hg hp (fun _ _ e => e) fin ok.fits
  | tuple h1 h2 h3 h4 => exact repr_of_reads' (.tuple h1 h2 h3 h4) ok.s (PyData.noDict_hsm ok.n) hg hp (fun _ _ e => e) fin ok.fits
  | dict h1 h2 h3 h4 => cases hd
def gShow : GC := fun ts q => match ts with
  | [t] => oks t.py fun d => ShOk d ∧ q (.sh (.str d.shown))
  | _ => False
theorem simc_show : SimC K M (rShow K) gShow := fun ts q e vs G H i ok Q hq => by
  unfold gShow at e
  split at e
  · obtain ⟨d, hd, ok1, e⟩ := oks_cases e
    cases i with
    | cons i1 i =>
      cases i
      exact ⟨_, d, rfl, i1.dp ok.sub hd, ok1, hq _ (.sh _) G H (.refl ok) .str e⟩
  · exact e.elim
end
/-! ### a def that shows: its promise where nothing is being shown -/
structure FnG (P : Program) (w : World) (K : PySem.W.Frag) (mg : Str → Option Value) (base : Heap) (CX : CXT) (k : Nat) (f : Addr) (fd : FuncData) (ps : List Str) (sp : Sp) : Prop where
  len : ∀ vs H Q E, sp vs H Q E → vs.length = ps.length
  run : ∀ (A : Around) (outer : List Env) (s : Shared) (H : Hp) (args : Args) (us : List Value) (vs : List V) (Q : VK) (E : XK), A.guards = some [] → Room k A → Env0 P w K mg base A outer s H →
    BindsTo s fd args (ps.zip us) → Vals vs us → sp vs H Q E → codeAny (model P w) A (.call (.ref f) args) (CR CX outer P w H s Q E) s
theorem FnG.mono {P : Program} {w : World} {K : PySem.W.Frag} {mg : Str → Option Value} {base : Heap} {CX : CXT} {j k : Nat} {f : Addr} {fd : FuncData} {ps : List Str} {sp : Sp} (F : FnG P w K mg base CX j f fd ps sp) (h : j ≤ k) : FnG P w K mg base CX k f fd ps sp :=
  ⟨F.len, fun A outer s H args us vs Q E hg hr => F.run A outer s H args us vs Q E hg (hr.mono h)⟩
section
variable {X : Cx} {CX : CXT} {k : Nat} {f : Addr} {fd : FuncData} {ps : List Str} {sp : Sp} {E : XK} {x : Str} {p pos : Pos} {e : Expr} {es : List Expr} {t : TA} {M : Mode}
theorem run_fnG {pins : List (Addr × Obj)} {σ : L2.St} {H : Hp} {s : Shared} {Q : VK} {us : List Value} {vs : List V} (F : FnG X.prog X.w X.K X.mg X.base CX k f fd ps sp) (hgd : X.A.guards = some []) (hr : Room k X.A) (hb : Binds X.K fd ps [])
    (hx : Passes CX X E) (I : Inv X pins σ H s) (r : Vals vs us) (h : sp vs H Q E) : wpAny (model X.prog X.w) X.A (call (.ref f) us) (EP X pins σ Q) X.xe s := by
  have hl : (us ++ []).length = ps.length := by
    rw [List.append_nil, ← r.length]
    exact F.len _ _ _ _ h
  have b := hb s us I.kIn hl
  rw [List.append_nil] at b
  refine wpAny_call (codeAny_mono (F.run X.A X.stack s H ⟨us, []⟩ us vs Q E hgd hr I.env0 b r h) fun o s2 ho => ?_)
  match o, ho with
  | .error z, ho => exact hx pins σ H s z s2 I ho
  | .ok (.ret u), ho => exact I.after ho
  | .ok .next, ho => exact ho.elim
  | .ok .brk, ho => exact ho.elim
  | .ok .cont, ho => exact ho.elim
theorem pe_callG (F : FnG X.prog X.w X.K X.mg X.base CX k f fd ps sp) (hgd : X.A.guards = some []) (hr : Room k X.A) (hg : Gl X x) (hm : X.mg x = some (.ref f)) (hk : PySem.W.keepIn X.K (.ref f) = true) (hb : Binds X.K fd ps []) (hx : Passes CX X E)
    (ha : PA X (e :: es) t) (hdb : (x == ("__debug__" : Str)) = false := by decide) (he : starEach (e :: es) X.env = (false, eval e X.env) :: starEach es X.env := by rfl) (hpl : (backTo pos (starEach es X.env)).any (·.1) = false := by rfl) :
    PE X (.Call (.Name x p) (e :: es) [] pos) (tCall sp [] E t) := ⟨fun pins s σ H Q I h =>
  wpAny_Call_Name_kw (ld_glob I hg hm (PySem.W.callWith_K (h₀ := X.base) I.ok.mod.kin hk (thn (ha.run pos pins s σ H _ I h) fun us s1 ⟨vs, H1, I1, r, q⟩ => ⟨I1.kIn, run_fnG F hgd hr hb hx I1 r (by have q' : sp (vs ++ []) H1 Q E := q; rw [List.append_nil] at q'; exact q')⟩) he hpl) hdb)⟩
end
section
variable {X : Cx} {M : Mode} {E : XK} {a : Expr} {es : List Expr} {t : TA} {gt : TAx} {x : Str} {p pos : Pos}
theorem ge_callG {CX : CXT} {k : Nat} {f : Addr} {fd : FuncData} {ps : List Str} {sp : SpX} (F : FnG X.prog X.w X.K X.mg X.base CX k f fd ps (lift X.K sp)) (hgd : X.A.guards = some []) (hr : Room k X.A) (hm : X.mg x = some (.ref f)) (hk : PySem.W.keepIn X.K (.ref f) = true)
    (hb : Binds X.K fd ps []) (hx : Passes CX X E) (ha : GA X M E (a :: es) t gt) (hg : Gl X x := by rfl) (hdb : (x == ("__debug__" : Str)) = false := by decide)
    (he : starEach (a :: es) X.env = (false, eval a X.env) :: starEach es X.env := by rfl) (hpl : (backTo pos (starEach es X.env)).any (·.1) = false := by rfl) :
    GE X M E (.Call (.Name x p) (a :: es) [] pos) (tCall (lift X.K sp) [] E t) (gCall M sp gt) := ⟨pe_callG F hgd hr hg hm hk hb hx ha.p hdb he hpl, sim_call ha.s⟩
end
section
variable {P : Program} {w : World} {K : PySem.W.Frag} {mg : Str → Option Value} {base : Heap} {x qual : Str} {params : Arguments} {body : List Stmt} {scope : Scope} {f : Addr} {fd : FuncData}
theorem mk_raw {CX : CXT} {N ps : List Str} {k : Nat} {sp : Sp} (F : FunD K x qual params body scope [] [] f fd) (S : FnScope N ps scope) (hl : ∀ vs H Q E, sp vs H Q E → vs.length = ps.length)
    (hbody : ∀ (cdv : Value) (A : Around) (outer : List Env) (s : Shared) (H : Hp) (vs : List V) (Q : VK) (E : XK), Room k (A.deeper (envOfC qual scope s.heap.objs.size f cdv)) → (A.deeper (envOfC qual scope s.heap.objs.size f cdv)).guards = some [] → sp vs H Q E →
      ∃ t, PSs (cxOf CX P w K mg base N qual scope f cdv A outer s H E) body t ∧ t { nx := fun _ H' => Q .non H', rt := Q } (L2.start N vs) H) : FnG P w K mg base CX (k + 1) f fd ps sp := by
  obtain ⟨oc, od, dV, kV, doc, pm, an, cdv, ct, osl, rfl, lk, hcd, _, _⟩ := F.ex
  refine ⟨hl, fun A outer s H args us vs Q E hg hr e0 hb hv hs => ?_⟩
  refine LamX.run_ofS lk hcd S hr e0 hb hv (hl _ _ _ _ hs) fun hr2 => hbody cdv A outer s H vs Q E hr2 ?_ hs
  have z : (A.deeper (envOfC qual scope s.heap.objs.size f cdv)).guards = A.guards := by rfl
  rw [z]
  exact hg
theorem mk_fnG {N ps : List Str} {k : Nat} {sp : SpX} (F : FunD K x qual params body scope [] [] f fd) (S : FnScope N ps scope) (hl : ∀ M ts q r, sp M ts q r → ts.length = ps.length)
    (hbody : ∀ (cdv : Value) (A : Around) (outer : List Env) (s : Shared) (H : Hp) (E : XK) (M : Mode), Room k (A.deeper (envOfC qual scope s.heap.objs.size f cdv)) → (A.deeper (envOfC qual scope s.heap.objs.size f cdv)).guards = some [] →
      ∃ t g, GSs (cxOf (L2.CX P w) P w K mg base N qual scope f cdv A outer s H E) M E body t g ∧ ∀ ts q r, sp M ts q r → g (startS N ts) (KnOf q r)) : FnG P w K mg base (L2.CX P w) (k + 1) f fd ps (lift K sp) := by
  refine mk_raw F S (fun vs H Q E ⟨M, G, ts, q, r, _, i, hs, _⟩ => by rw [i.length]; exact hl M ts q r hs) fun cdv A outer s H vs Q E hr hg ⟨M, G, ts, q, r, ok, i, hs, hq, hx⟩ => ?_
  obtain ⟨t, g, hp, hg⟩ := hbody cdv A outer s H E M hr hg
  refine ⟨t, hp.p, hp.s G H ok (startS N ts) (KnOf q r) (hg ts q r hs) (L2.start N vs) G H ⟨⟨[], en_start i, fun _ h => nomatch h⟩, .refl ok⟩ _ ⟨?_, hq, fun _ _ _ _ _ _ h => h.elim, fun _ _ _ _ _ _ h => h.elim, hx⟩⟩
  exact fun σ τ G1 H1 w1 _ z => hq .non (.sh .non) G1 H1 w1.go .non z
end
end TL
namespace TL
open PySem PySem.Spec PyProof.Rows L2
variable [TheW]
/-! ### the end: a law's def that shows, at the head's heap -/
/-- what is tracked there: the tables, and the script unless it is the module's -/
def Hend (K : PySem.W.Frag) (ts : List Addr) (a : Addr) (oa : Obj) (zs : List V) : Hp := fun b => if b ∈ ts then some (.tbl #[]) else if b = a ∧ K.lookup a = none then some (.frz oa (.lst zs)) else none
section
variable {K : PySem.W.Frag} {ts : List Addr} {a b : Addr} {oa : Obj} {zs : List V} {u : HO}
theorem hend_t (h : b ∈ ts) : Hend K ts a oa zs b = some (.tbl #[]) := if_pos h
theorem hend_a (h : a ∉ ts) (k : K.lookup a = none) : Hend K ts a oa zs a = some (.frz oa (.lst zs)) := (if_neg h).trans (if_pos ⟨rfl, k⟩)
theorem hend_some (h : Hend K ts a oa zs b = some u) : (b ∈ ts ∧ u = .tbl #[]) ∨ (b = a ∧ K.lookup a = none ∧ u = .frz oa (.lst zs)) := by
  unfold Hend at h
  split at h
  · rename_i hb
    exact .inl ⟨hb, by cases h; rfl⟩
  · split at h
    · rename_i hb
      exact .inr ⟨hb.1, hb.2, by cases h; rfl⟩
    · cases h
end
abbrev tabO : Obj := { cls := .none, data := .fields #[] }
section
variable {P : Program} {w : World} {K : PySem.W.Frag} {mg mb : Str → Option Value} {CX : CXT} {k : Nat} {fa a : Addr} {cs : List (Addr × Addr)} {fd : FuncData} {x : Str} {sp : Sp} {s₁ : Shared} {vs : List Value} {ns : List Int}
theorem end_call (KX : K.In s₁.heap) (hns : s₁.heap.Ns mainGlobals mg) (hb : s₁.heap.Ns builtinsNs mb) (hbb : ∀ x : Str, x ≠ "__name__" → mb x = bootBuiltins x) (hlim : s₁.heap.NoLimit) (hg : s₁.gens = #[])
    (hT : ∀ p ∈ cs, s₁.heap.get? p.2 = some tabO) (nT : ∀ p ∈ cs, K.lookup p.2 = none) (C : ∀ p ∈ cs, PySem.W.CodeHd s₁.heap p.1 p.2)
    (hbm : ∃ (bm : Addr) (ob : Obj), mg "__builtins__" = some (.ref bm) ∧ bm ≠ builtinsNs ∧ s₁.heap.get? bm = some ob ∧ ob.cls = .type "module" ∧ ob.dict = some builtinsNs ∧ ob.data = .plain)
    (ha : s₁.heap.get? a = some { cls := .type "list", data := .seq vs.toArray }) (hi : IntsAre vs ns) (hl : ns.length ≤ sizeLine) (hr : Room k callerA)
    (F : ∀ base : Heap, K.In base → base.Ns mainGlobals mg → (∀ p ∈ cs, LamX.TabB base mg p.1 p.2) → FnG P w K mg base CX k fa fd [x] sp) (hbind : ∀ (s : Shared) (u : Value), BindsTo s fd ⟨[u], []⟩ [(x, u)])
    (hsp : ∀ H : Hp, (∀ p ∈ cs, H p.2 = some (.tbl #[])) → SqL K H a (ns.map V.int) → sp [.ref a] H (fun v _ => v = .bl true) fun _ _ _ => False)
    (hCX : ∀ H e s', CX [] H s₁ (fun _ _ _ => False) e s' → False) :
    codeAny (model P w) callerA (.call (.ref fa) ⟨[.ref a], []⟩) (fun r s' => r = .ok (.ret (.bool true)) ∧ OldK s₁.heap s'.heap ∧ s'.os = s₁.os ∧ AllBare s'.gens) s₁ := by
  have rels := vals_ints hi
  have tab : ∀ b ∈ cs.map (·.2), s₁.heap.get? b = some tabO ∧ K.lookup b = none := fun b m => by
    obtain ⟨p, hp, rfl⟩ := List.mem_map.mp m
    exact ⟨hT p hp, nT p hp⟩
  have aOut : a ∉ cs.map (·.2) := fun m => by
    have z := (tab a m).1
    rw [ha] at z
    cases congrArg Obj.data (Option.some.inj z)
  -- the abstract heap
  have hOk : HOk P w (Hend K (cs.map (·.2)) a { cls := .type "list", data := .seq vs.toArray } (ns.map V.int)) s₁.heap := fun b u e => by
    rcases hend_some e with ⟨m, rfl⟩ | ⟨rfl, _, rfl⟩
    · exact (tab b m).1
    · exact ⟨ha, by rw [List.length_map]; exact hl, vs, _, rels, ha⟩
  have sq : SqL K (Hend K (cs.map (·.2)) a { cls := .type "list", data := .seq vs.toArray } (ns.map V.int)) a (ns.map V.int) := by
    cases q : K.lookup a with
    | none => exact .inl (.inr ⟨_, hend_a aOut q⟩)
    | some o =>
      have z := KX a o q
      rw [ha] at z
      cases z
      exact .inr ⟨_, vs.toArray, _, q, rfl, rfl, rfl, by rw [List.size_toArray, hi.length]; exact hl, by simpa using rels⟩
  generalize hH : Hend K (cs.map (·.2)) a { cls := .type "list", data := .seq vs.toArray } (ns.map V.int) = H at hOk sq
  have cases' : ∀ {b : Addr} {u : HO}, H b = some u → (b ∈ cs.map (·.2) ∧ u = .tbl #[]) ∨ (b = a ∧ K.lookup a = none ∧ u = .frz { cls := .type "list", data := .seq vs.toArray } (.lst (ns.map V.int))) := fun {b u} e => by
    rw [← hH] at e
    exact hend_some e
  have tabH : ∀ p ∈ cs, H p.2 = some (.tbl #[]) := fun p hp => by
    rw [← hH]
    exact hend_t (List.mem_map.mpr ⟨p, hp, rfl⟩)
  -- what is neither a plain list nor a table is the base's
  have free : ∀ {b : Addr} {o : Obj}, s₁.heap.get? b = some o → (∀ its n, o.data ≠ .seq its n) → o.data ≠ .fields #[] → H b = none := fun {b o} e h1 h2 => by
    cases q : H b with
    | none => rfl
    | some u =>
      rcases cases' q with ⟨m, _⟩ | ⟨rfl, _, _⟩
      · rw [(tab b m).1] at e
        cases e
        exact (h2 rfl).elim
      · rw [ha] at e
        cases e
        exact (h1 _ _ rfl).elim
  have nsB : ∀ {b : Addr} {m : Str → Option Value}, s₁.heap.Ns b m → (hidT s₁.heap H).Ns b m := fun {b m} ⟨o, es, ep, e, d, r⟩ =>
    ⟨o, es, ep, hidT_get e (free e (fun its n z => by rw [d] at z; cases z) fun z => by rw [d] at z; cases z), d, r⟩
  have inB : K.In (hidT s₁.heap H) := fun b o e => hidT_get (KX b o e) (by
    cases q : H b with
    | none => rfl
    | some u =>
      rcases cases' q with ⟨m, _⟩ | ⟨rfl, k0, _⟩
      · rw [(tab b m).2] at e
        cases e
      · rw [k0] at e
        cases e)
  have tabs : ∀ p ∈ cs, LamX.TabB (hidT s₁.heap H) mg p.1 p.2 := fun p hp => by
    have here := hT p hp
    refine ⟨?_, ?_, fun z => ?_⟩
    · obtain ⟨o, us, file, tf, flags, tg, inF, text, tt, e1, r1, r2, r3, r⟩ := C p hp
      exact ⟨o, us, file, tf, flags, tg, inF, text, tt, hidT_get e1 (free e1 (fun its n z => by rw [r2] at z; cases z) fun z => by rw [r2] at z; cases z; simp at r3), r1, r2, r3, r⟩
    · obtain ⟨bm, ob, b1, b2, b3, b4, b5, b6⟩ := hbm
      refine ⟨bm, ob, b1, b2, fun q => ?_, fun q => ?_, hidT_get b3 (free b3 (fun its n z => by rw [b6] at z; cases z) fun z => by rw [b6] at z; cases z), b4, b5, b6⟩
      · obtain ⟨o, es, ep, e, hd, _⟩ := hns
        rw [q, e] at b3
        cases b3
        rw [hd] at b6
        cases b6
      · rw [q, here] at b3
        cases b3
        cases b6
    · obtain ⟨o, es, ep, e, hd, _⟩ := hns
      rw [z, here] at e
      cases e
      cases hd
  have md : L2.Mod K mg (hidT s₁.heap H) := ⟨inB, nsB hns, ⟨mb, nsB hb, hbb⟩, hlim.elim fun mc h => ⟨mc, nsB h.1, h.2⟩⟩
  have e0 : Env0 P w K mg (hidT s₁.heap H) callerA [] s₁ H := by
    refine ⟨rfl, md, fun _ _ => of_hidT, Nat.le_of_eq (hidT_size _ _), trivial, fun b m => ?_, hOk, .of_eq hg⟩
    cases (show b ∈ ([] : List Addr) from m)
  refine codeAny_mono ((F _ inB (nsB hns) tabs).run callerA [] s₁ H ⟨[.ref a], []⟩ [.ref a] [.ref a] _ _ (by rfl) hr e0 (hbind s₁ (.ref a)) (.cons rfl .nil) (hsp H tabH sq)) fun r s2 q => ?_
  match r, q with
  | .error z, q => exact (hCX H z s2 q).elim
  | .ok .next, q => exact q.elim
  | .ok .brk, q => exact q.elim
  | .ok .cont, q => exact q.elim
  | .ok (.ret u), q =>
    obtain ⟨v, H2, os, bare, un, ok2, rv, q1⟩ := q
    have q2 : v = V.bl true := q1
    rw [q2] at rv
    have ru : u = Value.bool true := rv
    have stay : ∀ (b : Addr) (o : Obj), b ∉ cs.map (·.2) → s₁.heap.get? b = some o → s2.heap.get? b = some o := fun b o m e => by
      cases z : H b with
      | none => exact un.keep b o e z (fun h => nomatch (show b ∈ ([] : List Addr) from h)) (fun h => nomatch (show b ∈ ([] : List Addr) from h))
      | some u0 =>
        rcases cases' z with ⟨m', _⟩ | ⟨_, _, hu⟩
        · exact (m m').elim
        · rw [hu] at z
          have e1 := (hOk b _ z).1
          have e2 := (ok2 b _ (un.frzs b _ _ z)).1
          rw [e] at e1
          cases e1
          exact e2
    have more : ∀ p ∈ cs, ∃ xs : Array Value, s2.heap.get? p.2 = some { cls := .none, data := .fields xs } := fun p hp =>
      let ⟨xs, z⟩ := un.tbls p.2 #[] (tabH p hp)
      ⟨_, ok2 p.2 _ z⟩
    refine ⟨by rw [ru], ⟨fun b o e => ?_, fun b o e => ?_⟩, os, bare⟩
    · by_cases m : b ∈ cs.map (·.2)
      · obtain ⟨p, hp, rfl⟩ := List.mem_map.mp m
        obtain ⟨xs, hx⟩ := more p hp
        have z := hT p hp
        rw [e] at z
        cases z
        exact .inr (.inl ⟨((C p hp).tab (hT p hp)).isCodeTable, rfl, #[], xs, rfl, by rw [Array.empty_append]; exact hx⟩)
      · exact .inl (stay b o m e)
    · by_cases m : b ∈ cs.map (·.2)
      · obtain ⟨p, hp, rfl⟩ := List.mem_map.mp m
        exact (more p hp).elim fun xs h => ⟨_, h⟩
      · exact ⟨o, stay b o m e⟩
end
/-- what is known of the law's promise at the head's heap h -/
def LawG (l : PySem.W.OpenLaw) (w : World) (K : PySem.W.Frag) (CX : CXT) (k n : Nat) (x : Str) (mg : Str → Option Value) (fa : Addr) (h : Heap) : Prop :=
  ∃ (fd : FuncData) (cs : List (Addr × Addr)) (sp : Sp), ((∀ p ∈ cs, h.get? p.2 = some tabO) ∧ (∀ p ∈ cs, K.lookup p.2 = none) ∧ ∀ p ∈ cs, PySem.W.CodeHd h p.1 p.2) ∧ (∀ (s : Shared) (u : Value), BindsTo s fd ⟨[u], []⟩ [(x, u)]) ∧
    (∀ (H : Hp) (a : Addr) (ns : List Int), ns.length ≤ n → (∀ z ∈ ns, Builtin.Int.intBits z ≤ 1048576) → (∀ p ∈ cs, H p.2 = some (.tbl #[])) → SqL K H a (ns.map V.int) → sp [.ref a] H (fun v _ => v = .bl true) fun _ _ _ => False) ∧
    ∀ base : Heap, K.In base → base.Ns mainGlobals mg → (∀ p ∈ cs, LamX.TabB base mg p.1 p.2) → FnG l.prog w K mg base CX k fa fd [x] sp
omit [TheW] in
theorem walk_G {l : PySem.W.OpenLaw} {n k : Nat} {q : Program} {loose : List Str} {XP : (Str → Option Value) → Heap → Prop} {YP : World → Heap → Prop} {d : DefRec} {CX : World → CXT} {x : Str}
    (hn : l.most = some n) (hn2 : n ≤ sizeLine) (hdf : d.params.defaults = []) (hr : Room k callerA)
    (F : ∀ (w : World) (mg : Str → Option Value) (fa : Addr) (h : Heap), YP w h → h.Ns mainGlobals mg → mg d.name = some (.ref fa) → ∃ K : PySem.W.Frag, K.In h ∧ LawG l w K (CX w) k n x mg fa h)
    (hCX : ∀ (w : World) (H : Hp) (s : Shared) (e : Value) (s' : Shared), CX w [] H s (fun _ _ _ => False) e s' → False) : PySem.W.WalkO q loose XP YP l.row.toRowW d [] (fun f vs => PySem.call f vs) := by
  refine Att.attach_callB hn hdf fun w s₀ s₁ mg mb fa o pm cd doc a vs ns gr hy ho hd hcd hmg hobj hints hlen hbits hg => ?_
  letI : TheW := ⟨l.prog, w⟩
  obtain ⟨K, hK, fd, cs, sp, ⟨h1, h2, h3⟩, hb, hs, hF⟩ := F w mg fa _ hy gr.T.g hmg
  exact end_call hK gr.T.g gr.T.b gr.T.builtins gr.T.nolimit hg h1 h2 h3 gr.T.bmain hobj hints (Nat.le_trans hlen hn2) hr hF hb (fun H t z => hs H a ns hlen hbits t z) fun H e s2 => hCX w H s₁ e s2
end TL
namespace TL
open PySem PySem.Spec PyProof.Rows L2
variable [TheW]
/-! ### a caught exception as a value -/
/-- an exception object of the class cls at a -/
def ExV (cls : Value) (a : Addr) : HO := .ext fun h => ∃ (oe : Obj) (vs : Array Value), h.get? a = some oe ∧ Zc cls none oe ∧ oe.data = .fields vs
theorem exV_ok {P : Program} {w : World} {H : Hp} {h : Heap} {a : Addr} {cls : Value} {oe : Obj} {vs : Array Value} (e : h.get? a = some oe) (z : Zc cls none oe) (d : oe.data = .fields vs) : ObjOk P w H h a (ExV cls a) :=
  ⟨⟨oe, vs, e, z, d⟩, ⟨oe, e⟩, fun _ _ ⟨o, v, q, r⟩ k => ⟨o, v, k o q, r⟩⟩
section
variable {X : Cx} {pins : List (Addr × Obj)} {σ : L2.St} {H : Hp} {s : Shared} {a : Addr} {o : HO}
/-- what stands in the heap, new since the entry, is tracked from now on -/
theorem inv_track (I : Inv X pins σ H s) (n : H a = none) (n0 : X.s_0.heap.get? a = none) (nL : a ≠ X.env.locals) (nC : ∀ x c, X.env.cells.lookup x = some c → c ≠ a) (nP : ∀ p ∈ X.pn ++ pins, p.1 ≠ a)
    (new : ObjOk X.prog X.w (upd H a o) s.heap a o) : Inv X pins σ (upd H a o) s := by
  refine ⟨I.ok, I.os, I.bare, ⟨I.base.keep, I.base.slot, fun b u e q hx => ?_, I.base.there, fun b xs q => ?_, fun b u xs q => ?_, fun b ps q => ?_⟩, I.loc, I.cell, ?_, fun x c e => ?_, fun p hp => ?_, I.hok.laidN (fun _ _ q => q) n new, I.len⟩
  · rw [upd_ne (fun z => by rw [z, n0] at e; cases e)]
    exact I.base.free b u e q hx
  · have z := I.base.tups b xs q
    rw [upd_ne (ne_of_none z n)]
    exact z
  · have z := I.base.frzs b u xs q
    rw [upd_ne (ne_of_none z n)]
    exact z
  · obtain ⟨m, z⟩ := I.base.tbls b ps q
    exact ⟨m, by rw [upd_ne (ne_of_none z n)]; exact z⟩
  · rw [upd_ne nL.symm]
    exact I.free
  · rw [upd_ne (nC x c e)]
    exact I.freeC x c e
  · obtain ⟨z1, z2, z3⟩ := I.pin p hp
    exact ⟨z1, by rw [upd_ne (nP p hp)]; exact z2, z3⟩
end
/-- what the clause 'except c as n: y = n' wishes of an exception (slots i of n, j of y) -/
def wGot (K : PySem.W.Frag) (c : Value) (i j : Nat) (D : Ends) : WX := fun cls d σ H => PySem.W.exmOne K cls c = some true ∧ d = none ∧ ∀ a, H a = none → D.nx (((σ.set i (some (.ref a))).set j (some (.ref a))).set i none) (upd H a (ExV cls a))
section
variable {X : Cx} {x n y : Str} {c : Value} {i j : Nat} {body : List Stmt} {np pos pos' p1 p2 p3 : Pos} {tb : WX → TS}
theorem ps_got (st : X.stack = X.env :: X.outer) (fr : X.env.frame = some X.env.locals) (nd : X.N.Nodup) (hi : X.N[i]? = some n) (hj : X.N[j]? = some y) (li : X.env.kindOf n = some .local) (lj : X.env.scope.names.lookup y = some .local) (ly : X.env.scope.names.lookup n = some .local) (hc : Names X x c) (ex0 : X.ex = [])
    (dn : (n == ("__debug__" : Str)) = false) (dc : (n == ("__classdict__" : Str)) = false)
    (sw : ∀ a pn, swapsWith (.Name n p1) (some (.Name y p2)) p3.line (X.suite a pn).env = pure false)
    (hb : ∀ (W : WX) (pn : List (Addr × Obj)) (xe : Value → Shared → Prop), Takes (X.tr pn xe) W → PassesOwn (model X.prog X.w) X.A X.env xe → PSs (X.tr pn xe) body (tb W)) :
    PS X (.Try body [.ExceptHandler (some (.Name x np)) (some n) [.Assign [.Name y p2] (.Name n p1) p3] pos'] [] [] pos) (fun D σ H => tb (wGot X.K c i j D) D σ H) := ⟨fun pins s σ H D I h => by
  have ok := I.ok
  have frs0 : X.A.frames = some (X.env :: X.outer) := ok.frames.trans (congrArg some st)
  have lx : Loc X.env.scope n := .inl li
  let after : Value → Shared → Prop := fun e s₁ => wpAny (model X.prog X.w) X.A (noteFrame e X.env) (fun _ s₂ => wpAny (model X.prog X.w) X.A (setFlight e none) (fun _ s₃ =>
    wpAny (model X.prog X.w) X.A (handleBy e X.env [.ExceptHandler (some (.Name x np)) (some n) [.Assign [.Name y p2] (.Name n p1) p3] pos']) (SP X pins D) X.xe s₃) X.xe s₂) X.xe s₁
  have caught : Takes (X.tr (X.pn ++ pins) after) (wGot X.K c i j D) := fun u s' xx => by
    obtain ⟨a, B, sI, pins', σ', H', cls, d, rfl, J', nb, up, sky, na, os, ag, hex, rfl, hgo⟩ := xx
    have J : Inv X pins σ' H' sI := J'.ofTry ok
    have sky' : Sky B (X.env :: X.outer) a (Zc cls none) X.env.locals s'.heap := st ▸ sky
    show wpAny (model X.prog X.w) X.A (noteFrame (.ref a) X.env) _ _ _
    refine Sky.land Zc.steady frs0 fr sky' fun h3 fl3 up3 => ?_
    have J3 : Inv X pins σ' H' { s' with heap := h3 } := J.landed nb fl3.1 (up.trans up3) os ag
    obtain ⟨o3, v3, g3, z3, d3⟩ := fl3.there
    have out : ∀ {hh : Heap} {o : Obj} {vs : Array Value}, hh.FunFrames B (X.env :: X.outer) → hh.get? a = some o → o.data = .fields vs → a ∉ frs (X.env :: X.outer) := fun {hh o vs} ff e dd hm =>
      let ⟨_, o', e', k⟩ := ff.mem hm
      k vs (by rw [e] at e'; cases e'; exact dd)
    have away := out fl3.2.2.1 g3 d3
    have aL : a ≠ X.env.locals := fun z => away (List.mem_filterMap.mpr ⟨X.env, List.mem_cons_self, fr.trans (congrArg some z.symm)⟩)
    have aF : a ∉ X.fs := fun hm =>
      let ⟨e, he, q⟩ := List.mem_filterMap.mp hm
      away (List.mem_filterMap.mpr ⟨e, List.mem_cons_of_mem _ he, q⟩)
    have aB : B.get? a = none := fl3.2.1
    have aI : sI.heap.get? a = none := by
      cases q : sI.heap.get? a with
      | none => rfl
      | some o =>
        have z := nb a o q (by rw [st]; exact away)
        rw [aB] at z
        cases z
    have a0 : X.s_0.heap.get? a = none := by
      cases q : X.s_0.heap.get? a with
      | none => rfl
      | some o =>
        obtain ⟨o', z⟩ := J.base.there a o q (by rw [ex0]; exact fun z => nomatch z)
        rw [aI] at z
        cases z
    have aP : ∀ p ∈ X.pn ++ pins, p.1 ≠ a := fun p hp z => by
      have e := (J.pin p hp).1
      rw [z, aI] at e
      cases e
    have S3 := J3.suite g3 d3 na aL aF
    refine wpAny_handleBy_cons (codeAny_handlers_test ?_) nofun
    have tyA : PySem.W.Looks (model X.prog X.w) h3 (typeOf (.ref a)) cls := fun A Q E s k q => wpAny_typeOf_ref (k _ _ g3) (z3.1.symm ▸ q)
    have meet := PySem.W.exm_one (M := model X.prog X.w) J3.kIn tyA hex
    have test : ∀ {Q E : Value → Shared → Prop}, Q c { s' with heap := h3 } → wpAny (model X.prog X.w) (X.A.mark (some (.ref a))) (eval (.Name x np) X.env) Q E { s' with heap := h3 } := fun {Q E} q => by
      rcases hc with ⟨w1, w2, w3 | ⟨w3, w4, w5⟩⟩
      · exact ld_glob (X := X.suite a ((a, o3) :: (X.pn ++ pins))) S3 w1 w3 q w2
      · exact ld_blt (X := X.suite a ((a, o3) :: (X.pn ++ pins))) S3 w1 w3 w4 q w5 w2
    refine test (meet.here (codeAny_handlers_suite_as (HandSPX.lands_againZ fl3 fun h4 fl4 up4 => ?_)))
    have J4 : Inv X pins σ' H' { s' with heap := h4 } := J.landed nb fl4.1 ((up.trans up3).trans up4) os ag
    obtain ⟨o4, v4, g4, z4, d4⟩ := fl4.there
    refine store_ok (X := X.suite a ((a, o4) :: (X.pn ++ pins))) (v := .ref a) (J4.suite g4 d4 na aL aF) nd hi lx rfl (fun s5 S5 => ?_) (.inr ly)
    have inner : PSs (X.suite a ((a, o4) :: (X.pn ++ pins))) [.Assign [.Name y p2] (.Name n p1) p3] (tAsg (tVar i) (gName j)) :=
      pss_one (ps_set (X := X.suite a ((a, o4) :: (X.pn ++ pins))) nd hj (.inl lj) (pe_var hi (.inl ly) dn dc) (sw _ _) (.inr lj))
    have hil : i < σ'.length := by
      rw [J.len]
      exact (List.getElem?_eq_some_iff.mp hi).1
    refine wpAny_mono (inner.run [] s5 _ H' { nx := fun σ6 H6 => σ6 = (σ'.set i (some (.ref a))).set j (some (.ref a)) ∧ H6 = H', rt := fun _ _ => False } S5 ⟨.ref a, by simp [hil], rfl, rfl⟩) (fun f s6 q => ?_) fun _ _ z => z.elim
    match f, q with
    | .brk, ⟨_, _, _, z⟩ => exact z.elim
    | .cont, ⟨_, _, _, z⟩ => exact z.elim
    | .ret u, ⟨_, _, _, _, _, z⟩ => exact z.elim
    | .next, ⟨σ6, H6, S6, e6, k6⟩ =>
      subst e6 k6
      have here : s6.heap.get? a = some o4 := (S6.pin (a, o4) (List.mem_append_left _ List.mem_cons_self)).1
      have J6 : Inv X pins _ (upd H6 a (ExV cls a)) s6 := inv_track (S6.unsuite ok) na a0 aL (fun y2 c2 e2 z => by
        obtain ⟨v, oo, w1, w2⟩ := S6.cell y2 c2 e2
        rw [z, here] at w1
        cases w1
        rw [d4] at w2
        cases w2) aP (exV_ok here z4 d4)
      exact gone_ok J6 nd hi li fun s7 J7 => ⟨_, _, J7, hgo a na⟩
  refine wpAny_Try_except (wpAny_mono ((hb (wGot X.K c i j D) (X.pn ++ pins) after caught PassesOwn.looking).run [] s σ H D (I.toTry _) h) (fun f s1 q => ?_) fun e s1 he => he)
  match f, q with
  | .next, ⟨σ', H', J, q⟩ => exact wpAny_execs_nil ⟨σ', H', J.ofTry ok, q⟩
  | .brk, ⟨σ', H', J, q⟩ => exact ⟨σ', H', J.ofTry ok, q⟩
  | .cont, ⟨σ', H', J, q⟩ => exact ⟨σ', H', J.ofTry ok, q⟩
  | .ret u, ⟨v, σ', H', J, r, q⟩ => exact ⟨v, σ', H', J.ofTry ok, r, q⟩⟩
end
end TL
namespace TL
open PySem PySem.Spec PyProof.Rows L2
variable [TheW]
/-! ### isinstance of a caught exception -/
def rIsX (K : PySem.W.Frag) : List V → Hp → VK → Prop := fun xs H Q => ∃ (a D : Addr) (c : V) (u : Value) (b : Bool), xs = [.ref a, c] ∧ ClsV c u ∧ H a = some (ExV (.ref D) a) ∧ ExcC K D ∧ PySem.W.kitOne K (.ref D) u = some b ∧ Q (.bl b) H
def rIsiU (K : PySem.W.Frag) : List V → Hp → VK → Prop := fun xs H Q => rIsi K xs H Q ∨ rIsX K xs H Q
section
variable {X : Cx} {K : PySem.W.Frag} {M : Mode}
theorem call_isX : CallR X (.builtin "isinstance") (rIsX X.K) := fun pins s σ H xs us Q I r h => by
  obtain ⟨a, D, c, u, b, rfl, hc, ha, C, hk, q⟩ := h
  obtain ⟨u1, u2, rfl, r1, r2⟩ := vals2 r
  cases hc.eq r2
  cases (show u1 = Value.ref a from r1)
  obtain ⟨⟨⟨oc, od, dt, sl⟩, vs, e, ⟨z1, z2⟩, d⟩, _⟩ := I.hok a _ ha
  dsimp only at z1 z2 d
  subst z1 z2 d
  have J : PySem.W.InstAt s.heap a ⟨.ref D, none, .fields vs, sl⟩ D none := ⟨e, rfl, rfl, trivial⟩
  exact PySem.W.kia_one (PySem.W.handS_kitx_exc C.hg C.hk C.hs C.hd C.ha C.hn C.ht C.hm) I.kIn J hk nofun fun tk => ⟨.bl b, H, I.tok tk, rfl, q⟩
theorem call_isiU : CallR X (.builtin "isinstance") (rIsiU X.K) := CallR.or call_isi call_isX
/-- isinstance(e, C), e caught or None, C a class of the text -/
def gIsX (K : PySem.W.Frag) : GC := fun ts q => match ts with
  | [.non, .raw (.ref C)] => ∃ b, PySem.W.kitOne K (.type "NoneType") (.ref C) = some b ∧ q (.sh (.bl b))
  | [.ob f, .raw (.ref C)] => ∃ D b, f = ExV (.ref D) ∧ ExcC K D ∧ PySem.W.kitOne K (.ref D) (.ref C) = some b ∧ q (.sh (.bl b))
  | _ => False
theorem simc_isX : SimC K M (rIsiU K) (gIsX K) := fun ts q e vs G H i ok Q hq => by
  unfold gIsX at e
  split at e
  · obtain ⟨b, hb, e⟩ := e
    cases i with
    | cons i1 i =>
      cases i with
      | cons i2 i =>
        cases i; cases i1; cases i2
        exact .inl ⟨_, _, _, _, b, rfl, .own _, .base .non, hb, hq _ (.sh _) G H (.refl ok) .bl e⟩
  · obtain ⟨D, b, rfl, C, hb, e⟩ := e
    cases i with
    | cons i1 i =>
      cases i with
      | cons i2 i =>
        cases i; cases i2
        cases i1 with
        | ob h => exact .inr ⟨_, D, _, _, b, rfl, .own _, ok.sub _ _ h, C, hb, hq _ (.sh _) G H (.refl ok) .bl e⟩
  · exact e.elim
end
/-! ### a lambda handed to a def: what changes besides the one table is nothing -/
def ExtP (P : Addr) (H H' : Hp) : Prop := ∀ b o, b ≠ P → H b = some o → H' b = some o
section
variable {X : Cx} {pins : List (Addr × Obj)} {σ : L2.St} {H : Hp} {s : Shared}
theorem lam_new {T : Tb} {c P : Addr} {q : Str} {params : Arguments} {body : Expr} {scope : Scope} {pos : Pos} {E Q : Value → Shared → Prop} (I : Inv X pins σ H s) (B : LamX.TabB X.base X.mg c P) (hcode : X.env.code = .ref c) (hq : q = X.env.qual ++ "<lambda>")
    (hm : (P, q) ∈ T) (hu : ∀ p ∈ T, p.1 = P → p.2 = q) (hT : LamX.Tabs T H) (hdef : defaultsOf params X.env = ([], [])) (hfree : ∀ y ∈ scope.names, y.2 = .free → ∃ c, X.env.cells.lookup y.1 = some c)
    (h : ∀ (f c' : Addr) (pm ctv : Value) (H1 : Hp) (s' : Shared), Inv X pins σ H1 s' → ExtP P H H1 → LamX.Tabs T H1 → s'.heap.get? f = some (PySem.W.kla_obj "<lambda>" q params body scope (cloFrom X.env.cells scope.names []) pm c' ctv) →
      H1 f = none → f ∉ frs X.stack → FpOk X pins H1 f → H1 c' = some (LamX.CodeO c' q) → Q (.ref f) s') : wpAny (model X.prog X.w) X.A (eval (.Lambda params body scope pos) X.env) Q E s := by
  subst hq
  obtain ⟨ps, tP, tOk, tAll⟩ := hT _ hm
  have bi : s.heap.BuiltinsAt X.mg P := B.bm.keeps I.bk
  have oP : s.heap.get? P = some { cls := .none, data := .fields ps } := I.hok P _ tP
  have far : ∀ f, s.heap.objs.size ≤ f → f ∉ frs X.stack := fun f hf z => (List.mem_cons.mp (I.stkSub _ z)).elim (fun e => absurd (e ▸ I.lt : f < _) (Nat.not_lt.mpr hf)) fun e => I.nofs hf e
  refine PySem.W.kla_eval hdef ?_
  cases hit : codeAmong pos ps.toList with
  | some cv =>
    obtain ⟨c', rfl, known⟩ := tAll pos cv hit
    refine PySem.W.kla_makeFunctionHit (c := c) (P := P) (ps := ps) (closure_ok hfree) I.ok.glob (I.mod.glob.keeps I.bk) hcode (B.code.keeps I.bk) oP tOk hit bi fun ctv h' tk hx hsz => ?_
    exact h h'.objs.size c' _ ctv H _ (I.kept (t' := tk) fun b o e => Heap.get?_push_of_some _ (hx b o e)) (fun _ _ _ z => z) hT (Heap.get?_push_size _ rfl) (I.hok.fresh hsz) (far _ hsz) (I.fpOk hsz (I.hok.fresh hsz)) known
  | none =>
    refine PySem.W.kla_makeFunction (c := c) (P := P) (ps := ps) (closure_ok hfree) I.ok.glob (I.mod.glob.keeps I.bk) hcode (B.code.keeps I.bk) oP tOk hit B.gP bi fun c' ctv h' tk hx hge hlt hrec htb => ?_
    obtain ⟨c2, oc, vs, t, e2, g1, g2, g3⟩ := hrec
    cases e2
    have le : s.heap.objs.size ≤ h'.objs.size := Nat.le_trans hge (Nat.le_of_lt hlt)
    have fr : H c' = none := I.hok.fresh hge
    have J := LamX.inv_table (t' := tk) (more := #[rawInt pos.line, rawInt pos.col, .ref c']) (q := X.env.qual ++ "<lambda>") (h' := h'.push (PySem.W.kla_obj "<lambda>" (X.env.qual ++ "<lambda>") params body scope (cloFrom X.env.cells scope.names []) ((X.mg "__name__").getD .none) c' ctv)) I tP
      (fun b o n e => Heap.get?_push_of_some _ (hx b o n e)) (Heap.get?_push_of_some _ htb) hge ⟨oc, vs, t, Heap.get?_push_of_some _ g1, g2, g3⟩
    have ext : ExtP P H (upd (upd H P (.tbl (ps ++ #[rawInt pos.line, rawInt pos.col, .ref c']))) c' (LamX.CodeO c' (X.env.qual ++ "<lambda>"))) := fun b o n e => by
      rw [upd_ne (ne_of_none e fr), upd_ne n]
      exact e
    have code : ∀ d, H d = some (LamX.CodeO d (X.env.qual ++ "<lambda>")) → d ≠ P := fun d e z => by
      rw [z, tP] at e
      exact LamX.codeO_ne ps (Option.some.inj e).symm
    have codes : ∀ d w, H d = some (LamX.CodeO d w) → d ≠ P := fun d w e z => by
      rw [z, tP] at e
      exact LamX.codeO_ne ps (Option.some.inj e).symm
    have fr2 : upd (upd H P (.tbl (ps ++ #[rawInt pos.line, rawInt pos.col, .ref c']))) c' (LamX.CodeO c' (X.env.qual ++ "<lambda>")) h'.objs.size = none := by
      rw [upd_ne (Nat.ne_of_gt hlt), upd_ne (Nat.ne_of_gt (Nat.lt_of_lt_of_le (Heap.lt_size oP) le))]
      exact I.hok.fresh le
    refine h h'.objs.size c' _ ctv _ _ J ext (fun p hp => ?_) (Heap.get?_push_size _ rfl) fr2 (far _ le) (I.fpOk le fr2) upd_same
    · by_cases at_ : p.1 = P
      · rw [hu p hp at_, at_]
        refine ⟨_, (upd_ne (ne_of_none tP fr)).trans upd_same, by rw [Array.toList_append]; exact PySem.TriplesOk_snoc _ _ _ _ tOk, fun p' cv hcv => ?_⟩
        rw [Array.toList_append] at hcv
        rcases LamX.among_app _ tOk hcv with z | z
        · obtain ⟨c0, e1, e2⟩ := tAll p' cv z
          exact ⟨c0, e1, ext _ _ (code c0 e2) e2⟩
        · exact ⟨c', z, upd_same⟩
      · obtain ⟨qs, a1, a2, a3⟩ := hT p hp
        refine ⟨qs, ext _ _ at_ a1, a2, fun p' cv hcv => ?_⟩
        obtain ⟨c0, e1, e2⟩ := a3 p' cv hcv
        exact ⟨c0, e1, ext _ _ (codes c0 _ e2) e2⟩
end
/-- x(lambda: body): P the def's table -/
def tLamP (T : Tb) (P : Addr) (TT : (XK → Hp → VK → Prop) → Hp → VK → Prop) (t : XK → TE) : TE := fun σ H Q => LamX.Tabs T H ∧ ∀ H1, ExtP P H H1 → LamX.Tabs T H1 → TT (fun E H' Q' => t E σ H' Q') H1 Q
section
variable {X : Cx}
theorem pe_lamP {T : Tb} {TT : (XK → Hp → VK → Prop) → Hp → VK → Prop} {x a : Str} {g c P : Addr} {k : Nat} {pg : Arguments} {bg : List Stmt} {sg : Scope} {gd : FuncData} {Ng : List Str} {params : Arguments} {body : Expr} {scope : Scope} {t : XK → TE} {p lpos pos : Pos}
    (hg : Gl X x) (hm : X.mg x = some (.ref g)) (D : FunD X.K x x pg bg sg [] [] g gd) (hb : L2.Binds X.K gd [a] []) (Sg : FnScope Ng [a] sg) (hNg : Ng[0]? = some a) (hva : Vis sg a)
    (hG : ∀ cdv, LamX.GivesTo X Ng x sg g cdv bg a (X.env.qual ++ "<lambda>") TT)
    (B : LamX.TabB X.base X.mg c P) (hcode : X.env.code = .ref c) (hmT : (P, X.env.qual ++ "<lambda>") ∈ T) (hu : ∀ p ∈ T, p.1 = P → p.2 = X.env.qual ++ "<lambda>") (hr : Room (k + 2) X.A) (L : LamX.LamS X.env.scope scope) (hdef : defaultsOf params X.env = ([], []))
    (hbind : ∀ (q : Str) (cl : List (Str × Addr)) (pm cv ctv : Value), bindArgs (PySem.W.kla_fn "<lambda>" q params body scope cl pm cv ctv) ⟨[], []⟩ = pure [])
    (hbody : ∀ (A : Around) (outer : List Env) (s : Shared) (H : Hp) (E : XK) (f c' : Addr), Room k (A.deeper (LamX.lamEnv X scope s.heap.objs.size f c')) → PE (LamX.lamCx X A outer s H E scope f c') body (t E))
    (hdb : (x == ("__debug__" : Str)) = false := by decide) (hd : (a == ("__debug__" : Str)) = false := by decide) (hcd : (a == ("__classdict__" : Str)) = false := by decide) :
    PE X (.Call (.Name x p) [.Lambda params body scope lpos] [] pos) (tLamP T P TT t) := ⟨fun pins s σ H Q I ⟨hT, h⟩ => by
  obtain ⟨oc, od, dV, kV, doc, pm, an, cdv, ct, osl, rfl, lk, hcg, _, _⟩ := D.ex
  refine wpAny_Call_Name_kw (ld_glob I hg hm (PySem.W.callWith_K (h₀ := X.base) I.ok.mod.kin D.kp ?_ (by rfl) (by rfl)) hdb)
  show wpAny _ _ (spliced ((false, eval (.Lambda params body scope lpos) X.env) :: backTo pos (starEach [] X.env))) _ _ s
  refine Calls.spliced_cons (lam_new I B hcode rfl hmT hu hT hdef (L.has I.ok) fun f c' pm' ctv H1 s1 I1 eN T1 hf hfn hfr _ hco => Calls.spliced_nil ⟨I1.kIn, ?_⟩)
  have run : codeAny (model X.prog X.w) X.A (.call (.ref g) ⟨[.ref f], []⟩) (CR C8.CX0 X.stack X.prog X.w H1 s1 Q C8.E0) s1 :=
    LamX.run_ofS (N := Ng) (ps := [a]) (us := [.ref f]) (vs := [.ref f]) lk hcg Sg hr I1.env0 (hb s1 [.ref f] I1.kIn rfl) (.cons rfl .nil) rfl fun hr2 =>
      let ⟨w, hw, hq⟩ := hG cdv f c' s1 H1 Q (fun E H' Q' => t E σ H' Q') (fun W pn xe E q1 q2 tk hW => LamX.pe_act (i := 0) I1 L hf hfn hfr (hbind _ _ _ _ _) tk hW hr2 (fun A outer s H hr3 => hbody A outer s H E f c' hr3) hNg hva hd hcd) hco (h H1 eN T1)
      ⟨w, hw.nox, hq⟩
  refine wpAny_call (codeAny_mono run fun r s2 q => ?_)
  match r, q with
  | .error e, q => exact (show False from q).elim
  | .ok (.ret u), q => exact I1.after q
  | .ok .next, q => exact q.elim
  | .ok .brk, q => exact q.elim
  | .ok .cont, q => exact q.elim⟩
end
/-! ### caught = None; try: work() except X as error: caught = error; return caught -/
def TTgot (K : PySem.W.Frag) (CS : Addr) : (XK → Hp → VK → Prop) → Hp → VK → Prop := fun tl H Q =>
  tl (fun cls d H' => PySem.W.exmOne K cls (.ref CS) = some true ∧ d = none ∧ ∀ a, H' a = none → Q (.ref a) (upd H' a (ExV cls a))) H fun _ H' => Q .non H'
theorem takes_len {X : Cx} {W : WX} (t : Takes X W) : Takes X (fun c d σ H => σ.length = X.N.length → W c d σ H) := fun u s' ⟨a, B, sI, pins, σ, H, cls, d, e, I, nb, up, sky, na, os, ag, w⟩ =>
  t u s' ⟨a, B, sI, pins, σ, H, cls, d, e, I, nb, up, sky, na, os, ag, w I.len⟩
abbrev gotBody (x : Str) (p1 p2 p3 p4 p5 p6 p7 p8 p9 p10 p11 p12 p13 p14 : Pos) (j : Nat) : List Stmt :=
  [.Assign [.Name "caught" p1] (.Constant .none j p2) p3, .Try [.Expr (.Call (.Name "work" p4) [] [] p5) p6] [.ExceptHandler (some (.Name x p7)) (some "error") [.Assign [.Name "caught" p8] (.Name "error" p9) p10] p11] [] [] p12, .Return (some (.Name "caught" p13)) p14]
theorem pe_up {X : Cx} {e : Expr} {te : TE} (he : PE X e te) : PE X e (fun σ H Q => ∃ R : VK, te σ H R ∧ ∀ v H', R v H' → Q v H') := ⟨fun pins s σ H Q I ⟨R, h, k⟩ => wpAny_mono (he.run pins s σ H R I h) (fun v s1 ⟨x, H1, I1, r, q⟩ => ⟨x, H1, I1, r, k _ _ q⟩) fun _ _ z => z⟩
theorem got_gives {X : Cx} {e x q : Str} {sg : Scope} {g CS : Addr} {cdg : Value} {p1 p2 p3 p4 p5 p6 p7 p8 p9 p10 p11 p12 p13 p14 : Pos} {j : Nat} (hge : sg.names.lookup e = some .globalImplicit) (hme : X.mg e = some (.ref CS)) (hde : (e == ("__debug__" : Str)) = false)
    (l1 : sg.names.lookup ("caught" : Str) = some .local) (l2 : sg.names.lookup ("error" : Str) = some .local) :
    LamX.GivesTo X ["work", "caught", "error"] x sg g cdg (gotBody e p1 p2 p3 p4 p5 p6 p7 p8 p9 p10 p11 p12 p13 p14 j) "work" q (TTgot X.K CS) := by
  intro f c' s H Q tl act hc h
  have nd : (["work", "caught", "error"] : List Str).Nodup := by decide +kernel
  refine ⟨_, pss_cons (ps_set (X := (cxOf C8.CX0 X.prog X.w X.K X.mg X.base ["work", "caught", "error"] x sg g cdg X.A X.stack s H C8.E0).nox) (i := 1) nd rfl (.inl l1) pe_non (by rfl) (.inr l1)) (pss_cons (ps_got (X := (cxOf C8.CX0 X.prog X.w X.K X.mg X.base ["work", "caught", "error"] x sg g cdg X.A X.stack s H C8.E0).nox) (c := .ref CS) (i := 2) (j := 1)
      (tb := fun W D σ H => ∃ Ech : XK, (∀ cls d σ' H', σ'.length = 3 → Ech cls d H' → W cls d σ' H') ∧ σ[0]? = some (some (.ref f)) ∧ H c' = some (LamX.CodeO c' q) ∧ ∃ R : VK, tl Ech H R ∧ ∀ v H', R v H' → D.nx σ H') rfl rfl nd rfl rfl l2 l1 l2 ⟨hge, hde, .inl hme⟩ rfl (by decide) (by decide) (fun _ _ => rfl) (fun W pn xe tk _ => ?_))
      (pss_one (ps_ret (pe_var (i := 1) rfl (.inl l1))))), ?_⟩
  · refine ⟨fun pins s' σ H' D I h' => ?_⟩
    obtain ⟨Ech, hW, h1, h2, R, h3, h4⟩ := h'
    exact (pss_one (ps_expr (pos := p6) (pe_up (act (fun c d σ H => σ.length = 3 → W c d σ H) pn xe Ech p4 p5 (takes_len tk) fun c d σ' H' z l => hW c d σ' H' l z)))).run pins s' σ H' D I ⟨R, ⟨h1, h2, h3⟩, h4⟩
  · exact ⟨fun cls d H' => PySem.W.exmOne X.K cls (.ref CS) = some true ∧ d = none ∧ ∀ a, H' a = none → Q (.ref a) (upd H' a (ExV cls a)), fun cls d σ' H' hl ⟨z1, z2, z3⟩ => ⟨z1, z2, fun a ha => ⟨.ref a, by simp [hl], z3 a ha⟩⟩, rfl, hc, _, h, fun v H' z => ⟨.non, rfl, z⟩⟩
end TL
namespace TL
open PySem PySem.Spec PyProof.Rows L2
variable [TheW]
/-! ### a, b = (.., ..): each as it is -/
def sAsg2 (i j : Nat) (a b : TEx) : TSx := fun τ k => a τ (fun s => b τ (fun u => k.nx ((τ.set i s).set j u)) k.ex) k.ex
section
variable {K : PySem.W.Frag} {M : Mode} {E : XK} {i j : Nat} {ta tb : TE} {a b : TEx}
theorem sims_par (ha : SimE K M E ta a) (hb : SimE K M E tb b) : SimS K M E (tPar i j (tCons ta (tCons tb tNil))) (sAsg2 i j a b) := fun G0 H0 ok τ k e σ G H w D d =>
  ha τ _ _ e σ G H (w.w1 ok) _ (fun x s1 G1 H1 g1 r1 e1 => by
    have w1 := w.put ok i g1 r1
    refine hb τ _ _ e1 σ G1 H1 ((w.next ok g1).w1 ok) _ (fun y s2 G2 H2 g2 r2 q => ?_) ((d.ex.at w.go).go g1)
    exact ⟨x, y, rfl, d.nx _ _ G2 H2 (w1.put ok j g2 r2) (g1.gg.trans g2.gg) q⟩) (d.ex.at w.go)
theorem sims_par' (ha : SimE K M E ta a) (hb : SimE K M E tb b) : SimS K M E (tAsg (tTup (tCons ta (tCons tb tNil))) (L2.gTup K 2 (gCons (gName i) (gCons (gName j) gNil)))) (sAsg2 i j a b) := fun G0 H0 ok τ k e σ G H w D d =>
  ha τ _ _ e σ G H (w.w1 ok) _ (fun x s1 G1 H1 g1 r1 e1 => by
    have w1 := w.put ok i g1 r1
    refine hb τ _ _ e1 σ G1 H1 ((w.next ok g1).w1 ok) _ (fun y s2 G2 H2 g2 r2 q => ?_) ((d.ex.at w.go).go g1)
    refine ⟨by rw [sizeLine_eq]; exact (by decide : (2 : Nat) ≤ 16777216), fun p hp => ⟨p, [x, y], rfl, SqT.of upd_same, rfl, _, _, rfl, _, _, rfl, rfl, ?_⟩⟩
    have w2 := w1.put ok j g2 r2
    have g3 : Go M G2 H2 G2 (upd H2 p (.tup [x, y])) := .lay (w2.w1 ok).ok hp
    exact d.nx _ _ G2 _ (w2.next ok g3) (g1.gg.trans g2.gg) q) (d.ex.at w.go)
end
section
variable {X : Cx} {M : Mode} {E : XK} {a b : Expr} {ta tb : TE} {ga gb : TEx} {pos px py pt pt2 : Pos} {x y : Str} {kt k2 : Nat}
/-- two plain locals -/
theorem gs_par (i j : Nat) {kt k2} (hc : X.calm = true) (hN : X.N.Nodup) (ha : GE X M E a ta ga) (hb : GE X M E b tb gb) (hi : X.N[i]? = some x := by rfl) (hj : X.N[j]? = some y := by rfl) (hij : i ≠ j := by decide)
    (hx : X.env.scope.names.lookup x = some .local := by rfl) (hy : X.env.scope.names.lookup y = some .local := by rfl) (hw : swappedStores [.Tuple [.Name x px, .Name y py] kt pt] (.Tuple [a, b] k2 pt2) X.env = pure (some [x, y]) := by rfl)
    (hs : swapsWithSole [.Tuple [.Name x px, .Name y py] kt pt] (.Tuple [a, b] k2 pt2) pos.line X.env = pure false := by rfl) (h1 : starEach [a, b] X.env = (false, eval a X.env) :: starEach [b] X.env := by rfl) (h2 : starEach [b] X.env = (false, eval b X.env) :: starEach [] X.env := by rfl) :
    GS X M E (.Assign [.Tuple [.Name x px, .Name y py] kt pt] (.Tuple [a, b] k2 pt2) pos) (tPar i j (tCons ta (tCons tb tNil))) (sAsg2 i j ga gb) := ⟨ps_par hc hN hi hj hij hx hy (pa_cons ha.p (pa_cons hb.p pa_nil h2) h1) hw hs, sims_par ha.s hb.s⟩
/-- others -/
theorem gs_par' (i j : Nat) {kt k2} (hc : X.calm = true) (hN : X.N.Nodup) (ha : GE X M E a ta ga) (hb : GE X M E b tb gb) (hi : X.N[i]? = some x := by rfl) (hj : X.N[j]? = some y := by rfl) (hx : Loc X.env.scope x := by first | exact .inl rfl | exact .inr rfl) (hy : Loc X.env.scope y := by first | exact .inl rfl | exact .inr rfl)
    (fx : X.fn x = true ∨ X.env.scope.names.lookup x = some .local := by first | exact .inl rfl | exact .inr rfl) (fy : X.fn y = true ∨ X.env.scope.names.lookup y = some .local := by first | exact .inl rfl | exact .inr rfl)
    (hs : swapsWithSole [.Tuple [.Name x px, .Name y py] kt pt] (.Tuple [a, b] k2 pt2) pos.line X.env = pure false := by rfl) (hw : swappedStores [.Tuple [.Name x px, .Name y py] kt pt] (.Tuple [a, b] k2 pt2) X.env = pure none := by rfl) (h1 : (assignEach [.Tuple [.Name x px, .Name y py] kt pt] X.env).map (·.2) = [assign (.Tuple [.Name x px, .Name y py] kt pt) X.env] := by rfl)
    (g1 : starEach [a, b] X.env = (false, eval a X.env) :: starEach [b] X.env := by rfl) (g2 : starEach [b] X.env = (false, eval b X.env) :: starEach [] X.env := by rfl) :
    GS X M E (.Assign [.Tuple [.Name x px, .Name y py] kt pt] (.Tuple [a, b] k2 pt2) pos) (tAsg (tTup (tCons ta (tCons tb tNil))) (L2.gTup X.K 2 (gCons (gName i) (gCons (gName j) gNil)))) (sAsg2 i j ga gb) :=
  ⟨ps_asg (pe_tup (pa_cons ha.p (pa_cons hb.p pa_nil g2) g1)) (pg_tup hc (pgs_cons (pg_name hN hi hx fx) (pgs_cons (pg_name hN hj hy fy) pgs_nil))) hs hw h1, sims_par' ha.s hb.s⟩
end
/-! ### f(k = .., ..) -/
def perm {α : Type} (d : α) (is : List Nat) (xs : List α) : List α := is.map fun i => xs.getD i d
theorem vals_perm {vs : List V} {us : List Value} (r : Vals vs us) : ∀ is : List Nat, Vals (perm .non is vs) (perm .none is us)
  | [] => .nil
  | i :: is => .cons (by
    by_cases h : i < vs.length
    · have h' : i < us.length := by rw [← r.length]; exact h
      obtain ⟨u, hu, ru⟩ := r.get (List.getElem?_eq_getElem h)
      have e : us.getD i .none = u := by rw [List.getD_eq_getElem?_getD, hu]; rfl
      have e2 : vs.getD i .non = vs[i] := by rw [List.getD_eq_getElem?_getD, List.getElem?_eq_getElem h]; rfl
      show L2.RelV (vs.getD i .non) (us.getD i .none)
      rw [e, e2]
      exact ru
    · have h' : ¬ i < us.length := by rw [← r.length]; exact h
      have e : us.getD i .none = .none := by rw [List.getD_eq_getElem?_getD, List.getElem?_eq_none (by omega)]; rfl
      have e2 : vs.getD i .non = .non := by rw [List.getD_eq_getElem?_getD, List.getElem?_eq_none (by omega)]; rfl
      show L2.RelV (vs.getD i .non) (us.getD i .none)
      rw [e, e2]
      rfl) (vals_perm r is)
theorem IsAll.perm {K : PySem.W.Frag} {G : Hp} {vs : List V} {ts : List T} (r : IsAll K G vs ts) : ∀ is : List Nat, IsAll K G (perm .non is vs) (perm .non is ts)
  | [] => .nil
  | i :: is => .cons (by
    by_cases h : i < ts.length
    · obtain ⟨v, hv, iv⟩ := r.get (List.getElem?_eq_getElem h)
      have e : vs.getD i .non = v := by rw [List.getD_eq_getElem?_getD, hv]; rfl
      have e2 : ts.getD i .non = ts[i] := by rw [List.getD_eq_getElem?_getD, List.getElem?_eq_getElem h]; rfl
      show Is K G (vs.getD i .non) (ts.getD i .non)
      rw [e, e2]
      exact iv
    · have h' : ¬ i < vs.length := by rw [r.length]; exact h
      have e : vs.getD i .non = .non := by rw [List.getD_eq_getElem?_getD, List.getElem?_eq_none (by omega)]; rfl
      have e2 : ts.getD i .non = .non := by rw [List.getD_eq_getElem?_getD, List.getElem?_eq_none (by omega)]; rfl
      show Is K G (vs.getD i .non) (ts.getD i .non)
      rw [e, e2]
      exact .non) (r.perm is)
def KwB (fd : FuncData) (ps ks : List Str) (is : List Nat) : Prop := ∀ (s : Shared) (ws : List Value), ws.length = ks.length → BindsTo s fd ⟨[], ks.zip ws⟩ (ps.zip (perm .none is ws))
theorem kwB_of {K : PySem.W.Frag} {x qual : Str} {params : Arguments} {body : List Stmt} {scope : Scope} {f : Addr} {fd : FuncData} {ps ks : List Str} {is : List Nat} (F : FunD K x qual params body scope [] [] f fd)
    (h : ∀ (kV doc pm : Value) (an : Option Addr) (cdv ct : Value) (ws : List Value), ws.length = ks.length → bindArgs (PySem.W.fnOf x qual params body scope .none kV doc pm an cdv ct) ⟨[], ks.zip ws⟩ = pure (ps.zip (perm .none is ws))) : KwB fd ps ks is := fun s ws hl => by
  obtain ⟨oc, od, dV, kV, doc, pm, an, cdv, ct, osl, rfl, lk, hcd, hD, hK⟩ := F.ex
  rcases hD with ⟨_, rfl⟩ | ⟨e, _⟩
  · exact .of_eq (h kV doc pm an cdv ct ws hl)
  · exact absurd rfl e
def tCallW (sp : Sp) (is : List Nat) (E : XK) (tk : TA) : TE := fun σ H Q => tk σ H fun zs H1 => zs.length = is.length ∧ sp (perm .non is zs) H1 Q E
def gCallW (M : Mode) (sp : SpX) (is : List Nat) (a : TAx) : TEx := fun τ q r => a τ (fun ts => ts.length = is.length ∧ sp M (perm .non is ts) q r) r
section
variable {X : Cx} {M : Mode} {E : XK} {kws : List Keyword} {t : TA} {gt : TAx} {x : Str} {p pos : Pos} {CX : CXT} {k : Nat} {f : Addr} {fd : FuncData} {ps ks : List Str}
theorem ge_kw {sp : SpX} {is : List Nat} (F : FnOk X.prog X.w X.K X.mg X.base CX k f fd ps (lift X.K sp)) (hr : Room k X.A) (hm : X.mg x = some (.ref f)) (hk : PySem.W.keepIn X.K (.ref f) = true) (hb : KwB fd ps ks is) (hx : Passes CX X E) (ha : GK X M E kws t gt)
    (hl : is.length = ks.length := by rfl) (hg : Gl X x := by rfl) (hdb : (x == ("__debug__" : Str)) = false := by decide) (hall : (backToKw pos (keywordEach kws X.env)).all (·.1.isSome) = true := by rfl) (hks : (backToKw pos (keywordEach kws X.env)).filterMap (·.1) = ks := by rfl)
    (hpl : ((backTo pos (starEach [] X.env)).any (·.1) || (backToKw pos (keywordEach kws X.env)).any (·.1.isNone)) = false := by rfl) : GE X M E (.Call (.Name x p) [] kws pos) (tCallW (lift X.K sp) is E t) (gCallW M sp is gt) :=
  ⟨⟨fun pins s σ H Q I h => by
    refine wpAny_Call_Name_kw (ld_glob I hg hm ?_ hdb)
    refine PySem.W.callWith_KW0 (h₀ := X.base) I.ok.mod.kin hk hall (thn (ha.p.run pos pins s σ H _ I h) fun ws s2 ⟨zs, H2, I2, rz, q1, q2⟩ => ⟨I2.kIn, ?_⟩) hpl
    rw [hks]
    refine wpAny_call (codeAny_mono (F.run X.A X.stack s2 H2 ⟨[], ks.zip ws⟩ (perm .none is ws) (perm .non is zs) Q E hr I2.env0 (hb s2 ws (by rw [← rz.length, q1, hl])) (vals_perm rz is) q2) fun o s3 ho => ?_)
    match o, ho with
    | .error z, ho => exact hx pins σ H2 s2 z s3 I2 ho
    | .ok (.ret u), ho => exact I2.after ho
    | .ok .next, ho => exact ho.elim
    | .ok .brk, ho => exact ho.elim
    | .ok .cont, ho => exact ho.elim⟩, fun τ q r e σ G H w Q hq hxp => ha.s τ _ r e σ G H w _ (fun vs ts G1 H1 g1 i1 ⟨q1, q2⟩ =>
    ⟨by rw [i1.length]; exact q1, M, G1, _, q, r, w.ok.go g1, i1.perm is, q2, fun v s G2 H2 g2 rs qs => hq v s G2 H2 (g1.trans g2) (rs.early g1) qs, hxp.go g1⟩) hxp⟩
/-- {} -/
def gD0 : TEx := fun _ q _ => q (.od [])
theorem ge_d0 : GE X M E (.Dict [] [] pos) tDNewK gD0 := ⟨pe_dnewK, fun τ q r e σ G H w Q hq _ p hp => hq _ (.od []) G _ (.lay w.ok hp) ⟨p, .dK [], rfl, hp, upd_same, w.ok.fresh hp, .d .nil⟩ e⟩
end
/-! ### x(lambda: ..), x tells what was caught -/
structure LamM (M : Mode) (Z : Tb) (P : Addr) : Prop where
  s : M.S P
  tabs : ∀ H, M.J H → LamX.Tabs Z H
  ext : ∀ H H1, M.J H → ExtP P H H1 → LamX.Tabs Z H1 → M.J H1
  at_ : ∃ q, (P, q) ∈ Z
theorem lamM_T {Z : Tb} {P : Addr} {q : Str} (h : (P, q) ∈ Z) : LamM (MT Z) Z P := ⟨⟨_, h, rfl⟩, fun _ j => j, fun _ _ _ _ j => j, q, h⟩
theorem lamM_D {Z : Tb} {d L C P : Addr} {cs : List Int} {q : Str} (h : (P, q) ∈ Z) : LamM (DM d L C cs Z) Z P := by
  refine ⟨.inr ⟨_, h, rfl⟩, fun _ j => j.2, fun H H1 ⟨w, j⟩ x t => ?_, q, h⟩
  obtain ⟨ps, hP, _⟩ := j _ h
  have hP' : H P = some (.tbl ps) := hP
  obtain ⟨r, t0, hd⟩ := w.d
  obtain ⟨ls, hl⟩ := w.l
  have hc := w.c
  refine ⟨⟨w.ne, ⟨r, t0, x _ _ (fun z => ?_) hd⟩, ⟨ls, x _ _ (fun z => ?_) hl⟩, x _ _ (fun z => ?_) w.c⟩, t⟩
  · rw [← z, hd] at hP'
    cases hP'
  · rw [← z, hl] at hP'
    cases hP'
  · rw [z, hP'] at hc
    cases hc
theorem LamM.go {M : Mode} {Z : Tb} {P : Addr} (l : LamM M Z P) {G H H1 : Hp} (ok : Ok M G H) (x : ExtP P H H1) (t : LamX.Tabs Z H1) : Go M G H G H1 := by
  have nP : G P = none := ok.s P l.s
  refine ⟨.refl _, fun b o e => x b o (ne_of_none e nP) (ok.sub b o e), fun b o n e => x b o (fun z => n (by rw [z]; exact l.s)) e, fun b e => ?_, fun _ h _ => h, l.ext H H1 ok.j x t⟩
  by_cases hb : b = P
  · obtain ⟨q, hq⟩ := l.at_
    obtain ⟨ps, hP, _⟩ := t _ hq
    rw [hb, hP]
    exact fun z => nomatch z
  · cases h : H b with
    | none => exact absurd h e
    | some o =>
      rw [x b o hb h]
      exact fun z => nomatch z
/-- what is handed back for what is caught -/
def gotX (K : PySem.W.Frag) (CS : Addr) (q : Sl → Prop) : Xn → Prop := fun x => PySem.W.exmOne K x.cls (.ref CS) = some true ∧ x.fs = none ∧ q (.sh (.ob (ExV x.cls)))
def gGot (K : PySem.W.Frag) (CS : Addr) (g : TEx) : TEx := fun τ q _ => g τ (fun _ => q (.sh .non)) (gotX K CS q)
theorem exv_new {K : PySem.W.Frag} {M : Mode} {G H : Hp} {a : Addr} {c : Value} (ok : Ok M G H) (h : H a = none) : Go M G H (upd G a (ExV c a)) (upd H a (ExV c a)) ∧ Is K (upd G a (ExV c a)) (.ref a) (.ob (ExV c)) :=
  ⟨(Go.lay ok h).data h upd_same (ok.fresh h), .ob upd_same⟩
theorem sim_got {K : PySem.W.Frag} {M : Mode} {E : XK} {Z : Tb} {P CS : Addr} {t : XK → TE} {g : TEx} (l : LamM M Z P) (h : ∀ E, SimE K M E (t E) g) : SimE K M E (tLamP Z P (TTgot K CS) t) (gGot K CS g) := fun τ q r e σ G H w Q hq _ => by
  refine ⟨l.tabs H w.ok.j, fun H1 x1 t1 => ?_⟩
  have g1 := l.go w.ok x1 t1
  refine h _ τ _ _ e σ G H1 (w.go g1) _ (fun v s G2 H2 g2 _ q2 => hq _ (.sh .non) G2 H2 (g1.trans g2) .non q2) ?_
  rintro x c d G2 H2 g2 ⟨rfl, hd⟩ ⟨z1, z2, z3⟩
  rw [z2] at hd
  refine ⟨z1, hd, fun a ha => ?_⟩
  obtain ⟨g3, i3⟩ := exv_new (K := K) (c := x.cls) ((w.ok.go g1).go g2) ha
  exact hq _ (.sh (.ob (ExV x.cls))) _ _ ((g1.trans g2).trans g3) i3 z3
/-- y = x(lambda: z.append(e)); z in the j-th slot -/
def sGotApp (K : PySem.W.Frag) (CS : Addr) (i j : Nat) (a : TEx) : TSx := fun τ k => a τ (fun s => match τ[j]? with
  | some (.oo (.l ts)) => ts.length < sizeLine ∧ k.nx ((τ.set j (.ol (ts ++ [s.fz]))).set i (.sh .non))
  | _ => False) (gotX K CS fun s => k.nx (τ.set i s)) ∧ ∃ ts, τ[j]? = some (.ol ts)
theorem sims_gotApp {K : PySem.W.Frag} {M : Mode} {E : XK} {Z : Tb} {P CS : Addr} {i j : Nat} {t : XK → TE} {a : TEx} (l : LamM M Z P) (h : ∀ E, SimE K M E (t E) a) :
    SimS K M E (tAsg (tLamP Z P (TTgot K CS) fun E => tBM K "list" rAppend (tVar j) (tCons (t E) tNil)) (gName i)) (sGotApp K CS i j a) := fun G0 H0 ok τ k e σ G H w D d => by
  obtain ⟨e, ts, ht⟩ := e
  refine ⟨l.tabs H (w.w1 ok).ok.j, fun H1 x1 t1 => ?_⟩
  have g1 := l.go (w.w1 ok).ok x1 t1
  have w1 := w.next ok g1
  obtain ⟨p, vs, h1, h2, h3, _⟩ := w1.ol ok ht
  refine ⟨_, h1, .inl ⟨rfl, _, SqL.of h2⟩, (h _).data e (w1.w1 ok) (fun v G2 H2 s g2 i2 q => ?_) ?_⟩
  · rw [ht] at q
    obtain ⟨q1, q2⟩ := q
    obtain ⟨p', vs', k1, k2, k3, k4⟩ := (w1.next ok g2).ol ok ht
    rw [h1] at k1
    obtain rfl : p = p' := by simpa using k1
    have w3 := k4 (vs' ++ [v]) (ts ++ [s.fz]) (k3.append (.one i2))
    refine ⟨p, vs', v, rfl, rfl, k2, by rw [k3.length]; exact q1, ?_⟩
    exact d.nx _ _ G2 _ (w3.put ok i (s := .sh .non) (.refl (w3.w1 ok).ok) .non) g2.gg q2
  · rintro x c dd G2 H2 g2 ⟨rfl, hd⟩ ⟨z1, z2, z3⟩
    rw [z2] at hd
    refine ⟨z1, hd, fun b hb => ?_⟩
    have w2 := w1.next ok g2
    obtain ⟨g3, i3⟩ := exv_new (K := K) (c := x.cls) (w2.w1 ok).ok hb
    exact d.nx _ _ _ _ (w2.put ok i (s := .sh (.ob (ExV x.cls))) g3 i3) (g2.gg.trans g3.gg) z3
end TL
namespace TL
open PySem PySem.Spec PyProof.Rows L2
variable [TheW]
/-! ### defs by name -/
structure Fn (P : Program) (w : World) (K : PySem.W.Frag) (mg : Str → Option Value) (base : Heap) (k : Nat) (x : Str) (ps : List Str) (sp : SpX) : Prop where
  ex : ∃ (f : Addr) (fd : FuncData), FnOk P w K mg base (L2.CX P w) k f fd ps (lift K sp) ∧ mg x = some (.ref f) ∧ PySem.W.keepIn K (.ref f) = true ∧ Binds K fd ps []
structure FnS (P : Program) (w : World) (K : PySem.W.Frag) (mg : Str → Option Value) (base : Heap) (k : Nat) (x : Str) (ps : List Str) (sp : SpX) : Prop where
  ex : ∃ (f : Addr) (fd : FuncData), FnG P w K mg base (L2.CX P w) k f fd ps (lift K sp) ∧ mg x = some (.ref f) ∧ PySem.W.keepIn K (.ref f) = true ∧ Binds K fd ps []
structure FnK (P : Program) (w : World) (K : PySem.W.Frag) (mg : Str → Option Value) (base : Heap) (k : Nat) (x : Str) (ps ks : List Str) (is : List Nat) (sp : SpX) : Prop where
  ex : ∃ (f : Addr) (fd : FuncData), FnOk P w K mg base (L2.CX P w) k f fd ps (lift K sp) ∧ mg x = some (.ref f) ∧ PySem.W.keepIn K (.ref f) = true ∧ KwB fd ps ks is
section
variable {X : Cx} {M : Mode} {E : XK} {a : Expr} {es : List Expr} {t : TA} {gt : TAx} {x : Str} {p pos : Pos} {j k : Nat} {ps ks : List Str} {sp : SpX}
theorem passE {X : Cx} {E : XK} (tk : Takes X (fun cls d _ H => E cls d H)) : Passes (L2.CX X.prog X.w) X E := passes_call tk fun _ _ _ _ h => h
theorem ge_c (C : Fn X.prog X.w X.K X.mg X.base k x ps sp) (hr : Room j X.A) (hx : Passes (L2.CX X.prog X.w) X E) (ha : GA X M E (a :: es) t gt) (hjk : k ≤ j := by decide)
    (hg : Gl X x := by rfl) (hdb : (x == ("__debug__" : Str)) = false := by decide) (he : starEach (a :: es) X.env = (false, eval a X.env) :: starEach es X.env := by rfl) (hpl : (backTo pos (starEach es X.env)).any (·.1) = false := by rfl) :
    GE X M E (.Call (.Name x p) (a :: es) [] pos) (tCall (lift X.K sp) [] E t) (gCall M sp gt) := by
  obtain ⟨f, fd, F, hm, hk, hb⟩ := C.ex
  exact ge_call F (hr.mono hjk) hm hk hb hx ha hg hdb he hpl
theorem ge_s (C : FnS X.prog X.w X.K X.mg X.base k x ps sp) (hgd : X.A.guards = some []) (hr : Room j X.A) (hx : Passes (L2.CX X.prog X.w) X E) (ha : GA X M E (a :: es) t gt) (hjk : k ≤ j := by decide)
    (hg : Gl X x := by rfl) (hdb : (x == ("__debug__" : Str)) = false := by decide) (he : starEach (a :: es) X.env = (false, eval a X.env) :: starEach es X.env := by rfl) (hpl : (backTo pos (starEach es X.env)).any (·.1) = false := by rfl) :
    GE X M E (.Call (.Name x p) (a :: es) [] pos) (tCall (lift X.K sp) [] E t) (gCall M sp gt) := by
  obtain ⟨f, fd, F, hm, hk, hb⟩ := C.ex
  exact ge_callG F hgd (hr.mono hjk) hm hk hb hx ha hg hdb he hpl
theorem ge_k {kws : List Keyword} {is : List Nat} (C : FnK X.prog X.w X.K X.mg X.base k x ps ks is sp) (hr : Room j X.A) (hx : Passes (L2.CX X.prog X.w) X E) (ha : GK X M E kws t gt) (hjk : k ≤ j := by decide)
    (hl : is.length = ks.length := by rfl) (hg : Gl X x := by rfl) (hdb : (x == ("__debug__" : Str)) = false := by decide) (hall : (backToKw pos (keywordEach kws X.env)).all (·.1.isSome) = true := by rfl) (hks : (backToKw pos (keywordEach kws X.env)).filterMap (·.1) = ks := by rfl)
    (hpl : ((backTo pos (starEach [] X.env)).any (·.1) || (backToKw pos (keywordEach kws X.env)).any (·.1.isNone)) = false := by rfl) : GE X M E (.Call (.Name x p) [] kws pos) (tCallW (lift X.K sp) is E t) (gCallW M sp is gt) := by
  obtain ⟨f, fd, F, hm, hk, hb⟩ := C.ex
  exact ge_kw F (hr.mono hjk) hm hk hb hx ha hl hg hdb hall hks hpl
/-- isinstance(x, (T, ..)) -/
theorem pa_tys {X : Cx} : ∀ {ns : List String} {es : List Expr}, (hp : PA X es (tyArgs ns)) → PA X es (tyArgs ns) := fun h => h
theorem ge_isiT {ns : List String} {te : TE} {ga : TEx} {n : Nat} {p2 : Pos} (hm : X.mg ("isinstance" : Str) = none) (ha : GE X M E a te ga) (ht : PA X es (tyArgs ns)) (hn : ns.length ≤ 100 := by decide) (hg : Gl X ("isinstance" : Str) := by rfl)
    (h1 : starEach [a, .Tuple es n p2] X.env = (false, eval a X.env) :: starEach [.Tuple es n p2] X.env := by rfl) (h2 : starEach [.Tuple es n p2] X.env = (false, eval (.Tuple es n p2) X.env) :: starEach [] X.env := by rfl)
    (hpl : (backTo pos (starEach [.Tuple es n p2] X.env)).any (·.1) = false := by rfl) : GE X M E (.Call (.Name "isinstance" p) [a, .Tuple es n p2] [] pos) (tCB (rIsiT X.K) (tCons te (tCons (tTup (tyArgs ns)) tNil))) (gIsiT ns ga) :=
  ⟨pe_callB call_isiT hg hm (by decide +kernel) (pa_cons ha.p (pa_cons (pe_tup ht) pa_nil h2) h1) (by decide) (by decide) h1 hpl, sim_isiT hn ha.s⟩
theorem ty1 {x : Str} {n : String} {pos : Pos} (hm : X.mg x = none) (hv : bootBuiltins x = some (.type n) := by decide +kernel) (hg : Gl X x := by rfl) (hn : x ≠ "__name__" := by decide) (hd : (x == ("__debug__" : Str)) = false := by decide) : PE X (.Name x pos) (tC (.ty n)) := pe_bltn hg hm hv rfl hn hd
/-- methods of texts -/
theorem str_ty {K : PySem.W.Frag} {M : Mode} {x : V} {z : Str} {G H : Hp} (i : Is K G x (.str z)) (ok : Ok M G H) : tyV K "str" x H := by
  cases i
  rfl
end
/-! ### _law_caught(lambda: ..) -/
structure Got (X : Cx) (Z : Tb) (CS P : Addr) : Prop where
  ex : ∃ (g c : Addr) (gd : FuncData) (st : Stmt) (e : Str) (p1 p2 p3 p4 p5 p6 p7 p8 p9 p10 p11 p12 p13 p14 : Pos) (j : Nat), X.mg ("_law_caught" : Str) = some (.ref g) ∧ FunD X.K "_law_caught" "_law_caught" (defArgs st) (gotBody e p1 p2 p3 p4 p5 p6 p7 p8 p9 p10 p11 p12 p13 p14 j) (defScope st) [] [] g gd ∧
    L2.Binds X.K gd ["work"] [] ∧ FnScope ["work", "caught", "error"] ["work"] (defScope st) ∧ Vis (defScope st) ("work" : Str) ∧ (defScope st).names.lookup e = some .globalImplicit ∧ X.mg e = some (.ref CS) ∧ (e == ("__debug__" : Str)) = false ∧
    (defScope st).names.lookup ("caught" : Str) = some .local ∧ (defScope st).names.lookup ("error" : Str) = some .local ∧ LamX.TabB X.base X.mg c P ∧ X.env.code = .ref c
  mem : (P, X.env.qual ++ "<lambda>") ∈ Z
  one : ∀ p ∈ Z, p.1 = P → p.2 = X.env.qual ++ "<lambda>"
section
abbrev LamT : Type := Around → List Env → Shared → Hp → XK → Addr → Addr → TE
def LamT.at (t : LamT) (A : Around) (s : Shared) : XK → TE := fun E => t A [] s (fun _ => none) E 0 0
def LamT.Same (t : LamT) (A : Around) (s : Shared) : Prop := ∀ A' outer s' H E f c', t A' outer s' H E f c' = t.at A s E
variable {X : Cx} {M : Mode} {E : XK} {Z : Tb} {CS P : Addr} {params : Arguments} {body : Expr} {scope : Scope} {t : LamT} {g : TEx} {p lpos pos spos : Pos} {k : Nat}
theorem pe_got {u : XK → TE} (D : Got X Z CS P) (hr : Room (k + 2) X.A) (hg : Gl X ("_law_caught" : Str)) (L : LamX.LamS X.env.scope scope) (hdef : defaultsOf params X.env = ([], []))
    (hbind : ∀ (q : Str) (cl : List (Str × Addr)) (pm cv ctv : Value), bindArgs (PySem.W.kla_fn "<lambda>" q params body scope cl pm cv ctv) ⟨[], []⟩ = pure [])
    (hbody : ∀ (A : Around) (outer : List Env) (s : Shared) (H : Hp) (E : XK) (f c' : Addr), Room k (A.deeper (LamX.lamEnv X scope s.heap.objs.size f c')) → PE (LamX.lamCx X A outer s H E scope f c') body (u E)) :
    PE X (.Call (.Name "_law_caught" p) [.Lambda params body scope lpos] [] pos) (tLamP Z P (TTgot X.K CS) u) := by
  obtain ⟨g, c, gd, st, e, p1, p2, p3, p4, p5, p6, p7, p8, p9, p10, p11, p12, p13, p14, j, h1, h2, h3, h4, h5, h6, h7, h8, h9, h10, h11, h12⟩ := D.ex
  exact pe_lamP hg h1 h2 h3 h4 rfl h5 (fun cdv => got_gives h6 h7 h8 h9 h10) h11 h12 D.mem D.one hr L hdef hbind hbody (by decide) (by decide) (by decide)
theorem ge_got (l : LamM M Z P) (D : Got X Z CS P) (s0 : Shared) (hr : Room (k + 2) X.A) (hbody : ∀ (A : Around) (outer : List Env) (s : Shared) (H : Hp) (E : XK) (f c' : Addr), Room k (A.deeper (LamX.lamEnv X scope s.heap.objs.size f c')) → GE (LamX.lamCx X A outer s H E scope f c') M E body (t A outer s H E f c') g)
    (hg : Gl X ("_law_caught" : Str) := by rfl) (L : LamX.LamS X.env.scope scope := by exact LamX.lamS_by (by decide +kernel)) (hdef : defaultsOf params X.env = ([], []) := by rfl)
    (hbind : ∀ (q : Str) (cl : List (Str × Addr)) (pm cv ctv : Value), bindArgs (PySem.W.kla_fn "<lambda>" q params body scope cl pm cv ctv) ⟨[], []⟩ = pure [] := by exact fun _ _ _ _ _ => rfl) (sm : LamT.Same t X.A s0 := by exact fun _ _ _ _ _ _ _ => rfl) :
    GE X M E (.Call (.Name "_law_caught" p) [.Lambda params body scope lpos] [] pos) (tLamP Z P (TTgot X.K CS) (t.at X.A s0)) (gGot X.K CS g) :=
  ⟨pe_got D hr hg L hdef hbind fun A outer s H E f c' h => sm A outer s H E f c' ▸ (hbody A outer s H E f c' h).p,
    sim_got l fun E => sm _ _ _ _ _ _ _ ▸ (hbody (X.A.deeper (LamX.lamEnv X scope s0.heap.objs.size 0 0)) [] s0 (fun _ => none) E 0 0 ((hr.deeper _).deeper _)).s⟩
variable {e : Expr} {y z : Str} {p1 p2 p3 p4 cpos : Pos}
/-- y = _law_caught(lambda: z.append(e)) -/
theorem gs_gotApp (i j : Nat) (l : LamM M Z P) (D : Got X Z CS P) (s0 : Shared) (hr : Room (k + 2) X.A) (hN : X.N.Nodup) (hbody : ∀ (A : Around) (outer : List Env) (s : Shared) (H : Hp) (E : XK) (f c' : Addr), Room k (A.deeper (LamX.lamEnv X scope s.heap.objs.size f c')) → GE (LamX.lamCx X A outer s H E scope f c') M E e (t A outer s H E f c') g)
    (happ : ∀ (A : Around) (outer : List Env) (s : Shared) (H : Hp) (E : XK) (f c' : Addr), Room k (A.deeper (LamX.lamEnv X scope s.heap.objs.size f c')) → PE (LamX.lamCx X A outer s H E scope f c') e (t A outer s H E f c') → PE (LamX.lamCx X A outer s H E scope f c') (.Call (.Attribute (.Name z p1) "append" p2) [e] [] cpos) (tBM X.K "list" rAppend (tVar j) (tCons (t A outer s H E f c') tNil)))
    (hi : X.N[i]? = some y := by rfl) (hx : Loc X.env.scope y := by first | exact Or.inl rfl | exact Or.inr rfl) (hf : X.fn y = true ∨ X.env.scope.names.lookup y = some .local := by first | exact .inl rfl | exact .inr rfl)
    (hg : Gl X ("_law_caught" : Str) := by rfl) (L : LamX.LamS X.env.scope scope := by exact LamX.lamS_by (by decide +kernel)) (hdef : defaultsOf params X.env = ([], []) := by rfl)
    (hbind : ∀ (q : Str) (cl : List (Str × Addr)) (pm cv ctv : Value), bindArgs (PySem.W.kla_fn "<lambda>" q params (.Call (.Attribute (.Name z p1) "append" p2) [e] [] cpos) scope cl pm cv ctv) ⟨[], []⟩ = pure [] := by exact fun _ _ _ _ _ => rfl)
    (sm : LamT.Same t X.A s0 := by exact fun _ _ _ _ _ _ _ => rfl) (hs : swapsWith (.Call (.Name "_law_caught" p) [.Lambda params (.Call (.Attribute (.Name z p1) "append" p2) [e] [] cpos) scope lpos] [] pos) (some (.Name y p3)) spos.line X.env = pure false := by rfl) :
    GS X M E (.Assign [.Name y p3] (.Call (.Name "_law_caught" p) [.Lambda params (.Call (.Attribute (.Name z p1) "append" p2) [e] [] cpos) scope lpos] [] pos) spos) (tAsg (tLamP Z P (TTgot X.K CS) fun E => tBM X.K "list" rAppend (tVar j) (tCons (t.at X.A s0 E) tNil)) (gName i)) (sGotApp X.K CS i j g) :=
  ⟨ps_set hN hi hx (pe_got D hr hg L hdef hbind fun A outer s H E f c' h => sm A outer s H E f c' ▸ happ A outer s H E f c' h (hbody A outer s H E f c' h).p) hs hf,
    sims_gotApp l fun E => sm _ _ _ _ _ _ _ ▸ (hbody (X.A.deeper (LamX.lamEnv X scope s0.heap.objs.size 0 0)) [] s0 (fun _ => none) E 0 0 ((hr.deeper _).deeper _)).s⟩
/-- the append, in the lambda -/
theorem pe_appL {X : Cx} {te : TE} (j : Nat) {e : Expr} {z : Str} {p1 p2 cpos : Pos} (he : PE X e te) (hN : X.N[j]? = some z := by rfl) (hv : Vis X.env.scope z := by first | exact Or.inl rfl | exact Or.inr (Or.inl rfl) | exact Or.inr (Or.inr rfl))
    (hd : (z == ("__debug__" : Str)) = false := by decide) (hcd : (z == ("__classdict__" : Str)) = false := by decide) (hbase : attributeBase (.Name z p1) "append" X.env (eval (.Name z p1) X.env) = eval (.Name z p1) X.env := by rfl)
    (hfew : ((backTo cpos (starEach [e] X.env)).all (fun x => !x.1) && (backToKw cpos (keywordEach [] X.env)).all (fun x => x.1.isSome) && decide (([e] : List Expr).length + ([] : List Keyword).length + (if ([] : List Keyword).isEmpty then 0 else 1) < 30)) = true := by rfl)
    (hline : (p2.endLine == cpos.line) = true := by rfl) (hs : starEach [e] X.env = (false, eval e X.env) :: starEach [] X.env := by rfl) (hplain : (backTo cpos (starEach [] X.env)).any (·.1) = false := by rfl) :
    PE X (.Call (.Attribute (.Name z p1) "append" p2) [e] [] cpos) (tBM X.K "list" rAppend (tVar j) (tCons te tNil)) :=
  pe_bm PySem.F.plainAttrs_list PySem.F.slot_list_append PySem.F.type_list_append mt_append (pe_var hN hv hd hcd) (pa_cons he pa_nil hs) hbase hfew hline hs hplain
end
end TL
namespace TL
open PySem PySem.Spec PyProof.Rows L2
variable [TheW]
/-! ### readings of comprehensions and loops, in plain lists -/
section
variable {g : TGx} {tt : TTx} {te : TEx} {τ : List Sl} {q : List T → Prop} {i : Nat}
/-- each item gives an element, whichever, under P -/
theorem lcR_any {P : T → T → Prop} : ∀ {items acc : List T}, (∀ t ∈ items, ∀ q' : Sl → Prop, (∀ s : Sl, P t s.fz → q' s) → g t τ fun τ2 => te τ2 q' rF) → acc.length + items.length ≤ sizeLine →
    (∀ ts, Paired P items ts → q (acc ++ ts)) → lcR g gYes te τ q items acc
  | [], acc, _, _, k => by
    have z := k [] .nil
    rw [List.append_nil] at z
    exact z
  | t :: items, acc, h, hl, k => by
    have hl' : acc.length + (items.length + 1) ≤ sizeLine := hl
    refine h t List.mem_cons_self _ fun s hs => ⟨by omega, lcR_any (fun u hu => h u (List.mem_cons_of_mem _ hu)) (by rw [List.length_append, List.length_singleton]; omega) fun ts hp => ?_⟩
    have z := k (s.fz :: ts) (.cons hs hp)
    rw [List.append_assoc]
    exact z
theorem paired_map {α β : Type} {f : α → β} : ∀ {xs : List α} {ys : List β}, Paired (fun a b => b = f a) xs ys → ys = xs.map f
  | _, _, .nil => rfl
  | _, _, .cons h r => by rw [h, paired_map r]; rfl
theorem paired_all {α β : Type} {R : α → β → Prop} {P : β → Prop} (h : ∀ a b, R a b → P b) : ∀ {xs : List α} {ys : List β}, Paired R xs ys → ys.length = xs.length ∧ ∀ y ∈ ys, P y
  | _, _, .nil => ⟨rfl, fun _ h => nomatch h⟩
  | _, _, .cons k r => by
    obtain ⟨h1, h2⟩ := paired_all h r
    exact ⟨congrArg (· + 1) h1, fun y hy => (List.mem_cons.mp hy).elim (fun e => by rw [e]; exact h _ _ k) (h2 y)⟩
/-- a plain function of the item -/
theorem lcR_map {f : T → T} {items : List T} (h : ∀ t ∈ items, ∀ q' : Sl → Prop, q' (.sh (f t)) → g t τ fun τ2 => te τ2 q' rF) (hl : items.length ≤ sizeLine) (k : q (items.map f)) : lcR g gYes te τ q items [] :=
  lcR_any (P := fun t u => u = f t) (fun t ht q' hq => h t ht q' (hq (.sh (f t)) rfl)) (by simpa using hl) fun ts hp => by
    rw [paired_map hp]
    exact k
end
/-- a test and an element, both plain functions of the item -/
theorem lcR_if {i : Nat} {tt : TTx} {te : TEx} {τ : List Sl} {q : List T → Prop} {p : T → Bool} {f : T → T} : ∀ {items acc : List T}, (∀ t ∈ items, ∀ Q : Bool → Prop, Q (p t) → tt (τ.set i (.sh t)) Q rF) → (∀ t ∈ items, p t = true → ∀ Q : Sl → Prop, Q (.sh (f t)) → te (τ.set i (.sh t)) Q rF) →
    acc.length + items.length ≤ sizeLine → q (acc ++ (items.filter p).map f) → lcR (xName i) tt te τ q items acc
  | [], acc, _, _, _, k => by
    have z : q (acc ++ []) := k
    rw [List.append_nil] at z
    exact z
  | t :: items, acc, h1, h2, hl, k => by
    have hl' : acc.length + (items.length + 1) ≤ sizeLine := hl
    refine h1 t List.mem_cons_self _ ?_
    have r1 : ∀ u ∈ items, ∀ Q : Bool → Prop, Q (p u) → tt (τ.set i (.sh u)) Q rF := fun u hu => h1 u (List.mem_cons_of_mem _ hu)
    have r2 : ∀ u ∈ items, p u = true → ∀ Q : Sl → Prop, Q (.sh (f u)) → te (τ.set i (.sh u)) Q rF := fun u hu => h2 u (List.mem_cons_of_mem _ hu)
    cases hp : p t with
    | true =>
      rw [if_pos rfl]
      refine h2 t List.mem_cons_self hp _ ⟨by omega, lcR_if r1 r2 (by rw [List.length_append, List.length_singleton]; omega) ?_⟩
      rw [List.filter_cons_of_pos hp] at k
      rw [List.append_assoc]
      exact k
    | false =>
      rw [if_neg (by decide)]
      refine lcR_if r1 r2 (by omega) ?_
      rw [List.filter_cons_of_neg (by rw [hp]; decide)] at k
      exact k
/-- a loop, by what holds at each turn -/
theorem forR_inv {g : TGx} {b : TSx} {k : Kn} {I : List Sl → Prop} (h0 : ∀ τ, I τ → k.nx τ) : ∀ {items : List T}, (∀ t ∈ items, ∀ τ, I τ → ∀ nx : List Sl → Prop, (∀ τ', I τ' → nx τ') → g t τ fun τ2 => b τ2 { k with nx := nx, ct := nx, bk := k.nx }) → ∀ τ, I τ → forR g b k items τ
  | [], _, τ, hi => h0 τ hi
  | t :: items, h, τ, hi => h t List.mem_cons_self τ hi _ (forR_inv h0 fun u hu => h u (List.mem_cons_of_mem _ hu))
/-! ### the draw -/
/-- what a T gives when it is walked, as a plain list -/
def spTake : SpX := fun M ts q _ => ∃ d n, ts = [.raw (.ref d), .int n] ∧ IsDM M d ∧ 0 < n ∧ n < 1073741824 ∧ ∀ k : Int, 0 ≤ k → k < n → q (.sh (.int k))
def spMixed : SpX := fun M ts q _ => ∃ d, ts = [.raw (.ref d)] ∧ IsDM M d ∧ ∀ k : Int, q (.sh (.int k))
/-- pick of a list or a tuple -/
def spPick : SpX := fun M ts q _ => ∃ d t xs, ts = [.raw (.ref d), t] ∧ IsDM M d ∧ (t = .lst xs ∨ t = .tup xs) ∧ 0 < xs.length ∧ xs.length < 1073741824 ∧ ∀ x ∈ xs, q (.sh x)
theorem atI_mem {xs : List T} {k : Int} (h0 : 0 ≤ k) (h1 : k < xs.length) : ∃ t, atI xs k = some t ∧ t ∈ xs := by
  obtain ⟨n, rfl⟩ := Int.eq_ofNat_of_zero_le h0
  have hn : n < xs.length := by exact_mod_cast h1
  refine ⟨xs[n], ?_, List.getElem_mem hn⟩
  unfold atI
  have e : ixN xs.length (n : Int) = some n := by
    unfold ixN
    simp [hn]
  rw [e]
  simp [hn]
end TL
namespace K87
open PySem PySem.Spec PyProof.Rows L2 TL
variable [TheW]
abbrev sp__law_take := spTake
abbrev sp__law_mixed := spMixed
abbrev sp__law_pick := spPick
def g__law_mixed (M : Mode) : TSx := (sSeq (sDi M 0 (gOp gAdd (gDi M 0) (gC (.int 1))))
    (sSeq (sAsg2 1 2 (gCB gInt1 (aCons (gDi M 0) aNil)) (gC (.int 0)))
    (sSeq (sFor (iWalk (TL.gLst (aCons (gC (.int 2147483647)) (aCons (gC (.int 2147483629)) (aCons (gC (.int 2147483587)) aNil))))) (xName 3) (sSeq (sSet 4 (gOp gMod (gOp gAdd (gOp gMul (gVar 1) (gC (.int 48271))) (gOp gDiv (gVar 3) (gC (.int 11)))) (gVar 3)))
    (sSeq (sFor (iDc M 0) (xName 5) (sSet 4 (gOp gMod (gOp gAdd (gOp gAdd (gOp gMul (gVar 4) (gC (.int 69621))) (gCB gInt1 (aCons (gVar 5) aNil))) (gVar 1)) (gVar 3))))
    (sSet 2 (gOp gAdd (gOp gMul (gVar 2) (gC (.int 2147483659))) (gOp gMod (gOp gPow (gVar 4) (gC (.int 5))) (gVar 3)))))))
    (sRetV 2))))
def g__law_take (M : Mode) : TSx := (sSeq (sIf (gB (gOp gEq (gDi M 0) (gC (.int 0)))) (sDi M 0 (gDpop M 0 (gCall M sp__law_mixed (aCons (gVar 0) aNil)))) sNext)
    (sSeq (sSet 2 (gOp gMod (gCB gInt1 (aCons (gDi M 0) aNil)) (gVar 1)))
    (sSeq (sDi M 0 (gOp gDiv (gCB gInt1 (aCons (gDi M 0) aNil)) (gVar 1)))
    (sRetV 2))))
def g__law_pick (M : Mode) : TSx := (sRet (gOp gIx (gVar 1) (gCall M sp__law_take (aCons (gVar 0) (aCons (gCB gLen (aCons (gVar 1) aNil)) aNil)))))
theorem sem__law_pick {M : Mode} {ts : List T} {q : Sl → Prop} {r : Xn → Prop} (h : spPick M ts q r) : g__law_pick M (startS ["draw", "some"] ts) (KnOf q r) := by
  obtain ⟨d, t, xs, rfl, hM, ht, h0, h1, hq⟩ := h
  rcases ht with rfl | rfl
  all_goals
    refine ⟨d, xs.length, rfl, hM, by omega, by omega, fun k k0 k1 => ?_⟩
    obtain ⟨x, e, hx⟩ := atI_mem k0 k1
    show oks (atI xs k) _
    rw [e]
    exact hq x hx
theorem sem__law_take {M : Mode} {ts : List T} {q : Sl → Prop} {r : Xn → Prop} (h : spTake M ts q r) : g__law_take M (startS ["draw", "amount", "found"] ts) (KnOf q r) := by
  obtain ⟨d, n, rfl, hM, h0, h1, hq⟩ := h
  have at0 : ∀ x, atD M 0 [.sh (.raw (.ref d)), .sh (.int n), x] := fun x => ⟨d, rfl, hM⟩
  have tail : (sSeq (sSet 2 (gOp gMod (gCB gInt1 (aCons (gDi M 0) aNil)) (gVar 1))) (sSeq (sDi M 0 (gOp gDiv (gCB gInt1 (aCons (gDi M 0) aNil)) (gVar 1))) (sRetV 2))) [.sh (.raw (.ref d)), .sh (.int n), .no] (KnOf q r) :=
    ⟨at0 _, fun m => ⟨h0, at0 _, fun m2 => ⟨⟨h0, h1⟩, at0 _, ⟨_, rfl⟩, hq (m % n) (Int.emod_nonneg _ (by omega)) (Int.emod_lt_of_pos _ h0)⟩⟩⟩
  refine ⟨at0 _, fun m => ?_⟩
  show (if decide (m = 0) = true then _ else _)
  split
  · exact ⟨at0 _, fun m => ⟨at0 _, ⟨m, rfl⟩, tail⟩, ⟨d, rfl, hM, fun m => ⟨at0 _, ⟨m, rfl⟩, tail⟩⟩⟩
  · exact tail
theorem sem__law_mixed {M : Mode} {ts : List T} {q : Sl → Prop} {r : Xn → Prop} (h : spMixed M ts q r) : g__law_mixed M (startS ["draw", "turn", "found", "great", "blend", "cell"] ts) (KnOf q r) := by
  obtain ⟨d, rfl, hM, hq⟩ := h
  have at0 : ∀ x, atD M 0 (.sh (.raw (.ref d)) :: x) := fun x => ⟨d, rfl, hM⟩
  refine ⟨at0 _, fun m => ⟨at0 _, ⟨_, rfl⟩, at0 _, fun t => ⟨by rw [sizeLine_eq]; exact (by decide : (3 : Nat) ≤ 16777216), ?_⟩⟩⟩
  have G : ∀ x ∈ [(2147483647 : Int), 2147483629, 2147483587], 0 < x ∧ x < 2147483648 := by decide
  refine forR_inv (I := fun τ => ∃ f a b c, τ = [.sh (.raw (.ref d)), .sh (.int t), .sh (.int f), a, b, c]) ?_ ?_ _ ⟨0, _, _, _, rfl⟩
  · rintro τ ⟨f, a, b, c, rfl⟩
    exact hq f
  · rintro x hx τ ⟨f, a, b, c, rfl⟩ nx hnx
    have key : ∀ (great : Int) (bk : List Sl → Prop), 0 < great → great < 2147483648 → xName 3 (.int great) [.sh (.raw (.ref d)), .sh (.int t), .sh (.int f), a, b, c] fun τ2 => (sSeq (sSet 4 (gOp gMod (gOp gAdd (gOp gMul (gVar 1) (gC (.int 48271))) (gOp gDiv (gVar 3) (gC (.int 11)))) (gVar 3)))
        (sSeq (sFor (iDc M 0) (xName 5) (sSet 4 (gOp gMod (gOp gAdd (gOp gAdd (gOp gMul (gVar 4) (gC (.int 69621))) (gCB gInt1 (aCons (gVar 5) aNil))) (gVar 1)) (gVar 3))))
        (sSet 2 (gOp gAdd (gOp gMul (gVar 2) (gC (.int 2147483659))) (gOp gMod (gOp gPow (gVar 4) (gC (.int 5))) (gVar 3)))))) τ2 { nx := nx, rt := q, bk := bk, ct := nx, ex := r } := fun great bk p0 p1 => by
      refine ⟨.inr (by decide), ⟨by decide, by decide⟩, p0, ?_⟩
      obtain ⟨L, C, cs, Z, rfl⟩ := hM
      refine ⟨d, L, C, cs, Z, rfl, rfl, ?_⟩
      refine forR_inv (I := fun τ => ∃ bl c, τ = [.sh (.raw (.ref d)), .sh (.int t), .sh (.int f), .sh (.int great), .sh (.int bl), c] ∧ 0 ≤ bl ∧ bl < 2147483648) ?_ ?_ _ ⟨_, _, rfl, Int.emod_nonneg _ (by omega), Int.lt_trans (Int.emod_lt_of_pos _ p0) p1⟩
      · rintro τ ⟨bl, c, rfl, b0, b1⟩
        exact ⟨.inr (by decide), ⟨by decide, by decide, by omega⟩, p0, hnx _ ⟨_, _, _, _, rfl⟩⟩
      · rintro y hy τ ⟨bl, c, rfl, b0, b1⟩ nx2 hnx2
        obtain ⟨z, _, rfl⟩ := List.mem_map.mp hy
        exact ⟨.inr (by decide), p0, hnx2 _ ⟨_, _, rfl, Int.emod_nonneg _ (by omega), Int.lt_trans (Int.emod_lt_of_pos _ p0) p1⟩⟩
    have hx' : x ∈ [T.int 2147483647, T.int 2147483629, T.int 2147483587] := hx
    simp only [List.mem_cons, List.not_mem_nil, or_false] at hx'
    rcases hx' with rfl | rfl | rfl
    · exact key 2147483647 _ (by decide) (by decide)
    · exact key 2147483629 _ (by decide) (by decide)
    · exact key 2147483587 _ (by decide) (by decide)
/-! ### texts -/
abbrev LET : Str := "abcdefghijklmnopqrstuvwxyz"
def isLet (c : Nat) : Bool := decide (c ∈ LET.cps.toList)
/-- a plain value -/
def tame : T → Bool
  | .str z => decide (z.length ≤ sizeLine)
  | .raw _ => false
  | .ob _ => false
  | .fdc _ => false
  | .dn _ => false
  | .fdn _ => false
  | .st _ _ => false
  | _ => true
def letS (z : Str) (lo hi : Int) : Bool := decide (lo ≤ (z.length : Int)) && (decide ((z.length : Int) ≤ hi) && z.cps.toList.all isLet)
def letB (t : T) (lo hi : Int) : Bool := match t with
  | .str z => letS z lo hi
  | _ => false
def tokS (z : Str) : Bool := letS z 1 8 || decide (z = ".")
def tokB : T → Bool
  | .str z => tokS z
  | _ => false
def tameX : T → Bool
  | .lst xs => xs.all tame
  | .fls xs => xs.all tame
  | .tup xs => xs.all tame
  | t => tame t
def textL (xs : List T) : Bool := decide ((xs.length : Int) ≤ 400) && xs.all tokB
def textB : T → Bool
  | .lst xs => textL xs
  | .fls xs => textL xs
  | .tup xs => textL xs
  | _ => false
def isStr : T → Bool
  | .str _ => true
  | _ => false
def isSeq : T → Bool
  | .lst _ => true
  | .fls _ => true
  | .tup _ => true
  | _ => false
theorem isi_str {t : T} (h : tame t = true) : isiB t (.raw (.ty "str")) = some (isStr t) := by
  cases t with
  | non => exact kit_none_str
  | bl => exact kit_bool_str
  | int => exact kit_int_str
  | str => exact kit_str_str
  | lst => exact kit_list_str
  | fls => exact kit_list_str
  | tup => exact kit_tuple_str
  | dct => exact kit_dict_str
  | _ => cases h
theorem gisi {t c : T} {b : Bool} {q : Sl → Prop} (h : isiB t c = some b) (k : q (.sh (.bl b))) : gIsi [t, c] q := by
  show oks (isiB t c) _
  rw [h]
  exact k
def sp_is_letters : SpX := fun _ ts q _ => ∃ t lo hi, ts = [t, .int lo, .int hi] ∧ tame t = true ∧ q (.sh (.bl (letB t lo hi)))
def sp_is_word : SpX := fun _ ts q _ => ∃ t, ts = [t] ∧ tame t = true ∧ q (.sh (.bl (letB t 1 8)))
def sp_is_token : SpX := fun _ ts q _ => ∃ t, ts = [t] ∧ tame t = true ∧ q (.sh (.bl (tokB t)))
def sp_is_text : SpX := fun _ ts q _ => ∃ t, ts = [t] ∧ tameX t = true ∧ q (.sh (.bl (textB t)))
def g_is_letters : TSx := (sRet (gAndV (gCB gIsi (aCons (gVar 0) (aCons (gC (.raw (.ty "str"))) aNil))) (gAndV (gChain gLe gLe (gVar 1) (gCB gLen (aCons (gVar 0) aNil)) (gVar 2)) (gCB gAll (aCons (gLc [3] (iWalk (gVar 0)) (xName 3) gYes (gOp gInS (gVar 3) (gC (.str "abcdefghijklmnopqrstuvwxyz")))) aNil)))))
def g_is_word (M : Mode) : TSx := (sRet (gCall M sp_is_letters (aCons (gVar 0) (aCons (gC (.int 1)) (aCons (gC (.int 8)) aNil)))))
def g_is_token (M : Mode) : TSx := (sRet (gOrV (gCall M sp_is_word (aCons (gVar 0) aNil)) (gAndV (gCB gIsi (aCons (gVar 0) (aCons (gC (.raw (.ty "str"))) aNil))) (gOp gEq (gVar 0) (gC (.str "."))))))
def g_is_text (M : Mode) : TSx := (sRet (gAndV (gIsiT ["list", "tuple"] (gVar 0)) (gAndV (gOp gLe (gCB gLen (aCons (gVar 0) aNil)) (gC (.int 400))) (gCB gAll (aCons (gLc [1] (iWalk (gVar 0)) (xName 1) gYes (gCall M sp_is_token (aCons (gVar 1) aNil))) aNil)))))
/-- all(..) of a walked thing -/
theorem all_lc {vs : List Nat} {src : TIx} {i : Nat} {te : TEx} {τ : List Sl} {items : List T} {p : T → Bool} {q : Sl → Prop} {r : Xn → Prop} (hs : ∀ Q : List T → Prop, Q items → src τ Q r) (hl : items.length ≤ sizeLine)
    (h : ∀ t ∈ items, ∀ q' : Sl → Prop, q' (.sh (.bl (p t))) → te ((wipeS τ vs).set i (.sh t)) q' rF) (k : q (.sh (.bl (items.all p)))) : gCB gAll (aCons (gLc vs src (xName i) gYes te) aNil) τ q r := by
  refine hs _ (lcR_map (f := fun t => .bl (p t)) h hl ?_)
  show oks (blAll (items.map fun t => T.bl (p t))) _
  rw [blAll_map]
  show q (.sh (.bl ((items.map p).all id)))
  rw [List.all_map]
  exact k
theorem sem_is_letters {ts : List T} {q : Sl → Prop} {r : Xn → Prop} {M : Mode} (h : sp_is_letters M ts q r) : g_is_letters (startS ["thing", "least", "most", "sign"] ts) (KnOf q r) := by
  obtain ⟨t, lo, hi, rfl, ht, hq⟩ := h
  show oks (isiB t (.raw (.ty "str"))) _
  rw [isi_str ht]
  show (if isStr t = true then _ else _)
  cases t with
  | str z =>
    rw [if_pos (show isStr (.str z) = true from rfl)]
    have hz : z.length ≤ sizeLine := of_decide_eq_true ht
    refine ⟨hz, ?_⟩
    have hq : q (.sh (.bl (decide (lo ≤ (z.length : Int)) && (decide ((z.length : Int) ≤ hi) && z.cps.toList.all isLet)))) := hq
    show (if decide (lo ≤ (z.length : Int)) = true then _ else _)
    by_cases h1 : decide (lo ≤ (z.length : Int)) = true
    · rw [if_pos h1]
      rw [h1, Bool.true_and] at hq
      show (if decide ((z.length : Int) ≤ hi) = true then _ else _)
      by_cases h2 : decide ((z.length : Int) ≤ hi) = true
      · rw [if_pos h2]
        rw [h2, Bool.true_and] at hq
        refine all_lc (items := z.cps.toList.map fun c => .str ⟨#[c]⟩) (p := fun t => match t with | .str ⟨#[c]⟩ => isLet c | _ => false) (fun Q k => k) (by rw [List.length_map]; exact hz) (fun t ht q' k => ?_) ?_
        · obtain ⟨c, _, rfl⟩ := List.mem_map.mp ht
          exact k
        · rw [List.all_map]
          exact hq
      · rw [if_neg h2]
        have h2' : decide ((z.length : Int) ≤ hi) = false := by simpa using h2
        rw [h2', Bool.false_and] at hq
        exact hq
    · rw [if_neg h1]
      have h1' : decide (lo ≤ (z.length : Int)) = false := by simpa using h1
      rw [h1', Bool.false_and] at hq
      exact hq
  | raw => cases ht
  | ob => cases ht
  | _ => exact hq
theorem sem_is_word {ts : List T} {q : Sl → Prop} {r : Xn → Prop} {M : Mode} (h : sp_is_word M ts q r) : g_is_word M (startS ["thing"] ts) (KnOf q r) := by
  obtain ⟨t, rfl, ht, hq⟩ := h
  exact ⟨t, 1, 8, rfl, ht, hq⟩
theorem sem_is_token {ts : List T} {q : Sl → Prop} {r : Xn → Prop} {M : Mode} (h : sp_is_token M ts q r) : g_is_token M (startS ["thing"] ts) (KnOf q r) := by
  obtain ⟨t, rfl, ht, hq⟩ := h
  refine ⟨t, rfl, ht, ?_⟩
  have tail : letB t 1 8 = false → gAndV (gCB gIsi (aCons (gVar 0) (aCons (gC (.raw (.ty "str"))) aNil))) (gOp gEq (gVar 0) (gC (.str "."))) [.sh t] q r := fun hl => by
    show oks (isiB t (.raw (.ty "str"))) _
    rw [isi_str ht]
    show (if isStr t = true then _ else _)
    cases t with
    | str z =>
      have hl' : letS z 1 8 = false := hl
      have hq' : q (.sh (.bl (letS z 1 8 || decide (z = ".")))) := hq
      rw [hl', Bool.false_or] at hq'
      exact hq'
    | raw => cases ht
    | ob => cases ht
    | _ => exact hq
  show (if letB t 1 8 = true then _ else _)
  by_cases h1 : letB t 1 8 = true
  · rw [if_pos h1]
    cases t with
    | str z =>
      have h1' : letS z 1 8 = true := h1
      have hq' : q (.sh (.bl (letS z 1 8 || decide (z = ".")))) := hq
      rw [h1', Bool.true_or] at hq'
      exact hq'
    | _ => cases h1
  · rw [if_neg h1]
    exact tail (by simpa using h1)
theorem isT_seq {t : T} (h : tameX t = true) : (t.tyN.bind fun n => kitsB n ["list", "tuple"]) = some (isSeq t) := by
  have k : ∀ a : String, ∀ b c : Bool, kitB a "list" = some b → kitB a "tuple" = some c → kitsB a ["list", "tuple"] = some (b || c) := fun a b c h1 h2 => by
    unfold kitsB
    rw [h1]
    cases b with
    | true => rfl
    | false =>
      show kitsB a ["tuple"] = _
      unfold kitsB
      rw [h2]
      cases c <;> rfl
  cases t with
  | non => exact k _ _ _ kit_none_list kit_none_tuple
  | bl => exact k _ _ _ kit_bool_list kit_bool_tuple
  | int => exact k _ _ _ kit_int_list kit_int_tuple
  | str => exact k _ _ _ kit_str_list kit_str_tuple
  | lst => exact k _ _ _ kit_list_list kit_list_tuple
  | fls => exact k _ _ _ kit_list_list kit_list_tuple
  | tup => exact k _ _ _ kit_tuple_list kit_tuple_tuple
  | dct => exact k _ _ _ kit_dict_list kit_dict_tuple
  | _ => cases h
theorem sem_is_text {ts : List T} {q : Sl → Prop} {r : Xn → Prop} {M : Mode} (h : sp_is_text M ts q r) : g_is_text M (startS ["thing", "token"] ts) (KnOf q r) := by
  obtain ⟨t, rfl, ht, hq⟩ := h
  show oks (t.tyN.bind fun n => kitsB n ["list", "tuple"]) _
  rw [isT_seq ht]
  show (if isSeq t = true then _ else _)
  have seq : ∀ (t : T) (xs : List T), t.items = some xs → (∀ Q : Sl → Prop, Q (.sh (.int xs.length)) → gLen [t] Q) → xs.all tame = true → q (.sh (.bl (textL xs))) →
      gAndV (gOp gLe (gCB gLen (aCons (gVar 0) aNil)) (gC (.int 400))) (gCB gAll (aCons (gLc [1] (iWalk (gVar 0)) (xName 1) gYes (gCall M sp_is_token (aCons (gVar 1) aNil))) aNil)) [.sh t, .no] q r := fun t xs hi hl hx hq => by
    refine hl (fun s => gLe s.fz (.int 400) fun k => isB k fun c => if c = true then gCB gAll (aCons (gLc [1] (iWalk (gVar 0)) (xName 1) gYes (gCall M sp_is_token (aCons (gVar 1) aNil))) aNil) [.sh t, .no] q r else q (.sh (.bl false))) ?_
    show (if decide ((xs.length : Int) ≤ 400) = true then _ else _)
    unfold textL at hq
    by_cases h1 : decide ((xs.length : Int) ≤ 400) = true
    · rw [if_pos h1]
      rw [h1, Bool.true_and] at hq
      have h2 : (xs.length : Int) ≤ 400 := of_decide_eq_true h1
      refine all_lc (items := xs) (p := tokB) (fun Q k => ?_) (by rw [sizeLine_eq]; omega) (fun t ht q' k => ⟨t, rfl, List.all_eq_true.mp hx t ht, k⟩) hq
      show oks t.items Q
      rw [hi]
      exact k
    · rw [if_neg h1]
      have h1' : decide ((xs.length : Int) ≤ 400) = false := by simpa using h1
      rw [h1', Bool.false_and] at hq
      exact hq
  cases t with
  | lst xs => exact seq _ xs rfl (fun Q k => k) ht hq
  | fls xs => exact seq _ xs rfl (fun Q k => k) ht hq
  | tup xs => exact seq _ xs rfl (fun Q k => k) ht hq
  | raw => cases ht
  | ob => cases ht
  | _ => exact hq
end K87
namespace TL
open PySem PySem.Spec PyProof.Rows L2
variable [TheW]
section
variable {X : Cx} {M : Mode} {E : XK} {pos p1 p2 p3 p4 p5 p6 pos' : Pos} {x key : Str}
theorem noSl_str {j : Nat} {p : Pos} {z : Str} : NoSl (.Constant (.str z) j p) := fun _ _ => rfl
/-- draw[..] -/
theorem ge_di {j : Nat} (hx : key = "rest" ∨ key = "turn") (hu : X.A.units + 64 < cLine) (i : Nat) (hN : X.N[i]? = some x := by rfl) (hv : Vis X.env.scope x := by first | exact Or.inl rfl | exact Or.inr (Or.inl rfl) | exact Or.inr (Or.inr rfl)) (hd : (x == ("__debug__" : Str)) = false := by decide)
    (hcd : (x == ("__classdict__" : Str)) = false := by decide) : GE X M E (.Subscript (.Name x p1) (.Constant (.str key) j p2) pos) (tDGet (tVar i) (tC (.str key))) (gDi M i) :=
  ⟨pe_dget (Nat.lt_of_le_of_lt (by omega) hu) (pe_var hN hv hd hcd) pe_str noSl_str, sim_di hx⟩
theorem gs_di {j : Nat} {value : Expr} {te : TE} {g : TEx} (hx : key = "rest" ∨ key = "turn") (hu : X.A.units + 64 < cLine) (i : Nat) (hv0 : GE X M E value te g) (hN : X.N[i]? = some x := by rfl) (hv : Vis X.env.scope x := by first | exact Or.inl rfl | exact Or.inr (Or.inl rfl) | exact Or.inr (Or.inr rfl)) (hd : (x == ("__debug__" : Str)) = false := by decide)
    (hcd : (x == ("__classdict__" : Str)) = false := by decide) (hs : swapsWith value (some (.Subscript (.Name x p1) (.Constant (.str key) j p2) pos')) pos.line X.env = pure false := by rfl) :
    GS X M E (.Assign [.Subscript (.Name x p1) (.Constant (.str key) j p2) pos'] value pos) (sDPut (tVar i) (tC (.str key)) te) (sDi M i g) :=
  ⟨ps_dput (Nat.lt_of_le_of_lt (by omega) hu) (pe_var hN hv hd hcd) pe_str hv0.p hs, sims_di hx hv0.s⟩
theorem gi_dc {tg : Expr} {j : Nat} (hu : X.A.units + 64 < cLine) (i : Nat) (hN : X.N[i]? = some x := by rfl) (hv : Vis X.env.scope x := by first | exact Or.inl rfl | exact Or.inr (Or.inl rfl) | exact Or.inr (Or.inr rfl)) (hd : (x == ("__debug__" : Str)) = false := by decide)
    (hcd : (x == ("__classdict__" : Str)) = false := by decide) : GI X M E tg (.Subscript (.Name x p1) (.Constant (.str "cells") j p2) pos) (iSeq X.K (tDGet (tVar i) (tC (.str "cells")))) (iDc M i) :=
  ⟨pi_seq (pe_dget (Nat.lt_of_le_of_lt (by omega) hu) (pe_var hN hv hd hcd) pe_str noSl_str), simi_dc⟩
/-- draw['large'].pop(0) if draw['large'] != [] else .. -/
theorem ge_dpop {j j2 j3 : Nat} {b : Expr} {tb : TE} {gb : TEx} {q1 q2 q3 q4 q5 q7 : Pos} (hu : X.A.units + 64 < cLine) (i : Nat) (hb : GE X M E b tb gb) (hN : X.N[i]? = some x := by rfl) (hv : Vis X.env.scope x := by first | exact Or.inl rfl | exact Or.inr (Or.inl rfl) | exact Or.inr (Or.inr rfl)) (hd : (x == ("__debug__" : Str)) = false := by decide)
    (hcd : (x == ("__classdict__" : Str)) = false := by decide) (hm : behindInMarks .NotEq (.List [] q7) = false := by first | rfl | exact nomark _)
    (hbase : attributeBase (.Subscript (.Name x p1) (.Constant (.str "large") j p2) p3) "pop" X.env (eval (.Subscript (.Name x p1) (.Constant (.str "large") j p2) p3) X.env) = eval (.Subscript (.Name x p1) (.Constant (.str "large") j p2) p3) X.env := by rfl)
    (hfew : ((backTo q1 (starEach [.Constant (.int 0) j3 p5] X.env)).all (fun x => !x.1) && (backToKw q1 (keywordEach [] X.env)).all (fun x => x.1.isSome) && decide (([.Constant (.int 0) j3 p5] : List Expr).length + ([] : List Keyword).length + (if ([] : List Keyword).isEmpty then 0 else 1) < 30)) = true := by rfl)
    (hline : (p4.endLine == q1.line) = true := by rfl) (hs : starEach [.Constant (.int 0) j3 p5] X.env = (false, eval (.Constant (.int 0) j3 p5) X.env) :: starEach [] X.env := by rfl) (hplain : (backTo q1 (starEach [] X.env)).any (·.1) = false := by rfl) :
    GE X M E (.IfExp (.Compare (.Subscript (.Name x q2) (.Constant (.str "large") j2 q3) q4) [.NotEq] [.List [] q7] q5) (.Call (.Attribute (.Subscript (.Name x p1) (.Constant (.str "large") j p2) p3) "pop" p4) [.Constant (.int 0) j3 p5] [] q1) b pos)
      (tIf (tTest (tOp (rNeU X.K) (tDGet (tVar i) (tC (.str "large"))) (tLst tNil))) (tBM X.K "list" rPopAt (tDGet (tVar i) (tC (.str "large"))) (tCons (tC (.int 0)) tNil)) tb) (gDpop M i gb) :=
  have hu1 : X.A.units + 1 < cLine := Nat.lt_of_le_of_lt (by omega) hu
  ⟨pe_ifExp (pt_cmpR (op_neU hu) (pe_dget hu1 (pe_var hN hv hd hcd) pe_str noSl_str) (pe_lst pa_nil) hm)
      (pe_bm PySem.F.plainAttrs_list PySem.F.slot_list_pop PySem.F.type_list_pop mt_popAt (pe_dget hu1 (pe_var hN hv hd hcd) pe_str noSl_str) (pa_cons pe_int pa_nil hs) hbase hfew hline hs hplain) hb.p, sim_dpop hb.s⟩
end
/-! ### methods of texts -/
section
variable {K : PySem.W.Frag} {M : Mode}
theorem ty_split (t : T) (ts : List T) (q : Sl → Prop) (e : gSplit t ts q) (x : V) (G H : Hp) (i : Is K G x t) (ok : Ok M G H) : tyV K "str" x H := by
  unfold gSplit at e
  split at e
  · exact str_ty i ok
  · exact e.elim
theorem ty_join (t : T) (ts : List T) (q : Sl → Prop) (e : gJoin t ts q) (x : V) (G H : Hp) (i : Is K G x t) (ok : Ok M G H) : tyV K "str" x H := by
  unfold gJoin at e
  split at e
  · exact str_ty i ok
  · exact str_ty i ok
  · exact e.elim
end
/-! ### what the head tells -/
abbrev FnP (K : PySem.W.Frag) (x : Str) (st : Stmt) (f : Addr) (fd : FuncData) : Prop := FunD K x x (defArgs st) (defBody st) (defScope st) [] [] f fd
def FnAt (K : PySem.W.Frag) (mg : Str → Option Value) (x : Str) (st : Stmt) : Prop := ∃ f fd, FnP K x st f fd ∧ mg x = some (.ref f)
/-- an own class of ValueErrors -/
def ExcF (K : PySem.W.Frag) (mg : Str → Option Value) (x : Str) : Prop := mg x = some (.ref (He.ga K x)) ∧ PySem.W.excIn K (He.ga K x) [.type "ValueError", .type "Exception", .type "BaseException", .type "object"] "ValueError.__new__" = true ∧ PySem.W.keepIn K (.ref (He.ga K x)) = true ∧
  PySem.W.subIn K (.ref (He.ga K x)) (.type "BaseException") = some true ∧ PySem.W.typeIn K (.ref (He.ga K x)) = some (.type "type")
end TL
namespace K87
open PySem PySem.Spec PyProof.Rows L2 TL
variable [TheW]
/-! ### lists of texts -/
theorem py_strs : ∀ zs : List Str, pyAll (zs.map T.str) = some (zs.map PyData.str)
  | [] => rfl
  | z :: zs => by
    simp only [List.map_cons, pyAll, py_strs zs, T.py]
abbrev sOk (z : Str) : Bool := PyData.strOk z
theorem lay_strs : ∀ zs : List Str, zs.all sOk = true → PyData.canLayAll0 (zs.map PyData.str) = true
  | [], _ => rfl
  | z :: zs, h => by
    rw [List.all_cons, Bool.and_eq_true] at h
    simp only [List.map_cons, PyData.canLayAll0, PyData.canLay0, lay_strs zs h.2, Bool.and_true]
    exact h.1
theorem depth_strs : ∀ zs : List Str, PyData.depthAll (zs.map PyData.str) ≤ 1
  | [] => by simp [PyData.depthAll]
  | z :: zs => by
    have := depth_strs zs
    simp only [List.map_cons, PyData.depthAll, PyData.depth]
    omega
theorem shaped_strs {zs : List Str} (h : zs.all sOk = true) : SeqAt.shaped (.list (zs.map PyData.str)) = true := by
  have h1 := depth_strs zs
  have h2 : PyData.depth (.list (zs.map PyData.str)) ≤ 64 := by
    simp only [PyData.depth]
    omega
  unfold SeqAt.shaped
  rw [decide_eq_true h2, Bool.and_true]
  simp only [PyData.canLay0]
  exact lay_strs zs h
theorem eqv_strs : ∀ zs ws : List Str, PyData.eqvAll (zs.map PyData.str) (ws.map PyData.str) = decide (zs = ws)
  | [], [] => rfl
  | [], _ :: _ => rfl
  | _ :: _, [] => rfl
  | z :: zs, w :: ws => by
    simp only [List.map_cons, PyData.eqvAll, PyData.eqv, eqv_strs zs ws]
    rw [Bool.eq_iff_iff]
    simp
theorem eqD_strs {zs ws : List Str} {k : Bool → Prop} (hz : zs.all sOk = true) (hw : ws.all sOk = true) (h : k (decide (zs = ws))) : eqD (.lst (zs.map T.str)) (.lst (ws.map T.str)) k := by
  unfold eqD
  simp only [scl2, T.py, py_strs, Option.map_some]
  refine ⟨shaped_strs hz, shaped_strs hw, ?_⟩
  simp only [PyData.eqv, eqv_strs]
  exact h
theorem gEq_strs {zs ws : List Str} {q : Sl → Prop} (hz : zs.all sOk = true) (hw : ws.all sOk = true) (h : q (.sh (.bl (decide (zs = ws))))) : gEq (.lst (zs.map T.str)) (.lst (ws.map T.str)) q := eqD_strs hz hw h
theorem gNe_strs {zs ws : List Str} {q : Sl → Prop} (hz : zs.all sOk = true) (hw : ws.all sOk = true) (h : q (.sh (.bl (!decide (zs = ws))))) : gNe (.lst (zs.map T.str)) (.lst (ws.map T.str)) q := eqD_strs (k := fun c => q (.sh (.bl (!c)))) hz hw h
theorem strsT_strs : ∀ zs : List Str, strsT (zs.map T.str) = some zs := strsT_map
/-! ### words of a text -/
theorem spl_len (S : List Nat) : ∀ (l : List Nat) (k : Nat) (acc : List Nat), ∀ p ∈ TL.spl S k acc l, p.length ≤ acc.length + l.length
  | [], _, acc, p, h => by
    simp only [TL.spl, List.mem_singleton] at h
    rw [h]
    simp
  | c :: r, 0, acc, p, h => by
    unfold TL.spl at h
    split at h
    · rcases List.mem_cons.mp h with e | h
      · rw [e]
        omega
      · have := spl_len S r _ [] p h
        simp only [List.length_nil, List.length_cons] at this ⊢
        omega
    · have := spl_len S r _ _ p h
      simp only [List.length_append, List.length_cons, List.length_nil] at this ⊢
      omega
  | c :: r, k + 1, acc, p, h => by
    have := spl_len S r k acc p h
    simp only [List.length_cons]
    omega
theorem spl_sub (S : List Nat) : ∀ (l : List Nat) (k : Nat) (acc : List Nat), ∀ p ∈ TL.spl S k acc l, ∀ c ∈ p, c ∈ acc ∨ c ∈ l
  | [], _, acc, p, h, c, hc => by
    simp only [TL.spl, List.mem_singleton] at h
    rw [h] at hc
    exact .inl hc
  | d :: r, 0, acc, p, h, c, hc => by
    unfold TL.spl at h
    split at h
    · rcases List.mem_cons.mp h with e | h
      · rw [e] at hc
        exact .inl hc
      · exact .inr ((spl_sub S r _ [] p h c hc).elim (fun z => nomatch z) (List.mem_cons_of_mem _))
    · rcases spl_sub S r _ _ p h c hc with z | z
      · rcases List.mem_append.mp z with z | z
        · exact .inl z
        · exact .inr (by rw [List.mem_singleton.mp z]; exact List.mem_cons_self)
      · exact .inr (List.mem_cons_of_mem _ z)
  | d :: r, k + 1, acc, p, h, c, hc => (spl_sub S r k acc p h c hc).imp id (List.mem_cons_of_mem _)
abbrev SP : Str := " "
theorem sp_all : SP.cps.all (· < 256) = true := by decide +kernel
theorem sp_tl : TL.tl SP = [32] := by decide +kernel
theorem split_len {x p : Str} (h : p ∈ Txt.split x SP) : p.length ≤ x.length := by
  have e := TL.split_spl x SP (by rw [sp_tl]; simp) (TL.kind_ok sp_all)
  have m : TL.tl p ∈ TL.spl (TL.tl SP) 0 [] (TL.tl x) := by
    rw [← e]
    exact List.mem_map.mpr ⟨p, h, rfl⟩
  have := spl_len _ _ _ _ _ m
  have e1 : (TL.tl p).length = p.length := Array.length_toList
  have e2 : (TL.tl x).length = x.length := Array.length_toList
  rw [e1, e2] at this
  simpa using this
theorem split_ok {x : Str} (hx : sOk x = true) : (Txt.split x SP).all sOk = true := by
  refine List.all_eq_true.mpr fun p h => ?_
  have e := TL.split_spl x SP (by rw [sp_tl]; simp) (TL.kind_ok sp_all)
  have m : TL.tl p ∈ TL.spl (TL.tl SP) 0 [] (TL.tl x) := by
    rw [← e]
    exact List.mem_map.mpr ⟨p, h, rfl⟩
  have hx' : ∀ c ∈ x.cps.toList, c < 0x110000 := fun c hc => by
    have z : x.cps.all (· < 0x110000) = true := hx
    exact of_decide_eq_true (Array.all_eq_true_iff_forall_mem.mp z c (by simpa using hc))
  show p.cps.all (· < 0x110000) = true
  refine Array.all_eq_true_iff_forall_mem.mpr fun c hc => decide_eq_true ?_
  exact hx' c ((spl_sub _ _ _ _ _ m c (by simpa using hc)).elim (fun z => nomatch z) id)
def words (z : Str) : List Str := if z = "" then [] else Txt.split z SP
theorem words_len {z p : Str} (h : p ∈ words z) : p.length ≤ z.length := by
  unfold words at h
  split at h
  · cases h
  · exact split_len h
theorem words_ok {z : Str} (h : sOk z = true) : (words z).all sOk = true := by
  unfold words
  split
  · rfl
  · exact split_ok h
theorem textL_strs (zs : List Str) : textL (zs.map T.str) = (decide ((zs.length : Int) ≤ 400) && zs.all tokS) := by
  unfold textL
  rw [List.length_map, List.all_map]
  rfl
theorem tame_strs {zs : List Str} (h : ∀ z ∈ zs, z.length ≤ sizeLine) : (zs.map T.str).all tame = true := by
  rw [List.all_map, List.all_eq_true]
  exact fun z hz => decide_eq_true (h z hz)
/-! ### the program's text functions -/
def sp_line_of : SpX := fun _ ts q _ => ∃ t zs, ts = [t] ∧ (t = .lst (zs.map T.str) ∨ t = .tup (zs.map T.str)) ∧ (zs.map (·.length)).sum + zs.length ≤ 16777216 ∧ q (.sh (.str (Txt.join SP zs)))
def sp_text_line (K : PySem.W.Frag) : SpX := fun M ts q r => ∃ t, ts = [t] ∧ tameX t = true ∧ (textB t = false → r ⟨.ref (He.ga K "BadText"), none⟩) ∧ (textB t = true → sp_line_of M [t] q r)
def sp_text_of : SpX := fun _ ts q _ => ∃ t, ts = [t] ∧ tame t = true ∧ (∀ z, t = .str z → z.length + 2 ≤ sizeLine ∧ (textL ((words z).map T.str) = true → q (.ol ((words z).map T.str))) ∧ (textL ((words z).map T.str) = false → q (.sh .non))) ∧ (isStr t = false → q (.sh .non))
def sp_read_line (K : PySem.W.Frag) : SpX := fun _ ts q r => ∃ t, ts = [t] ∧ tame t = true ∧ (∀ z, t = .str z → z.length + 2 ≤ sizeLine ∧ (textL ((words z).map T.str) = true → q (.ol ((words z).map T.str))) ∧ (textL ((words z).map T.str) = false → r ⟨.ref (He.ga K "BadForm"), none⟩)) ∧
  (isStr t = false → r ⟨.ref (He.ga K "BadForm"), none⟩)
def sp__law_says : SpX := fun _ ts q _ => ∃ a b d, ts = [a, b] ∧ a.py = some d ∧ b.py = some d ∧ ShOk d ∧ q (.sh (.bl true))
def sp__law_is_token : SpX := fun _ ts q _ => ∃ z : Str, ts = [.str z] ∧ z.length ≤ sizeLine ∧ sOk z = true ∧ q (.sh (.bl (tokS z)))
def sp__law_due : SpX := fun _ ts q _ => ∃ z : Str, ts = [.str z] ∧ z.length + 2 ≤ sizeLine ∧ sOk z = true ∧ (textL ((words z).map T.str) = true → q (.ol ((words z).map T.str))) ∧ (textL ((words z).map T.str) = false → q (.sh .non))
/-- plain signs -/
def aOk (z : Str) : Prop := ∀ c ∈ z.cps.toList, c < 128
def sp__law_spoilt : SpX := fun M ts q _ => ∃ d form, ts = [.raw (.ref d), .str form] ∧ IsDM M d ∧ form.length ≤ 5000 ∧ aOk form ∧ ∀ z : Str, z.length ≤ 20000 → aOk z → q (.sh (.str z))
def g_line_of : TSx := (sRet (gBM gJoin (gC (.str " ")) (aCons (gVar 0) aNil)))
def g_text_line (K : PySem.W.Frag) (M : Mode) : TSx := (sSeq (sIf (gNot (gB (gCall M sp_is_text (aCons (gVar 0) aNil)))) (sRaise (He.ga K "BadText")) sNext)
    (sRet (gCall M sp_line_of (aCons (gVar 0) aNil))))
def g_text_of (M : Mode) : TSx := (sSeq (sIf (gNot (gB (gCB gIsi (aCons (gVar 0) (aCons (gC (.raw (.ty "str"))) aNil))))) (sRet (gC .non)) sNext)
    (sSeq (sSet 1 (gIf (gB (gOp gNe (gVar 0) (gC (.str "")))) (gBM gSplit (gVar 0) (aCons (gC (.str " ")) aNil)) (TL.gLst aNil)))
    (sIf (gBorT (gB (gCall M sp_is_text (aCons (gVar 1) aNil)))) (sRetV 1) (sRet (gC .non)))))
def g_read_line (K : PySem.W.Frag) (M : Mode) : TSx := (sSeq (sSet 1 (gCall M sp_text_of (aCons (gVar 0) aNil)))
    (sSeq (sIf (gBorT (gB (gOp gIsN (gVar 1) (gC .non)))) (sRaise (He.ga K "BadForm")) sNext)
    (sRetV 1)))
def g__law_says : TSx := (sRet (gOp gEq (gCB gShow (aCons (gVar 0) aNil)) (gCB gShow (aCons (gVar 1) aNil))))
def g__law_is_token : TSx := (sRet (gOrV (gOp gEq (gVar 0) (gC (.str "."))) (gAndV (gChain gLe gLe (gC (.int 1)) (gCB gLen (aCons (gVar 0) aNil)) (gC (.int 8))) (gOp gEq (gLc [1] (iWalk (gVar 0)) (xName 1) (gB (gOp gNotInS (gVar 1) (gC (.str "abcdefghijklmnopqrstuvwxyz")))) (gVar 1)) (TL.gLst aNil)))))
def g__law_due (M : Mode) : TSx := (sSeq (sSet 1 (gIf (gB (gOp gNe (gVar 0) (gC (.str "")))) (gBM gSplit (gVar 0) (aCons (gC (.str " ")) aNil)) (TL.gLst aNil)))
    (sIf (gBorT (gAnd (gB (gOp gLe (gCB gLen (aCons (gVar 1) aNil)) (gC (.int 400)))) (gB (gOp gEq (gLc [2] (iWalk (gVar 1)) (xName 2) (gNot (gB (gCall M sp__law_is_token (aCons (gVar 2) aNil)))) (gVar 2)) (TL.gLst aNil))))) (sRetV 1) (sRet (gC .non))))
def g__law_spoilt (M : Mode) : TSx := (sSeq (sAsg2 2 3 (gCall M sp__law_take (aCons (gVar 0) (aCons (gOp gAdd (gCB gLen (aCons (gVar 1) aNil)) (gC (.int 1))) aNil))) (gCall M sp__law_take (aCons (gVar 0) (aCons (gC (.int 5)) aNil))))
    (sSeq (sIf (gB (gOp gEq (gVar 3) (gC (.int 0)))) (sRet (gOp gAdd (gSli gCut (gVar 1) oNo (oSome (gVar 2))) (gSli gCut (gVar 1) (oSome (gOp gAdd (gVar 2) (gC (.int 1)))) oNo))) sNext)
    (sSeq (sIf (gB (gOp gEq (gVar 3) (gC (.int 1)))) (sRet (gOp gAdd (gOp gAdd (gSli gCut (gVar 1) oNo (oSome (gVar 2))) (gCall M sp__law_pick (aCons (gVar 0) (aCons (TL.gLst (aCons (gC (.str " ")) (aCons (gC (.str ".")) (aCons (gC (.str "a")) (aCons (gC (.str "A")) (aCons (gC (.str "1")) (aCons (gC (.str "\n")) (aCons (gC (.str "\t")) (aCons (gC (.str "*")) (aCons (gC (.str " . ")) aNil)))))))))) aNil)))) (gSli gCut (gVar 1) (oSome (gVar 2)) oNo))) sNext)
    (sRet (gCall M sp__law_pick (aCons (gVar 0) (aCons (TL.gLst (aCons (gOp gAdd (gVar 1) (gC (.str " "))) (aCons (gOp gAdd (gC (.str " ")) (gVar 1)) (aCons (gOp gAdd (gVar 1) (gC (.str " abcdefgh"))) (aCons (gOp gAdd (gVar 1) (gC (.str " abcdefghi"))) (aCons (gOp gAdd (gVar 1) (gC (.str "  a"))) (aCons (gBM0 (gStr0 (fun a => a.length ≤ 5592405) fun a => .str (Txt.upper a)) (gVar 1)) (aCons (gOp gAdd (gVar 1) (gC (.str " .."))) (aCons (gC (.str " ")) (aCons (gC (.str ".")) (aCons (gC (.str "")) (aCons (gOp gAdd (gVar 1) (gOp gMul (gC (.str " .")) (gC (.int 9)))) aNil)))))))))))) aNil)))))))
theorem sem_line_of {ts : List T} {q : Sl → Prop} {r : Xn → Prop} {M : Mode} (h : sp_line_of M ts q r) : g_line_of (startS ["text"] ts) (KnOf q r) := by
  obtain ⟨t, zs, rfl, ht, hl, hq⟩ := h
  have key : ∀ t, (t = .lst (zs.map T.str) ∨ t = .tup (zs.map T.str)) → gJoin (.str SP) [t] q := fun t ht => by
    have e : (zs.map (·.length)).sum + zs.length * SP.length ≤ 16777216 := by
      rw [show SP.length = 1 by decide +kernel, Nat.mul_one]
      exact hl
    rcases ht with rfl | rfl
    all_goals
      show oks (strsT (zs.map T.str)) _
      rw [strsT_strs]
      exact ⟨e, hq⟩
  exact ⟨⟨[t], q, key t ht⟩, key t ht⟩
theorem sem_text_line {K : PySem.W.Frag} {ts : List T} {q : Sl → Prop} {r : Xn → Prop} {M : Mode} (h : sp_text_line K M ts q r) : g_text_line K M (startS ["text"] ts) (KnOf q r) := by
  obtain ⟨t, rfl, ht, h0, h1⟩ := h
  refine ⟨t, rfl, ht, ?_⟩
  show (if (!textB t) = true then _ else _)
  cases hb : textB t with
  | true => exact h1 hb
  | false => exact h0 hb
theorem sem_text_of {ts : List T} {q : Sl → Prop} {r : Xn → Prop} {M : Mode} (h : sp_text_of M ts q r) : g_text_of M (startS ["form", "found"] ts) (KnOf q r) := by
  obtain ⟨t, rfl, ht, h1, h0⟩ := h
  show oks (isiB t (.raw (.ty "str"))) _
  rw [isi_str ht]
  show (if (!isStr t) = true then _ else _)
  cases t with
  | str z =>
    obtain ⟨hz, k1, k0⟩ := h1 z rfl
    show (if (!decide (z = "")) = true then _ else _)
    have rest : ∀ ws : List Str, ws = words z → (sSeq sNext (sIf (gBorT (gB (gCall M sp_is_text (aCons (gVar 1) aNil)))) (sRetV 1) (sRet (gC .non)))) [.sh (.str z), .ol (ws.map T.str)] (KnOf q r) := fun ws e => by
      subst e
      have hx : tameX (.lst ((words z).map T.str)) = true := tame_strs fun w hw => Nat.le_trans (words_len hw) (Nat.le_trans (Nat.le_add_right _ 2) hz)
      refine ⟨.lst ((words z).map T.str), rfl, hx, ?_⟩
      show (if textL ((words z).map T.str) = true then _ else _)
      cases hb : textL ((words z).map T.str) with
      | true => exact k1 hb
      | false => exact k0 hb
    by_cases hz0 : z = ""
    · have e : (!decide (z = "")) = false := by simp [hz0]
      rw [e, if_neg (by decide)]
      exact ⟨Nat.zero_le _, rest [] (by unfold words; rw [if_pos hz0])⟩
    · have e : (!decide (z = "")) = true := by simp [hz0]
      rw [e, if_pos rfl]
      have c : (SP.length == 0) = false ∧ z.length + 2 ≤ sizeLine := ⟨by decide +kernel, hz⟩
      exact ⟨⟨[.str SP], fun _ => True, c, trivial⟩, c, rest (Txt.split z SP) (by unfold words; rw [if_neg hz0])⟩
  | raw => cases ht
  | ob => cases ht
  | _ => exact h0 rfl
theorem sem_read_line {K : PySem.W.Frag} {ts : List T} {q : Sl → Prop} {r : Xn → Prop} {M : Mode} (h : sp_read_line K M ts q r) : g_read_line K M (startS ["form", "found"] ts) (KnOf q r) := by
  obtain ⟨t, rfl, ht, h1, h0⟩ := h
  refine ⟨t, rfl, ht, fun z e => ?_, fun e => ?_⟩
  · obtain ⟨hz, k1, k0⟩ := h1 z e
    exact ⟨hz, fun b => k1 b, fun b => k0 b⟩
  · exact h0 e
theorem sem__law_says {ts : List T} {q : Sl → Prop} {r : Xn → Prop} {M : Mode} (h : sp__law_says M ts q r) : g__law_says (startS ["told", "due"] ts) (KnOf q r) := by
  obtain ⟨a, b, d, rfl, h1, h2, ok, hq⟩ := h
  show oks a.py _
  rw [h1]
  refine ⟨ok, ?_⟩
  show oks b.py _
  rw [h2]
  refine ⟨ok, ?_⟩
  show q (.sh (.bl (decide (d.shown = d.shown))))
  rw [decide_eq_true rfl]
  exact hq
theorem aOk.s {z : Str} (h : aOk z) : sOk z = true := by
  show z.cps.all (· < 0x110000) = true
  refine Array.all_eq_true_iff_forall_mem.mpr fun c hc => decide_eq_true ?_
  have := h c (by simpa using hc)
  omega
theorem aOk.app {x y : Str} (hx : aOk x) (hy : aOk y) : aOk (x ++ y) := fun c hc => by
  have e : (x ++ y).cps.toList = x.cps.toList ++ y.cps.toList := TL.tl_append x y
  rw [e] at hc
  exact (List.mem_append.mp hc).elim (hx c) (hy c)
theorem aOk.cut {x : Str} (hx : aOk x) (lo hi : Option Int) : aOk (cutS x lo hi) := fun c hc => by
  unfold cutS at hc
  exact hx c (List.mem_of_mem_drop (List.mem_of_mem_take hc))
theorem cut_len {x : Str} (lo hi : Option Int) : (cutS x lo hi).length ≤ x.length := by
  unfold cutS
  show ((List.take _ (List.drop _ x.cps.toList)).toArray).size ≤ x.cps.size
  rw [List.size_toArray, List.length_take, List.length_drop, Array.length_toList]
  omega
theorem aOk.upper {x : Str} (hx : aOk x) : aOk (Txt.upper x) := fun c hc => by
  rw [PyProof.Rows.upper_ascii hx] at hc
  have hc' : c ∈ (x.cps.map PyProof.Rows.up1).toList := hc
  rw [Array.toList_map] at hc'
  obtain ⟨d, hd, rfl⟩ := List.mem_map.mp hc'
  have := hx d hd
  unfold PyProof.Rows.up1
  split <;> omega
theorem app_len (x y : Str) : (x ++ y).length = x.length + y.length := strLen_append x y
theorem sem__law_is_token {ts : List T} {q : Sl → Prop} {r : Xn → Prop} {M : Mode} (h : sp__law_is_token M ts q r) : g__law_is_token (startS ["word", "sign"] ts) (KnOf q r) := by
  obtain ⟨z, rfl, hz, ho, hq⟩ := h
  show (if decide (z = ".") = true then _ else _)
  have hq' : q (.sh (.bl (letS z 1 8 || decide (z = ".")))) := hq
  by_cases hd : decide (z = ".") = true
  · rw [if_pos hd]
    rw [hd, Bool.or_true] at hq'
    exact hq'
  · rw [if_neg hd]
    have hd' : decide (z = ".") = false := by simpa using hd
    rw [hd', Bool.or_false] at hq'
    refine ⟨hz, ?_⟩
    have hq2 : q (.sh (.bl (decide ((1 : Int) ≤ (z.length : Int)) && (decide ((z.length : Int) ≤ 8) && z.cps.toList.all isLet)))) := hq'
    show (if decide ((1 : Int) ≤ (z.length : Int)) = true then _ else _)
    by_cases h1 : decide ((1 : Int) ≤ (z.length : Int)) = true
    · rw [if_pos h1]
      rw [h1, Bool.true_and] at hq2
      show (if decide ((z.length : Int) ≤ 8) = true then _ else _)
      by_cases h2 : decide ((z.length : Int) ≤ 8) = true
      · rw [if_pos h2]
        rw [h2, Bool.true_and] at hq2
        refine lcR_if (p := fun t => match t with | .str ⟨#[c]⟩ => !isLet c | _ => false) (f := id) (fun t ht Q k => ?_) (fun t ht _ Q k => k) (by rw [List.length_map, Array.length_toList]; show 0 + z.length ≤ sizeLine; omega) ?_
        · obtain ⟨c, _, rfl⟩ := List.mem_map.mp ht
          exact k
        · have e : ((z.cps.toList.map fun c => T.str ⟨#[c]⟩).filter fun t => match t with | .str ⟨#[c]⟩ => !isLet c | _ => false) = ((z.cps.toList.filter fun c => !isLet c).map fun c => (⟨#[c]⟩ : Str)).map T.str := by
            rw [List.filter_map, List.map_map]
            rfl
          rw [List.map_id, List.nil_append, e]
          refine ⟨Nat.zero_le _, gEq_strs (ws := []) ?_ rfl ?_⟩
          · rw [List.all_map, List.all_eq_true]
            intro c hc
            have hc' := (List.mem_filter.mp hc).1
            have z0 : z.cps.all (· < 0x110000) = true := ho
            show (#[c] : Array Nat).all (· < 0x110000) = true
            have := Array.all_eq_true_iff_forall_mem.mp z0 c (by simpa using hc')
            simpa using this
          · have e2 : decide (((z.cps.toList.filter fun c => !isLet c).map fun c => (⟨#[c]⟩ : Str)) = []) = z.cps.toList.all isLet := by
              rw [Bool.eq_iff_iff, decide_eq_true_iff, List.map_eq_nil_iff, List.filter_eq_nil_iff, List.all_eq_true]
              exact ⟨fun h a ha => by have := h a ha; simpa using this, fun h a ha => by have := h a ha; simpa using this⟩
            rw [e2]
            exact hq2
      · rw [if_neg h2]
        have h2' : decide ((z.length : Int) ≤ 8) = false := by simpa using h2
        rw [h2', Bool.false_and] at hq2
        exact hq2
    · rw [if_neg h1]
      have h1' : decide ((1 : Int) ≤ (z.length : Int)) = false := by simpa using h1
      rw [h1', Bool.false_and] at hq2
      exact hq2
theorem sem__law_due {ts : List T} {q : Sl → Prop} {r : Xn → Prop} {M : Mode} (h : sp__law_due M ts q r) : g__law_due M (startS ["form", "words", "word"] ts) (KnOf q r) := by
  obtain ⟨z, rfl, hz, ho, k1, k0⟩ := h
  have rest : ∀ ws : List Str, ws = words z → (sIf (gBorT (gAnd (gB (gOp gLe (gCB gLen (aCons (gVar 1) aNil)) (gC (.int 400)))) (gB (gOp gEq (gLc [2] (iWalk (gVar 1)) (xName 2) (gNot (gB (gCall M sp__law_is_token (aCons (gVar 2) aNil)))) (gVar 2)) (TL.gLst aNil))))) (sRetV 1) (sRet (gC .non))) [.sh (.str z), .ol (ws.map T.str), .no] (KnOf q r) := fun ws e => by
    subst e
    rw [textL_strs] at k1 k0
    show (if decide ((((words z).map T.str).length : Int) ≤ 400) = true then _ else _)
    rw [List.length_map]
    by_cases h1 : decide (((words z).length : Int) ≤ 400) = true
    · rw [if_pos h1]
      rw [h1, Bool.true_and] at k1 k0
      have h2 : ((words z).length : Int) ≤ 400 := of_decide_eq_true h1
      refine lcR_if (p := fun t => match t with | .str w => !tokS w | _ => false) (f := id) (fun t ht Q k => ?_) (fun t ht _ Q k => k) (by rw [List.length_map, sizeLine_eq]; simp; omega) ?_
      · obtain ⟨w, hw, rfl⟩ := List.mem_map.mp ht
        exact ⟨w, rfl, Nat.le_trans (words_len hw) (Nat.le_trans (Nat.le_add_right _ 2) hz), List.all_eq_true.mp (words_ok ho) w hw, k⟩
      · have e : (((words z).map T.str).filter fun t => match t with | .str w => !tokS w | _ => false) = ((words z).filter fun w => !tokS w).map T.str := by
          rw [List.filter_map]
          rfl
        rw [List.map_id, List.nil_append, e]
        refine ⟨Nat.zero_le _, gEq_strs (ws := []) ?_ rfl ?_⟩
        · exact List.all_eq_true.mpr fun w hw => List.all_eq_true.mp (words_ok ho) w (List.mem_filter.mp hw).1
        · have e2 : decide (((words z).filter fun w => !tokS w) = []) = (words z).all tokS := by
            rw [Bool.eq_iff_iff]
            simp [List.filter_eq_nil_iff]
          rw [e2]
          show (if (words z).all tokS = true then _ else _)
          cases hb : (words z).all tokS with
          | true => exact k1 hb
          | false => exact k0 hb
    · rw [if_neg h1]
      have h1' : decide (((words z).length : Int) ≤ 400) = false := by simpa using h1
      rw [h1', Bool.false_and] at k0
      exact k0 rfl
  show (if (!decide (z = "")) = true then _ else _)
  by_cases hz0 : z = ""
  · have e : (!decide (z = "")) = false := by simp [hz0]
    rw [e, if_neg (by decide)]
    exact ⟨Nat.zero_le _, rest [] (by unfold words; rw [if_pos hz0])⟩
  · have e : (!decide (z = "")) = true := by simp [hz0]
    rw [e, if_pos rfl]
    have c : (SP.length == 0) = false ∧ z.length + 2 ≤ sizeLine := ⟨by decide +kernel, hz⟩
    exact ⟨⟨[.str SP], fun _ => True, c, trivial⟩, c, rest (Txt.split z SP) (by unfold words; rw [if_neg hz0])⟩
theorem sem__law_spoilt {ts : List T} {q : Sl → Prop} {r : Xn → Prop} {M : Mode} (h : sp__law_spoilt M ts q r) : g__law_spoilt M (startS ["draw", "form", "at", "way"] ts) (KnOf q r) := by
  obtain ⟨d, form, rfl, hM, hl, ha, hq⟩ := h
  have SL : ∀ n : Nat, n ≤ 100000 → n ≤ sizeLine := fun n h => by rw [sizeLine_eq]; omega
  have fs : form.length ≤ sizeLine := SL _ (by omega)
  refine ⟨fs, d, (form.length : Int) + 1, rfl, hM, by omega, by omega, fun at_ a0 a1 => ⟨d, 5, rfl, hM, by decide, by decide, fun way w0 w1 => ?_⟩⟩
  have c1 := cut_len (x := form) none (some at_)
  have c2 := cut_len (x := form) (some at_) none
  have c3 := cut_len (x := form) (some (at_ + 1)) none
  have okl : ∀ z : Str, z.cps.toList.all (· < 128) = true → aOk z := fun z h c hc => of_decide_eq_true (List.all_eq_true.mp h c hc)
  show (if decide (way = 0) = true then _ else _)
  split
  · refine ⟨fs, fs, SL _ (by omega), hq _ ?_ ((ha.cut _ _).app (ha.cut _ _))⟩
    rw [app_len]
    omega
  · show (if decide (way = 1) = true then _ else _)
    split
    · refine ⟨fs, SL 9 (by decide), d, _, _, rfl, hM, .inl rfl, by decide, by decide, fun x hx => ?_⟩
      have key : ∀ w : Str, w.length ≤ 3 → w.cps.toList.all (· < 128) = true → gAdd (.str (cutS form none (some at_))) (.str w) fun s => gSli gCut (gVar 1) (oSome (gVar 2)) oNo [.sh (.raw (.ref d)), .sh (.str form), .sh (.int at_), .sh (.int way)] (fun u => gAdd s.fz u.fz q) r := fun w hw hwa => by
        refine ⟨SL _ (by omega), fs, SL _ (by rw [app_len]; omega), hq _ (by rw [app_len, app_len]; omega) (((ha.cut _ _).app (okl w hwa)).app (ha.cut _ _))⟩
      simp only [List.mem_cons, List.not_mem_nil, or_false] at hx
      rcases hx with rfl | rfl | rfl | rfl | rfl | rfl | rfl | rfl | rfl <;> exact key _ (by decide +kernel) (by decide +kernel)
    · have u3 : (Txt.upper form).length ≤ 3 * form.length := PyProof.Rows.len_upper form
      have e9 : (mulS " ." 9).length = 18 := by decide +kernel
      have l1 : ∀ w : Str, w.length ≤ 20 → form.length + w.length ≤ sizeLine := fun w h => SL _ (by omega)
      have l2 : ∀ w : Str, w.length ≤ 20 → w.length + form.length ≤ sizeLine := fun w h => SL _ (by omega)
      refine ⟨l1 _ (by decide +kernel), l2 _ (by decide +kernel), l1 _ (by decide +kernel), l1 _ (by decide +kernel), l1 _ (by decide +kernel), by omega, l1 _ (by decide +kernel), ⟨by decide, by decide, by decide +kernel⟩, l1 _ (by decide +kernel), SL 11 (by decide), d, _, _, rfl, hM, .inl rfl, (show 0 < 11 by decide), (show 11 < 1073741824 by decide), fun x hx => ?_⟩
      have k1 : ∀ w : Str, w.length ≤ 20 → w.cps.toList.all (· < 128) = true → q (.sh (.str (form ++ w))) := fun w h1 h2 => hq _ (by rw [app_len]; omega) (ha.app (okl w h2))
      have k0 : ∀ w : Str, w.length ≤ 20 → w.cps.toList.all (· < 128) = true → q (.sh (.str w)) := fun w h1 h2 => hq _ (by omega) (okl w h2)
      simp only [List.mem_cons, List.not_mem_nil, or_false] at hx
      rcases hx with rfl | rfl | rfl | rfl | rfl | rfl | rfl | rfl | rfl | rfl | rfl
      · exact k1 _ (by decide +kernel) (by decide +kernel)
      · exact hq _ (by rw [app_len]; have : (" " : Str).length = 1 := by decide +kernel
                       omega) ((okl _ (by decide +kernel)).app ha)
      · exact k1 _ (by decide +kernel) (by decide +kernel)
      · exact k1 _ (by decide +kernel) (by decide +kernel)
      · exact k1 _ (by decide +kernel) (by decide +kernel)
      · exact hq _ (by omega) ha.upper
      · exact k1 _ (by decide +kernel) (by decide +kernel)
      · exact k0 _ (by decide +kernel) (by decide +kernel)
      · exact k0 _ (by decide +kernel) (by decide +kernel)
      · exact k0 _ (by decide +kernel) (by decide +kernel)
      · exact k1 _ (by decide +kernel) (by decide +kernel)
end K87
namespace TL
open PySem PySem.Spec PyProof.Rows L2
variable [TheW]
/-! ### readings, taken apart one step at a time -/
section
variable {τ : List Sl} {q : Sl → Prop} {qb : Bool → Prop} {ql : List T → Prop} {r : Xn → Prop} {a b c : TEx} {ta tb : TTx} {as bs : TAx} {M : Mode} {sp : SpX} {t : T} {i j : Nat} {g : GR2} {gc : GC} {k : Kn}
theorem i_cons (h : a τ (fun s => bs τ (fun ts => ql (s.fz :: ts)) r) r) : aCons a bs τ ql r := h
theorem i_nil (h : ql []) : aNil τ ql r := h
theorem i_var (t : T) (e : τ[i]? = some (.sh t)) (h : q (.sh t)) : gVar i τ q r := by
  unfold gVar
  rw [e]
  exact h
theorem i_c (h : q (.sh t)) : gC t τ q r := h
theorem i_call (h : as τ (fun ts => sp M ts q r) r) : gCall M sp as τ q r := h
theorem i_callW {is : List Nat} (h : as τ (fun ts => ts.length = is.length ∧ sp M (perm .non is ts) q r) r) : gCallW M sp is as τ q r := h
theorem i_lst (h : as τ (fun ts => ts.length ≤ sizeLine ∧ q (.ol ts)) r) : TL.gLst as τ q r := h
theorem i_tup (h : as τ (fun ts => ts.length ≤ sizeLine ∧ q (.sh (.tup ts))) r) : TL.gTup as τ q r := h
theorem i_op (h : a τ (fun s => b τ (fun u => g s.fz u.fz q) r) r) : gOp g a b τ q r := h
theorem i_cb (h : as τ (fun ts => gc ts q) r) : gCB gc as τ q r := h
theorem i_bm {gm : GM} (h : a τ (fun s => (∃ ts q', gm s.fz ts q') ∧ as τ (fun ts => gm s.fz ts q) r) r) : gBM gm a as τ q r := h
theorem i_B (h : a τ (fun s => isB s qb) r) : gB a τ qb r := h
theorem i_not (h : ta τ (fun c => qb (!c)) r) : gNot ta τ qb r := h
theorem i_and (h : ta τ (fun c => if c = true then tb τ qb r else qb false) r) : gAnd ta tb τ qb r := h
theorem i_or (h : ta τ (fun c => if c = true then qb true else tb τ qb r) r) : gOr ta tb τ qb r := h
theorem i_borT (h : ta (τ.map Sl.froz) qb r) : gBorT ta τ qb r := h
theorem i_bor (h : a (τ.map Sl.froz) (fun s => s.scl ∧ q s) r) : gBor a τ q r := h
theorem i_andV (h : a τ (fun s => isB s fun c => if c = true then b τ q r else q (.sh (.bl false))) r) : gAndV a b τ q r := h
variable {A B C : TSx}
theorem s_seq (h : A τ { k with nx := fun τ' => B τ' k }) : sSeq A B τ k := h
theorem s_next (h : k.nx τ) : sNext τ k := h
theorem s_set (h : a τ (fun s => k.nx (τ.set i s)) k.ex) : sSet i a τ k := h
theorem s_asg2 (h : a τ (fun s => b τ (fun u => k.nx ((τ.set i s).set j u)) k.ex) k.ex) : sAsg2 i j a b τ k := h
theorem s_if (h : ta τ (fun d => if d = true then A τ k else B τ k) k.ex) : sIf ta A B τ k := h
theorem s_ret (h : a τ k.rt k.ex) : sRet a τ k := h
theorem s_for {src : TIx} {gx : TGx} (h : src τ (fun items => forR gx A k items τ) k.ex) : sFor src gx A τ k := h
theorem s_app (ts : List T) (e : τ[i]? = some (.ol ts)) (h : a τ (fun s => ts.length < sizeLine ∧ k.nx (τ.set i (.ol (ts ++ [s.fz])))) k.ex) : sApp i a τ k := by
  refine ⟨?_, ts, e⟩
  rw [e]
  exact h
theorem s_gotApp {K : PySem.W.Frag} {CS : Addr} (ts : List T) (e : τ[j]? = some (.ol ts)) (h : a τ (fun s => ts.length < sizeLine ∧ k.nx ((τ.set j (.ol (ts ++ [s.fz]))).set i (.sh .non))) (gotX K CS fun s => k.nx (τ.set i s))) : sGotApp K CS i j a τ k := by
  refine ⟨?_, ts, e⟩
  rw [e]
  exact h
theorem i_got {K : PySem.W.Frag} {CS : Addr} (h : a τ (fun _ => q (.sh .non)) (gotX K CS q)) : gGot K CS a τ q r := h
theorem st_set (h : a τ (fun s => B (τ.set i s) k) k.ex) : sSeq (sSet i a) B τ k := h
theorem st_asg2 (h : a τ (fun s => b τ (fun u => B ((τ.set i s).set j u) k) k.ex) k.ex) : sSeq (sAsg2 i j a b) B τ k := h
theorem st_ifN (h : ta τ (fun d => if d = true then A τ { k with nx := fun τ' => B τ' k } else B τ k) k.ex) : sSeq (sIf ta A sNext) B τ k := h
theorem st_for {src : TIx} {gx : TGx} (h : src τ (fun items => forR gx A { k with nx := fun τ' => B τ' k } items τ) k.ex) : sSeq (sFor src gx A) B τ k := h
theorem st_app (ts : List T) (e : τ[i]? = some (.ol ts)) (h : a τ (fun s => ts.length < sizeLine ∧ B (τ.set i (.ol (ts ++ [s.fz]))) k) k.ex) : sSeq (sApp i a) B τ k := s_seq (s_app ts e h)
theorem st_gotApp {K : PySem.W.Frag} {CS : Addr} (ts : List T) (e : τ[j]? = some (.ol ts)) (h : a τ (fun s => ts.length < sizeLine ∧ B ((τ.set j (.ol (ts ++ [s.fz]))).set i (.sh .non)) k) (gotX K CS fun s => B (τ.set i s) k)) : sSeq (sGotApp K CS i j a) B τ k := s_seq (s_gotApp ts e h)
theorem i_isB {x : Bool} (h : qb x) : isB (.sh (.bl x)) qb := h
theorem i_walk {ti : List T → Prop} (h : a τ (fun s => oks s.fz.items ti) r) : iWalk a τ ti r := h
theorem i_lc {vs : List Nat} {src : TIx} {gx : TGx} (h : src τ (fun items => lcR gx ta a (wipeS τ vs) (fun ts => q (.ol ts)) items []) r) : gLc vs src gx ta a τ q r := h
theorem i_r1 {ti : List T → Prop} {n : Int} (h : as τ (fun ts => ts = [.int n] ∧ (-(2 ^ 62) ≤ n ∧ n < 2 ^ 62) ∧ ti (rangeT 0 n.toNat)) r) (mono : ∀ (Q Q' : List T → Prop), (∀ ts, Q ts → Q' ts) → as τ Q r → as τ Q' r) : iR1 as τ ti r :=
  mono _ _ (fun ts ⟨e, h1, h2⟩ => by rw [e]; exact ⟨h1, h2⟩) h
theorem i_r1c {ti : List T → Prop} {n : Int} (h0 : -(2 ^ 62) ≤ n ∧ n < 2 ^ 62) (h : ti (rangeT 0 n.toNat)) : iR1 (aCons (gC (.int n)) aNil) τ ti r := ⟨h0, h⟩
theorem x_name {ql : List Sl → Prop} (h : ql (τ.set i (.sh t))) : xName i t τ ql := h
theorem i_items {xs : List T} {ti : List T → Prop} (h : ti xs) : oks (T.items (Sl.fz (.ol xs))) ti := h
theorem i_d0 (h : q (.od [])) : gD0 τ q r := h
theorem i_isN_l {xs : List T} (h : q (.sh (.bl false))) : gIsN (.lst xs) .non q := h
theorem i_isN_n (h : q (.sh (.bl true))) : gIsN .non .non q := h
theorem i_notN_l {xs : List T} (h : q (.sh (.bl true))) : gNotN (.lst xs) .non q := h
theorem i_notN_n (h : q (.sh (.bl false))) : gNotN .non .non q := h
theorem i_ix {xs : List T} {n : Int} {t : T} (e : atI xs n = some t) (h : q (.sh t)) : gIx (.lst xs) (.int n) q := by
  show oks (atI xs n) _
  rw [e]
  exact h
/-- a test that holds, one that does not -/
theorem ifT {c : Bool} {a b : Prop} (h : c = true) (k : a) : if c = true then a else b := by
  rw [if_pos h]
  exact k
theorem ifF {c : Bool} {a b : Prop} (h : c = false) (k : b) : if c = true then a else b := by
  rw [h, if_neg (by decide)]
  exact k
end
end TL
namespace K87
open PySem PySem.Spec PyProof.Rows L2 TL
variable [TheW]
/-! ### joined words -/
theorem joinL_len (S : List Nat) : ∀ ps : List (List Nat), (TL.joinL S ps).length ≤ (ps.map List.length).sum + ps.length * S.length
  | [] => by simp [TL.joinL]
  | [p] => by simp [TL.joinL]
  | p :: q :: r => by
    have := joinL_len S (q :: r)
    simp only [TL.joinL, List.length_append, List.map_cons, List.sum_cons, List.length_cons, Nat.add_mul] at this ⊢
    omega
theorem joinL_mem (S : List Nat) (P : Nat → Prop) (hS : ∀ c ∈ S, P c) : ∀ ps : List (List Nat), (∀ p ∈ ps, ∀ c ∈ p, P c) → ∀ c ∈ TL.joinL S ps, P c
  | [], _, c, h => nomatch h
  | [p], hp, c, h => hp p (by simp) c h
  | p :: q :: r, hp, c, h => by
    have ih := joinL_mem S P hS (q :: r) fun p' h' => hp p' (List.mem_cons_of_mem _ h')
    rcases List.mem_append.mp (show c ∈ p ++ (S ++ TL.joinL S (q :: r)) from h) with h | h
    · exact hp p (by simp) c h
    · rcases List.mem_append.mp h with h | h
      · exact hS c h
      · exact ih c h
theorem join_tl (ws : List Str) : (Txt.join SP ws).cps.toList = TL.joinL [32] (ws.map TL.tl) := by
  rw [TL.join_eq]
  have e := TL.tl_join SP ws
  rw [sp_tl] at e
  exact e
/-- a token -/
structure Tok (w : Str) : Prop where
  t : tokS w = true
theorem tok_mem {w : Str} (h : tokS w = true) : ∀ c ∈ w.cps.toList, c = 46 ∨ isLet c = true := by
  unfold tokS letS at h
  rw [Bool.or_eq_true] at h
  rcases h with h | h
  · rw [Bool.and_eq_true, Bool.and_eq_true] at h
    exact fun c hc => .inr (List.all_eq_true.mp h.2.2 c hc)
  · have e : w = "." := of_decide_eq_true h
    subst e
    intro c hc
    have z : ("." : Str).cps.toList = [46] := by decide +kernel
    rw [z] at hc
    exact .inl (List.mem_singleton.mp hc)
theorem let_lt {c : Nat} (h : isLet c = true) : 97 ≤ c ∧ c < 123 := by
  have m : c ∈ LET.cps.toList := of_decide_eq_true h
  have z : LET.cps.toList.all (fun c => decide (97 ≤ c ∧ c < 123)) = true := by decide +kernel
  exact of_decide_eq_true (List.all_eq_true.mp z c m)
theorem tok_aOk {w : Str} (h : tokS w = true) : aOk w := fun c hc => by
  rcases tok_mem h c hc with rfl | z
  · decide
  · have := let_lt z
    omega
theorem tok_free {w : Str} (h : tokS w = true) : 32 ∉ TL.tl w := fun hc => by
  rcases tok_mem h 32 hc with z | z
  · cases z
  · have := let_lt z
    omega
theorem tok_len {w : Str} (h : tokS w = true) : w.length ≤ 8 := by
  unfold tokS letS at h
  rw [Bool.or_eq_true] at h
  rcases h with h | h
  · rw [Bool.and_eq_true, Bool.and_eq_true] at h
    have := of_decide_eq_true h.2.1
    omega
  · have e : w = "." := of_decide_eq_true h
    subst e
    decide +kernel
theorem sum_len : ∀ {ws : List Str}, (∀ w ∈ ws, tokS w = true) → (ws.map (·.length)).sum ≤ 8 * ws.length
  | [], _ => by simp
  | w :: ws, h => by
    have h1 := tok_len (h w List.mem_cons_self)
    have h2 := sum_len (ws := ws) fun v hv => h v (List.mem_cons_of_mem _ hv)
    simp only [List.map_cons, List.sum_cons, List.length_cons]
    omega
theorem join_len {ws : List Str} (h : ∀ w ∈ ws, tokS w = true) : (Txt.join SP ws).length ≤ 9 * ws.length := by
  have e : (Txt.join SP ws).length = (TL.joinL [32] (ws.map TL.tl)).length := by
    rw [← join_tl, Array.length_toList]
    rfl
  have h1 := joinL_len [32] (ws.map TL.tl)
  have h2 : ((ws.map TL.tl).map List.length).sum = (ws.map (·.length)).sum := by
    rw [List.map_map]
    rfl
  have h3 := sum_len h
  rw [List.length_map] at h1
  simp only [List.length_singleton] at h1
  omega
theorem join_aOk {ws : List Str} (h : ∀ w ∈ ws, tokS w = true) : aOk (Txt.join SP ws) := fun c hc => by
  rw [join_tl] at hc
  refine joinL_mem [32] (· < 128) (fun c hc => ?_) _ (fun p hp c hc => ?_) c hc
  · rw [List.mem_singleton.mp hc]
    decide
  · obtain ⟨w, hw, rfl⟩ := List.mem_map.mp hp
    exact tok_aOk (h w hw) c hc
theorem words_join {ws : List Str} (h : ∀ w ∈ ws, tokS w = true) : words (Txt.join SP ws) = ws := by
  cases ws with
  | nil => decide +kernel
  | cons w ws =>
    have sj : Txt.split (Txt.join SP (w :: ws)) SP = w :: ws := TL.split_join sp_tl sp_all (by simp) fun p hp => tok_free (h p hp)
    unfold words
    split
    · rename_i e
      rw [e] at sj
      have z : Txt.split ("" : Str) SP = ([""] : List Str) := by decide +kernel
      rw [z] at sj
      have e2 : w = "" := (List.cons.inj sj).1.symm
      have := h w List.mem_cons_self
      rw [e2] at this
      have z2 : tokS "" = false := by decide +kernel
      rw [z2] at this
      cases this
    · exact sj
theorem textL_tok {ws : List Str} (h : ∀ w ∈ ws, tokS w = true) (hl : ws.length ≤ 400) : textL (ws.map T.str) = true := by
  rw [textL_strs, Bool.and_eq_true]
  exact ⟨decide_eq_true (by omega), List.all_eq_true.mpr h⟩
theorem tok_of_textL {ws : List Str} (h : textL (ws.map T.str) = true) : (∀ w ∈ ws, tokS w = true) ∧ ws.length ≤ 400 := by
  rw [textL_strs, Bool.and_eq_true] at h
  have := of_decide_eq_true h.1
  exact ⟨List.all_eq_true.mp h.2, by omega⟩
/-! ### shown -/
theorem show_strs : ∀ ws : List Str, PyData.showableAll (ws.map PyData.str) = true
  | [] => rfl
  | w :: ws => by simp only [List.map_cons, PyData.showableAll, PyData.showable, show_strs ws, Bool.and_self]
theorem dict_strs : ∀ ws : List Str, PyData.hasDictAll (ws.map PyData.str) = false
  | [] => rfl
  | w :: ws => by simp only [List.map_cons, PyData.hasDictAll, PyData.hasDict, dict_strs ws, Bool.or_self]
theorem aOk.short {w : Str} (h : aOk w) : PyData.leavesShort 13 (.str w) = true := by
  unfold PyData.leavesShort
  refine List.all_eq_true.mpr fun c hc => decide_eq_true ?_
  have := h c hc
  have e : (16 : Nat) ^ 8 = 4294967296 := by decide
  omega
theorem short_strs : ∀ {ws : List Str}, (∀ w ∈ ws, aOk w) → PyData.leavesShortAll 13 (ws.map PyData.str) = true
  | [], _ => rfl
  | w :: ws, h => by
    have h1 := (h w List.mem_cons_self).short
    have h2 := short_strs (ws := ws) fun v hv => h v (List.mem_cons_of_mem _ hv)
    simp only [List.map_cons, PyData.leavesShortAll, h1, h2, Bool.and_self]
theorem bulk_strs : ∀ {ws : List Str}, (∀ w ∈ ws, w.length ≤ 8) → PyData.bulkAll (ws.map PyData.str) ≤ 9 * ws.length
  | [], _ => by simp [PyData.bulkAll]
  | w :: ws, h => by
    have h1 : w.cps.size ≤ 8 := h w List.mem_cons_self
    have h2 := bulk_strs (ws := ws) fun v hv => h v (List.mem_cons_of_mem _ hv)
    simp only [List.map_cons, PyData.bulkAll, PyData.bulk, List.length_cons]
    omega
theorem shOk_words {ws : List Str} (h : ∀ w ∈ ws, tokS w = true) (hl : ws.length ≤ 400) : ShOk (.list [.list (ws.map PyData.str)]) := by
  have h1 := bulk_strs (ws := ws) fun w hw => tok_len (h w hw)
  have h2 := depth_strs ws
  have h3 := short_strs (ws := ws) fun w hw => tok_aOk (h w hw)
  refine ⟨?_, ?_, ?_, ?_, ?_⟩
  · simp only [PyData.showable, PyData.showableAll, show_strs, Bool.and_self]
  · simp only [PyData.leavesShort, PyData.leavesShortAll, h3, Bool.and_self]
  · simp only [PyData.bulk, PyData.bulkAll]
    omega
  · simp only [PyData.depth, PyData.depthAll]
    omega
  · simp only [PyData.hasDict, PyData.hasDictAll, dict_strs, Bool.or_self]
theorem shOk_four {ws : List Str} {f : Str} (h : ∀ w ∈ ws, tokS w = true) (hl : ws.length ≤ 400) (hf : aOk f) (fl : f.length ≤ 5000) : ShOk (.list [.str f, .str f, .list (ws.map PyData.str), .list (ws.map PyData.str)]) := by
  have h1 := bulk_strs (ws := ws) fun w hw => tok_len (h w hw)
  have h2 := depth_strs ws
  have h3 := short_strs (ws := ws) fun w hw => tok_aOk (h w hw)
  have h4 := hf.short
  have h5 : f.cps.size ≤ 5000 := fl
  refine ⟨?_, ?_, ?_, ?_, ?_⟩
  · simp only [PyData.showable, PyData.showableAll, show_strs, Bool.and_self]
  · have z : PyData.leavesShort 13 (.list (ws.map PyData.str)) = true := by
      unfold PyData.leavesShort
      exact h3
    show PyData.leavesShortAll 13 _ = true
    simp only [PyData.leavesShortAll, h4, z, Bool.and_self]
  · simp only [PyData.bulk, PyData.bulkAll]
    omega
  · simp only [PyData.depth, PyData.depthAll]
    omega
  · simp only [PyData.hasDict, PyData.hasDictAll, dict_strs, Bool.or_self]
end K87
namespace TL
open PySem PySem.Spec PyProof.Rows L2
variable [TheW]
/-! ### the draw begun -/
/-- the script alone, as data -/
def onlyH (H : Hp) (a : Addr) : Hp := fun b => if b = a then (match H b with
  | some (.tbl _) => none
  | o => o) else none
theorem only_sub {H : Hp} {a : Addr} : Sub (onlyH H a) H := fun b o e => by
  unfold onlyH at e
  split at e
  · split at e
    · cases e
    · exact e
  · cases e
theorem only_ne {H : Hp} {a b : Addr} (h : H b = none) : onlyH H a b = none := by
  unfold onlyH
  rw [h]
  split <;> rfl
theorem only_tbl {H : Hp} {a b : Addr} {ps : Array Value} (h : H b = some (.tbl ps)) : onlyH H a b = none := by
  unfold onlyH
  rw [h]
  split <;> rfl
theorem only_sq {K : PySem.W.Frag} {H : Hp} {a : Addr} {xs : List V} (h : SqL K H a xs) : SqL K (onlyH H a) a xs := by
  rcases h with (h | ⟨o, h⟩) | h
  · exact .inl (.inl (by unfold onlyH; rw [if_pos rfl, h]))
  · exact .inl (.inr ⟨o, by unfold onlyH; rw [if_pos rfl, h]⟩)
  · exact .inr h
theorem isAll_ints {K : PySem.W.Frag} {G : Hp} : ∀ ns : List Int, IsAll K G (ns.map V.int) (ns.map T.int)
  | [] => .nil
  | _ :: ns => .cons .int (isAll_ints ns)
theorem ints_inv {K : PySem.W.Frag} {G : Hp} : ∀ {ns : List Int} {vs : List V}, IsAll K G vs (ns.map T.int) → vs = ns.map V.int
  | [], _, h => by cases h; rfl
  | n :: ns, _, h => by
    cases h with
    | cons i r =>
      cases i
      rw [ints_inv r]
      rfl
def spBegun (K : PySem.W.Frag) : Sp := fun vs H Q _ => ∃ (a : Addr) (ns : List Int), vs = [.ref a] ∧ SqL K H a (ns.map V.int) ∧ ns.length ≤ 1000 ∧ ∀ (d L C : Addr) (H' : Hp) (cs : List Int), H d = none → H L = none → H C = none → (∀ b o, H b = some o → H' b = some o) → Drw d L C cs H' → Q (.ref d) H'
theorem merge_drw {L C : Addr} : mergeK [] (drwE L C 0 0) = drwE L C 0 0 := by
  have e1 : putK ([] : List (Key × V)) (.inr ("large" : Str)) (.ref L) = [(.inr "large", .ref L)] := putK_new _ rfl
  have e2 : putK ([(.inr "large", .ref L)] : List (Key × V)) (.inr ("rest" : Str)) (.int 0) = [(.inr "large", .ref L), (.inr "rest", .int 0)] := putK_new _ (valV_neg k_lr)
  have e3 : putK ([(.inr "large", .ref L), (.inr "rest", .int 0)] : List (Key × V)) (.inr ("cells" : Str)) (.ref C) = [(.inr "large", .ref L), (.inr "rest", .int 0), (.inr "cells", .ref C)] := putK_new _ ((valV_neg k_lc).trans (valV_neg k_rc))
  have e4 : putK ([(.inr "large", .ref L), (.inr "rest", .int 0), (.inr "cells", .ref C)] : List (Key × V)) (.inr ("turn" : Str)) (.int 0) = [(.inr "large", .ref L), (.inr "rest", .int 0), (.inr "cells", .ref C), (.inr "turn", .int 0)] := putK_new _ (((valV_neg k_lt).trans (valV_neg k_rt)).trans (valV_neg k_ct))
  show putK (putK (putK (putK ([] : List (Key × V)) (.inr ("large" : Str)) (.ref L)) (.inr ("rest" : Str)) (.int 0)) (.inr ("cells" : Str)) (.ref C)) (.inr ("turn" : Str)) (.int 0) = _
  rw [e1, e2, e3, e4]
  rfl
abbrev tBegun (te2 : TE) : TS := tRet (tDisp [(tC (.str "large"), tVar 1), (tC (.str "rest"), tC (.int 0)), (tC (.str "cells"), te2), (tC (.str "turn"), tC (.int 0))])
theorem begun_ok {K : PySem.W.Frag} {E : XK} {t1 : TS} {te2 : TE} {g1 : TSx} {g2 : TEx} {H : Hp} {Q : VK} {a : Addr} {ns : List Int} {N : List Str} (hN : L2.start N [.ref a] = [some (.ref a), none, none])
    (h1 : SimS K M0 E t1 g1) (h2 : SimE K M0 E te2 g2) (q1 : ∀ k : Kn, (∀ ls : List Int, k.nx [.sh (.fls (ns.map T.int)), .ol (ls.map T.int), .no]) → g1 [.sh (.fls (ns.map T.int)), .no, .no] k)
    (q2 : ∀ (ls : List Int) (q : Sl → Prop), (∀ cs : List Int, q (.ol (cs.map T.int))) → g2 [.sh (.fls (ns.map T.int)), .ol (ls.map T.int), .no] q rF)
    (hs : SqL K H a (ns.map V.int)) (hq : ∀ (d L C : Addr) (H' : Hp) (cs : List Int), H d = none → H L = none → H C = none → (∀ b o, H b = some o → H' b = some o) → Drw d L C cs H' → Q (.ref d) H') :
    (tSeq t1 (tBegun te2)) { nx := fun _ H' => Q .non H', rt := Q } (L2.start N [.ref a]) H := by
  rw [hN]
  have ok : Ok M0 (onlyH H a) H := ⟨only_sub, trivial, fun _ h => h.elim, fun _ h => h.elim⟩
  have en : En K (onlyH H a) H [some (.ref a), none, none] [.sh (.fls (ns.map T.int)), .no, .no] [] := .sh (.fls (only_sq hs) (isAll_ints ns)) (.no (.no .nil))
  refine h1 _ H ok _ { nx := fun τ' => ∃ ls : List Int, τ' = [.sh (.fls (ns.map T.int)), .ol (ls.map T.int), .no], rt := fun _ => False, ex := rF } (q1 _ fun ls => ⟨ls, rfl⟩) _ _ H ⟨⟨[], en, fun _ h => nomatch h⟩, .refl ok⟩ _ ⟨?_, fun _ _ _ _ _ _ h => h.elim, fun _ _ _ _ _ _ h => h.elim, fun _ _ _ _ _ _ h => h.elim, fun _ _ _ _ _ _ _ h => h.elim⟩
  rintro σ' τ' G' H' w _ ⟨ls, rfl⟩
  obtain ⟨L, vs, s1, hL, iL, _⟩ := w.ol ok (i := 1) (ts := ls.map T.int) rfl
  obtain rfl := ints_inv iL
  have L0 : H L = none := by
    obtain ⟨os, e, ho⟩ := w.en
    obtain ⟨L2, _, k1, k2, _⟩ := e.getL (i := 1) (ts := ls.map T.int) rfl
    rw [s1] at k1
    obtain rfl : L = L2 := by simpa using k1
    exact ho _ k2
  show tDisp _ σ' H' Q
  intro p hp
  have g3 : Go M0 G' H' G' (upd H' p (.dK [])) := .lay (w.w1 ok).ok hp
  have w3 := (w.next ok g3).w1 ok
  refine ⟨_, s1, ?_⟩
  refine h2 _ _ rF (q2 ls (fun s => ∃ cs : List Int, s = .ol (cs.map T.int)) fun cs => ⟨cs, rfl⟩) σ' G' _ w3 _ (fun v s G4 H4 g4 rs q => ?_) fun _ _ _ _ _ _ _ h => h.elim
  obtain ⟨cs, rfl⟩ := q
  obtain ⟨C, oC, rfl, c1, c2, c3, c4⟩ := rs
  obtain ⟨vs2, rfl, c5⟩ : ∃ vs2, oC = .lst vs2 ∧ IsAll K G4 vs2 (cs.map T.int) := by
    cases c4 with
    | l c => exact ⟨_, rfl, c⟩
  obtain rfl := ints_inv c5
  have p4 : H4 p = some (.dK []) := g4.keep p _ (fun h => h) upd_same
  have nLp : L ≠ p := ne_of_none hL hp
  have L4 : H4 L = some (.lst (ls.map V.int)) := g4.keep L _ (fun h => h) (by rw [upd_ne nLp]; exact hL)
  have nCp : C ≠ p := fun z => by
    rw [z, upd_same] at c1
    cases c1
  have nCL : L ≠ C := fun z => by
    rw [← z, upd_ne nLp, hL] at c1
    cases c1
  have C0 : H' C = none := by
    rw [upd_ne nCp] at c1
    exact c1
  refine ⟨p4, drwE L C 0 0, rfl, (show 4 ≤ 15 by decide), ?_⟩
  rw [merge_drw]
  refine hq p L C _ cs (w.go.back hp) L0 (w.go.back C0) (fun b o e => ?_) ⟨nCL, ⟨0, 0, upd_same⟩, ⟨ls, by rw [upd_ne nLp]; exact L4⟩, by rw [upd_ne nCp]; exact c2⟩
  have b1 : H' b = some o := w.go.keep b o (fun h => h) e
  have nbp : b ≠ p := ne_of_none b1 hp
  rw [upd_ne nbp]
  exact g4.keep b o (fun h => h) (by rw [upd_ne nbp]; exact b1)
/-- readings of the two comprehensions -/
theorem begun_q1 {ns : List Int} (hn : ns.length ≤ 1000) {k : Kn} (h : ∀ ls : List Int, k.nx [.sh (.fls (ns.map T.int)), .ol (ls.map T.int), .no]) :
    sSet 1 (gLc [2] (iWalk (gVar 0)) (xName 2) (gB (gOp gGe (gCB gAbs (aCons (gVar 2) aNil)) (gOp gPow (gC (.int 10)) (gC (.int 18))))) (gOp gSub (gCB gAbs (aCons (gVar 2) aNil)) (gOp gPow (gC (.int 10)) (gC (.int 18))))) [.sh (.fls (ns.map T.int)), .no, .no] k := by
  have hp : CPow 10 18 := ⟨by decide, by decide, by decide⟩
  refine lcR_if (p := fun t => match t with | .int n => decide ((10 : Int) ^ 18 ≤ (if n < 0 then -n else n)) | _ => false) (f := fun t => match t with | .int n => .int ((if n < 0 then -n else n) - (10 : Int) ^ 18) | _ => .non) (fun t ht Q q => ?_) (fun t ht _ Q q => ?_) ?_ ?_
  · obtain ⟨n, _, rfl⟩ := List.mem_map.mp ht
    exact ⟨hp, q⟩
  · obtain ⟨n, _, rfl⟩ := List.mem_map.mp ht
    exact ⟨hp, q⟩
  · rw [List.length_map, sizeLine_eq]
    simp
    omega
  · have e : (((ns.map T.int).filter fun t => match t with | .int n => decide ((10 : Int) ^ 18 ≤ (if n < 0 then -n else n)) | _ => false).map fun t => match t with | .int n => T.int ((if n < 0 then -n else n) - (10 : Int) ^ 18) | _ => .non) =
        ((ns.filter fun n => decide ((10 : Int) ^ 18 ≤ (if n < 0 then -n else n))).map fun n => (if n < 0 then -n else n) - (10 : Int) ^ 18).map T.int := by
      rw [List.filter_map, List.map_map, List.map_map]
      rfl
    rw [List.nil_append, e]
    exact h _
theorem begun_q2 {ns ls : List Int} (hn : ns.length ≤ 1000) {q : Sl → Prop} (h : ∀ cs : List Int, q (.ol (cs.map T.int))) :
    gLc [2] (iWalk (gVar 0)) (xName 2) gYes (gCB gAbs (aCons (gVar 2) aNil)) [.sh (.fls (ns.map T.int)), .ol (ls.map T.int), .no] q rF := by
  refine lcR_map (f := fun t => match t with | .int n => .int (if n < 0 then -n else n) | _ => .non) (fun t ht Q q => ?_) ?_ ?_
  · obtain ⟨n, _, rfl⟩ := List.mem_map.mp ht
    exact q
  · rw [List.length_map, sizeLine_eq]
    omega
  · have e : ((ns.map T.int).map fun t => match t with | .int n => T.int (if n < 0 then -n else n) | _ => .non) = (ns.map fun n => if n < 0 then -n else n).map T.int := by
      rw [List.map_map, List.map_map]
      rfl
    rw [e]
    exact h _
/-! ### the rest of a law, behind its draw -/
theorem rest_ok {K : PySem.W.Frag} {E : XK} {t : TS} {d L C a : Addr} {cs : List Int} {Z : Tb} {H H' : Hp} {Q : VK} {ns : List Int} {τ : List Sl} {σ : List (Option V)} {g : TSx} (hs : SimS K (DM d L C cs Z) E t g) (hS : SqL K H a (ns.map V.int)) (hT : LamX.Tabs Z H') (hZ : ∀ p ∈ Z, H' p.1 ≠ none → ∃ ps, H p.1 = some (.tbl ps))
    (h1 : H d = none) (h2 : H L = none) (keep : ∀ b o, H b = some o → H' b = some o) (D : Drw d L C cs H') (hσ : ∃ k, σ = some (.ref a) :: some (.ref d) :: List.replicate k none ∧ τ = .sh (.fls (ns.map T.int)) :: .sh (.raw (.ref d)) :: List.replicate k .no) (hg : g τ (KnOf (fun s => s = .sh (.bl true)) rF)) (hQ : ∀ H'', Q (.bl true) H'') :
    t { nx := fun _ H' => Q .non H', rt := Q } σ H' := by
  have tabP : ∀ p ∈ Z, ∃ ps, H p.1 = some (.tbl ps) := fun p hp => by
    obtain ⟨ps, h, _⟩ := hT p hp
    exact hZ p hp (by rw [h]; simp)
  have ok : Ok (DM d L C cs Z) (onlyH H a) H' := by
    refine ⟨fun b o e => keep b o (only_sub b o e), ⟨D, hT⟩, fun b hb => ?_, fun b hb => ?_⟩
    · rcases hb with (rfl | rfl) | ⟨p, hp, rfl⟩
      · exact only_ne h1
      · exact only_ne h2
      · obtain ⟨ps, h⟩ := tabP p hp
        exact only_tbl h
    · rcases hb with (rfl | rfl | rfl) | ⟨p, hp, rfl⟩
      · rw [D.c]; simp
      · obtain ⟨r, t0, h⟩ := D.d
        rw [h]; simp
      · obtain ⟨ls, h⟩ := D.l
        rw [h]; simp
      · obtain ⟨ps, h, _⟩ := hT p hp
        rw [h]; simp
  obtain ⟨k, rfl, rfl⟩ := hσ
  have rep : ∀ k, En K (onlyH H a) H' (List.replicate k none) (List.replicate k .no) [] := fun k => by
    induction k with
    | zero => exact .nil
    | succ k ih => exact .no ih
  have en : En K (onlyH H a) H' (some (.ref a) :: some (.ref d) :: List.replicate k none) (.sh (.fls (ns.map T.int)) :: .sh (.raw (.ref d)) :: List.replicate k .no) [] := .sh (.fls (only_sq hS) (isAll_ints ns)) (.sh .raw (rep k))
  refine hs _ H' ok _ _ hg _ _ H' ⟨⟨[], en, fun _ h => nomatch h⟩, .refl ok⟩ _ ⟨fun _ _ _ _ _ _ z => ?_, fun v s G1 H1 _ rs z => ?_, fun _ _ _ _ _ _ h => h.elim, fun _ _ _ _ _ _ h => h.elim, fun _ _ _ _ _ _ _ h => h.elim⟩
  · have z' : Sl.sh .non = .sh (.bl true) := z
    cases z'
  · have z' : s = .sh (.bl true) := z
    subst z'
    have i : Is K G1 v (.bl true) := rs
    rw [i.bl_inv]
    exact hQ _
/-- a def's function object and its code object -/
theorem mk_rawC {P : Program} {w : World} {K : PySem.W.Frag} {mg : Str → Option Value} {base : Heap} {x qual : Str} {params : Arguments} {body : List Stmt} {scope : Scope} {f : Addr} {fd : FuncData} {CX : CXT} {N ps : List Str} {k : Nat} {sp : Sp} (F : FunD K x qual params body scope [] [] f fd) (S : FnScope N ps scope)
    (hl : ∀ vs H Q E, sp vs H Q E → vs.length = ps.length)
    (hbody : ∀ (c : Addr) (oc : Value) (od : Option Addr) (osl : Array (Option Value)), K.lookup f = some ⟨oc, od, .func fd, osl⟩ → fd.code = .ref c → ∀ (A : Around) (outer : List Env) (s : Shared) (H : Hp) (vs : List V) (Q : VK) (E : XK), Room k (A.deeper (envOfC qual scope s.heap.objs.size f (.ref c))) → (A.deeper (envOfC qual scope s.heap.objs.size f (.ref c))).guards = some [] → sp vs H Q E →
      ∃ t, PSs (cxOf CX P w K mg base N qual scope f (.ref c) A outer s H E) body t ∧ t { nx := fun _ H' => Q .non H', rt := Q } (L2.start N vs) H) : FnG P w K mg base CX (k + 1) f fd ps sp := by
  obtain ⟨oc, od, dV, kV, doc, pm, an, cdv, ct, osl, rfl, lk, hcd, _, _⟩ := F.ex
  obtain ⟨c, rfl⟩ := He.codeIn_ref hcd
  refine ⟨hl, fun A outer s H args us vs Q E hg hr e0 hb hv hs => ?_⟩
  refine LamX.run_ofS lk hcd S hr e0 hb hv (hl _ _ _ _ hs) fun hr2 => hbody c oc od osl lk rfl A outer s H vs Q E hr2 ?_ hs
  have z : (A.deeper (envOfC qual scope s.heap.objs.size f (.ref c))).guards = A.guards := by rfl
  rw [z]
  exact hg
end TL
namespace TL
open PySem PySem.Spec PyProof.Rows L2
variable [TheW]
theorem begun_b {X : Cx} {E : XK} {st1 : Stmt} {e2 : Expr} {t1 : TS} {te2 : TE} {g1 : TSx} {g2 : TEx} {j1 j2 j3 j4 j5 j6 : Nat} {p1 p2 p3 p4 p5 p6 p7 p8 p9 : Pos} (b1 : GS X M0 E st1 t1 g1) (b2 : GE X M0 E e2 te2 g2) (hN : X.N[1]? = some ("large" : Str) := by rfl) (hv : Vis X.env.scope ("large" : Str) := by exact Or.inl rfl) :
    ∃ t1 te2, PSs X [st1, .Return (some (.Dict [some (.Constant (.str "large") j1 p1), some (.Constant (.str "rest") j2 p2), some (.Constant (.str "cells") j3 p3), some (.Constant (.str "turn") j4 p4)] [.Name "large" p5, .Constant (.int 0) j5 p6, e2, .Constant (.int 0) j6 p7] p8)) p9] (tSeq t1 (tBegun te2)) ∧ SimS X.K M0 E t1 g1 ∧ SimE X.K M0 E te2 g2 :=
  ⟨t1, te2, pss_cons b1.p (pss_one (ps_ret (pe_disp (pps_cons pe_str (pe_var hN hv) (pps_cons pe_str pe_int (pps_cons pe_str b2.p (pps_cons pe_str pe_int pps_nil)))) rfl rfl (by simp) (show 4 ≤ 15 by decide)))), b1.s, b2.s⟩
end TL
namespace TL
open PySem PySem.Spec PyProof.Rows L2 RZ
variable [TheW]
section
variable {X : Cx} {K : PySem.W.Frag} {M : Mode} {E : XK} {G H G' H' : Hp} {σ : List (Option V)} {τ : List Sl} {r : Xn → Prop}
/-! ### zip, enumerate -/
def zipT (xs ys : List T) : List T := List.zipWith (fun a b => T.tup [a, b]) xs ys
theorem itok_zip {a b : Addr} {vs us : List V} {xs ys : List T} (ha : SqL K G a vs) (hb : SqL K G b us) (ia : IsAll K G vs xs) (ib : IsAll K G us ys) : ItOk K M G (Itz K a b) (zipT xs ys) := fun G1 H1 s ok j => by
  have h1 : SqL K H1 a vs := ok.sub.sqL (s.sqL ha)
  have h2 : SqL K H1 b us := ok.sub.sqL (s.sqL hb)
  refine ⟨fun hj => ⟨vs, us, h1, h2, ?_⟩, fun t ht => ?_⟩
  · rw [zipT, List.length_zipWith] at hj
    rw [ia.length, ib.length]
    omega
  · obtain ⟨x, y, hx, hy, rfl⟩ : ∃ x y, xs[j]? = some x ∧ ys[j]? = some y ∧ T.tup [x, y] = t := by
      rw [zipT, List.getElem?_zipWith] at ht
      cases h3 : xs[j]? with
      | none => rw [h3] at ht; cases ht
      | some x =>
        cases h4 : ys[j]? with
        | none => rw [h3, h4] at ht; cases ht
        | some y => rw [h3, h4] at ht; exact ⟨x, y, rfl, rfl, by simpa using ht⟩
    obtain ⟨v, hv, iv⟩ := ia.get hx
    obtain ⟨u, hu, iu⟩ := ib.get hy
    refine ⟨⟨vs, us, v, u, h1, h2, hv, hu⟩, fun z H' w => ?_⟩
    obtain ⟨p, v', u', rfl, hp, rfl, e1, e2⟩ := w
    have q1 := e1 vs h1
    have q2 := e2 us h2
    rw [hv] at q1; cases q1
    rw [hu] at q2; cases q2
    obtain ⟨g, z⟩ := tup_new ok hp (IsAll.cons (iv.mono s) (.one (iu.mono s)))
    exact ⟨_, g, z⟩
theorem itok_zipT {a b : Addr} {vs us : List V} {xs ys : List T} (ha : SqT K G a vs) (hb : SqT K G b us) (ia : IsAll K G vs xs) (ib : IsAll K G us ys) : ItOk K M G (ItzT K a b) (zipT xs ys) := fun G1 H1 s ok j => by
  have h1 : SqT K H1 a vs := ok.sub.sqT (s.sqT ha)
  have h2 : SqT K H1 b us := ok.sub.sqT (s.sqT hb)
  refine ⟨fun hj => ⟨vs, us, h1, h2, ?_⟩, fun t ht => ?_⟩
  · rw [zipT, List.length_zipWith] at hj
    rw [ia.length, ib.length]
    omega
  · obtain ⟨x, y, hx, hy, rfl⟩ : ∃ x y, xs[j]? = some x ∧ ys[j]? = some y ∧ T.tup [x, y] = t := by
      rw [zipT, List.getElem?_zipWith] at ht
      cases h3 : xs[j]? with
      | none => rw [h3] at ht; cases ht
      | some x =>
        cases h4 : ys[j]? with
        | none => rw [h3, h4] at ht; cases ht
        | some y => rw [h3, h4] at ht; exact ⟨x, y, rfl, rfl, by simpa using ht⟩
    obtain ⟨v, hv, iv⟩ := ia.get hx
    obtain ⟨u, hu, iu⟩ := ib.get hy
    refine ⟨⟨vs, us, v, u, h1, h2, hv, hu⟩, fun z H' w => ?_⟩
    obtain ⟨p, v', u', rfl, hp, rfl, e1, e2⟩ := w
    have q1 := e1 vs h1
    have q2 := e2 us h2
    rw [hv] at q1; cases q1
    rw [hu] at q2; cases q2
    obtain ⟨g, z⟩ := tup_new ok hp (IsAll.cons (iv.mono s) (.one (iu.mono s)))
    exact ⟨_, g, z⟩
/-- the items of a list -/
def T.litems : T → Option (List T)
  | .lst ts => some ts
  | .fls ts => some ts
  | _ => none
theorem Is.litems {v : V} {t : T} {ts : List T} (i : Is K G v t) (h : t.litems = some ts) : ∃ a vs, v = .ref a ∧ SqL K G a vs ∧ IsAll K G vs ts := by
  cases i with
  | lst g r => cases h; exact ⟨_, _, rfl, SqL.of g, r⟩
  | fls g r => cases h; exact ⟨_, _, rfl, g, r⟩
  | _ => cases h
def iZp (a : TAx) : TIx := fun τ q r => a τ (fun ts => match ts with
  | [.tup xs, .tup ys] => q (zipT xs ys)
  | [x, y] => oks x.litems fun xs => oks y.litems fun ys => q (zipT xs ys)
  | _ => False) r
theorem simi_zip {ta : TA} {a : TAx} (ha : SimA K M E ta a) : SimI K M E (iZipA K ta) (iZp a) := fun τ q r e σ G H w R hq hx =>
  ha τ _ r e σ G H w _ (fun vs ts G1 H1 g1 i1 q1 => by
    split at q1
    · cases i1 with
      | cons i0 i1 =>
        cases i1 with
        | cons i2 i1 =>
          cases i1
          cases i0 with
          | tup h1 r1 =>
            cases i2 with
            | tup h2 r2 => exact ⟨_, _, _, _, rfl, .inr ⟨g1.sub.sqT h1, g1.sub.sqT h2, hq _ _ G1 H1 g1 (itok_zipT h1 h2 r1 r2) q1⟩⟩
    · obtain ⟨xs, hx1, q1⟩ := oks_cases q1
      obtain ⟨ys, hy1, q1⟩ := oks_cases q1
      cases i1 with
      | cons i0 i1 =>
        cases i1 with
        | cons i2 i1 =>
          cases i1
          obtain ⟨p, us, rfl, h1, r1⟩ := i0.litems hx1
          obtain ⟨p', us', rfl, h2, r2⟩ := i2.litems hy1
          exact ⟨_, _, _, _, rfl, .inl ⟨g1.sub.sqL h1, g1.sub.sqL h2, hq _ _ G1 H1 g1 (itok_zip h1 h2 r1 r2) q1⟩⟩
    · exact q1.elim) hx
def enumT : Nat → List T → List T
  | _, [] => []
  | n, t :: ts => .tup [.int (n : Nat), t] :: enumT (n + 1) ts
theorem enumT_get : ∀ {ts : List T} {n j : Nat} {t : T}, (enumT n ts)[j]? = some t → ∃ x, ts[j]? = some x ∧ t = .tup [.int ((n + j : Nat)), x]
  | [], _, _, _, h => by simp [enumT] at h
  | x :: ts, n, 0, t, h => by simp [enumT] at h; exact ⟨x, rfl, by rw [← h] <;> rfl⟩
  | x :: ts, n, j + 1, t, h => by
    simp only [enumT, List.getElem?_cons_succ] at h
    obtain ⟨y, h1, h2⟩ := enumT_get h
    exact ⟨y, by simpa using h1, by rw [h2, show n + 1 + j = n + (j + 1) by omega]⟩
theorem enumT_length : ∀ {ts : List T} {n : Nat}, (enumT n ts).length = ts.length
  | [], _ => rfl
  | _ :: ts, n => congrArg (· + 1) (enumT_length (ts := ts))
theorem itok_enum {a : Addr} {vs : List V} {xs : List T} (ha : SqL K G a vs) (ia : IsAll K G vs xs) : ItOk K M G (Ite K a) (enumT 0 xs) := fun G1 H1 s ok j => by
  have h1 : SqL K H1 a vs := ok.sub.sqL (s.sqL ha)
  refine ⟨fun hj => ⟨vs, h1, ?_⟩, fun t ht => ?_⟩
  · rw [enumT_length] at hj
    rw [ia.length]
    exact hj
  · obtain ⟨x, hx, rfl⟩ := enumT_get ht
    obtain ⟨v, hv, iv⟩ := ia.get hx
    refine ⟨⟨vs, v, h1, hv⟩, fun z H' w => ?_⟩
    obtain ⟨p, v', rfl, hp, rfl, e1⟩ := w
    have q1 := e1 vs h1
    rw [hv] at q1; cases q1
    rw [Nat.zero_add]
    obtain ⟨g, z⟩ := tup_new ok hp (IsAll.cons (v := .int (j : Nat)) .int (.one (iv.mono s)))
    exact ⟨_, g, z⟩
def iEn (a : TAx) : TIx := fun τ q r => a τ (fun ts => match ts with
  | [x] => oks x.litems fun xs => q (enumT 0 xs)
  | _ => False) r
theorem simi_enum {ta : TA} {a : TAx} (ha : SimA K M E ta a) : SimI K M E (iEnum K ta) (iEn a) := fun τ q r e σ G H w R hq hx =>
  ha τ _ r e σ G H w _ (fun vs ts G1 H1 g1 i1 q1 => by
    split at q1
    · obtain ⟨xs, hx1, q1⟩ := oks_cases q1
      cases i1 with
      | cons i0 i1 =>
        cases i1
        obtain ⟨p, us, rfl, h1, r1⟩ := i0.litems hx1
        exact ⟨_, _, rfl, g1.sub.sqL h1, hq _ _ G1 H1 g1 (itok_enum h1 r1) q1⟩
    · exact q1.elim) hx
end
section
variable {X : Cx} {M : Mode} {E : XK} {a b : Expr} {t : TA} {gt : TAx} {p pos tpos : Pos} {elts : List Expr} {kk : Nat}
theorem gi_zip (hm : X.mg "zip" = none) (ha : GA X M E [a, b] t gt) (hg : Gl X "zip" := by rfl) (hs : starEach [a, b] X.env = (false, eval a X.env) :: starEach [b] X.env := by rfl) (hpl : (backTo pos (starEach [b] X.env)).any (·.1) = false := by rfl) :
    GI X M E (.Tuple elts kk tpos) (.Call (.Name "zip" p) [a, b] [] pos) (iZipA X.K t) (iZp gt) := ⟨pi_zipA hg hm ha.p hs hpl, simi_zip ha.s⟩
theorem gi_enum (hm : X.mg "enumerate" = none) (ha : GA X M E [a] t gt) (hg : Gl X "enumerate" := by rfl) (hs : starEach [a] X.env = [(false, eval a X.env)] := by rfl) :
    GI X M E (.Tuple elts kk tpos) (.Call (.Name "enumerate" p) [a] [] pos) (iEnum X.K t) (iEn gt) := ⟨pi_enum hg hm ha.p hs, simi_enum ha.s⟩
end
end TL
/-! TLt: dicts of tuples by trees. -/
namespace TL
open PySem PySem.Spec PyProof.Rows L2
variable [TheW]
section
variable {K : PySem.W.Frag} {G H : Hp}
mutual
theorem Is.nk (s : Sub G H) : ∀ {v : V} {t : T} {k : NestedKey}, Is K G v t → T.nk t = some k → Nk K H v k
  | _, _, _, .non, e => by simp only [T.nk] at e; cases e; exact .non
  | _, _, _, .bl, e => by simp only [T.nk] at e; cases e; exact .bl
  | _, _, _, .int, e => by simp only [T.nk] at e; cases e; exact .int
  | _, _, _, .str, e => by simp only [T.nk] at e; cases e; exact .str
  | _, _, _, .tup h r, e => by
    simp only [T.nk] at e
    obtain ⟨ks, h1, rfl⟩ := Option.map_eq_some_iff.mp e
    exact .tup (s.sqT h) (IsAll.nk s r h1)
  | _, _, _, .lst _ _, e => by simp only [T.nk] at e; cases e
  | _, _, _, .fls _ _, e => by simp only [T.nk] at e; cases e
  | _, _, _, .dct _ _, e => by simp only [T.nk] at e; cases e
  | _, _, _, .fdc _ _, e => by simp only [T.nk] at e; cases e
  | _, _, _, .dn _ _, e => by simp only [T.nk] at e; cases e
  | _, _, _, .fdn _ _, e => by simp only [T.nk] at e; cases e
  | _, _, _, .st _, e => by simp only [T.nk] at e; cases e
  | _, _, _, .raw, e => by simp only [T.nk] at e; cases e
  | _, _, _, .ob _, e => by simp only [T.nk] at e; cases e
theorem IsAll.nk (s : Sub G H) : ∀ {vs : List V} {ts : List T} {ks : List NestedKey}, IsAll K G vs ts → T.nks ts = some ks → NkAll K H vs ks
  | _, _, _, .nil, e => by simp only [T.nks] at e; cases e; exact .nil
  | _, _, _, .cons (t := t) (ts := ts) h r, e => by
    simp only [T.nks] at e
    cases h1 : T.nk t with
    | none => simp only [h1] at e; cases e
    | some d =>
      cases h2 : T.nks ts with
      | none => simp only [h1, h2] at e; cases e
      | some ds => simp only [h1, h2] at e; cases e; exact .cons (Is.nk s h h1) (IsAll.nk s r h2)
end
def lookT (kts : List (T × T)) (tk : T) : Option T := (kts.find? fun x => decide (T.nk x.1 = T.nk tk)).map (·.2)
def setdT (kts : List (T × T)) (tk t : T) : List (T × T) := if (lookT kts tk).isSome = true then kts else kts ++ [(tk, t)]
theorem IsKn.length : ∀ {xs : NX} {kts : List (T × T)}, IsKn K G xs kts → xs.length = kts.length
  | _, _, .nil => rfl
  | _, _, .cons _ _ _ _ r => congrArg (· + 1) r.length
theorem IsKn.nks (s : Sub G H) : ∀ {xs : NX} {kts : List (T × T)}, IsKn K G xs kts → NKs K H xs
  | _, _, .nil => fun x h => nomatch h
  | _, _, .cons a e d b r => fun x h => by
    rcases List.mem_cons.mp h with rfl | h
    · exact ⟨a.nk s e, d⟩
    · exact r.nks s x h
theorem IsKn.val {tk : T} {k : NestedKey} (hk : T.nk tk = some k) : ∀ {xs : NX} {kts : List (T × T)}, IsKn K G xs kts → (valN xs k = none ∧ lookT kts tk = none) ∨ ∃ v t, valN xs k = some v ∧ lookT kts tk = some t ∧ Is K G v t
  | _, _, .nil => .inl ⟨rfl, rfl⟩
  | _, _, .cons (k := k') (xs := xs) (ts := ts) a e d b r => by
    unfold valN lookT
    rw [List.find?_cons, List.find?_cons]
    by_cases h : k' = k
    · subst h
      have h2 : decide (T.nk _ = T.nk tk) = true := decide_eq_true (e.trans hk.symm)
      simp only [decide_true, h2, Option.map_some]
      exact .inr ⟨_, _, rfl, rfl, b⟩
    · have h2 : decide (T.nk _ = T.nk tk) = false := decide_eq_false fun z => h (Option.some.inj (e.symm.trans (z.trans hk)))
      simp only [h, decide_false, h2]
      exact r.val hk
theorem IsKn.snoc {k : NestedKey} {q : Addr} {v : V} {tk t : T} (a : Is K G (.ref q) tk) (e : T.nk tk = some k) (d : k.depth ≤ 8) (b : Is K G v t) : ∀ {xs : NX} {kts : List (T × T)}, IsKn K G xs kts → IsKn K G (xs ++ [(k, q, v)]) (kts ++ [(tk, t)])
  | _, _, .nil => .cons a e d b .nil
  | _, _, .cons a' e' d' b' r => .cons a' e' d' b' (r.snoc a e d b)
end
end TL
namespace TL
open PySem PySem.Spec PyProof.Rows L2
variable [TheW]
section
variable {K : PySem.W.Frag} {M : Mode} {E : XK} {G0 H0 G H G' H' : Hp} {σ : List (Option V)} {τ : List Sl} {r : Xn → Prop}
theorem W2.oo (w : W2 K M G0 H0 G H σ τ) (ok : Ok M G0 H0) {i : Nat} {c : Ow} (h : τ[i]? = some (.oo c)) : ∃ a o, σ[i]? = some (some (.ref a)) ∧ H a = some o ∧ OwIs K G a o c ∧
    ∀ o' c', OwIs K G a o' c' → W2 K M G0 H0 G (upd H a o') σ (τ.set i (.oo c')) := by
  obtain ⟨os, en, ho⟩ := w.en
  obtain ⟨a, o, h1, h2, h3, h4, h5, h6⟩ := en.getO h
  exact ⟨a, o, h1, h3, h5, fun o' c' z => ⟨⟨os, h6 o' c' z, ho⟩, w.go.write ok (ho a h2) h3 h5.mu h4⟩⟩
/-- x.setdefault(key, value), x an own dict of tuples -/
def sNSd (i : Nat) (a b : TEx) : TSx := fun τ k => (∃ kts, τ[i]? = some (.on kts)) ∧ a τ (fun s => b τ (fun u => match τ[i]? with
  | some (.oo (.n kts)) => (∃ ts key, s.fz = .tup ts ∧ T.nk s.fz = some key ∧ key.depth ≤ 8) ∧ kts.length < sizeLine ∧ k.nx (τ.set i (.on (setdT kts s.fz u.fz)))
  | _ => False) k.ex) k.ex
theorem sims_nsetd {i : Nat} {ta tb : TE} {a b : TEx} (ha : SimE K M E ta a) (hb : SimE K M E tb b) : SimS K M E (tDrop (tNSetd K TheW.w (tVar i) ta tb)) (sNSd i a b) := fun G0 H0 ok τ k e σ G H w D d => by
  obtain ⟨⟨kts, ht⟩, e⟩ := e
  obtain ⟨p, o, h1, h2, h3, _⟩ := w.oo ok ht
  cases h3 with
  | n h3 =>
    rename_i xs
    refine ⟨_, h1, ⟨p, xs, rfl, .inl h2, h3.nks (w.w1 ok).ok.sub⟩, ha.data e (w.w1 ok) (fun v G1 H1 s g1 i1 q1 => hb.data q1 ((w.next ok g1).w1 ok) (fun v2 G2 H2 u g2 i2 q2 => ?_) (((d.ex.at w.go)).go g1)) (d.ex.at w.go)⟩
    rw [ht] at q2
    obtain ⟨⟨ts, key, hs, hk, hd⟩, hl, q2⟩ := q2
    have w2 := (w.next ok g1).next ok g2
    obtain ⟨p', o', k1, k2, k3, k4⟩ := w2.oo ok ht
    rw [h1] at k1
    obtain rfl : p = p' := by simpa using k1
    cases k3 with
    | n k3 =>
      rename_i xs'
      have i1' := i1.mono g2.gg
      obtain ⟨b, rfl⟩ : ∃ b, v = .ref b := by
        rw [hs] at i1'
        cases i1' with
        | tup _ _ => exact ⟨_, rfl⟩
      refine ⟨p, xs', b, key, rfl, k2, ⟨rfl, k3.nks (w2.w1 ok).ok.sub, i1'.nk (w2.w1 ok).ok.sub hk, hd⟩, by rw [k3.length]; exact hl, fun v3 hv => ?_, fun hn => ?_⟩
      · rcases k3.val hk with ⟨z, _⟩ | ⟨v4, t4, z1, z2, _⟩
        · rw [z] at hv; cases hv
        · have e5 : setdT kts s.fz u.fz = kts := by unfold setdT; rw [z2]; rfl
          rw [e5, set_back ht] at q2
          exact d.nx σ τ G2 H2 w2 (g1.gg.trans g2.gg) q2
      · rcases k3.val hk with ⟨z, z2⟩ | ⟨v4, t4, z1, z2, _⟩
        · have e5 : setdT kts s.fz u.fz = kts ++ [(s.fz, u.fz)] := by unfold setdT; rw [z2]; rfl
          have e6 : putN xs' key b v2 = xs' ++ [(key, b, v2)] := by unfold putN; rw [z]; rfl
          rw [e5] at q2
          rw [e6]
          exact d.nx σ _ G2 _ (k4 _ _ (.n (k3.snoc i1' hk hd i2))) (g1.gg.trans g2.gg) q2
        · rw [z1] at hn; cases hn
end
end TL
namespace TL
open PySem PySem.Spec PyProof.Rows L2
variable [TheW]
section
variable {K : PySem.W.Frag} {M : Mode} {E : XK} {G0 H0 G H G' H' : Hp} {σ : List (Option V)} {τ : List Sl} {r : Xn → Prop}
/-- the entries of a dict of tuples -/
def T.nd : T → Option (List (T × T))
  | .dn kts => some kts
  | .fdn kts => some kts
  | _ => none
theorem Is.nd {v : V} {t : T} {kts : List (T × T)} (i : Is K G v t) (h : t.nd = some kts) : ∃ a xs, v = .ref a ∧ Rd G a (DN TheW.w a xs) ∧ IsKn K G xs kts := by
  cases i with
  | dn g r => cases h; exact ⟨_, _, rfl, .inl g, r⟩
  | fdn g r => cases h; exact ⟨_, _, rfl, .inr ⟨_, g⟩, r⟩
  | _ => cases h
/-- a tree that can be a key: a tuple -/
def keyT (t : T) : Prop := ∃ ts key, t = .tup ts ∧ T.nk t = some key ∧ key.depth ≤ 8
theorem keyT.ref {v : V} {t : T} (h : keyT t) (i : Is K G v t) : ∃ b key, v = .ref b ∧ T.nk t = some key ∧ key.depth ≤ 8 := by
  obtain ⟨ts, key, rfl, hk, hd⟩ := h
  cases i with
  | tup _ _ => exact ⟨_, key, rfl, hk, hd⟩
def gNGet (a b : TEx) : TEx := fun τ q r => a τ (fun s => b τ (fun u => oks s.fz.nd fun kts => keyT u.fz ∧ oks (lookT kts u.fz) fun t => q (.sh t)) r) r
theorem sim_nget {ta tb : TE} {a b : TEx} (ha : SimE K M E ta a) (hb : SimE K M E tb b) : SimE K M E (tNGet K TheW.w ta tb) (gNGet a b) := fun τ q r e σ G H w Q hq hx =>
  ha.data e w (fun x G1 H1 s g1 ix e1 => hb.data e1 (w.go g1) (fun y G2 H2 u g2 iy e2 => by
    obtain ⟨kts, h1, hk, e2⟩ := oks_cases e2
    obtain ⟨t, h2, e2⟩ := oks_cases e2
    obtain ⟨p, xs, rfl, hd, r1⟩ := (ix.mono g2.gg).nd h1
    obtain ⟨c, key, rfl, hk, hdp⟩ := hk.ref iy
    have s2 := ((w.ok.go g1).go g2).sub
    rcases r1.val hk with ⟨_, z⟩ | ⟨v, t', z1, z2, z3⟩
    · rw [z] at h2; cases h2
    · rw [z2] at h2; cases h2
      exact ⟨p, xs, c, key, v, rfl, s2.rd hd, ⟨rfl, r1.nks s2, iy.nk s2 hk, hdp⟩, z1, hq v (.sh _) G2 H2 (g1.trans g2) z3 e2⟩) (hx.go g1)) hx
def gNIn (f : Bool → Bool) (a b : TEx) : TEx := fun τ q r => a τ (fun s => b τ (fun u => oks u.fz.nd fun kts => keyT s.fz ∧ q (.sh (.bl (f (lookT kts s.fz).isSome)))) r) r
theorem sim_nin {ta tb : TE} {a b : TEx} (ha : SimE K M E ta a) (hb : SimE K M E tb b) : SimE K M E (tNIn K TheW.w ta tb) (gNIn id a b) := fun τ q r e σ G H w Q hq hx =>
  ha.data e w (fun x G1 H1 s g1 ix e1 => hb.data e1 (w.go g1) (fun y G2 H2 u g2 iy e2 => by
    obtain ⟨kts, h1, hk, e2⟩ := oks_cases e2
    obtain ⟨p, xs, rfl, hd, r1⟩ := iy.nd h1
    have ix' := ix.mono g2.gg
    obtain ⟨c, key, rfl, hk, hdp⟩ := hk.ref ix'
    have s2 := ((w.ok.go g1).go g2).sub
    have e3 : (valN xs key).isSome = (lookT kts s.fz).isSome := by
      rcases r1.val hk with ⟨z, z'⟩ | ⟨v, t', z1, z2, z3⟩
      · rw [z, z'] <;> rfl
      · rw [z1, z2] <;> rfl
    exact ⟨p, xs, c, key, rfl, s2.rd hd, ⟨rfl, r1.nks s2, ix'.nk s2 hk, hdp⟩, hq _ (.sh _) G2 H2 (g1.trans g2) (by rw [e3]; exact .bl) e2⟩) (hx.go g1)) hx
theorem sim_nnotin {ta tb : TE} {a b : TEx} (ha : SimE K M E ta a) (hb : SimE K M E tb b) : SimE K M E (tNNotIn K TheW.w ta tb) (gNIn not a b) := fun τ q r e σ G H w Q hq hx =>
  ha.data e w (fun x G1 H1 s g1 ix e1 => hb.data e1 (w.go g1) (fun y G2 H2 u g2 iy e2 => by
    obtain ⟨kts, h1, hk, e2⟩ := oks_cases e2
    obtain ⟨p, xs, rfl, hd, r1⟩ := iy.nd h1
    have ix' := ix.mono g2.gg
    obtain ⟨c, key, rfl, hk, hdp⟩ := hk.ref ix'
    have s2 := ((w.ok.go g1).go g2).sub
    have e3 : (valN xs key).isSome = (lookT kts s.fz).isSome := by
      rcases r1.val hk with ⟨z, z'⟩ | ⟨v, t', z1, z2, z3⟩
      · rw [z, z'] <;> rfl
      · rw [z1, z2] <;> rfl
    exact ⟨p, xs, c, key, rfl, s2.rd hd, ⟨rfl, r1.nks s2, ix'.nk s2 hk, hdp⟩, hq _ (.sh _) G2 H2 (g1.trans g2) (by rw [e3]; exact .bl) e2⟩) (hx.go g1)) hx
end
end TL
namespace TL
open PySem PySem.Spec PyProof.Rows L2
variable [TheW]
section
variable {K : PySem.W.Frag} {M : Mode} {E : XK} {G0 H0 G H G' H' : Hp} {σ : List (Option V)} {τ : List Sl} {r : Xn → Prop}
theorem IsKn.get : ∀ {xs : NX} {kts : List (T × T)} {i : Nat} {p : T × T}, IsKn K G xs kts → kts[i]? = some p → ∃ k q v, xs[i]? = some (k, q, v) ∧ Is K G (.ref q) p.1 ∧ Is K G v p.2
  | _, _, _, _, .nil, e => by simp at e
  | _, _, 0, _, .cons a _ _ b _, e => by simp at e; subst e; exact ⟨_, _, _, rfl, a, b⟩
  | _, _, i + 1, _, .cons _ _ _ _ r, e => by
    obtain ⟨k, q, v, h1, h2, h3⟩ := r.get (i := i) (by simpa using e)
    exact ⟨k, q, v, by simpa using h1, h2, h3⟩
theorem itok_keysN {d : Addr} {o : Obj} {xs : NX} {kts : List (T × T)} (h : G d = some (.frz o (DN TheW.w d xs))) (i : IsKn K G xs kts) : ItOk K M G (ItN TheW.w d o xs) (kts.map (·.1)) := fun G1 H1 s ok j => by
  have hd : H1 d = some (.frz o (DN TheW.w d xs)) := ok.sub _ _ (s _ _ h)
  refine ⟨fun hj => ⟨hd, by rw [i.length]; simpa using hj⟩, fun t ht => ?_⟩
  rw [List.getElem?_map] at ht
  obtain ⟨p, hp, rfl⟩ := Option.map_eq_some_iff.mp ht
  obtain ⟨k, q, v, h1, h2, h3⟩ := i.get hp
  refine ⟨⟨hd, (List.getElem?_eq_some_iff.mp h1).1⟩, fun x H' y => ?_⟩
  obtain ⟨rfl, k', q', v', e1, rfl⟩ := y
  rw [h1] at e1
  cases e1
  exact ⟨G1, .refl ok, h2.mono s⟩
/-- for k in d, d a locked dict of tuples -/
def iWalkN (a : TEx) : TIx := fun τ q r => a τ (fun s => match s.fz with
  | .fdn kts => q (kts.map (·.1))
  | _ => False) r
theorem simi_keysN {te : TE} {a : TEx} (ha : SimE K M E te a) : SimI K M E (iKeysN TheW.w te) (iWalkN a) := fun τ q r e σ G H w R hq hx =>
  ha.data e w (fun v G1 H1 s g1 i e1 => by
    split at e1
    · rename_i kts hs
      rw [hs] at i
      cases i with
      | fdn h r => exact ⟨_, _, _, rfl, g1.sub _ _ h, hq _ _ G1 H1 g1 (itok_keysN h r) e1⟩
    · exact e1.elim) hx
end
end TL
namespace TL
open PySem PySem.Spec PyProof.Rows L2
variable [TheW]
section
variable {K : PySem.W.Frag} {M : Mode} {E : XK} {G0 H0 G H G' H' : Hp} {σ : List (Option V)} {τ : List Sl} {r : Xn → Prop}
/-- locked for good: the tree -/
def Ow.lk : Ow → Option T
  | .d kts => some (.fdc kts)
  | .n kts => some (.fdn kts)
  | .l ts => some (.fls ts)
  | _ => none
def sLk (i : Nat) (a : TSx) : TSx := fun τ k => match τ[i]? with
  | some (.oo c) => oks c.lk fun t => a (τ.set i (.sh t)) k
  | _ => False
theorem OwIs.lk {a : Addr} {o : HO} {c : Ow} {t : T} {od : Obj} (h : OwIs K G a o c) (e : c.lk = some t) (s : Sub G G') (q : G' a = some (.frz od o)) : Is K G' (.ref a) t := by
  cases h with
  | l h => cases e; exact .fls (.inl (.inr ⟨_, q⟩)) (h.mono s)
  | d h => cases e; exact .fdc q (h.mono s)
  | n h => cases e; exact .fdn q (h.mono s)
  | s => cases e
theorem OwIs.mut {a : Addr} {o : HO} {c : Ow} (h : OwIs K G a o c) : Mut (some o) := by
  cases h <;> exact True.intro
theorem sims_lk {i : Nat} {t : TS} {a : TSx} (ha : SimS K M E t a) : SimS K M E (tLockS t) (sLk i a) := fun G0 H0 ok τ k e σ G H w D d => by
  unfold sLk at e
  split at e
  · rename_i c hc
    obtain ⟨t1, ht, e⟩ := oks_cases e
    obtain ⟨os, en, h⟩ := w.en
    obtain ⟨p, o, os', h1, h2, h3, h3', h3'', h4, h5⟩ := en.frz1 hc
    refine ⟨p, o, h1, h3''.mut, fun od => ?_⟩
    have hs : Sub G (upd G p (.frz od o)) := Sub.upd h3
    have e2 : En K (upd G p (.frz od o)) (upd H p (.frz od o)) (σ.set i (some (.ref p))) (τ.set i .no) os' := h4.mono hs (fun b hb u z => by rw [upd_ne (h5 b hb).2]; exact z) fun b hb => by
      rw [upd_ne (h5 b hb).2]
      exact (en.own b (h5 b hb).1).1
    have e3 := e2.putS (i := i) (v := .ref p) (t := t1) (by obtain ⟨hi, _⟩ := List.getElem?_eq_some_iff.mp hc; simp [hi]) (h3''.lk ht hs upd_same)
    rw [set_set, set_set, set_back h3'] at e3
    have g2 := (w.go.write ok (o' := .frz od o) (h p h2) h1 h3''.mu h3).data (h p h2) upd_same h3
    exact ha G0 H0 ok _ k e σ _ _ ⟨⟨os', e3, fun b hb => h b (h5 b hb).1⟩, g2⟩ D (d.mono hs)
  · exact e.elim
end
end TL
namespace TL
open PySem PySem.Spec PyProof.Rows L2
variable [TheW]
section
variable {X : Cx} {M : Mode} {E : XK} {a b : Expr} {ta tb : TE} {ga gb : TEx} {tg : Expr} {pos : Pos} {st : Stmt} {ts : TS} {gs : TSx}
theorem ge_nget (hw : X.w = TheW.w) (hu : X.A.units + 9 < cLine) (ho : GE X M E a ta ga) (hi : GE X M E b tb gb) (hs : NoSl b := by exact fun _ _ => rfl) : GE X M E (.Subscript a b pos) (tNGet X.K TheW.w ta tb) (gNGet ga gb) :=
  ⟨hw ▸ pe_nget hu ho.p hi.p hs, sim_nget ho.s hi.s⟩
theorem gi_keysN (hw : X.w = TheW.w) (ho : GE X M E a ta ga) : GI X M E tg a (iKeysN TheW.w ta) (iWalkN ga) := ⟨hw ▸ pi_keysN ho.p, simi_keysN ho.s⟩
theorem gs_lk (i : Nat) (h : GS X M E st ts gs) : GS X M E st (tLockS ts) (sLk i gs) := ⟨ps_lockS h.p, sims_lk h.s⟩
end
end TL
namespace TL
open PySem PySem.Spec PyProof.Rows L2
variable [TheW]
section
variable {X : Cx} {M : Mode} {E : XK} {a b : Expr} {ta tb : TE} {ga gb : TEx} {pos : Pos}
/-- {}, to be a dict of tuples -/
def gN0 : TEx := fun _ q _ => q (.on [])
theorem ge_n0 (hw : X.w = TheW.w) : GE X M E (.Dict [] [] pos) (tNNew TheW.w) gN0 := ⟨hw ▸ pe_nnew, fun τ q r e σ G H w Q hq _ p hp => hq _ (.on []) G _ (.lay w.ok hp) ⟨p, DN TheW.w p [], rfl, hp, upd_same, w.ok.fresh hp, .n .nil⟩ e⟩
theorem gs_nsetd (i : Nat) {x : Str} {p1 p2 cpos : Pos} (hw : X.w = TheW.w) (hu : X.A.units + 9 < cLine) (ha : GE X M E a ta ga) (hb : GE X M E b tb gb) (m : M2 X (.Name x p1) "setdefault" p2 a b cpos) (hN : X.N[i]? = some x := by rfl) (hv : Vis X.env.scope x := by first | exact Or.inl rfl | exact Or.inr (Or.inl rfl) | exact Or.inr (Or.inr rfl))
    (hd : (x == ("__debug__" : Str)) = false := by decide) (hcd : (x == ("__classdict__" : Str)) = false := by decide)
    (hsw : swapsWith (.Call (.Attribute (.Name x p1) "setdefault" p2) [a, b] [] cpos) none pos.line X.env = pure false := by rfl) :
    GS X M E (.Expr (.Call (.Attribute (.Name x p1) "setdefault" p2) [a, b] [] cpos) pos) (tDrop (tNSetd X.K TheW.w (tVar i) ta tb)) (sNSd i ga gb) :=
  ⟨ps_expr (hw ▸ pe_nsetd hu (pe_var hN hv hd hcd) ha.p hb.p m) hsw, sims_nsetd ha.s hb.s⟩
end
end TL
namespace TL
open PySem PySem.Spec PyProof.Rows L2
variable [TheW]
section
variable {K : PySem.W.Frag} {M : Mode} {E : XK} {G0 H0 G H G' H' : Hp} {σ : List (Option V)} {τ : List Sl} {r : Xn → Prop}
def lookK (kts : List (Key × T)) (k : Key) : Option T := (kts.find? fun x => decide (x.1 = k)).map (·.2)
def putT (kts : List (Key × T)) (k : Key) (t : T) : List (Key × T) := if (kts.any fun kv => decide (kv.1 = k)) = true then kts.map fun kv => if kv.1 = k then (kv.1, t) else kv else kts ++ [(k, t)]
theorem IsKv.length : ∀ {xs : List (Key × V)} {kts : List (Key × T)}, IsKv K G xs kts → xs.length = kts.length
  | _, _, .nil => rfl
  | _, _, .cons _ r => congrArg (· + 1) r.length
theorem IsKv.val {k : Key} : ∀ {xs : List (Key × V)} {kts : List (Key × T)}, IsKv K G xs kts → (valV xs k = none ∧ lookK kts k = none) ∨ ∃ v t, valV xs k = some v ∧ lookK kts k = some t ∧ Is K G v t
  | _, _, .nil => .inl ⟨rfl, rfl⟩
  | _, _, .cons (k := k') b r => by
    unfold valV lookK
    rw [List.find?_cons, List.find?_cons]
    by_cases h : k' = k
    · subst h
      simp only [decide_true, Option.map_some]
      exact .inr ⟨_, _, rfl, rfl, b⟩
    · simp only [h, decide_false]
      exact r.val
theorem IsKv.any {k : Key} : ∀ {xs : List (Key × V)} {kts : List (Key × T)}, IsKv K G xs kts → (xs.any fun kv => decide (kv.1 = k)) = kts.any fun kv => decide (kv.1 = k)
  | _, _, .nil => rfl
  | _, _, .cons b r => by rw [List.any_cons, List.any_cons, r.any]
theorem IsKv.repl {k : Key} {v : V} {t : T} (b : Is K G v t) : ∀ {xs : List (Key × V)} {kts : List (Key × T)}, IsKv K G xs kts → IsKv K G (xs.map fun kv => if kv.1 = k then (kv.1, v) else kv) (kts.map fun kv => if kv.1 = k then (kv.1, t) else kv)
  | _, _, .nil => .nil
  | _, _, .cons (k := k') b' r => by
    rw [List.map_cons, List.map_cons]
    dsimp only
    by_cases h : k' = k
    · rw [if_pos h, if_pos h]; exact .cons b (r.repl b)
    · rw [if_neg h, if_neg h]; exact .cons b' (r.repl b)
theorem IsKv.snoc {k : Key} {v : V} {t : T} (b : Is K G v t) : ∀ {xs : List (Key × V)} {kts : List (Key × T)}, IsKv K G xs kts → IsKv K G (xs ++ [(k, v)]) (kts ++ [(k, t)])
  | _, _, .nil => .cons b .nil
  | _, _, .cons b' r => .cons b' (r.snoc b)
theorem IsKv.put {k : Key} {v : V} {t : T} (b : Is K G v t) {xs : List (Key × V)} {kts : List (Key × T)} (r : IsKv K G xs kts) : IsKv K G (putK xs k v) (putT kts k t) := by
  unfold putK putT
  rw [r.any]
  split
  · exact r.repl b
  · exact r.snoc b
end
end TL
namespace TL
open PySem PySem.Spec PyProof.Rows L2
variable [TheW]
section
variable {K : PySem.W.Frag} {M : Mode} {E : XK} {G0 H0 G H G' H' : Hp} {σ : List (Option V)} {τ : List Sl} {r : Xn → Prop}
/-- d[key] = value, d an own dict of texts -/
def sDp (i : Nat) (a b : TEx) : TSx := fun τ k => (∃ kts, τ[i]? = some (.od kts)) ∧ b τ (fun u => a τ (fun s => match τ[i]?, s.fz with
  | some (.oo (.d kts)), .str z => kts.length < sizeLine ∧ k.nx (τ.set i (.od (putT kts (.inr z) u.fz)))
  | _, _ => False) k.ex) k.ex
theorem sims_dput {i : Nat} {ta tb : TE} {a b : TEx} (ha : SimE K M E ta a) (hb : SimE K M E tb b) : SimS K M E (sDPut (tVar i) ta tb) (sDp i a b) := fun G0 H0 ok τ k e σ G H w D d => by
  obtain ⟨⟨kts, ht⟩, e⟩ := e
  refine hb.data e (w.w1 ok) (fun v G1 H1 u g1 i1 q1 => ?_) (d.ex.at w.go)
  have w1 := w.next ok g1
  obtain ⟨p, o, h1, h2, h3, _⟩ := w1.oo ok ht
  refine ⟨_, h1, ha.data q1 (w1.w1 ok) (fun v2 G2 H2 s g2 i2 q2 => ?_) ((d.ex.at w.go).go g1)⟩
  have w2 := w1.next ok g2
  obtain ⟨p', o', k1, k2, k3, k4⟩ := w2.oo ok ht
  rw [h1] at k1
  obtain rfl : p = p' := by simpa using k1
  rw [ht] at q2
  split at q2
  · rename_i kts' z e1 e2
    cases e1
    rw [e2] at i2
    cases i2
    cases k3 with
    | d k3 => exact ⟨p, _, rfl, DPut.k (k := .inr z) k2 (by rw [k3.length]; exact q2.1), d.nx σ _ G2 _ (k4 _ _ (.d (k3.put (i1.mono g2.gg)))) (g1.gg.trans g2.gg) q2.2⟩
  · exact q2.elim
end
end TL
namespace TL
open PySem PySem.Spec PyProof.Rows L2
variable [TheW]
section
variable {K : PySem.W.Frag} {M : Mode} {E : XK} {G0 H0 G H G' H' : Hp} {σ : List (Option V)} {τ : List Sl} {r : Xn → Prop}
def T.kd : T → Option (List (Key × T))
  | .dct kts => some kts
  | .fdc kts => some kts
  | _ => none
theorem Is.kd {v : V} {t : T} {kts : List (Key × T)} (i : Is K G v t) (h : t.kd = some kts) : ∃ a xs, v = .ref a ∧ Rd G a (.dK xs) ∧ IsKv K G xs kts := by
  cases i with
  | dct g r => cases h; exact ⟨_, _, rfl, .inl g, r⟩
  | fdc g r => cases h; exact ⟨_, _, rfl, .inr ⟨_, g⟩, r⟩
  | _ => cases h
def T.key : T → Option Key
  | .int i => some (.inl i)
  | .str z => some (.inr z)
  | _ => none
theorem Is.key {v : V} {t : T} {k : Key} (i : Is K G v t) (h : t.key = some k) : v = kV k := by
  cases i <;> cases h <;> rfl
def gDget (a b : TEx) : TEx := fun τ q r => a τ (fun s => b τ (fun u => oks s.fz.kd fun kts => oks u.fz.key fun k => oks (lookK kts k) fun t => q (.sh t)) r) r
theorem sim_dget {ta tb : TE} {a b : TEx} (ha : SimE K M E ta a) (hb : SimE K M E tb b) : SimE K M E (tDGet ta tb) (gDget a b) := fun τ q r e σ G H w Q hq hx =>
  ha.data e w (fun x G1 H1 s g1 ix e1 => hb.data e1 (w.go g1) (fun y G2 H2 u g2 iy e2 => by
    obtain ⟨kts, h1, e2⟩ := oks_cases e2
    obtain ⟨k, hk, e2⟩ := oks_cases e2
    obtain ⟨t, h2, e2⟩ := oks_cases e2
    obtain ⟨p, xs, rfl, hd, r1⟩ := (ix.mono g2.gg).kd h1
    have s2 := ((w.ok.go g1).go g2).sub
    rcases r1.val (k := k) with ⟨_, z⟩ | ⟨v, t', z1, z2, z3⟩
    · rw [z] at h2; cases h2
    · rw [z2] at h2; cases h2
      exact ⟨p, v, rfl, .inl ⟨xs, k, s2.rd hd, iy.key hk, z1.symm⟩, hq v (.sh _) G2 H2 (g1.trans g2) z3 e2⟩) (hx.go g1)) hx
end
end TL
/-! TLsa: sets of texts, made of a list; sorted(set(xs)). -/
namespace TL
open PySem PySem.Spec PyProof.Rows L2
/-- an entry's text -/
def tx (e : Int × Value) : Str := strOf e.2
def GoodS (P : Program) (w : World) (e : Int × Value) : Prop := ∃ (k : Str) (u : Tok), e = ((PySem.strKind P w).hash k, Value.str k u)
/-- the set at a holds the texts l -/
structure SS (P : Program) (w : World) (h : Heap) (a : Addr) (l : List Str) : Prop where
  got : ∃ (o : Obj) (es : Array (Int × Value)) (ep : Nat) (t : SetTable), h.get? a = some o ∧ o.ExactSet ∧ o.data = .set es ep t ∧ (∀ e ∈ es.toList, GoodS P w e) ∧ (es.toList.map tx).Perm l ∧
    es.size < scanBound ∧ t.fits es.size = true ∧ Ris t.place.toList ∧ (w.params.followText "set-order" = true ∨ t.led = true)
  nd : l.Nodup
section
variable {P : Program} {w : World} {A : Around} {E : Value → Shared → Prop} {s : Shared} {a : Addr} {l : List Str}
theorem SS.keep {h h' : Heap} (R : SS P w h a l) (k : ∀ o, h.get? a = some o → h'.get? a = some o) : SS P w h' a l := by
  obtain ⟨⟨o, es, ep, t, ho, r⟩, nd⟩ := R
  exact ⟨⟨o, es, ep, t, k o ho, r⟩, nd⟩
theorem goodS_elems {m : List (Int × Value)} (g : ∀ e ∈ m, GoodS P w e) : ElemsOf (PySem.strKind P w) m := fun e he => by
  obtain ⟨k, u, rfl⟩ := g e he
  exact ⟨⟨k, strKind_is P w k u, rfl⟩, rfl⟩
theorem goodS_is {e : Int × Value} (g : GoodS P w e) (k : Str) : (PySem.strKind P w).is k e.2 = true ↔ tx e = k := by
  obtain ⟨k0, u, rfl⟩ := g
  rw [KeyKind.is_eq_decide (strKind_is P w k0 u) k, decide_eq_true_eq]
  exact ⟨fun z => z.symm, fun z => z.symm⟩
theorem goodS_mem {m : List (Int × Value)} (g : ∀ e ∈ m, GoodS P w e) (k : Str) : k ∈ m.map tx ↔ ∃ e ∈ m, (PySem.strKind P w).is k e.2 = true := by
  rw [List.mem_map]
  exact ⟨fun ⟨e, he, q⟩ => ⟨e, he, (goodS_is (g e he) k).2 q⟩, fun ⟨e, he, q⟩ => ⟨e, he, (goodS_is (g e he) k).1 q⟩⟩
theorem ss_tail {g : Bool → Sem Unit} (hg : ∀ (b : Bool) (s1 : Shared) (Z : Unit → Shared → Prop), Z () s1 → wpAny (model P w) A (g b) Z E s1) {o : Obj} {es : Array (Int × Value)} {ep : Nat} {t : SetTable} (ho : s.heap.get? a = some o) (hex : o.ExactSet) (hd : o.data = .set es ep t)
    {es1 : Array (Int × Value)} {t2 : SetTable} (nd : l.Nodup) (g1 : ∀ e ∈ es1.toList, GoodS P w e) (pm1 : (es1.toList.map tx).Perm l) (hb1 : es1.size < scanBound) (hf2 : t2.fits es1.size = true) (hr : Ris t2.place.toList) (hl : w.params.followText "set-order" = true ∨ t2.led = true)
    {wd : Bool} {R : Option Bool → Shared → Prop} (hR : ∀ h', Heap.SameBut a s.heap h' → SS P w h' a l → R (some true) { s with heap := h' }) :
    wpAny (model P w) A (do
        storeSet a es1 t2; if (!wd && t2.tooFull) = true then do { g (relayAll t2 es1 (SetTable.grown es1.size)).2.2; storeSet a (relayAll t2 es1 (SetTable.grown es1.size)).1 (relayAll t2 es1 (SetTable.grown es1.size)).2.1; pure (some true) } else pure (some true)) R E s := by
  refine wpAny_bind (wpAny_storeSet_of ho hd ?_ (fits_of_scanBound hb1))
  have k1 := store_at (es' := es1) (t' := t2) ho hd
  have b1 := Heap.SameBut.update s.heap a (Obj.putSet es1 t2)
  split
  · have z1 := relayAll_perm t2 es1 (SetTable.grown es1.size)
    have z2 := relayAll_fits t2 es1 (SetTable.grown es1.size)
    have z3 := relayAll_ris t2 es1 (SetTable.grown es1.size)
    have z4 := relayAll_led t2 es1 (SetTable.grown es1.size)
    generalize relayAll t2 es1 (SetTable.grown es1.size) = Z at z1 z2 z3 z4 ⊢
    obtain ⟨es2, t3, gv⟩ := Z
    dsimp only at z1 z2 z3 z4 ⊢
    have y : es2.size = es1.size := by rw [← Array.length_toList, z1.length_eq, Array.length_toList]
    refine wpAny_bind (hg _ _ _ (wpAny_bind (wpAny_storeSet_of k1 rfl ?_ (fits_of_scanBound (y ▸ hb1)))))
    have k2 := store_at (es' := es2) (t' := t3) k1 rfl
    refine wpAny_pure (hR _ (b1.trans (Heap.SameBut.update _ a _)) ⟨⟨_, es2, _, t3, k2, hex, rfl, fun e he => g1 e (z1.mem_iff.mp he), (z1.map tx).trans pm1, y ▸ hb1, z2, z3, ?_⟩, nd⟩)
    exact hl.imp id fun q => by rw [z4]; exact q
  · exact wpAny_pure (hR _ b1 ⟨⟨_, es1, _, t2, k1, hex, rfl, g1, pm1, hb1, hf2, hr, hl⟩, nd⟩)
theorem ss_add {k : Str} {u : Tok} {Q : Bool → Shared → Prop} (R : SS P w s.heap a l) (room : l.length + 1 < scanBound) (hQ : ∀ b h', Heap.SameBut a s.heap h' → SS P w h' a (if k ∈ l then l else k :: l) → Q b { s with heap := h' }) :
    wpAny (model P w) A (setAddHashed a (.str k u) ((PySem.strKind P w).hash k)) Q E s := by
  obtain ⟨⟨o, es, ep, t, ho, hex, hd, g, pm, hb, hf, hr, hl⟩, nd⟩ := R
  have c1 : (PySem.strKind P w).is k (.str k u) = true := strKind_is P w k u
  have c2 : (Value.str k u).scannable = true := rfl
  have c3 : ElemsOf (PySem.strKind P w) es.toList := goodS_elems g
  unfold setAddHashed setAddHashedIn
  refine wpAny_holding (wpAny_bind (wpAny_setState_of ho hd hf ?_))
  dsimp only
  rw [byScan_of c2 hb c3]
  simp only [↓reduceIte]
  unfold setAddByScan
  refine wpAny_bind (wpAny_bind (wpAny_rule (wpAny_bind (wpAny_setScan_of c1 ho hd hf c3 ?_))))
  cases hfi : List.findIdx? (fun e => (PySem.strKind P w).is k e.2) es.toList with
  | some j =>
    dsimp only
    obtain ⟨hj, pj, _⟩ := List.findIdx?_eq_some_iff_getElem.mp hfi
    have hk : k ∈ l := pm.mem_iff.mp ((goodS_mem g k).2 ⟨es.toList[j], List.getElem_mem hj, pj⟩)
    have q := hQ false s.heap (Heap.SameBut.refl a s.heap) (by rw [if_pos hk]; exact ⟨⟨o, es, ep, t, ho, hex, hd, g, pm, hb, hf, hr, hl⟩, nd⟩)
    exact wpAny_pure (wpAny_pure q)
  | none =>
    dsimp only
    have hnk : k ∉ l := fun z => by
      obtain ⟨e, he, q⟩ := (goodS_mem g k).1 (pm.mem_iff.mpr z)
      have c := List.findIdx?_eq_none_iff.mp hfi e he
      rw [q] at c
      cases c
    have gv : ∀ (b : Bool) {s1 : Shared} {Z : Unit → Shared → Prop}, Z () s1 → wpAny (model P w) A (match b with | true => rule "set.scan.the-table-gave-way" | false => pure ()) Z E s1 := fun b s1 Z q => by
      cases b
      · exact wpAny_pure q
      · exact wpAny_rule q
    have z1 := layNew_perm t es ((PySem.strKind P w).hash k) (.str k u)
    have z2 := layNew_fits t es ((PySem.strKind P w).hash k) (.str k u)
    have z3 := layNew_ris t es ((PySem.strKind P w).hash k) (.str k u) hr
    have z4 := layNew_led t es ((PySem.strKind P w).hash k) (.str k u)
    generalize layNew t es ((PySem.strKind P w).hash k) (.str k u) = Z at z1 z2 z3 z4 ⊢
    obtain ⟨es1, t1, wd, gave⟩ := Z
    dsimp only at z1 z2 z3 z4 ⊢
    rw [Array.toList_push] at z1
    have pc : es1.toList.Perm (((PySem.strKind P w).hash k, Value.str k u) :: es.toList) := z1.trans (List.perm_append_singleton _ _)
    have pk : (es1.toList.map tx).Perm (k :: l) := (pc.map tx).trans (pm.cons k)
    have g1 : ∀ e ∈ es1.toList, GoodS P w e := fun e he => by
      rcases List.mem_cons.mp (pc.mem_iff.mp he) with z | z
      · exact ⟨k, u, z⟩
      · exact g e z
    have nd1 : (k :: l).Nodup := List.nodup_cons.mpr ⟨hnk, nd⟩
    have hb1 : es1.size < scanBound := by
      have q := pk.length_eq
      rw [List.length_map, Array.length_toList, List.length_cons] at q
      omega
    have hled : w.params.followText "set-order" = true ∨ t1.led = true := hl.imp id fun z => by rw [z4]; exact z
    have fin : ∀ h', Heap.SameBut a s.heap h' → SS P w h' a (k :: l) → Q true { s with heap := h' } := fun h' sb r => hQ true h' sb (by rw [if_neg hnk]; exact r)
    refine wpAny_bind (gv _ ?_)
    split
    · refine wpAny_bind ?_
      rw [hashByValue_scannable 8 c2]
      refine wpAny_pure (ss_tail (fun b s1 Z q => ?_) ho hex hd nd1 g1 pk hb1 ?_ ?_ ?_ fun h' sb r => ?_)
      · cases b
        · exact wpAny_pure q
        · exact wpAny_rule q
      · first | (split <;> first | exact z2 | exact SetTable.fits_plain_off z2) | exact z2
      · first | (split <;> exact z3) | exact z3
      · first | (split <;> exact hled) | exact hled
      · dsimp only
        exact wpAny_pure (fin h' sb r)
    · refine wpAny_bind (wpAny_pure ?_)
      simp only [↓reduceIte]
      refine ss_tail (fun b s1 Z q => ?_) ho hex hd nd1 g1 pk hb1 z2 z3 hled fun h' sb r => ?_
      · cases b
        · exact wpAny_pure q
        · exact wpAny_rule q
      · dsimp only
        exact wpAny_pure (fin h' sb r)
end
end TL
/-! TLsb: set(xs) of a list of texts; sorted of such a set. -/
namespace TL
open PySem PySem.Spec PyProof.Rows L2
/-- what the set holds of the first i texts -/
structure Part (P : Program) (w : World) (h : Heap) (a : Addr) (ns : List Str) (i : Nat) : Prop where
  ex : ∃ l, SS P w h a l ∧ (∀ x, x ∈ l ↔ x ∈ ns.take i) ∧ l.length ≤ i
section
variable {P : Program} {w : World} {A : Around} {E : Value → Shared → Prop} {s : Shared} {a : Addr} {l : List Str}
theorem strs_get : ∀ {vs : List Value} {ns : List Str}, StrsAre vs ns → ∀ {i : Nat} {v : Value}, vs[i]? = some v → ∃ k u, ns[i]? = some k ∧ v = .str k u
  | _, _, .nil, i, v, h => by simp at h
  | _, _, .cons k u r, 0, v, h => ⟨k, u, rfl, by simpa using h.symm⟩
  | _, _, .cons k u r, i + 1, v, h => by
    obtain ⟨k', u', h1, h2⟩ := strs_get r (i := i) (by simpa using h)
    exact ⟨k', u', by simpa using h1, h2⟩
theorem ss_loop {I : Addr} {fp wr : List Addr} {G : Array GenState → Array GenState → Prop} {n : Nat} {Pv : Nat → Value → Prop} {St : Nat → Shared → Prop} {R : Result → Shared → Prop} (W : WalksS P w A.in1 I fp wr G n Pv St) (S : Addr) (nf : S ∉ fp) (ns : List Str) (hn : n = ns.length) (hb : ns.length + 1 < scanBound)
    (hv : ∀ i v, Pv i v → ∃ k u, ns[i]? = some k ∧ v = .str k u) : ∀ (m i : Nat) (s : Shared), n - i = m → i ≤ n → St i s → Part P w s.heap S ns i → (∀ s', Moved (S :: wr) G s s' → Part P w s'.heap S ns n → R (.ok (.ret .none)) s') →
      codeAny (model P w) A (.builtin "set.update.loop" ⟨[.ref S, .ref I], []⟩) R s := by
  have nw : S ∉ wr := fun h => nf (W.sub _ h)
  have up : ∀ b ∈ wr, b ∈ S :: wr := fun b hb => List.mem_cons_of_mem _ hb
  intro m
  induction m with
  | zero =>
    intro i s hm hi st p hR
    obtain rfl : i = n := by omega
    refine codeAny_builtin F.entry_set_update_loop ?_
    rw [Around.under_plainId F.plain_set_update_loop _]
    show wpAny _ A.in1 (pyNext (.ref I) >>= _) _ _ s
    refine wpAny_bind (W.done s _ _ st fun s' mv => ?_)
    show wpAny _ A.in1 (ret Value.none) _ _ s'
    obtain ⟨l, R1, m1, m2⟩ := p.ex
    exact wpAny_pure (hR s' (mv.mono up) ⟨l, R1.keep fun o e => mv.heap S o nw e, m1, m2⟩)
  | succ m ih =>
    intro i s hm hi st p hR
    have lt : i < n := by omega
    obtain ⟨l, R1, m1, m2⟩ := p.ex
    refine codeAny_builtin F.entry_set_update_loop ?_
    rw [Around.under_plainId F.plain_set_update_loop _]
    show wpAny _ A.in1 (pyNext (.ref I) >>= _) _ _ s
    refine wpAny_bind (W.item i s _ _ lt st fun v s' pv st' mv => ?_)
    obtain ⟨k, u, hk, rfl⟩ := hv i v pv
    have R2 := R1.keep fun o e => mv.heap S o nw e
    show wpAny _ A.in1 (holding [Value.str k u] (setAdd S (.str k u)) >>= _) _ _ s'
    refine wpAny_bind (wpAny_holding ?_)
    unfold setAdd
    refine wpAny_holding (wpAny_bind ((PySem.strKind P w).pyHash (k := k) (strKind_is _ _ _ _) ?_))
    refine ss_add (s := { s' with toks := s'.toks + 1 }) R2 (by omega) fun _ h' sb R3 => ?_
    have p3 : Part P w h' S ns (i + 1) := by
      refine ⟨_, R3, fun x => ?_, ?_⟩
      · rw [List.take_add_one, hk, List.mem_append, ← m1 x]
        split
        · rename_i q
          exact ⟨.inl, fun z => z.elim id fun z => by rw [List.mem_singleton.mp z]; exact q⟩
        · rw [List.mem_cons]
          exact ⟨fun z => z.elim (fun z => .inr (by rw [z]; exact List.mem_singleton.mpr rfl)) .inl, fun z => z.elim .inr fun z => .inl (List.mem_singleton.mp z)⟩
      · split
        · omega
        · rw [List.length_cons]; omega
    refine wpAny_pure ⟨plainId_quiet F.plain_set_update_loop _, ih (i + 1) _ (by omega) lt (W.frame _ s' _ _ st' (Nat.le_succ _) fun b hb o e => ?_) p3 fun s'' mv2 p4 => hR s'' ?_ p4⟩
    · exact (sb.2 b fun z => nf (z ▸ hb)).trans e
    · exact Moved.trans W.gtrans ((mv.mono up).then_heap (Nat.le_succ _) fun b o hb e => (sb.2 b fun z => hb (z ▸ List.mem_cons_self)).trans e) mv2
/-- a new set's object -/
abbrev nwS (w : World) : Obj := { cls := .type "set", dict := none, data := .set #[] 0 (.fresh 0 0 (!w.params.followText "set-order")) }
theorem ss_nil {h : Heap} (e : h.get? a = some (nwS w)) : SS P w h a [] :=
  ⟨⟨_, #[], 0, _, e, ⟨rfl, rfl, rfl⟩, rfl, (fun e he => by simp at he), .nil, (by decide), (by rfl), List.Pairwise.nil, by
    show _ ∨ (!w.params.followText "set-order") = true
    cases w.params.followText "set-order"
    · exact .inr rfl
    · exact .inl rfl⟩, List.nodup_nil⟩
set_option maxHeartbeats 3200000 in
theorem ss_make {b : Addr} {items : Array Value} (ns : List Str) {Q : Value → Shared → Prop} (hh : A.handled = none) (hl : s.heap.IsList b items) (hit : StrsAre items.toList ns) (hb : ns.length + 1 < scanBound)
    (h : ∀ (h' : Heap) (tk : Nat), Part P w h' s.heap.objs.size ns ns.length → (∀ c o, s.heap.get? c = some o → h'.get? c = some o) → Q (.ref s.heap.objs.size) { s with heap := h', toks := tk }) :
    wpAny (model P w) A (call (.type "set") [.ref b]) Q E s := by
  have isz : items.size = ns.length := by rw [← StrsAre.len_eq hit, Array.length_toList]
  obtain ⟨c, tl, hmro⟩ := F.called_set.mro
  have d1 := F.called_set.made
  have d2 := F.called_set.sub
  refine wpAny_call (codeAny_of_tree (show wpAny _ _ (callAny (.type "set") _) _ _ _ from ?_))
  refine wpAny_pure ⟨Code.quiet_builtin _ (by decide +kernel), codeAny_builtin F.entry_type_call ?_⟩
  rw [Around.under_plain (weight_type_call_type "set" [.ref b] []) rfl]
  have d3 := F.called_set.notType
  have d4 := F.called_set.canCreate
  have d5 := F.typeCall_set_1 (.ref b)
  repeat (any_goals (first | assumption | wp_step))
  refine codeAny_mono (code_set_led1 (.ref b) (E := E) (Q₁ := fun x s1 => x = .ref s.heap.objs.size ∧ s1 = { s with heap := s.heap.push (nwS w) }) ⟨rfl, rfl⟩) fun r s1 hr => ?_
  cases r with
  | error e => exact hr
  | ok fl =>
    cases fl with
    | ret obj =>
      obtain ⟨rfl, rfl⟩ := hr
      have gS : (s.heap.push (nwS w)).get? s.heap.objs.size = some (nwS w) := Heap.get?_push_size _ rfl
      have gT : Shared.TypeIs { s with heap := s.heap.push (nwS w) } (.ref s.heap.objs.size) "set" := ⟨_, gS, rfl⟩
      have d6 := F.called_set.init.lookup
      have d7 := F.called_set.init.bind (.ref s.heap.objs.size)
      repeat (any_goals (first | assumption | wp_step))
      refine codeAny_mono (codeAny_call_builtin (R := wants (fun r s2 => r = .none ∧ ∃ h' tk, s2 = { s with heap := h', toks := tk } ∧ Part P w h' s.heap.objs.size ns ns.length ∧ (∀ c o, s.heap.get? c = some o → h'.get? c = some o)) E) F.called_set.init.plain F.entry_set_init (check_set_init_1 gT ?_)) fun r2 s2 hr2 => ?_
      · obtain ⟨⟨oc, od, odt, osl⟩, hol, hcl, nl, hdl⟩ := hl
        simp only at hcl hdl
        subst hcl; subst hdl
        have hol' : (s.heap.push (nwS w)).get? b = some { cls := .type "list", dict := od, data := .seq items nl, slots := osl } := Heap.get?_push_of_some _ hol
        have d8 := F.sub_list_set
        have d9 := F.sub_list_frozenset
        have dd : (Value.type "list" == Value.type "dict") = false := by decide
        have l1 : (s.heap.push (nwS w)).IsList b items := ⟨_, hol', rfl, nl, rfl⟩
        unfold Builtin.«set.__init__» noKeywords Builtin.Frozenset.updateFrom
        generalize hPI : pyIter = PI
        wp_walk
        subst hPI
        refine wpAny_pyIter_list l1 (wpAny_bind (wpAny_runValue ?_))
        have lS : b < s.heap.objs.size := Heap.lt_size hol
        have h3 : A.in1.in1.in1.handled = none := by simp [hh]
        have nI : b ≠ (s.heap.push (nwS w)).objs.size := by
          rw [Heap.size_push]; exact Nat.ne_of_lt (Nat.lt_succ_of_lt lS)
        have nf : s.heap.objs.size ∉ [(s.heap.push (nwS w)).objs.size, b] := by
          rw [Heap.size_push]; simp only [List.mem_cons, List.mem_singleton, List.not_mem_nil, or_false, not_or]
          exact ⟨Nat.ne_of_lt (Nat.lt_succ_self _), Nat.ne_of_gt lS⟩
        refine ss_loop ((Walks.list h3 _ b nI items).toS) s.heap.objs.size nf ns isz hb (fun i v hv => strs_get hit (by rw [Array.getElem?_toList]; exact hv)) (items.size - 0) 0 _ (by omega) (Nat.zero_le _) ⟨⟨_, Heap.get?_push_size _ rfl, rfl, rfl⟩, (l1.push _)⟩ ?k0 ?kR
        case k0 => exact ⟨[], ss_nil (Heap.get?_push_of_some _ gS), fun x => by simp, Nat.le_refl _⟩
        case kR =>
          intro s' mv p
          obtain ⟨h', g2, d', tk', os'⟩ := s'
          have eg : g2 = s.gens := mv.gens
          have ed : d' = s.drawn := mv.drawn
          have eo : os' = s.os := mv.os
          subst eg; subst ed; subst eo
          show wpAny _ _ _ _ _ _
          refine wpAny_pure ?_
          show wpAny _ _ (ret Value.none) _ _ _
          rw [isz] at p
          refine wpAny_pure ⟨rfl, h', tk', rfl, p, fun c o e => ?_⟩
          have lc : c < s.heap.objs.size := Heap.lt_size e
          refine mv.heap c o ?_ (Heap.get?_push_of_some _ (Heap.get?_push_of_some _ e))
          rw [Heap.size_push]; simp only [List.mem_cons, List.mem_singleton, List.not_mem_nil, or_false, not_or]
          exact ⟨Nat.ne_of_lt lc, Nat.ne_of_lt (Nat.lt_succ_of_lt lc)⟩
      · cases r2 with
        | error e => exact hr2
        | ok fl2 =>
          cases fl2 with
          | ret r =>
            obtain ⟨rfl, h', tk, rfl, p, k'⟩ := hr2
            repeat (any_goals (first | assumption | wp_step))
            exact h _ _ p k'
          | _ => exact hr2.elim
    | _ => exact hr.elim
/-! ### sorted -/
theorem strs_of : ∀ (l : List Value), (∀ v ∈ l, ∃ k u, v = Value.str k u) → StrsAre l (l.map strOf) := fun l h => strsAre_map l h
/-- sorted(xs), texts, any number of them -/
theorem sorted_strsA {b : Addr} {vs : List Value} {ss : List Str} {Q : Value → Shared → Prop} (hl : s.heap.IsList b vs.toArray) (hS : StrsAre vs ss) (hz : vs.length ≤ sizeLine)
    (h : ∀ (out : Array Value) (ss' : List Str), StrsAre out.toList ss' → ss'.Perm ss → sortedS ss' = true → Q (.ref (s.heap.objs.size + 1)) { s with heap := sortedAll s.heap vs out }) :
    wpAny (model P w) A (call (.builtin "sorted") [.ref b]) Q E s :=
  sortedKAny strKind_oneLt hl hS.keysOf (fun v1 v2 rest e => keyKind_strs (by rw [← e]; exact hS)) hz fun st' hp hs => by
    obtain ⟨ss', h1, h2, h3⟩ := sorted_out_str hS hp hs
    exact h _ ss' h1 h2 h3
end
end TL
/-! TLsc: rules: set(xs), sorted(set), sorted(xs), of texts. -/
namespace TL
open PySem PySem.Spec PyProof.Rows L2
def SetS (P : Program) (w : World) (a : Addr) (l : List Str) : HO := .ext fun h => SS P w h a l
theorem setS_new {P : Program} {w : World} {H : Hp} {h : Heap} {a : Addr} {l : List Str} (R : SS P w h a l) : ObjOk P w H h a (SetS P w a l) := by
  have ⟨⟨o, _, _, _, ho, _⟩, _⟩ := R
  exact ⟨R, ⟨o, ho⟩, fun h1 h2 p k => SS.keep p k⟩
/-- as list.sort leaves them -/
theorem sort_out_strs {P : Program} {w : World} {A : Around} {E : Value → Shared → Prop} {s : Shared} {a : Addr} {vs : List Value} {ss : List Str} {n : Nat} {R : PySem.Fin → Shared → Prop} (ho : s.heap.get? a = some (seqObj "list" vs.toArray n)) (hS : StrsAre vs ss) (hz : vs.length ≤ sizeLine)
    (h : ∀ (out : Array Value) (ss' : List Str), StrsAre out.toList ss' → ss'.Perm ss → sortedS ss' = true → R (.done (.ret .none)) { s with heap := sortedHeap s.heap a vs out }) : wpAny (model P w) A (Builtin.«list.sort» ⟨[.ref a], []⟩) R E s :=
  list_sort_treeKAny strKind_oneLt ho hS.keysOf (fun v1 v2 rest e => keyKind_strs (by rw [← e]; exact hS)) hz fun st' hp hs => by
    obtain ⟨ss', h1, h2, h3⟩ := sorted_out_str hS hp hs
    exact h _ ss' h1 h2 h3
theorem sorted_ss {P : Program} {w : World} {A : Around} {E : Value → Shared → Prop} {s : Shared} {a : Addr} {l : List Str} {Q : Value → Shared → Prop} (R : SS P w s.heap a l) (hh : A.handled = none)
    (hQ : ∀ s' p (out : Array Value) (c : Nat) (ns : List Str), (∀ b o, s.heap.get? b = some o → s'.heap.get? b = some o) → s'.gens = s.gens → s'.os = s.os → s.heap.objs.size ≤ p → s'.heap.get? p = some (seqObj "list" out c) → StrsAre out.toList ns → ns.Perm l → sortedS ns = true → Q (.ref p) s') :
    wpAny (model P w) A (call (.builtin "sorted") [.ref a]) Q E s := by
  obtain ⟨⟨o, es, ep, t, ho, hex, hd, g, pm, hb, hf, hr, hl⟩, nd⟩ := R
  refine Calls.call_function_entry kind_sorted plain_sorted entry_sorted (args_sorted1 _) ?_
  unfold Builtin.«sorted»
  refine wpAny_bind (m := checkCount "sorted" 1 1 _) (wpAny_pure (wpAny_bind (collect_set (A := A.in1) hh ⟨o, ho, hex.1, hd⟩ hf hb hr hl fun s1 vs k1 hz g1 o1 pv => ?_)))
  have hv : vs.length = es.size := by rw [pv.length_eq, List.length_map, Array.length_toList]
  have hI : StrsAre vs (vs.map strOf) := strs_of vs fun v hv => by
    obtain ⟨e, he, q⟩ := List.mem_map.mp (pv.mem_iff.mp hv)
    obtain ⟨k, u, rfl⟩ := g e he
    exact ⟨k, u, q.symm⟩
  have pk : (vs.map strOf).Perm l := by
    have q := pv.map strOf
    rw [List.map_map] at q
    exact q.trans pm
  have hz2 : vs.length ≤ sizeLine := by rw [hv]; exact fits_of_scanBound hb
  refine wpAny_bind (wpAny_newList ?_ hz2)
  have hoL : (s1.heap.push (seqObj "list" vs.toArray 0)).get? s1.heap.objs.size = some (seqObj "list" vs.toArray 0) := Heap.get?_push_size _ rfl
  refine wpAny_bind (wpAny_holding (wpAny_call_entry slot_list_sort ⟨_, hoL, rfl⟩ entry_list_sort (sort_out_strs hoL hI hz2 fun out ns' a1 a2 a3 => ⟨_, rfl, ?_⟩) (args_list_sort _)))
  obtain ⟨c, hc⟩ := sortedHeap_at (vs := vs) (out := out) hoL
  refine wpAny_pure ⟨_, rfl, hQ _ s1.heap.objs.size out c ns' (fun b u e => ?_) g1 o1 hz hc a1 (a2.trans pk) a3⟩
  have q := k1 b u e
  have lt := Heap.lt_size q
  show (sortedHeap (s1.heap.push (seqObj "list" vs.toArray 0)) s1.heap.objs.size vs out).get? b = some u
  rw [sortedHeap_old (Nat.ne_of_lt lt) (by rw [size_push']; exact Nat.lt_succ_of_lt lt)]
  exact Heap.get?_push_of_some _ q
section
variable {X : Cx}
/-- set(xs), texts -/
def rSetOfS (K : PySem.W.Frag) (P : Program) (w : World) : List V → Hp → VK → Prop := fun xs H Q => ∃ (b : Addr) (ns : List Str), xs = [V.ref b] ∧ SqL K H b (ns.map V.str) ∧ ns.length + 1 < scanBound ∧
  ∀ p l, H p = none → l.Nodup → (∀ x, x ∈ l ↔ x ∈ ns) → Q (.ref p) (upd H p (SetS P w p l))
theorem cr_setOfS (hc : X.calm = true) : CallR X (.type "set") (rSetOfS X.K X.prog X.w) := by
  intro pins s σ H xs us Q I r h
  obtain ⟨b, ns, rfl, hs, hb, q⟩ := h
  obtain ⟨its, rv, hl, hz⟩ := I.list hs
  rw [Vals.ref1 r]
  refine ss_make (P := X.prog) (w := X.w) ns (I.ok.hd hc) hl.isList rv.strs hb fun h' tk p k => ?_
  obtain ⟨l, R, m1, m2⟩ := p.ex
  rw [List.take_length] at m1
  exact ⟨.ref _, upd H s.heap.objs.size (SetS X.prog X.w s.heap.objs.size l), I.laid (t' := tk) k (Nat.le_refl _) (setS_new R), rfl, q _ l (I.hok.fresh (Nat.le_refl _)) R.nd m1⟩
/-- sorted(set(xs)) -/
def rSortedOfS (P : Program) (w : World) : List V → Hp → VK → Prop := fun vs H Q => ∃ (a : Addr) (l : List Str), vs = [V.ref a] ∧ H a = some (SetS P w a l) ∧ ∀ (ys : List Str) (p : Addr), ys.Perm l → sortedS ys = true → H p = none → Q (.ref p) (upd H p (.lst (ys.map V.str)))
theorem cr_sortedOfS (hc : X.calm = true) : CallR X (.builtin "sorted") (rSortedOfS X.prog X.w) := by
  intro pins s σ H vs us Q I r h
  obtain ⟨a, l, rfl, ha, q⟩ := h
  have R : SS X.prog X.w s.heap a l := (I.hok a _ ha).1
  rw [Vals.ref1 r]
  have small : l.length ≤ sizeLine := by
    obtain ⟨⟨_, es, _, _, _, _, _, _, pm, hb, _⟩, _⟩ := R
    rw [← pm.length_eq, List.length_map, Array.length_toList]
    exact fits_of_scanBound hb
  refine sorted_ss R (I.ok.hd hc) fun s' p out c ns k g o hp hg hi pm sd => ?_
  have hlen : (ns.map V.str).length ≤ sizeLine := by rw [List.length_map, pm.length_eq]; exact small
  have hn : H p = none := I.hok.fresh hp
  have J : Inv X pins σ (upd H p (.lst (ns.map V.str))) { s with heap := s'.heap, gens := s'.gens, drawn := s'.drawn, toks := s'.toks } :=
    I.call (ch := []) (Un.laid k hp hn) (I.hok.laid k hp ⟨hlen, out.toList, c, vals_of_strs hi, hg⟩) (by rw [g]; exact I.bare) (fun _ z => nomatch z)
  have e : s' = { s with heap := s'.heap, gens := s'.gens, drawn := s'.drawn, toks := s'.toks } := by
    cases s'; cases s; cases o; rfl
  rw [e]
  exact ⟨.ref p, _, J, rfl, q ns p pm sd hn⟩
/-- sorted(xs), texts, any number of them -/
def rSortedA (K : PySem.W.Frag) : List V → Hp → VK → Prop := fun vs H Q => ∃ (a : Addr) (xs : List Str), vs = [V.ref a] ∧ SqL K H a (xs.map V.str) ∧ ∀ (ys : List Str) (p : Addr), ys.Perm xs → sortedS ys = true → H p = none → Q (.ref p) (upd H p (.lst (ys.map V.str)))
theorem cr_sortedA : CallR X (.builtin "sorted") (rSortedA X.K) := by
  intro pins s σ H vs us Q I r h
  obtain ⟨a, xs, rfl, hs, q⟩ := h
  obtain ⟨its, rv, hl, hz⟩ := I.list hs
  rw [Vals.ref1 r]
  refine sorted_strsA hl.isList rv.strs (by rw [← rv.length]; exact hz) fun out ys h1 h2 h3 => ?_
  obtain ⟨ep, he⟩ := sortedAll_at s.heap its out
  have hlen : (ys.map V.str).length ≤ sizeLine := by
    rw [List.length_map, h2.length_eq]
    rw [List.length_map] at hz
    exact hz
  exact ⟨.ref _, upd H (s.heap.objs.size + 1) (.lst (ys.map V.str)), I.laid (t' := s.toks) (fun _ _ => sortedAll_old) (Nat.le_succ _) ⟨hlen, out.toList, ep, vals_of_strs h1, he⟩, rfl, q ys _ h2 h3 (I.hok.fresh (Nat.le_succ _))⟩
end
end TL
/-! TLsd: a lambda of one parameter, called by a built-in. -/
namespace TL
open PySem PySem.Spec PyProof.Rows L2
/-- one parameter p, no other name of its own -/
structure Lam1 (p : Str) (sc scope : Scope) : Prop where
  kind : scope.kind = .function
  co : scope.isCoroutine = false
  gen : scope.isGenerator = false
  par : scope.names.lookup p = some .local
  own : ∀ y ∈ scope.names, y.2 ≠ .cell ∧ (y.2 = .local → y.1 = p)
  free : ∀ y ∈ scope.names, y.2 = .free → sc.names.lookup y.1 = some .cell ∨ sc.names.lookup y.1 = some .free
def lam1B (p : Str) (sc scope : Scope) : Bool :=
  decide (scope.kind = .function) && !scope.isCoroutine && !scope.isGenerator && decide (scope.names.lookup p = some .local) && scope.names.all fun y => !decide (y.2 = .cell) && (!decide (y.2 = .local) || decide (y.1 = p)) && (!decide (y.2 = .free) || decide (sc.names.lookup y.1 = some .cell) || decide (sc.names.lookup y.1 = some .free))
theorem lam1_by {p : Str} {sc scope : Scope} (h : lam1B p sc scope = true) : Lam1 p sc scope := by
  unfold lam1B at h
  simp only [Bool.and_eq_true, Bool.or_eq_true, Bool.not_eq_true', decide_eq_true_eq, decide_eq_false_iff_not, List.all_eq_true] at h
  obtain ⟨⟨⟨⟨h1, h2⟩, h3⟩, h4⟩, h5⟩ := h
  refine ⟨h1, h2, h3, h4, fun y hy => ⟨(h5 y hy).1.1, fun e => ((h5 y hy).1.2).elim (fun z => absurd e z) id⟩, fun y hy e => ?_⟩
  rcases (h5 y hy).2 with (z | z) | z
  · exact absurd e z
  · exact .inl z
  · exact .inr z
theorem Lam1.has {X : Cx} {p : Str} {scope : Scope} (L : Lam1 p X.env.scope scope) (ok : X.Ok) : ∀ y ∈ scope.names, y.2 = .free → ∃ c, X.env.cells.lookup y.1 = some c := fun y hy e => (L.free y hy e).elim (fun k => ok.has _ (.inl k)) fun k => ok.has _ (.inr k)
/-- the body's context: p first, then the maker's names -/
def lam1Cx (X : Cx) (p : Str) (A : Around) (s : Shared) (H : Hp) (scope : Scope) (f c' : Addr) : Cx where
  prog := X.prog
  w := X.w
  K := X.K
  mg := X.mg
  base := X.base
  A := A.deeper (LamX.lamEnv X scope s.heap.objs.size f c')
  N := p :: X.N
  s_0 := s
  H_0 := H
  env := LamX.lamEnv X scope s.heap.objs.size f c'
  outer := X.stack
  stack := LamX.lamEnv X scope s.heap.objs.size f c' :: X.stack
  ex := []
  fn := fun _ => false
  calm := true
  pn := []
  xe := fun e s' => wpAny (model X.prog X.w) (A.deeper (LamX.lamEnv X scope s.heap.objs.size f c')) (leaving (LamX.lamEnv X scope s.heap.objs.size f c') e) (fun _ s'' => L2.CX X.prog X.w X.stack H s (fun _ _ _ => False) e s'') (fun e' s'' => L2.CX X.prog X.w X.stack H s (fun _ _ _ => False) e' s'') s'
section
variable {X : Cx} {pins : List (Addr × Obj)} {σ : L2.St} {H : Hp} {s : Shared}
theorem lam1_start {A : Around} {p : Str} {x : V} {u : Value} {scope : Scope} {f c' : Addr} {g : Heap} {tk : Nat} (I : Inv X pins σ H s) (L : Lam1 p X.env.scope scope) (np : p ∉ X.N) (rx : RelV x u) (e0 : Env0 X.prog X.w X.K X.mg X.base A X.stack s H) (hd : A.handled = none)
    (hns : g.Ns s.heap.objs.size fun y => [(p, u)].reverse.lookup y) (kp : ∀ b o, s.heap.get? b = some o → g.get? b = some o) : Inv (lam1Cx X p A s H scope f c') [] (some x :: σ) H { s with heap := g, toks := tk } := by
  have has := L.has I.ok
  have back : ∀ {y c}, (cloFrom X.env.cells scope.names []).lookup y = some c → X.env.cells.lookup y = some c := fun {y c} e => by
    rcases cloFrom_mem (PySem.mem_of_lookup e) with z | ⟨h1, h2⟩
    · cases z
    · obtain ⟨c1, hc⟩ := has _ h1 rfl
      dsimp only at hc h2
      rw [h2, hc] <;> rfl
  have fwd : ∀ {y}, scope.names.lookup y = some .free → ∃ c, (cloFrom X.env.cells scope.names []).lookup y = some c := fun {y} hl => mem_lookup (cloFrom_has (cells := X.env.cells) (acc := []) (PySem.mem_of_lookup hl))
  have cellK : ∀ {c : Addr} {v : Option Value}, s.heap.IsCell c v → g.IsCell c v := fun ⟨o, ho, hd⟩ => ⟨o, kp _ _ ho, hd⟩
  have noA : ∀ b : Addr, b ∉ (lam1Cx X p A s H scope f c').ex := fun b z => absurd (show b ∈ ([] : List Addr) from z) (by simp)
  refine ⟨⟨e0.mod, L.kind, rfl, rfl, Nat.le_refl _, fun y z c e1 e2 => I.ok.inj y z c (back e1) (back e2), fun y hy => ?_, fun y c z _ => ?_, fun _ => hd, Around.frames_deeper e0.frames, .inr ⟨rfl, rfl⟩, fun b z => absurd z (noA b), e0.bs, e0.bsz, fun b _ _ => noA b,
      fun b z => absurd z (noA b), e0.funs, e0.frf⟩,
    rfl, e0.bare, Un.kept kp, ⟨_, hns, fun i y v e1 e2 e3 => ?_⟩, fun y c e => ?_, e0.hok.fresh (Nat.le_refl _), fun y c e => I.freeC y c (back e), fun q hq => absurd (show q ∈ ([] : List (Addr × Obj)) from hq) (by simp), e0.hok.kept kp, ?_⟩
  · rcases (show scope.names.lookup y = some .cell ∨ scope.names.lookup y = some .free from hy) with hy | hy
    · exact absurd rfl (L.own _ (PySem.mem_of_lookup hy)).1
    · exact fwd hy
  · cases (show false = true from z)
  · cases i with
    | zero =>
      obtain rfl : p = y := by simpa [lam1Cx] using e1
      obtain rfl : x = v := by simpa using e2
      exact ⟨u, rx, .inl ⟨L.par, by simp⟩⟩
    | succ i =>
      have e1 : X.N[i]? = some y := by simpa [lam1Cx] using e1
      have e2 : σ[i]? = some (some v) := by simpa using e2
      have ny : y ≠ p := fun z => np (z ▸ List.mem_of_getElem? e1)
      rcases (show Vis scope y from e3) with k | k | k
      · exact absurd ((L.own _ (PySem.mem_of_lookup k)).2 rfl) ny
      · exact absurd rfl (L.own _ (PySem.mem_of_lookup k)).1
      · obtain ⟨m, hn, hl⟩ := I.loc
        have vis : Vis X.env.scope y := .inr (L.free _ (PySem.mem_of_lookup k) rfl)
        obtain ⟨w', r, q⟩ := hl i y v e1 e2 vis
        obtain ⟨c2, h2⟩ := fwd k
        refine ⟨w', r, .inr ⟨.inr k, c2, h2, ?_⟩⟩
        have c1 := back h2
        rcases q with ⟨k', _⟩ | ⟨_, c3, e', z⟩
        · have k' : X.env.scope.names.lookup y = some .local := k'
          rcases L.free _ (PySem.mem_of_lookup k) rfl with k2 | k2 <;> rw [show X.env.scope.names.lookup y = _ from k2] at k' <;> cases k'
        · rw [c1] at e'
          cases e'
          exact cellK z
  · obtain ⟨w', z⟩ := I.cell y c (back e)
    exact ⟨w', cellK z⟩
  · show (some x :: σ).length = (p :: X.N).length
    rw [List.length_cons, List.length_cons, I.len]
theorem lam1_call {A : Around} {p : Str} {x : V} {u : Value} {k : Nat} {params : Arguments} {body : Expr} {scope : Scope} {f c' : Addr} {pm ctv : Value} {tb : TE} {Q : VK} {Z : Value → Shared → Prop} (I : Inv X pins σ H s) (L : Lam1 p X.env.scope scope) (np : p ∉ X.N) (rx : RelV x u) (e0 : Env0 X.prog X.w X.K X.mg X.base A X.stack s H) (hr : Room (k + 1) A)
    (hf : s.heap.get? f = some (PySem.W.kla_obj "<lambda>" (X.env.qual ++ "<lambda>") params body scope (cloFrom X.env.cells scope.names []) pm c' ctv)) (hc : H c' = some (LamX.CodeO c' (X.env.qual ++ "<lambda>")))
    (hbind : ∀ u, bindArgs (PySem.W.kla_fn "<lambda>" (X.env.qual ++ "<lambda>") params body scope (cloFrom X.env.cells scope.names []) pm (.ref c') ctv) ⟨[u], []⟩ = pure [(p, u)])
    (hbody : Room k (A.deeper (LamX.lamEnv X scope s.heap.objs.size f c')) → PE (lam1Cx X p A s H scope f c') body tb) (ht : tb (some x :: σ) H Q) :
    wpAny (model X.prog X.w) A (call (.ref f) [u]) (EP X pins σ Q) Z s := by
  obtain ⟨⟨oc, vs, t, hoc, hdc, hvc⟩, _, _⟩ := I.hok c' _ hc
  have rc : codeAny (model X.prog X.w) A (.call (.ref f) ⟨[u], []⟩) (CR (L2.CX X.prog X.w) X.stack X.prog X.w H s Q (fun _ _ _ => False)) s := by
    refine PySem.W.kla_callFunE hr.depth hf rfl L.co L.gen rfl ⟨c', oc, vs, t, rfl, hoc, hdc, hvc⟩ ?_
    rw [hbind]
    refine wpAny_pure (wpAny_newFunctionEnv (fun y hy => (L.own y hy).1) (fun y hy => by rw [List.mem_singleton.mp hy]; exact L.par) (fun g hns sb => ⟨I.nolimit.fresh _ sb, ?_⟩) L.kind)
    show codeAny _ _ (.expr body (LamX.lamEnv X scope s.heap.objs.size f c')) _ _
    have kp : ∀ b o, s.heap.get? b = some o → g.get? b = some o := fun b o e => sb.extBut b o (Nat.ne_of_lt (Heap.lt_size e)) (Heap.get?_push_of_some _ e)
    have J : Inv (lam1Cx X p A s H scope f c') [] (some x :: σ) H { s with heap := g, toks := s.toks + 1 } := lam1_start I L np rx e0 hr.hd hns kp
    refine PySem.W.kla_codeExpr (wpAny_mono ((hbody (hr.deeper _)).run [] _ _ H Q J ht) (fun v s' hq => ?_) fun e s' hq => hq)
    obtain ⟨w', H', J', rv, q⟩ := hq
    exact ⟨w', H', J'.os, J'.bare, J'.base, J'.hok, rv, q⟩
  refine wpAny_call (codeAny_mono rc fun r s' hq => ?_)
  cases r with
  | error e =>
    obtain ⟨_, _, _, _, _, _, _, _, _, _, _, _, z⟩ := (show L2.CX X.prog X.w X.stack H s (fun _ _ _ => False) e s' from hq)
    exact z.elim
  | ok fl =>
    cases fl with
    | ret v => exact I.after hq
    | next => exact False.elim hq
    | brk => exact False.elim hq
    | cont => exact False.elim hq
end
end TL
/-! TLse: sorted(d, key=lambda one: ..), d a locked dict of tuples, the keys texts. -/
namespace TL
open PySem PySem.Spec PyProof.Rows L2 PySem.W
theorem unpin {X : Cx} {pins more : List (Addr × Obj)} {σ : L2.St} {H : Hp} {s : Shared} (I : Inv X (pins ++ more) σ H s) : Inv X pins σ H s :=
  ⟨I.ok, I.os, I.bare, I.base, I.loc, I.cell, I.free, I.freeC, fun p hp => I.pin p ((List.mem_append.mp hp).elim (fun z => List.mem_append_left _ z) fun z => List.mem_append_right _ (List.mem_append_left _ z)), I.hok, I.len⟩
/-- an entry's text -/
def vTx (y : NestedKey × Addr × V) : List Nat := match y.2.2 with
  | .str x => x.cps.toList
  | _ => []
theorem each_get {α β : Type} {R : α → β → Prop} : ∀ {as : List α} {bs : List β}, as.length = bs.length → (∀ (i : Nat) (a : α) (b : β), as[i]? = some a → bs[i]? = some b → R a b) → EachIs R as bs
  | [], [], _, _ => .nil
  | [], _ :: _, h, _ => by simp at h
  | _ :: _, [], h, _ => by simp at h
  | a :: as, b :: bs, h, f => .cons (f 0 a b rfl rfl) (each_get (by simpa using h) fun i x y e1 e2 => f (i + 1) x y (by simpa using e1) (by simpa using e2))
theorem each_vals {ys : NX} {us : List Value} (h : EachIs (fun (v : Value) (y : NestedKey × Addr × V) => v = .ref y.2.1) us ys) : Vals (ys.map fun y => V.ref y.2.1) us := by
  induction h with
  | nil => exact .nil
  | cons e _ ih => exact .cons (by rw [e]; rfl) ih
theorem ltq_str {prog : Program} {w : World} {A : Around} {s : Shared} : PyProof.Rows.H.LtAt prog w A s PyProof.Rows.strKind oneType' := fun E x y a b Q ha hb h => by
  rw [keyLt'_oneType]
  exact strKind_oneLt prog w A E s x y a b ha hb h
section
variable {X : Cx} {pins : List (Addr × Obj)} {σ : L2.St} {H : Hp} {s : Shared}
theorem strs_sorts {prog : Program} {w : World} {A : Around} {s : Shared} {ks : List Value} {ss : List Str} (hS : StrsAre ks ss) : SortsAt prog w A s PyProof.Rows.strKind ks where
  keys v hv := by
    obtain ⟨x, t, rfl⟩ := hS.all v hv
    exact ⟨_, rfl⟩
  kind := ⟨oneType', ltq_str, fun h2 E Q q => by
    match ks, hS, h2 with
    | v1 :: v2 :: rest, hS, _ =>
      rw [keyKind_strs hS]
      exact wpAny_pure q
    | [], _, h => exact absurd h (by decide)
    | [v], _, h => exact absurd h (by simp)⟩
/-- what a key's call keeps: the pinned ones -/
abbrev Turns (X : Cx) (σ : L2.St) (H : Hp) (A : Around) (f : Addr) (of : Obj) (xs : NX) : Prop := ∀ (pins : List (Addr × Obj)) (s : Shared) (i : Nat) (k : NestedKey) (q : Addr) (v : V) (Z : Value → Shared → Prop), Inv X pins σ H s → s.heap.get? f = some of → xs[i]? = some (k, q, v) →
  wpAny (model X.prog X.w) A (call (.ref f) [.ref q]) (EP X pins σ fun r H' => r = v ∧ H' = H) Z s
theorem strs_snoc : ∀ {us : List Value} {ss : List Str} {k : Str} {u : Tok}, StrsAre us ss → StrsAre (us ++ [.str k u]) (ss ++ [k])
  | _, _, k, u, .nil => .cons k u .nil
  | _, _, k, u, .cons x t r => .cons x t (strs_snoc r)
/-- the keys asked, one by one; then the sort -/
theorem keys_asked {A : Around} {a kS f : Addr} {of : Obj} {vs : List Value} {xs : NX} {vals : List Str} {e1 : Nat} {R : PySem.Fin → Shared → Prop} {E : Value → Shared → Prop} (I : Inv X pins σ H s) (T : Turns X σ H A f of xs) (hf : s.heap.get? f = some of) (hfp : FpOk X pins H f) (cf : ∀ v, of.data ≠ .cell v)
    (na : s.heap.get? a = some (seqObj "list" #[] e1)) (nk : s.heap.get? kS = some (seqObj "list" #[] 0)) (hka : kS ≠ a) (hfa : f ≠ a) (hfk : f ≠ kS) (fa : FpOk X pins H a) (fk : FpOk X pins H kS) (hev : EachIs (fun (v : Value) (y : NestedKey × Addr × V) => v = .ref y.2.1) vs xs)
    (hval : xs.map (fun y => y.2.2) = vals.map V.str) (hz : xs.length ≤ sizeLine)
    (h : ∀ h' s' tk c out, Inv X pins σ H s' → (∀ b o, b ≠ a → b ≠ kS → s'.heap.get? b = some o → h'.get? b = some o) → h'.get? a = some (seqObj "list" (List.toArray out) c) → EachIs (fun (v : Value) (y : NestedKey × Addr × V) => v = .ref y.2.1) out (xs.mergeSort (sortLe PyProof.Rows.strKind.toKeyOrd false vTx)) → R (.done (.ret .none)) { s' with heap := h', toks := tk }) :
    wpAny (model X.prog X.w) A (ksk_rest a (.ref f) false vs.toArray e1 (.ref kS)) R E s := by
  have hvl : vals.length = xs.length := by
    have q := congrArg List.length hval
    rw [List.length_map, List.length_map] at q
    exact q.symm
  have hxl := hev.length
  unfold ksk_rest
  refine wpAny_bind (wpAny_rule ?_)
  first
    | rw [List.forIn_toArray]
    | (rw [← Array.forIn_toList]; simp only [List.toList_toArray])
    | rw [← Array.forIn_toList]
  refine wpAny_bind (ksk_fold (fun i s' => ∃ kA e, Inv X pins σ H s' ∧ s'.heap.get? f = some of ∧ s'.heap.get? a = some (seqObj "list" #[] e1) ∧ s'.heap.get? kS = some (seqObj "list" kA e) ∧ StrsAre kA.toList (vals.take i)) vs 0 s ⟨#[], 0, I, hf, na, nk, .nil⟩ ?step ?done)
  case step =>
    rintro j x s1 hx ⟨kA, e, J, gf, ga, gk, hk⟩
    simp only [Nat.zero_add] at hk ⊢
    have hj : j < xs.length := by rw [← hxl]; exact (List.getElem?_eq_some_iff.mp hx).1
    obtain ⟨⟨k, q, v⟩, hxs⟩ : ∃ y, xs[j]? = some y := ⟨_, List.getElem?_eq_getElem hj⟩
    have ex : x = .ref q := hev.zip (x, (k, q, v)) (List.mem_of_getElem? (i := j) (by rw [List.getElem?_zip_eq_some]; exact ⟨hx, hxs⟩))
    subst ex
    obtain ⟨tx, htx⟩ : ∃ t, vals[j]? = some t := ⟨_, List.getElem?_eq_getElem (by omega)⟩
    have ev : v = .str tx := by
      have q1 : (xs.map fun y => y.2.2)[j]? = some v := by rw [List.getElem?_map, hxs]; rfl
      rw [hval, List.getElem?_map, htx] at q1
      exact (Option.some.inj q1).symm
    have hkl : kA.size ≤ xs.length := by
      have q := StrsAre.len_eq hk
      rw [Array.length_toList, List.length_take] at q
      omega
    have P : Inv X (pins ++ pinsAt [f, a, kS] s1.heap) σ H s1 := J.pinned (fp := [f, a, kS]) (fun b hb => by
        rcases List.mem_cons.mp hb with z | hb
        · rw [z]; exact hfp
        · rcases List.mem_cons.mp hb with z | hb
          · rw [z]; exact fa
          · rw [List.mem_singleton.mp hb]; exact fk) (fun b hb => by
        rcases List.mem_cons.mp hb with z | hb
        · rw [z]; exact ⟨_, gf, cf⟩
        · rcases List.mem_cons.mp hb with z | hb
          · rw [z]; exact ⟨_, ga, fun v z => by cases z⟩
          · rw [List.mem_singleton.mp hb]; exact ⟨_, gk, fun v z => by cases z⟩)
    refine wpAny_bind (wpAny_attempt (wpAny_mono (T _ s1 j k q v (fun _ _ => False) P gf hxs) (fun u s2 hq => ?_) fun _ _ z => z.elim))
    obtain ⟨r, H2, I2, ru, rfl, rfl⟩ := hq
    subst ev
    obtain ⟨tk, rfl⟩ := ru
    have pf := (I2.pin _ (List.mem_append_right _ (List.mem_append_right _ (mem_pinsAt (b := f) (by simp) gf)))).1
    have pa := (I2.pin _ (List.mem_append_right _ (List.mem_append_right _ (mem_pinsAt (b := a) (by simp) ga)))).1
    have pk := (I2.pin _ (List.mem_append_right _ (List.mem_append_right _ (mem_pinsAt (b := kS) (by simp) gk)))).1
    have I3 := unpin I2
    try dsimp only
    have sb := Heap.SameBut.update s2.heap kS (Obj.mapSeq (·.push (Value.str tx tk)))
    obtain ⟨c2, hc2⟩ : ∃ c2, (s2.heap.update kS (Obj.mapSeq (·.push (Value.str tx tk)))).get? kS = some (seqObj "list" (kA.push (Value.str tx tk)) c2) := ⟨_, get?_update_seq pk (·.push (Value.str tx tk))⟩
    refine wpAny_bind (listUpdate_at pk rfl ?_ (Nat.le_trans hkl hz) (Nat.le_trans (Nat.le_of_eq (Array.size_push ..)) (Nat.succ_le_succ (Nat.le_trans hkl hz))))
    have I4 : Inv X pins σ H2 { s2 with heap := s2.heap.update kS (Obj.mapSeq (·.push (Value.str tx tk))) } := I3.turned (t' := s2.toks) (fun b o hb e => (sb.2 b hb).trans e) fk.1 fk.2.1 fk.2.2.2.1 fk.2.2.2.2.1 fk.2.2.2.2.2
    refine wpAny_pure ⟨rfl, kA.push (Value.str tx tk), c2, I4, (sb.2 f hfk).trans pf, (sb.2 a hka.symm).trans pa, hc2, ?_⟩
    have t1 : vals.take (j + 1) = vals.take j ++ [tx] := by rw [List.take_add_one, htx]; simp
    rw [t1, Array.toList_push]
    exact strs_snoc hk
  case done =>
    rintro s1 ⟨kA, e, J, gf, ga, gk, hk⟩
    have e3 : vals.take (0 + vs.length) = vals := List.take_of_length_le (by omega)
    rw [e3] at hk
    have hsz : kA.size = vs.length := by
      have q := StrsAre.len_eq hk
      rw [Array.length_toList] at q
      omega
    try dsimp only
    refine wpAny_bind (listItems_at gk rfl ?_)
    obtain ⟨G, g1, g2⟩ := restrict s1.heap fun b => decide (b ≠ kS)
    have up : ∀ b o, b ≠ kS → s1.heap.get? b = some o → G.get? b = some o := fun b o hb e => by
      rw [g1 b (decide_eq_true hb)]; exact e
    refine keyH_end (κ := PyProof.Rows.strKind) (h₁ := G) (fun b o hb e => ?_) (g2 kS (decide_eq_false fun z => z rfl)) gk ga hka (strs_sorts hk) hsz (by rw [hxl]; exact hz) fun h' tk c kp ho => ?_
    · by_cases z : b = kS
      · rw [z, g2 kS (decide_eq_false fun z => z rfl)] at e; cases e
      · rw [g1 b (decide_eq_true z)] at e; exact e
    · refine h h' s1 tk c _ J (fun b o n1 n2 e => kp b o n1 (up b o n2 e)) ho (sortVals_each (κ := PyProof.Rows.strKind) vTx hev (each_get (by rw [Array.length_toList, hsz, hxl]) fun i v y e1 e2 => ?_))
      have l : i < vals.length := by rw [hvl]; exact (List.getElem?_eq_some_iff.mp e2).1
      obtain ⟨k, u, q1, q2⟩ := strs_get hk e1
      have q3 : (xs.map fun y => y.2.2)[i]? = some y.2.2 := by rw [List.getElem?_map, e2]; rfl
      rw [hval, List.getElem?_map, q1] at q3
      have q4 : V.str k = y.2.2 := Option.some.inj q3
      subst q2
      unfold vTx
      rw [← q4]
end
end TL
/-! TLsf: the whole call sorted(d, key=lambda one: ..). -/
namespace TL
open PySem PySem.Spec PyProof.Rows L2 PySem.W
variable [TheW]
/-- by their texts -/
abbrev AscV (ys : NX) : Prop := ys.Pairwise fun a b => ¬ vTx b < vTx a
theorem merge_ok (xs : NX) : (xs.mergeSort (sortLe PyProof.Rows.strKind.toKeyOrd false vTx)).Perm xs ∧ AscV (xs.mergeSort (sortLe PyProof.Rows.strKind.toKeyOrd false vTx)) := by
  refine ⟨List.mergeSort_perm _ _, ?_⟩
  have t := sortLe_total PyProof.Rows.strKind.toKeyOrd false vTx
  refine (List.pairwise_mergeSort (le := sortLe PyProof.Rows.strKind.toKeyOrd false vTx) t.trans (fun a b => by rw [Bool.or_eq_true]; exact t.total a b) xs).imp fun {a b} h => ?_
  have h' : (!decide (vTx b < vTx a)) = true := h
  simpa using h'
section
variable {X : Cx} {pins : List (Addr × Obj)} {σ : L2.St} {H : Hp} {s : Shared}
theorem sortD_run {d f : Addr} {o of : Obj} {xs : NX} {vals : List Str} {Q : VK} {Z : Value → Shared → Prop} (I : Inv X pins σ H s) (hc : X.calm = true) (hd : H d = some (.frz o (DN X.w d xs))) (hval : xs.map (fun y => y.2.2) = vals.map V.str)
    (T : Turns X σ H X.A.in1.in1 f of xs) (hf : s.heap.get? f = some of) (hfp : FpOk X pins H f) (cf : ∀ v, of.data ≠ .cell v)
    (hq : ∀ (ys : NX) (p : Addr), ys.Perm xs → AscV ys → H p = none → Q (.ref p) (upd H p (.lst (ys.map fun y => V.ref y.2.1)))) :
    wpAny (model X.prog X.w) X.A (call (.builtin "sorted") [.ref d] [(Str.ofString "key", .ref f)]) (EP X pins σ Q) Z s := by
  obtain ⟨sm, gd, ex, es, ep, hdt, hsz, ent⟩ := frzN I hd
  have hz : xs.length ≤ sizeLine := by
    obtain ⟨_, ⟨z, _⟩, _, _⟩ := I.hok d _ hd
    exact z
  refine call_function_entry_kw kind_sorted plain_sorted entry_sorted (ksk_s1 _ _) ?_
  unfold Builtin.«sorted»
  refine wpAny_bind (m := checkCount "sorted" 1 1 _) (wpAny_pure ?_)
  refine wpAny_bind (kdu_collect (A := X.A.in1) (KdlSrc.rawDict (es := es) (ep := ep) sm) (I.ok.hd hc) ⟨o, gd, ex, hdt⟩ (by rw [hsz]; exact hz) fun h1 tk acc k1 hacc => ?_)
  have hev : EachIs (fun (v : Value) (y : NestedKey × Addr × V) => v = .ref y.2.1) acc.toList xs := each_get (by rw [Array.length_toList, hacc.1, hsz]) fun i v y e1 e2 => by
    obtain ⟨hi, rfl⟩ := hacc.2 i v (by rw [← Array.getElem?_toList]; exact e1)
    obtain ⟨k, q, u⟩ := y
    obtain ⟨en, e3, e4⟩ := ent i k q u e2
    rw [Array.getElem?_eq_getElem hi] at e3
    rw [Option.some.inj e3, e4]
  have hal : acc.toList.length = xs.length := hev.length
  have I1 : Inv X pins σ H { s with heap := h1, toks := tk } := I.kept k1
  refine wpAny_bind (wpAny_newList ?_ (by rw [hal]; exact hz))
  have hoL : (h1.push (seqObj "list" acc.toList.toArray 0)).get? h1.objs.size = some (seqObj "list" acc.toList.toArray 0) := Heap.get?_push_size _ rfl
  show wpAny _ _ _ _ _ { s with heap := h1.push (seqObj "list" acc.toList.toArray 0), toks := tk }
  refine wpAny_bind (wpAny_holding (wpAny_call_entry_kw slot_list_sort ⟨_, hoL, rfl⟩ entry_list_sort ?body (ksk_l1 _ _)))
  case body =>
    show wpAny (model X.prog X.w) X.A.in1.in1 (Builtin.«list.sort» ⟨[.ref h1.objs.size], [(Str.ofString "key", .ref f)]⟩) _ _ _
    rw [ksk_t1]
    obtain ⟨e1, ho1⟩ : ∃ e1, ((h1.push (seqObj "list" acc.toList.toArray 0)).update h1.objs.size (Obj.mapSeq fun _ => (#[] : Array Value))).get? h1.objs.size = some (seqObj "list" #[] e1) := ⟨_, get?_update_seq hoL fun _ => #[]⟩
    have s1 := Heap.SameBut.update (h1.push (seqObj "list" acc.toList.toArray 0)) h1.objs.size (Obj.mapSeq fun _ => (#[] : Array Value))
    have z1 : ((h1.push (seqObj "list" acc.toList.toArray 0)).update h1.objs.size (Obj.mapSeq fun _ => (#[] : Array Value))).objs.size = h1.objs.size + 1 := by rw [Heap.size_update, size_push']
    have z2 : (((h1.push (seqObj "list" acc.toList.toArray 0)).update h1.objs.size (Obj.mapSeq fun _ => (#[] : Array Value))).push (seqObj "tuple" acc.toList.toArray 0)).objs.size = h1.objs.size + 2 := by rw [size_push', z1]
    have old : ∀ b u, h1.get? b = some u → ((((h1.push (seqObj "list" acc.toList.toArray 0)).update h1.objs.size (Obj.mapSeq fun _ => (#[] : Array Value))).push (seqObj "tuple" acc.toList.toArray 0)).push (seqObj "list" #[] 0)).get? b = some u := fun b u e =>
      Heap.get?_push_of_some _ (Heap.get?_push_of_some _ ((s1.2 b (Nat.ne_of_lt (Heap.lt_size e))).trans (Heap.get?_push_of_some _ e)))
    unfold ksk_tree
    refine wpAny_bind (listItems_at hoL rfl ?_)
    refine wpAny_bind (listUpdate_at hoL rfl ?_ (by rw [List.size_toArray, hal]; exact hz) (Nat.zero_le _))
    refine wpAny_bind (seqEpoch_at ho1 rfl ?_)
    refine wpAny_bind (wpAny_newTuple ?_ (by show acc.toList.length ≤ _; rw [hal]; exact hz))
    refine wpAny_bind (wpAny_newList ?_ (Nat.zero_le _))
    refine wpAny_holding ?_
    have I5 : Inv X pins σ H { s with heap := (((h1.push (seqObj "list" acc.toList.toArray 0)).update h1.objs.size (Obj.mapSeq fun _ => (#[] : Array Value))).push (seqObj "tuple" acc.toList.toArray 0)).push (seqObj "list" #[] 0), toks := tk } := I1.kept old
    have lf : f < h1.objs.size := Heap.lt_size (k1 f of hf)
    have fa : FpOk X pins H h1.objs.size := I1.fpOk (Nat.le_refl _) (I1.hok.fresh (Nat.le_refl _))
    have fk : FpOk X pins H ((((h1.push (seqObj "list" acc.toList.toArray 0)).update h1.objs.size (Obj.mapSeq fun _ => (#[] : Array Value))).push (seqObj "tuple" acc.toList.toArray 0)).objs.size) :=
      I1.fpOk (Nat.le_of_lt (Nat.lt_of_lt_of_eq (Nat.lt_add_of_pos_right (by decide)) z2.symm)) (I1.hok.fresh (Nat.le_of_lt (Nat.lt_of_lt_of_eq (Nat.lt_add_of_pos_right (by decide)) z2.symm)))
    refine keys_asked (kS := (((h1.push (seqObj "list" acc.toList.toArray 0)).update h1.objs.size (Obj.mapSeq fun _ => (#[] : Array Value))).push (seqObj "tuple" acc.toList.toArray 0)).objs.size) I5 T (old f of (k1 f of hf)) hfp cf (Heap.get?_push_of_some _ (Heap.get?_push_of_some _ ho1)) (Heap.get?_push_size _ rfl)
      (Nat.ne_of_gt (Nat.lt_of_lt_of_eq (Nat.lt_add_of_pos_right (by decide)) z2.symm)) (Nat.ne_of_lt lf) (Nat.ne_of_lt (Nat.lt_trans lf (Nat.lt_of_lt_of_eq (Nat.lt_add_of_pos_right (by decide)) z2.symm))) fa fk hev hval hz fun h' s' tk' c out J k' gA hE => ?_
    obtain ⟨pm, asc⟩ := merge_ok xs
    have J2 : Inv X pins σ H { s' with heap := h', toks := tk' } := J.turnedL (ch := [h1.objs.size, (((h1.push (seqObj "list" acc.toList.toArray 0)).update h1.objs.size (Obj.mapSeq fun _ => (#[] : Array Value))).push (seqObj "tuple" acc.toList.toArray 0)).objs.size])
      (fun b u hb e => k' b u (fun z => hb (by rw [z]; simp)) (fun z => hb (by rw [z]; simp)) e) (fun b hb => by
        rcases List.mem_cons.mp hb with z | hb
        · rw [z]; exact fa
        · rw [List.mem_singleton.mp hb]; exact fk)
    have hlen : ((xs.mergeSort (sortLe PyProof.Rows.strKind.toKeyOrd false vTx)).map fun y => V.ref y.2.1).length ≤ sizeLine := by rw [List.length_map, pm.length_eq]; exact hz
    have J3 := J2.take (t' := tk') (o := .lst ((xs.mergeSort (sortLe PyProof.Rows.strKind.toKeyOrd false vTx)).map fun y => V.ref y.2.1)) (h' := h') (fun b u _ e => e) fa ⟨hlen, out, c, each_vals hE, gA⟩
    exact ⟨_, rfl, wpAny_pure ⟨_, rfl, .ref h1.objs.size, _, J3, rfl, hq _ _ pm asc fa.1⟩⟩
/-- sorted(d, key=lambda one: body): P the def's table; body's reading tb -/
def tSortD (w : World) (T : Tb) (P : Addr) (i : Nat) (tb : TE) : TE := fun σ H Q => LamX.Tabs T H ∧ ∃ (d : Addr) (o : Obj) (xs : NX) (vals : List Str), σ[i]? = some (some (.ref d)) ∧ H d = some (.frz o (DN w d xs)) ∧ d ≠ P ∧ xs.map (fun y => y.2.2) = vals.map V.str ∧
  ∀ H1, ExtP P H H1 → LamX.Tabs T H1 → (∀ (j : Nat) (k : NestedKey) (q : Addr) (v : V), xs[j]? = some (k, q, v) → tb (some (.ref q) :: σ) H1 fun r H2 => r = v ∧ H2 = H1) ∧
    ∀ (ys : NX) (p : Addr), ys.Perm xs → AscV ys → H1 p = none → Q (.ref p) (upd H1 p (.lst (ys.map fun y => V.ref y.2.1)))
theorem pe_sortD {T : Tb} {x a : Str} {c P : Addr} {k i : Nat} {params : Arguments} {body : Expr} {scope : Scope} {tb : TE} {p p2 lpos kpos pos : Pos} (hc : X.calm = true) (hg : Gl X "sorted") (hm : X.mg "sorted" = none) (hN : X.N[i]? = some x) (hv : Vis X.env.scope x) (hnd : (x == ("__debug__" : Str)) = false) (hnc : (x == ("__classdict__" : Str)) = false)
    (B : LamX.TabB X.base X.mg c P) (hcode : X.env.code = .ref c) (hmT : (P, X.env.qual ++ "<lambda>") ∈ T) (hu : ∀ p ∈ T, p.1 = P → p.2 = X.env.qual ++ "<lambda>") (hr : Room (k + 3) X.A) (L : Lam1 a X.env.scope scope) (na : a ∉ X.N) (hdef : defaultsOf params X.env = ([], []))
    (hbind : ∀ (q : Str) (cl : List (Str × Addr)) (pm cv ctv : Value) (u : Value), bindArgs (PySem.W.kla_fn "<lambda>" q params body scope cl pm cv ctv) ⟨[u], []⟩ = pure [(a, u)])
    (hbody : ∀ (A : Around) (s : Shared) (H : Hp) (f c' : Addr), Room k (A.deeper (LamX.lamEnv X scope s.heap.objs.size f c')) → PE (lam1Cx X a A s H scope f c') body tb)
    (he : backTo pos (starEach [.Name x p2] X.env) = (false, eval (.Name x p2) X.env) :: backTo pos (starEach [] X.env) := by rfl) (hpl : (backTo pos (starEach [.Name x p2] X.env)).any (·.1) = false := by rfl) :
    PE X (.Call (.Name "sorted" p) [.Name x p2] [⟨some "key", .Lambda params body scope lpos, kpos⟩] pos) (tSortD X.w T P i tb) := by
  refine ⟨fun pins s σ H Q I h => ?_⟩
  obtain ⟨hT, d, o, xs, vals, h1, h2, h3, h4, h5⟩ := h
  refine wpAny_Call_Name_kw (ld_blt I hg hm (by rfl) ?_ (by decide) (by decide))
  refine PyProof.Rows.callWith_kw (thn ((pa_cons (pe_var (pos := p2) (i := i) hN hv hnd hnc) pa_nil).run pos pins s σ H (fun vs H1 => vs = [.ref d] ∧ H1 = H) I ⟨.ref d, h1, rfl, rfl⟩) fun us s1 ⟨vs, H1, I1, r1, q1⟩ => ?_) he hpl (by rfl) (by rfl)
  obtain ⟨rfl, rfl⟩ := q1
  show wpAny _ _ (evalAll ((do let v ← eval (.Lambda params body scope lpos) X.env; standAt pos; pure v) :: (backToKw pos (keywordEach [] X.env)).map (·.2))) _ _ s1
  refine wpAny_evalAll_cons (wpAny_bind (lam_new I1 B hcode rfl hmT hu hT hdef (L.has I1.ok) fun f c' pm ctv H2 s2 I2 eN T2 hf hfn hfr hfp hco => wpAny_bind (wpAny_standAt (wpAny_pure (wpAny_evalAll_nil ?_)))))
  rw [Vals.ref1 r1]
  obtain ⟨turn, out⟩ := h5 H2 eN T2
  refine sortD_run (vals := vals) I2 hc (eN d _ h3 h2) h4 (fun pins' s3 j kk q v Z J gf hx => ?_) hf hfp (fun v z => by cases z) fun ys p pm asc hp => out ys p pm asc hp
  refine lam1_call (x := .ref q) (k := k) J L na rfl (Env0.in1 (Env0.in1 J.env0)) (Room.in1 (Room.in1 hr)) gf hco (fun u => hbind _ _ _ _ _ u) (fun hr2 => hbody _ s3 H2 f c' hr2) (turn j kk q v hx)
end
end TL
/-! TLya: by trees: sorted(d, key=lambda one: d[one]); sets; sorted; extend; in. -/
namespace TL
open PySem PySem.Spec PyProof.Rows L2
variable [TheW]
/-- a text's signs -/
def tcps : T → List Nat
  | .str x => x.cps.toList
  | _ => []
section
variable {K : PySem.W.Frag} {M : Mode} {E : XK} {G H : Hp}
theorem IsKn.perm {xs ys : NX} (p : ys.Perm xs) : ∀ {kts : List (T × T)}, IsKn K G xs kts → ∃ kts', kts'.Perm kts ∧ IsKn K G ys kts' := by
  induction p with
  | nil => intro kts h; exact ⟨kts, .refl _, h⟩
  | cons x p ih =>
    intro kts h
    cases h with
    | cons a e d b r =>
      obtain ⟨k2, p2, r2⟩ := ih r
      exact ⟨_, p2.cons _, .cons a e d b r2⟩
  | swap x y l =>
    intro kts h
    cases h with
    | cons a e d b r =>
      cases r with
      | cons a' e' d' b' r => exact ⟨_, .swap _ _ _, .cons a' e' d' b' (.cons a e d b r)⟩
  | trans p1 p2 ih1 ih2 =>
    intro kts h
    obtain ⟨k2, q2, r2⟩ := ih2 h
    obtain ⟨k1, q1, r1⟩ := ih1 r2
    exact ⟨k1, q1.trans q2, r1⟩
theorem IsKn.refs : ∀ {xs : NX} {kts : List (T × T)}, IsKn K G xs kts → IsAll K G (xs.map fun y => V.ref y.2.1) (kts.map (·.1))
  | _, _, .nil => .nil
  | _, _, .cons a _ _ _ r => .cons a r.refs
theorem IsKn.texts : ∀ {xs : NX} {kts : List (T × T)} {vals : List Str}, IsKn K G xs kts → kts.map (·.2) = vals.map T.str → xs.map (fun y => y.2.2) = vals.map V.str
  | _, _, [], .nil, _ => rfl
  | _, _, _ :: _, .nil, e => by simp at e
  | _, _, [], .cons _ _ _ _ _, e => by simp at e
  | _, _, v :: vals, .cons a e0 d b r, e => by
    rw [List.map_cons, List.map_cons] at e
    obtain ⟨e1, e2⟩ := List.cons.inj e
    rw [List.map_cons, List.map_cons, r.texts e2]
    dsimp only at e1 ⊢
    rw [e1] at b
    cases b
    rfl
theorem IsKn.mem {y : NestedKey × Addr × V} : ∀ {xs : NX} {kts : List (T × T)}, IsKn K G xs kts → ∀ p ∈ kts, ∃ y ∈ xs, Is K G y.2.2 p.2
  | _, _, .nil => fun p h => nomatch h
  | _, _, .cons a e d b r => fun p h => by
    rcases List.mem_cons.mp h with rfl | h
    · exact ⟨_, List.mem_cons_self, b⟩
    · obtain ⟨y, h1, h2⟩ := r.mem (y := y) p h
      exact ⟨y, List.mem_cons_of_mem _ h1, h2⟩
theorem vTx_is {k : NestedKey} {q : Addr} {v : V} {t : T} {s : Str} (i : Is K G v t) (e : t = .str s) : vTx (k, q, v) = tcps t := by
  subst e
  cases i
  rfl
theorem IsKn.asc : ∀ {xs : NX} {kts : List (T × T)}, IsKn K G xs kts → (∀ p ∈ kts, ∃ s, p.2 = .str s) → AscV xs → kts.Pairwise fun a b => ¬ tcps b.2 < tcps a.2
  | _, _, .nil, _, _ => .nil
  | _, _, .cons (q := q0) (v := v0) a e d b r, hs, ha => by
    obtain ⟨h1, h2⟩ := List.pairwise_cons.mp ha
    refine List.pairwise_cons.mpr ⟨fun p hp => ?_, r.asc (fun p hp => hs p (List.mem_cons_of_mem _ hp)) h2⟩
    obtain ⟨y, m1, m2⟩ := r.mem (y := (NestedKey.none, 0, V.non)) p hp
    obtain ⟨s, e1⟩ := hs p (List.mem_cons_of_mem _ hp)
    obtain ⟨s0, e0⟩ := hs _ List.mem_cons_self
    have z := h1 y m1
    obtain ⟨yk, yq, yv⟩ := y
    rw [vTx_is m2 e1, vTx_is b e0] at z
    exact z
theorem valN_mem {k : NestedKey} {q : Addr} {v : V} : ∀ {xs : NX}, (xs.map (·.1)).Nodup → (k, q, v) ∈ xs → valN xs k = some v
  | [], _, h => nomatch h
  | x :: xs, hn, h => by
    rw [List.map_cons] at hn
    obtain ⟨n1, n2⟩ := List.nodup_cons.mp hn
    unfold valN
    rw [List.find?_cons]
    rcases List.mem_cons.mp h with e | h
    · rw [← e]
      simp
    · have ne : x.1 ≠ k := fun z => n1 (z ▸ List.mem_map.mpr ⟨_, h, rfl⟩)
      simp only [ne, decide_false]
      exact valN_mem n2 h
theorem IsKn.keys : ∀ {xs : NX} {kts : List (T × T)}, IsKn K G xs kts → kts.map (fun p => T.nk p.1) = xs.map fun y => some y.1
  | _, _, .nil => rfl
  | _, _, .cons a e d b r => by rw [List.map_cons, List.map_cons, r.keys, e]
/-- sorted(d, key=lambda one: d[one]), d in the i-th slot -/
def gSortD (i : Nat) : TEx := fun τ q _ => ∃ (kts : List (T × T)) (vals : List Str), τ[i]? = some (.sh (.fdn kts)) ∧ kts.map (·.2) = vals.map T.str ∧ (kts.map fun p => T.nk p.1).Nodup ∧
  ∀ kts' : List (T × T), kts'.Perm kts → (kts'.Pairwise fun a b => ¬ tcps b.2 < tcps a.2) → q (.ol (kts'.map (·.1)))
theorem sim_sortD {Z : Tb} {P : Addr} {i : Nat} (l : LamM M Z P) : SimE K M E (tSortD TheW.w Z P i (tNGet K TheW.w (tVar (i + 1)) (tVar 0))) (gSortD i) := fun τ q r e σ G H w Q hq hx => by
  obtain ⟨kts, vals, ht, hv, hn, e⟩ := e
  obtain ⟨os, en, _⟩ := w.en
  obtain ⟨v, h1, iv⟩ := en.get ht
  cases iv with
  | fdn hG hk =>
    rename_i a ob xs
    have hA := w.ok.sub _ _ hG
    have nP : G P = none := w.ok.s P l.s
    refine ⟨l.tabs H w.ok.j, a, ob, xs, vals, h1, hA, (fun z => by rw [z, nP] at hG; cases hG), hk.texts hv, fun H1 x1 t1 => ?_⟩
    have g1 := l.go w.ok x1 t1
    have s1 : Sub G H1 := g1.sub
    refine ⟨fun j k b v hj => ?_, fun ys p pm asc hp => ?_⟩
    · have mem : (k, b, v) ∈ xs := List.mem_of_getElem? hj
      obtain ⟨n1, n2⟩ := hk.nks s1 _ mem
      have nd : (xs.map (·.1)).Nodup := by
        rw [hk.keys] at hn
        rw [List.nodup_iff_pairwise_ne, List.pairwise_map] at hn ⊢
        exact hn.imp fun {a b} h e => h (congrArg some e)
      refine ⟨.ref a, by simpa using h1, .ref b, rfl, a, xs, b, k, v, rfl, .inr ⟨ob, s1 _ _ hG⟩, ⟨rfl, hk.nks s1, n1, n2⟩, valN_mem nd mem, rfl, rfl⟩
    · obtain ⟨kts', p2, r2⟩ := hk.perm pm
      have allS : ∀ p ∈ kts', ∃ s, p.2 = .str s := fun p hp => by
        have m : p.2 ∈ kts.map (·.2) := List.mem_map.mpr ⟨p, p2.mem_iff.mp hp, rfl⟩
        rw [hv] at m
        obtain ⟨s, _, e⟩ := List.mem_map.mp m
        exact ⟨s, e.symm⟩
      obtain ⟨g2, rs⟩ := ol_new (w.ok.go g1) hp (r2.refs.mono g1.gg)
      exact hq _ (.ol _) G _ (g1.trans g2) (rs.early g1) (e kts' p2 (r2.asc allS asc))
end
end TL
/-! TLyb: sets, sorted, list(text), extend, dicts of texts, index, in: by trees. -/
namespace TL
open PySem PySem.Spec PyProof.Rows L2
variable [TheW]
section
variable {X : Cx} {K : PySem.W.Frag} {M : Mode} {E : XK} {G0 H0 G H : Hp}
/-! ### set(xs), sorted -/
abbrev setF [TheW] (l : List Str) : Addr → HO := fun a => SetS TheW.P TheW.w a l
theorem call_setS (hc : X.calm = true) (hP : X.prog = TheW.P) (hw : X.w = TheW.w) : CallR X (.type "set") (rSetOfS X.K TheW.P TheW.w) := hP ▸ hw ▸ cr_setOfS hc
def gSetOf : GC := fun ts q => match ts with
  | [.lst us] => oks (strsT us) fun ns => ns.length + 1 < scanBound ∧ ∀ l, l.Nodup → (∀ x, x ∈ l ↔ x ∈ ns) → q (.sh (.ob (setF l)))
  | _ => False
theorem simc_setS : SimC K M (rSetOfS K TheW.P TheW.w) gSetOf := fun ts q e vs G H i ok Q hq => by
  unfold gSetOf at e
  split at e
  · obtain ⟨ns, h1, h2, e⟩ := oks_cases e
    cases i with
    | cons i1 i =>
      cases i
      cases i1 with
      | lst h r =>
        refine ⟨_, ns, rfl, SqL.of ((ok.sub _ _ h).trans (by rw [strsT_ok r h1])), h2, fun p l hp nd m => ?_⟩
        exact hq _ (.sh _) (upd G p (SetS TheW.P TheW.w p l)) _ ((Go.lay ok hp).data hp upd_same (ok.fresh hp)) (.ob upd_same) (e l nd m)
  · exact e.elim
theorem call_srt (hc : X.calm = true) (hP : X.prog = TheW.P) (hw : X.w = TheW.w) : CallR X (.builtin "sorted") (fun vs H Q => rSortedOfS TheW.P TheW.w vs H Q ∨ rSortedA X.K vs H Q) := CallR.or (hP ▸ hw ▸ cr_sortedOfS hc) cr_sortedA
def gSorted : GC := fun ts q => match ts with
  | [.ob f] => ∃ l, f = setF l ∧ ∀ ys : List Str, ys.Perm l → sortedS ys = true → q (.ol (ys.map T.str))
  | [t] => oks t.litems fun us => oks (strsT us) fun ns => ∀ ys : List Str, ys.Perm ns → sortedS ys = true → q (.ol (ys.map T.str))
  | _ => False
theorem simc_srt : SimC K M (fun vs H Q => rSortedOfS TheW.P TheW.w vs H Q ∨ rSortedA K vs H Q) gSorted := fun ts q e vs G H i ok Q hq => by
  unfold gSorted at e
  split at e
  · obtain ⟨l, rfl, e⟩ := e
    cases i with
    | cons i1 i =>
      cases i
      cases i1 with
      | ob h =>
        refine .inl ⟨_, l, rfl, ok.sub _ _ h, fun ys p pm sd hp => ?_⟩
        obtain ⟨g, z⟩ := ol_new (K := K) ok hp (isAll_strs ys)
        exact hq _ _ _ _ g z (e ys pm sd)
  · obtain ⟨us, h0, e⟩ := oks_cases e
    obtain ⟨ns, h1, e⟩ := oks_cases e
    cases i with
    | cons i1 i =>
      cases i
      obtain ⟨a, ws, rfl, hs, r⟩ := i1.litems h0
      refine .inr ⟨a, ns, rfl, by rw [← strsT_ok r h1]; exact ok.sub.sqL hs, fun ys p pm sd hp => ?_⟩
      obtain ⟨g, z⟩ := ol_new (K := K) ok hp (isAll_strs ys)
      exact hq _ _ _ _ g z (e ys pm sd)
  · exact e.elim
/-! ### list(text) -/
abbrev sgn (c : Nat) : Str := ⟨#[c]⟩
def rListS : List V → Hp → VK → Prop := fun xs H Q => ∃ z : Str, xs = [.str z] ∧ z.length ≤ sizeLine ∧ ∀ p, H p = none → Q (.ref p) (upd H p (.lst (z.cps.toList.map fun c => V.str (sgn c))))
theorem call_listS (hc : X.calm = true) : CallR X (.type "list") rListS := by
  intro pins s σ H xs us Q I r h
  obtain ⟨z, rfl, hz, q⟩ := h
  obtain ⟨u, rfl, ru⟩ := vals1 r
  obtain ⟨t, rfl⟩ := ru
  refine PySem.call_list_str (I.ok.hd hc) z t (hn := hz) fun h' tk acc c' k hS hacc => ?_
  have rel : Vals (z.cps.toList.map fun c => V.str (sgn c)) acc.toList := by
    have hl : acc.toList.length = z.cps.toList.length := by rw [Array.length_toList, hacc.1, Array.length_toList]
    generalize hcs : z.cps.toList = cs at hl
    have get : ∀ (i : Nat) (v : Value), acc.toList[i]? = some v → ∃ c u, cs[i]? = some c ∧ v = Value.str (sgn c) u := fun i v e => by
      obtain ⟨c, u, e1, e2⟩ := hacc.2 i v (by rw [← Array.getElem?_toList]; exact e)
      exact ⟨c, u, by rw [← hcs, Array.getElem?_toList]; exact e1, e2⟩
    revert hl get
    generalize acc.toList = vs
    clear hcs
    induction vs generalizing cs with
    | nil =>
      intro hl _
      cases cs with
      | nil => exact .nil
      | cons _ _ => simp at hl
    | cons v vs ih =>
      intro hl get
      cases cs with
      | nil => simp at hl
      | cons c cs =>
        obtain ⟨c1, u1, e1, e2⟩ := get 0 v rfl
        obtain rfl : c = c1 := by simpa using e1
        exact .cons ⟨u1, e2⟩ (ih cs (by simpa using hl) fun i v e => get (i + 1) v (by simpa using e))
  exact ⟨.ref _, upd H s.heap.objs.size (.lst (z.cps.toList.map fun c => V.str (sgn c))), I.laid (t' := tk) k (Nat.le_refl _) ⟨by rw [List.length_map, Array.length_toList]; exact hz, acc.toList, c', rel, by rw [Array.toArray_toList]; exact hS⟩, rfl, q _ (I.hok.fresh (Nat.le_refl _))⟩
def gListS : GC := fun ts q => match ts with
  | [.str z] => z.length ≤ sizeLine ∧ q (.ol (z.cps.toList.map fun c => T.str (sgn c)))
  | _ => False
theorem isAll_sgn {G : Hp} : ∀ l : List Nat, IsAll K G (l.map fun c => V.str (sgn c)) (l.map fun c => T.str (sgn c))
  | [] => .nil
  | _ :: l => .cons .str (isAll_sgn l)
theorem simc_listS : SimC K M rListS gListS := fun ts q e vs G H i ok Q hq => by
  unfold gListS at e
  split at e
  · cases i with
    | cons i1 i =>
      cases i; cases i1
      refine ⟨_, rfl, e.1, fun p hp => ?_⟩
      obtain ⟨g, z⟩ := ol_new (K := K) ok hp (isAll_sgn _)
      exact hq _ _ _ _ g z e.2
  · exact e.elim
/-! ### x.extend(e), e a list -/
def sExt (i : Nat) (a : TEx) : TSx := fun τ k => a τ (fun s => match τ[i]?, s.fz with
  | some (.oo (.l ts)), .lst us => ts.length + us.length ≤ sizeLine ∧ k.nx (τ.set i (.ol (ts ++ us)))
  | _, _ => False) k.ex ∧ ∃ ts, τ[i]? = some (.ol ts)
theorem sims_ext {i : Nat} {te : TE} {a : TEx} (ha : SimE K M E te a) : SimS K M E (tDrop (tBM K "list" rExtend (tVar i) (tCons te tNil))) (sExt i a) := fun G0 H0 ok τ k e σ G H w D d => by
  obtain ⟨e, ts, ht⟩ := e
  obtain ⟨p, vs, h1, h2, h3, _⟩ := w.ol ok ht
  refine ⟨_, h1, .inl ⟨rfl, _, SqL.of h2⟩, ha.data e (w.w1 ok) (fun v G1 H1 s g i1 q => ?_) (d.ex.at w.go)⟩
  rw [ht] at q
  obtain ⟨p', vs', h1', h2', h3', h4'⟩ := (w.next ok g).ol ok ht
  rw [h1] at h1'
  obtain rfl : p = p' := by simpa using h1'
  split at q
  · rename_i ts' us e1 e2
    cases e1
    rw [e2] at i1
    cases i1 with
    | lst hg r =>
      exact ⟨p, _, vs', _, rfl, rfl, h2', ((w.next ok g).w1 ok).ok.sub _ _ hg, by rw [h3'.length, r.length]; exact q.1, d.nx _ _ _ _ (h4' _ _ (h3'.append r)) g.gg q.2⟩
  · exact q.elim
/-! ### in a dict of texts -/
def gDIn (f : Bool → Bool) (a b : TEx) : TEx := fun τ q r => a τ (fun s => b τ (fun u => oks u.fz.kd fun kts => oks s.fz.key fun k => q (.sh (.bl (f (lookK kts k).isSome)))) r) r
theorem IsKv.someK {xs : List (Key × V)} {kts : List (Key × T)} {k : Key} (r : IsKv K G xs kts) : (valV xs k).isSome = (lookK kts k).isSome := by
  rcases r.val (k := k) with ⟨z, z'⟩ | ⟨v, t', z1, z2, _⟩
  · rw [z, z'] <;> rfl
  · rw [z1, z2] <;> rfl
theorem sim_din {ta tb : TE} {a b : TEx} (ha : SimE K M E ta a) (hb : SimE K M E tb b) : SimE K M E (tDIn ta tb) (gDIn id a b) := fun τ q r e σ G H w Q hq hx =>
  ha.data e w (fun x G1 H1 s g1 ix e1 => hb.data e1 (w.go g1) (fun y G2 H2 u g2 iy e2 => by
    obtain ⟨kts, h1, e2⟩ := oks_cases e2
    obtain ⟨k, hk, e2⟩ := oks_cases e2
    obtain ⟨p, xs, rfl, hd, r1⟩ := iy.kd h1
    exact ⟨p, valV xs k, rfl, .inl ⟨xs, k, ((w.ok.go g1).go g2).sub.rd hd, ix.key hk, rfl⟩, hq _ (.sh _) G2 H2 (g1.trans g2) (by rw [r1.someK]; exact .bl) e2⟩) (hx.go g1)) hx
theorem sim_dnotin {ta tb : TE} {a b : TEx} (ha : SimE K M E ta a) (hb : SimE K M E tb b) : SimE K M E (tDNotIn ta tb) (gDIn not a b) := fun τ q r e σ G H w Q hq hx =>
  ha.data e w (fun x G1 H1 s g1 ix e1 => hb.data e1 (w.go g1) (fun y G2 H2 u g2 iy e2 => by
    obtain ⟨kts, h1, e2⟩ := oks_cases e2
    obtain ⟨k, hk, e2⟩ := oks_cases e2
    obtain ⟨p, xs, rfl, hd, r1⟩ := iy.kd h1
    exact ⟨p, valV xs k, rfl, .inl ⟨xs, k, ((w.ok.go g1).go g2).sub.rd hd, ix.key hk, rfl⟩, hq _ (.sh _) G2 H2 (g1.trans g2) (by rw [r1.someK]; exact .bl) e2⟩) (hx.go g1)) hx
/-! ### for k in d, d a locked dict of texts -/
def keyTr : Key → T
  | .inl i => .int i
  | .inr z => .str z
theorem key_is {k : Key} : Is K G (kV k) (keyTr k) := by
  cases k
  · exact .int
  · exact .str
theorem IsKv.atK : ∀ {xs : List (Key × V)} {kts : List (Key × T)} {i : Nat} {p : Key × T}, IsKv K G xs kts → kts[i]? = some p → ∃ v, xs[i]? = some (p.1, v) ∧ Is K G v p.2
  | _, _, _, _, .nil, e => by simp at e
  | _, _, 0, _, .cons b _, e => by simp at e; subst e; exact ⟨_, rfl, b⟩
  | _, _, i + 1, _, .cons _ r, e => by
    obtain ⟨v, h1, h2⟩ := r.atK (i := i) (by simpa using e)
    exact ⟨v, by simpa using h1, h2⟩
theorem itok_keysK {d : Addr} {o : Obj} {xs : List (Key × V)} {kts : List (Key × T)} (h : G d = some (.frz o (.dK xs))) (i : IsKv K G xs kts) : ItOk K M G (Itk d o xs) (kts.map fun p => keyTr p.1) := fun G1 H1 s ok j => by
  have hd : H1 d = some (.frz o (.dK xs)) := ok.sub _ _ (s _ _ h)
  refine ⟨fun hj => ⟨hd, by rw [i.length]; simpa using hj⟩, fun t ht => ?_⟩
  rw [List.getElem?_map] at ht
  obtain ⟨p, hp, rfl⟩ := Option.map_eq_some_iff.mp ht
  obtain ⟨v, h1, h2⟩ := i.atK hp
  refine ⟨⟨hd, (List.getElem?_eq_some_iff.mp h1).1⟩, fun x H' y => ?_⟩
  obtain ⟨rfl, k', v', e1, rfl⟩ := y
  rw [h1] at e1
  cases e1
  exact ⟨G1, .refl ok, key_is⟩
def iWalkK (a : TEx) : TIx := fun τ q r => a τ (fun s => match s.fz with
  | .fdc kts => q (kts.map fun p => keyTr p.1)
  | _ => False) r
theorem simi_keysK {te : TE} {a : TEx} (ha : SimE K M E te a) : SimI K M E (iKeys te) (iWalkK a) := fun τ q r e σ G H w R hq hx =>
  ha.data e w (fun v G1 H1 s g1 i e1 => by
    split at e1
    · rename_i kts hs
      rw [hs] at i
      cases i with
      | fdc h r => exact ⟨_, _, rfl, .inl ⟨_, g1.sub _ _ h, hq _ _ G1 H1 g1 (itok_keysK h r) e1⟩⟩
    · exact e1.elim) hx
/-! ### {key: value}, one pair -/
def gD1 (a b : TEx) : TEx := fun τ q r => a τ (fun s => b τ (fun u => oks s.fz.key fun k => q (.od [(k, u.fz)])) r) r
theorem sim_d1 {ta tb : TE} {a b : TEx} (ha : SimE K M E ta a) (hb : SimE K M E tb b) : SimE K M E (tDisp [(ta, tb)]) (gD1 a b) := fun τ q r e σ G H w Q hq hx p hp => by
  have g0 : Go M G H G (upd H p (.dK [])) := .lay w.ok hp
  refine ha.data e (w.go g0) (fun x G1 H1 s g1 ix e1 => hb.data e1 ((w.go g0).go g1) (fun y G2 H2 u g2 iy e2 => ?_) ((hx.go g0).go g1)) (hx.go g0)
  obtain ⟨k, hk, e2⟩ := oks_cases e2
  have g3 := (g0.trans g1).trans g2
  have nS : ¬ M.S p := w.ok.noS hp
  have e3 : H2 p = some (.dK []) := g2.keep p _ nS (g1.keep p _ nS upd_same)
  have n1 : G1 p = none := g1.new p (w.ok.fresh hp) (by rw [upd_same]; simp)
  have n2 : G2 p = none := g2.new p n1 (g1.there p (by rw [upd_same]; simp))
  have ix2 : Is K G2 x s.fz := ix.mono g2.gg
  refine ⟨e3, [(k, y)], by rw [ix2.key hk] <;> rfl, by show 1 ≤ 15; decide, ?_⟩
  exact hq _ (.od _) G2 _ (g3.write w.ok hp e3 (.inr (.inl ⟨_, rfl⟩)) n2) ⟨p, _, rfl, hp, upd_same, n2, .d (.cons iy .nil)⟩ e2
/-! ### of data -/
def gInD : GR2 := fun a b q => oks a.py fun d => oks b.py fun y => match y with
  | .list ds => SeqAt.shaped d = true ∧ SeqAt.shaped (.list ds) = true ∧ q (.sh (.bl (ds.any fun z => PyData.eqv z d)))
  | _ => False
theorem simr_inD : SimR2 K M (rInD K) gInD := fun tx ty q e x y G H ix iy ok Q hq => by
  obtain ⟨d, h1, e⟩ := oks_cases e
  obtain ⟨z, h2, e⟩ := oks_cases e
  split at e
  · exact ⟨d, _, ix.dp ok.sub h1, iy.dp ok.sub h2, e.1, e.2.1, hq _ (.sh _) G H (.refl ok) .bl e.2.2⟩
  · exact e.elim
def gNotInD : GR2 := fun a b q => oks a.py fun d => oks b.py fun y => match y with
  | .list ds => SeqAt.shaped d = true ∧ SeqAt.shaped (.list ds) = true ∧ q (.sh (.bl (!ds.any fun z => PyData.eqv z d)))
  | _ => False
theorem simr_notInD : SimR2 K M (rNotInD K) gNotInD := fun tx ty q e x y G H ix iy ok Q hq => by
  obtain ⟨d, h1, e⟩ := oks_cases e
  obtain ⟨z, h2, e⟩ := oks_cases e
  split at e
  · exact ⟨d, _, ix.dp ok.sub h1, iy.dp ok.sub h2, e.1, e.2.1, hq _ (.sh _) G H (.refl ok) .bl e.2.2⟩
  · exact e.elim
def gIndexD : GM := fun t ts q => match t, ts with
  | .lst us, [y] => oks y.py fun d => oks (pyAll us) fun ds => SeqAt.shaped (.list ds) = true ∧ SeqAt.shaped d = true ∧ ∃ (j : Nat) (z : PyData), ds[j]? = some z ∧ PyData.eqv z d = true ∧ (∀ (m : Nat) (z' : PyData), m < j → ds[m]? = some z' → PyData.eqv z' d = false) ∧ q (.sh (.int j))
  | _, _ => False
theorem simm_indexD : SimM K M "list" (rIndexD K) gIndexD := fun t ts q e x vs G H i iv ok => by
  unfold gIndexD at e
  split at e
  · obtain ⟨d, h1, e⟩ := oks_cases e
    obtain ⟨ds, h2, sl, sd, j, z, e1, e2, e3, e⟩ := oks_cases e
    have i' := i
    cases i with
    | lst hg r =>
      cases iv with
      | cons i1 iv =>
        cases iv
        refine ⟨.inl ⟨rfl, _, SqL.of (ok.sub _ _ hg)⟩, fun Q hq => ⟨_, _, d, ds, j, z, rfl, rfl, i'.dp ok.sub (d := .list ds) ?_, i1.dp ok.sub h1, sl, sd, e1, e2, e3, hq _ (.sh _) G H (.refl ok) .int e⟩⟩
        simp only [T.py, h2, Option.map_some]
  · exact e.elim
theorem ty_index (t : T) (ts : List T) (q : Sl → Prop) (e : gIndexD t ts q) (x : V) (G H : Hp) (i : Is K G x t) (ok : Ok M G H) : tyV K "list" x H := by
  unfold gIndexD at e
  split at e
  · cases i with
    | lst hg r => exact .inl ⟨rfl, _, SqL.of (ok.sub _ _ hg)⟩
  · exact e.elim
theorem ty_str1 {f : Str → Str → T} (t : T) (ts : List T) (q : Sl → Prop) (e : gStr1 f t ts q) (x : V) (G H : Hp) (i : Is K G x t) (ok : Ok M G H) : tyV K "str" x H := by
  unfold gStr1 at e
  split at e
  · exact str_ty i ok
  · exact e.elim
def gIsB : GR2 := fun a b q => match a, b with
  | .bl i, .bl j => q (.sh (.bl (decide (i = j))))
  | _, _ => False
theorem simr_isB : SimR2 K M (fun x y H Q => ∃ a b, x = .bl a ∧ y = .bl b ∧ Q (.bl (decide (a = b))) H) gIsB := fun tx ty q e x y G H ix iy ok Q hq => by
  unfold gIsB at e
  split at e
  · cases ix; cases iy
    exact ⟨_, _, rfl, rfl, hq _ (.sh _) G H (.refl ok) .bl e⟩
  · exact e.elim
end
/-! ### bundles -/
section
variable {X : Cx} {M : Mode} {E : XK} {a b : Expr} {ta tb : TE} {ga gb : TEx} {tg : Expr} {pos : Pos} {st : Stmt} {ts : TS} {gs : TSx}
theorem ge_din (hu : X.A.units + 64 < cLine) (ha : GE X M E a ta ga) (hb : GE X M E b tb gb) (hm : behindInMarks .In b = false := by rfl) : GE X M E (.Compare a [.In] [b] pos) (tDIn ta tb) (gDIn id ga gb) :=
  ⟨pe_cmp (pc_din (Nat.lt_of_le_of_lt (by omega) hu) ha.p hb.p) hm, sim_din ha.s hb.s⟩
theorem gt_din (hu : X.A.units + 64 < cLine) (ha : GE X M E a ta ga) (hb : GE X M E b tb gb) (hm : behindInMarks .In b = false := by rfl) : GT X M E (.Compare a [.In] [b] pos) (tB (tDIn ta tb)) (gB (gDIn id ga gb)) :=
  ⟨pt_cmp (pc_din (Nat.lt_of_le_of_lt (by omega) hu) ha.p hb.p) hm, simt_B (sim_din ha.s hb.s)⟩
theorem ge_dnotin (hu : X.A.units + 64 < cLine) (ha : GE X M E a ta ga) (hb : GE X M E b tb gb) (hm : behindInMarks .NotIn b = false := by rfl) : GE X M E (.Compare a [.NotIn] [b] pos) (tDNotIn ta tb) (gDIn not ga gb) :=
  ⟨pe_cmp (pc_dnotin (Nat.lt_of_le_of_lt (by omega) hu) ha.p hb.p) hm, sim_dnotin ha.s hb.s⟩
theorem gt_dnotin (hu : X.A.units + 64 < cLine) (ha : GE X M E a ta ga) (hb : GE X M E b tb gb) (hm : behindInMarks .NotIn b = false := by rfl) : GT X M E (.Compare a [.NotIn] [b] pos) (tB (tDNotIn ta tb)) (gB (gDIn not ga gb)) :=
  ⟨pt_cmp (pc_dnotin (Nat.lt_of_le_of_lt (by omega) hu) ha.p hb.p) hm, simt_B (sim_dnotin ha.s hb.s)⟩
theorem gi_keysK (ho : GE X M E a ta ga) : GI X M E tg a (iKeys ta) (iWalkK ga) := ⟨pi_keys ho.p, simi_keysK ho.s⟩
theorem ge_d1 (ha : GE X M E a ta ga) (hb : GE X M E b tb gb) : GE X M E (.Dict [some a] [b] pos) (tDisp [(ta, tb)]) (gD1 ga gb) := ⟨pe_disp (pps_cons ha.p hb.p pps_nil) rfl rfl (by simp) (by show 1 ≤ 15; decide), sim_d1 ha.s hb.s⟩
theorem ge_dget (hu : X.A.units + 64 < cLine) (ho : GE X M E a ta ga) (hi : GE X M E b tb gb) (hs : NoSl b := by exact fun _ _ => rfl) : GE X M E (.Subscript a b pos) (tDGet ta tb) (gDget ga gb) :=
  ⟨pe_dget (Nat.lt_of_le_of_lt (by omega) hu) ho.p hi.p hs, sim_dget ho.s hi.s⟩
/-- d[e] = value, d in the i-th slot -/
theorem gs_dput (i : Nat) {x : Str} {p1 pos' : Pos} {value e : Expr} (hu : X.A.units + 64 < cLine) (he : GE X M E e ta ga) (hv0 : GE X M E value tb gb) (hN : X.N[i]? = some x := by rfl) (hv : Vis X.env.scope x := by first | exact Or.inl rfl | exact Or.inr (Or.inl rfl) | exact Or.inr (Or.inr rfl))
    (hd : (x == ("__debug__" : Str)) = false := by decide) (hcd : (x == ("__classdict__" : Str)) = false := by decide) (hs : swapsWith value (some (.Subscript (.Name x p1) e pos')) pos.line X.env = pure false := by rfl) :
    GS X M E (.Assign [.Subscript (.Name x p1) e pos'] value pos) (sDPut (tVar i) ta tb) (sDp i ga gb) := ⟨ps_dput (Nat.lt_of_le_of_lt (by omega) hu) (pe_var hN hv hd hcd) he.p hv0.p hs, sims_dput he.s hv0.s⟩
/-- x.extend(e), x in the i-th slot -/
theorem gs_ext (i : Nat) {x : Str} {p1 p2 cpos : Pos} (he : GE X M E a ta ga) (hN : X.N[i]? = some x := by rfl) (hv : Vis X.env.scope x := by first | exact Or.inl rfl | exact Or.inr (Or.inl rfl) | exact Or.inr (Or.inr rfl))
    (hd : (x == ("__debug__" : Str)) = false := by decide) (hcd : (x == ("__classdict__" : Str)) = false := by decide) (hbase : attributeBase (.Name x p1) "extend" X.env (eval (.Name x p1) X.env) = eval (.Name x p1) X.env := by rfl)
    (hfew : ((backTo cpos (starEach [a] X.env)).all (fun x => !x.1) && (backToKw cpos (keywordEach [] X.env)).all (fun x => x.1.isSome) && decide (([a] : List Expr).length + ([] : List Keyword).length + (if ([] : List Keyword).isEmpty then 0 else 1) < 30)) = true := by rfl)
    (hline : (p2.endLine == cpos.line) = true := by rfl) (hs : starEach [a] X.env = (false, eval a X.env) :: starEach [] X.env := by rfl) (hplain : (backTo cpos (starEach [] X.env)).any (·.1) = false := by rfl)
    (hsw : swapsWith (.Call (.Attribute (.Name x p1) "extend" p2) [a] [] cpos) none pos.line X.env = pure false := by rfl) :
    GS X M E (.Expr (.Call (.Attribute (.Name x p1) "extend" p2) [a] [] cpos) pos) (tDrop (tBM X.K "list" rExtend (tVar i) (tCons ta tNil))) (sExt i ga) :=
  ⟨ps_expr (pe_bm PySem.F.plainAttrs_list PySem.F.slot_list_extend PySem.F.type_list_extend mt_extend (pe_var hN hv hd hcd) (pa_cons he.p pa_nil hs) hbase hfew hline hs hplain) hsw, sims_ext he.s⟩
/-- sorted(d, key=lambda one: d[one]) -/
theorem ge_sortD (i : Nat) {Z : Tb} {c P : Addr} {x o : Str} {k : Nat} {params : Arguments} {scope : Scope} {p p2 p3 p4 p5 lpos kpos : Pos} (hw : X.w = TheW.w) (l : LamM M Z P) (hc : X.calm = true) (hm : X.mg "sorted" = none) (B : LamX.TabB X.base X.mg c P) (hcode : X.env.code = .ref c) (hmT : (P, X.env.qual ++ "<lambda>") ∈ Z) (hu : ∀ p ∈ Z, p.1 = P → p.2 = X.env.qual ++ "<lambda>") (hr : Room (k + 3) X.A)
    (hN : X.N[i]? = some x := by rfl) (hv : Vis X.env.scope x := by first | exact Or.inl rfl | exact Or.inr (Or.inl rfl) | exact Or.inr (Or.inr rfl)) (hnd : (x == ("__debug__" : Str)) = false := by decide) (hnc : (x == ("__classdict__" : Str)) = false := by decide) (hod : (o == ("__debug__" : Str)) = false := by decide) (hoc : (o == ("__classdict__" : Str)) = false := by decide)
    (hg : Gl X "sorted" := by rfl) (L : Lam1 o X.env.scope scope := by exact lam1_by (by decide +kernel)) (na : o ∉ X.N := by decide +kernel) (hvx : Vis scope x := by first | exact Or.inl rfl | exact Or.inr (Or.inl rfl) | exact Or.inr (Or.inr rfl)) (hvo : Vis scope o := by first | exact Or.inl rfl | exact Or.inr (Or.inl rfl) | exact Or.inr (Or.inr rfl)) (hdef : defaultsOf params X.env = ([], []) := by rfl)
    (hbind : ∀ (q : Str) (cl : List (Str × Addr)) (pm cv ctv : Value) (u : Value), bindArgs (PySem.W.kla_fn "<lambda>" q params (.Subscript (.Name x p3) (.Name o p4) p5) scope cl pm cv ctv) ⟨[u], []⟩ = pure [(o, u)] := by exact fun _ _ _ _ _ _ => rfl)
    (he : backTo pos (starEach [.Name x p2] X.env) = (false, eval (.Name x p2) X.env) :: backTo pos (starEach [] X.env) := by rfl) (hpl : (backTo pos (starEach [.Name x p2] X.env)).any (·.1) = false := by rfl) :
    GE X M E (.Call (.Name "sorted" p) [.Name x p2] [⟨some "key", .Lambda params (.Subscript (.Name x p3) (.Name o p4) p5) scope lpos, kpos⟩] pos) (tSortD TheW.w Z P i (tNGet X.K TheW.w (tVar (i + 1)) (tVar 0))) (gSortD i) :=
  ⟨hw ▸ pe_sortD (k := k) hc hg hm hN hv hnd hnc B hcode hmT hu hr L na hdef hbind (fun A s H f c' hr2 => pe_nget (show (A.deeper (LamX.lamEnv X scope s.heap.objs.size f c')).units + 9 < cLine from by have := hr2.units; omega) (pe_var (i := i + 1) (by simpa [lam1Cx] using hN) hvx hnd hnc) (pe_var (i := 0) rfl hvo hod hoc) (fun _ _ => rfl)) he hpl, sim_sortD l⟩
end
end TL
/-! TLyc: -x, room, a def whose lambda is known. -/
namespace TL
open PySem PySem.Spec PyProof.Rows L2
theorem room65 {k : Nat} {A : Around} (r : Room k A) : A.units + 65 < cLine := by have := r.un; omega
theorem room9 {k : Nat} {A : Around} (r : Room k A) : A.units + 9 < cLine := by have := r.un; omega
section
variable [TheW]
section
variable {X : Cx} {M : Mode} {E : XK} {a : Expr} {ta : TE} {ga : TEx} {pos : Pos}
def gNeg (a : TEx) : TEx := fun τ q r => a τ (fun s => isI s.fz fun i => q (.sh (.int (-i)))) r
theorem ge_neg (ha : GE X M E a ta ga) : GE X M E (.UnaryOp .USub a pos) (tUn (rU fun i => .int (-i)) ta) (gNeg ga) := ⟨pe_un un_neg ha.p, fun τ q r e σ G H w Q hq hx => ha.s.data e w (fun v G1 H1 s g1 i e1 => by
  cases hs : s.fz with
  | int j =>
    rw [hs] at e1 i
    cases i
    exact ⟨j, rfl, hq _ (.sh _) G1 H1 g1 .int e1⟩
  | _ => rw [hs] at e1; exact e1.elim) hx⟩
theorem gt_chain {b c : Expr} {tb tc : TE} {gb gc : TEx} {op op' : CmpOp} {r r' : R2} {g g' : GR2} (ho : OpR X (compareOp op) r) (hr : SimR2 X.K M r g) (ho' : OpR X (compareOp op') r') (hr' : SimR2 X.K M r' g') (ha : GE X M E a ta ga) (hb : GE X M E b tb gb) (hc : GE X M E c tc gc) (hm : lastMarks [op, op'] [b, c] = false := by rfl) :
    GT X M E (.Compare a [op, op'] [b, c] pos) (tTest (tChain r r' ta tb tc)) (gB (gChain g g' ga gb gc)) := ⟨pt_chain ho ho' ha.p hb.p hc.p (hm := hm), simt_test (sim_chain hr hr' ha.s hb.s hc.s)⟩
end
section
variable {P : Program} {w : World} {K : PySem.W.Frag} {mg : Str → Option Value} {base : Heap} {x qual : Str} {params : Arguments} {body : List Stmt} {scope : Scope} {f : Addr} {fd : FuncData}
theorem mk_fnC {N ps : List Str} {k : Nat} {sp : SpX} {C : Mode → Prop} (F : FunD K x qual params body scope [] [] f fd) (S : FnScope N ps scope) (hl : ∀ M ts q r, sp M ts q r → ts.length = ps.length) (hC : ∀ M ts q r, sp M ts q r → C M)
    (hbody : ∀ (c : Addr) (oc : Value) (od : Option Addr) (osl : Array (Option Value)), K.lookup f = some ⟨oc, od, .func fd, osl⟩ → fd.code = .ref c → ∀ (A : Around) (outer : List Env) (s : Shared) (H : Hp) (E : XK) (M : Mode), C M → Room k (A.deeper (envOfC qual scope s.heap.objs.size f (.ref c))) →
      ∃ t g, GSs (cxOf (L2.CX P w) P w K mg base N qual scope f (.ref c) A outer s H E) M E body t g ∧ ∀ ts q r, sp M ts q r → g (startS N ts) (KnOf q r)) : FnOk P w K mg base (L2.CX P w) (k + 1) f fd ps (lift K sp) := by
  obtain ⟨oc, od, dV, kV, doc, pm, an, cdv, ct, osl, rfl, lk, hcd, _, _⟩ := F.ex
  obtain ⟨c, rfl⟩ := He.codeIn_ref hcd
  refine ⟨fun vs H Q E ⟨M, G, ts, q, r, _, i, hs, _⟩ => by rw [i.length]; exact hl M ts q r hs, fun A outer s H args us vs Q E hr e0 hb hv hs => ?_⟩
  obtain ⟨M, G, ts, q, r, ok, i, hs, hq, hx⟩ := hs
  refine LamX.run_ofS lk hcd S hr e0 hb hv (by rw [i.length]; exact hl M ts q r hs) fun hr2 => ?_
  obtain ⟨t, g, hp, hg⟩ := hbody c oc od osl lk rfl A outer s H E M (hC M ts q r hs) hr2
  refine ⟨t, hp.p, hp.s G H ok (startS N ts) (KnOf q r) (hg ts q r hs) (L2.start N vs) G H ⟨⟨[], en_start i, fun _ h => nomatch h⟩, .refl ok⟩ _ ⟨?_, hq, fun _ _ _ _ _ _ h => h.elim, fun _ _ _ _ _ _ h => h.elim, hx⟩⟩
  exact fun σ τ G1 H1 w1 _ z => hq .non (.sh .non) G1 H1 w1.go .non z
end
/-- pick of a list, a tuple, a text -/
def spPickW : SpX := fun M ts q _ => ∃ d t xs, ts = [.raw (.ref d), t] ∧ IsDM M d ∧ (t = .lst xs ∨ t = .tup xs ∨ ∃ z : Str, t = .str z ∧ xs = z.cps.toList.map fun c => .str (sgn c)) ∧ 0 < xs.length ∧ xs.length < 1000000 ∧ ∀ x ∈ xs, q (.sh x)
end
end TL
/-! TLta: sets of tuples of truth values. -/
namespace TL
open PySem PySem.Spec PyProof.Rows L2
/-- truths as a key -/
def bKey (bs : List Bool) : NestedKey := .tup (bs.map fun b => .num (if b = true then 1 else 0))
def bHash (w : World) (bs : List Bool) : Int := (bKey bs).hash w
theorem bKey_inj : ∀ {a b : List Bool}, bKey a = bKey b → a = b := by
  have go : ∀ {a b : List Bool}, (a.map fun b => NestedKey.num (if b = true then 1 else 0)) = (b.map fun b => NestedKey.num (if b = true then 1 else 0)) → a = b := by
    intro a
    induction a with
    | nil => intro b h; cases b with | nil => rfl | cons _ _ => simp at h
    | cons x a ih =>
      intro b h
      cases b with
      | nil => simp at h
      | cons y b =>
        rw [List.map_cons, List.map_cons] at h
        obtain ⟨h1, h2⟩ := List.cons.inj h
        rw [ih h2]
        injection h1 with h1
        cases x <;> cases y <;> first | rfl | (simp at h1)
  intro a b h
  unfold bKey at h
  injection h with h
  exact go h
theorem bKey_depth (bs : List Bool) : (bKey bs).depth ≤ 8 := by
  have h : ∀ l : List Bool, NestedKey.depthAll (l.map fun b => NestedKey.num (if b = true then 1 else 0)) = 0 := by
    intro l
    induction l with
    | nil => rfl
    | cons b l ih =>
      rw [List.map_cons]
      simp only [NestedKey.depthAll, NestedKey.depth, ih]
      rfl
  unfold bKey
  simp only [NestedKey.depth, h]
  omega
/-- at a stands the tuple bs -/
def IsBs (h : Heap) (bs : List Bool) (a : Addr) : Prop := ∃ o n, h.get? a = some o ∧ o.cls = .type "tuple" ∧ o.data = .seq (bs.map Value.bool).toArray n
theorem bAll (h : Heap) : ∀ bs : List Bool, NestedAll h (bs.map fun b => NestedKey.num (if b = true then 1 else 0)) (bs.map Value.bool)
  | [] => .nil
  | b :: bs => .cons (.bool rfl) (bAll h bs)
theorem IsBs.key {P : Program} {w : World} {h : Heap} {bs : List Bool} {a : Addr} (x : IsBs h bs a) : (nestedKind P w).is h (bKey bs) a := by
  obtain ⟨o, n, h1, h2, h3⟩ := x
  exact ⟨.tup h1 h2 h3 (by simpa using bAll h bs), bKey_depth bs⟩
theorem IsBs.keep {h h' : Heap} {bs : List Bool} {a : Addr} (x : IsBs h bs a) (k : ∀ o, h.get? a = some o → h'.get? a = some o) : IsBs h' bs a := by
  obtain ⟨o, n, h1, h2⟩ := x
  exact ⟨o, n, k o h1, h2⟩
theorem IsBs.nk {h : Heap} {bs : List Bool} {a : Addr} (x : IsBs h bs a) : NestedIs h (bKey bs) (.ref a) := by
  obtain ⟨o, n, h1, h2, h3⟩ := x
  exact .tup h1 h2 h3 (by simpa using bAll h bs)
theorem IsBs.one {h : Heap} {bs cs : List Bool} {a : Addr} (x : IsBs h bs a) (y : IsBs h cs a) : bs = cs := bKey_inj (NestedIs.inj _ _ _ x.nk y.nk)
theorem IsBs.ty {s : Shared} {bs : List Bool} {a : Addr} (x : IsBs s.heap bs a) : s.TypeIs (.ref a) "tuple" := by
  obtain ⟨o, n, h1, h2, _⟩ := x
  exact ⟨o, h1, h2⟩
section
variable {P : Program} {w : World} {A : Around} {E : Value → Shared → Prop} {s : Shared}
theorem ofA_bool (n : Nat) (b : Bool) : ofAClassStatement n (.bool b) = pure false := by cases n <;> rfl
theorem hv_bool (n : Nat) (b : Bool) : hashByValue n (.bool b) = pure true := by cases n <;> rfl
/-- a turn over truth values that changes nothing -/
theorem for_bools {β : Type} {f : Value → β → Sem (ForInStep β)} {bs : List Bool} {z : β} {I : β → Prop} {Q : β → Shared → Prop} (h0 : I z) (step : ∀ (b : Bool) (r : β), I r → ∃ r', I r' ∧ f (.bool b) r = pure (.yield r')) (hQ : ∀ r, I r → Q r s) :
    wpAny (model P w) A (forIn (bs.map Value.bool) z f) Q E s := by
  refine wpAny_forIn_list _ (fun rest r s' => I r ∧ s' = s ∧ ∃ cs : List Bool, rest = cs.map Value.bool) _ ?_ ?_ _ _ ⟨h0, rfl, bs, rfl⟩
  · rintro v rest r s' ⟨hi, rfl, cs, e⟩
    cases cs with
    | nil => simp at e
    | cons c cs =>
      rw [List.map_cons] at e
      obtain ⟨e1, e2⟩ := List.cons.inj e
      obtain ⟨r', h1, h2⟩ := step c r hi
      rw [e1, h2]
      exact wpAny_pure ⟨h1, rfl, cs, e2⟩
  · rintro r s' ⟨hi, rfl, _⟩
    exact hQ r hi
theorem hv_bs {bs : List Bool} {a : Addr} {Q : Bool → Shared → Prop} (x : IsBs s.heap bs a) (h : Q true s) : wpAny (model P w) A (hashByValue 8 (.ref a)) Q E s := by
  have t := x.ty
  obtain ⟨o, n, h1, h2, h3⟩ := x
  unfold hashByValue
  refine wpAny_bind (wpAny_specialOf t F.slot_tuple_hash.lookup (show wpAny _ _ (seqItems? (.ref a) >>= _) _ _ s from wpAny_bind (wpAny_seqItems h1 h3 (wpAny_bind ?_))))
  show wpAny _ _ (forIn (bs.map Value.bool).toArray _ _) _ _ s
  rw [← Array.forIn_toList]
  refine for_bools (I := fun r => r.1 = none) rfl (fun b r hr => ⟨r, hr, ?_⟩) fun r hr => ?_
  · rw [hv_bool]
    obtain ⟨r1, r2⟩ := r
    have e : r1 = none := hr
    subst e
    rfl
  · obtain ⟨r1, r2⟩ := r
    have e : r1 = none := hr
    subst e
    exact wpAny_pure h
theorem ofA_bs {bs : List Bool} {a : Addr} {Q : Bool → Shared → Prop} (x : IsBs s.heap bs a) (h : Q false s) : wpAny (model P w) A (ofAClassStatement 8 (.ref a)) Q E s := by
  have t := x.ty
  obtain ⟨o, n, h1, h2, h3⟩ := x
  unfold ofAClassStatement
  refine wpAny_bind (wpAny_typeOf t ?_)
  dsimp only
  have e : (("tuple" : String) == "tuple") = true := by decide
  simp only [e, if_true, Bool.not_true, Bool.false_eq_true, if_false]
  try refine wpAny_bind (wpAny_pure ?_)
  try simp only [Bool.not_true, Bool.false_eq_true, if_false]
  show wpAny _ _ (seqItems? (.ref a) >>= _) _ _ s
  refine wpAny_bind (wpAny_seqItems h1 h3 (wpAny_bind ?_))
  show wpAny _ _ (forIn (bs.map Value.bool).toArray _ _) _ _ s
  rw [← Array.forIn_toList]
  refine for_bools (I := fun r => r.1 = none) rfl (fun b r hr => ⟨r, hr, ?_⟩) fun r hr => ?_
  · rw [ofA_bool]
    obtain ⟨r1, r2⟩ := r
    have e : r1 = none := hr
    subst e
    rfl
  · obtain ⟨r1, r2⟩ := r
    have e : r1 = none := hr
    subst e
    exact wpAny_pure h
/-- such a search shows nothing -/
theorem quiet_bs {bs : List Bool} {a : Addr} {Q : Bool → Shared → Prop} (x : IsBs s.heap bs a) {ys : List Value} (hy : ∀ y ∈ ys, ∃ cs c, y = Value.ref c ∧ IsBs s.heap cs c) (h : Q false s) : wpAny (model P w) A (searchCouldBeSeen (.ref a) ys) Q E s := by
  unfold searchCouldBeSeen
  refine wpAny_bind (wpAny_forIn_list _ (fun rest r s' => r.1 = none ∧ s' = s ∧ ∀ y ∈ rest, ∃ cs c, y = Value.ref c ∧ IsBs s.heap cs c) _ ?_ ?_ _ _ ⟨rfl, rfl, hy⟩)
  · rintro v rest r s' ⟨hr, rfl, all⟩
    obtain ⟨cs, c, rfl, hc⟩ := all v List.mem_cons_self
    have back : r.1 = none ∧ s' = s' ∧ ∀ y ∈ rest, ∃ cs c, y = Value.ref c ∧ IsBs s'.heap cs c := ⟨hr, rfl, fun u hu => all u (List.mem_cons_of_mem _ hu)⟩
    dsimp only
    by_cases hv : (a == c || (carriedByValue (.ref a) && carriedByValue (.ref c))) = true
    · exact wp_if_pos hv (wpAny_pure ⟨rfl, back.2⟩)
    · refine wp_if_neg hv (wpAny_bind ((nestedKind P w).quiet x.key ?_))
      simp only [Bool.not_true, Bool.false_eq_true, if_false]
      refine wpAny_bind ((nestedKind P w).quiet hc.key ?_)
      simp only [Bool.not_true, Bool.false_eq_true, if_false]
      refine wpAny_bind (ofA_bs x ?_)
      simp only [Bool.false_eq_true, if_false]
      refine wpAny_bind (ofA_bs hc ?_)
      simp only [Bool.false_eq_true, if_false]
      exact wpAny_pure ⟨rfl, back.2⟩
  · rintro ⟨r1, r2⟩ s' ⟨hr, rfl, _⟩
    have e : r1 = none := hr
    subst e
    exact wpAny_pure h
end
end TL
/-! TLtb: the search in a set of tuples of truth values. -/
namespace TL
open PySem PySem.Spec PyProof.Rows L2
abbrev BL := List (Addr × List Bool)
def bRows (w : World) (L : BL) : List (Int × Value) := L.map fun p => (bHash w p.2, Value.ref p.1)
def bHs (w : World) (L : BL) : List Int := L.map fun p => bHash w p.2
structure SB0 (w : World) (h : Heap) (a : Addr) (L : BL) (es : Array (Int × Value)) (ep : Nat) (t : SetTable) : Prop where
  obj : ∃ o, h.get? a = some o ∧ o.ExactSet ∧ o.data = .set es ep t
  es_ : es.toList = bRows w L
  ok : TabOk t (bHs w L)
  nd : (L.map (·.2)).Nodup
  pl : t.plain = true
  ld : w.params.followText "set-order" = true ∨ t.led = true
  rm : L.length * 5 < t.mask * 3
  fw : L.length < 64
def BTup (h : Heap) (L : BL) : Prop := ∀ p ∈ L, IsBs h p.2 p.1
/-- the c-th stand of a search -/
abbrev stp (t : SetTable) (g : Int) (c : Nat) : SetTable.Probe := nth t.mask (runAt t.mask (SetTable.bits g % (t.mask + 1)) (SetTable.bits g)) c
theorem stp_add (t : SetTable) (g : Int) (c q : Nat) : nth t.mask (stp t g c) q = stp t g (c + q) := (nth_add t.mask c _ q).symm
theorem nth_dum (m : Nat) : ∀ (n : Nat) (p : SetTable.Probe), p.dummy = none → (nth m p n).dummy = none
  | 0, _, h => h
  | n + 1, p, h => nth_dum m n (adv m p) (by unfold adv; split <;> exact h)
section
variable {P : Program} {w : World} {A : Around} {E : Value → Shared → Prop} {s : Shared} {a x : Addr} {L : BL} {es : Array (Int × Value)} {ep : Nat} {t : SetTable} {k : List Bool}
theorem SB0.len (R : SB0 w s.heap a L es ep t) : es.size = L.length := by
  have z := congrArg List.length R.es_
  rw [bRows, List.length_map, Array.length_toList] at z
  exact z
theorem SB0.hlen (R : SB0 w s.heap a L es ep t) : t.place.size = L.length := by
  have z := R.ok.sz
  rw [bHs, List.length_map] at z
  exact z
theorem SB0.fit (R : SB0 w s.heap a L es ep t) : t.fits es.size = true := by
  have z1 := R.len
  have z2 := R.hlen
  have z3 := R.rm
  unfold SetTable.fits SetTable.fill
  rw [R.ok.dm, Bool.and_eq_true, beq_iff_eq, decide_eq_true_eq]
  exact ⟨by omega, show t.place.size + 0 ≤ t.mask by omega⟩
theorem SB0.row (R : SB0 w s.heap a L es ep t) {i : Nat} {p : Addr × List Bool} (h : L[i]? = some p) : es[i]? = some (bHash w p.2, Value.ref p.1) := by
  rw [← Array.getElem?_toList, R.es_, bRows, List.getElem?_map, h]
  rfl
/-- the search, from its c-th stand on -/
theorem bsearch (R : SB0 w s.heap a L es ep t) (T : BTup s.heap L) (hx : IsBs s.heap k x) (hu : A.units + 8 < cLine) {e : Nat} (e1 : e < 10 * SetTable.turns t.mask) (e2 : (stp t (bHash w k) e).j ∉ t.place.toList) (e3 : ∀ c, c < e → (stp t (bHash w k) c).j ∈ t.place.toList)
    {Q : SetFound → Shared → Prop} (yes : k ∈ L.map (·.2) → Q (.there none) s) (no : k ∉ L.map (·.2) → Q (.free (stp t (bHash w k) e).j false) s) :
    ∀ (f c : Nat) (st : Option SetTable.Probe), st.getD (t.probeStart (bHash w k)) = stp t (bHash w k) c → c ≤ e → e - c < f →
      (∀ (i : Nat) p, L[i]? = some p → p.2 = k → ∃ c', c ≤ c' ∧ c' < e ∧ t.place.toList[i]? = some (stp t (bHash w k) c').j) →
      wpAny (model P w) A (setSearchFrom a (.ref x) (bHash w k) true f st) Q E s
  | 0, c, st, _, _, z, _ => absurd z (Nat.not_lt_zero _)
  | f + 1, c, st, h1, h2, h3, ahead => by
    obtain ⟨o, ho, hex, hd⟩ := R.obj
    have odd : ¬ t.gaveWay = true := by
      unfold SetTable.gaveWay
      rw [mask_odd R.ok.mok]
      decide
    rw [setSearchFrom_succ]
    refine wpAny_bind (wpAny_setState_of ho hd R.fit (wp_if_neg odd ?_))
    try refine wpAny_bind (wpAny_pure ?_)
    dsimp only
    have hat : ∀ (i : Nat) p, L[i]? = some p → (fun i => (es[i]?.map (·.1)).getD 0) i = bHash w p.2 := fun i p hp => by
      show (es[i]?.map (·.1)).getD 0 = _
      rw [R.row hp]
      rfl
    have spec := go_spec t R.ok.ris R.ok.dm (fun i => (es[i]?.map (·.1)).getD 0) (bHash w k) (10 * SetTable.turns t.mask) (e - c) (stp t (bHash w k) c) (nth_dum t.mask c _ rfl) (by omega) (fun q hq => by rw [stp_add]; exact e3 _ (by omega)) (by rw [stp_add, show c + (e - c) = e by omega]; exact e2)
    simp only [stp_add] at spec
    have pe : t.probe (fun i => (es[i]?.map (·.1)).getD 0) (bHash w k) (st.getD (t.probeStart (bHash w k))) = SetTable.probe.go t (fun i => (es[i]?.map (·.1)).getD 0) (bHash w k) (10 * SetTable.turns t.mask) (stp t (bHash w k) c) := by
      rw [h1]
      rfl
    rw [pe]
    rcases spec with ⟨q, i, hq, hi, hh, hno, hgo⟩ | ⟨hno, hgo⟩
    · rw [hgo]
      dsimp only
      have il : i < L.length := by
        have z := (List.getElem?_eq_some_iff.mp hi).1
        rw [Array.length_toList, R.hlen] at z
        exact z
      obtain ⟨p, hp⟩ : ∃ p, L[i]? = some p := ⟨_, List.getElem?_eq_getElem il⟩
      have mp := List.mem_of_getElem? hp
      have tail : wpAny (model P w) A (searchRest a (.ref x) (bHash w k) true f es t (stp t (bHash w k) (c + q)).j i (stp t (bHash w k) (c + (q + 1)))) Q E s := by
        unfold searchRest
        rw [R.row hp]
        refine wpAny_bind (wpAny_holding ((nestedKind P w).eqBool hu (T p mp).key hx.key (wpAny_bind (wpAny_setState_of ho hd R.fit ?_))))
        dsimp only
        by_cases same : p.2 = k
        · exact wp_if_pos (by simp [same]) (wpAny_pure (yes (List.mem_map.mpr ⟨p, mp, same⟩)))
        · have ns : ¬ bKey p.2 = bKey k := fun z => same (bKey_inj z)
          refine wp_if_neg (by simp [ns]) ?_
          try refine wpAny_bind (wpAny_pure ?_)
          rw [sameMem]
          have sl : t.slot (stp t (bHash w k) (c + q)).j = .live i := slot_live R.ok.ris hi
          simp only [if_true, sl, R.row hp]
          refine wpAny_bind (wpAny_isSame_ref_self (wpAny_bind (wpAny_pure ?_)))
          simp only [if_true]
          refine wp_if_neg (by simp [ns]) (bsearch R T hx hu e1 e2 e3 yes no f (c + (q + 1)) _ rfl (by omega) (by omega) fun i0 p0 g1 g2 => ?_)
          obtain ⟨c', b1, b2, b3⟩ := ahead i0 p0 g1 g2
          refine ⟨c', ?_, b2, b3⟩
          rcases Nat.lt_trichotomy c' (c + q) with z | z | z
          · refine absurd ((hat i0 p0 g1).trans (congrArg (bHash w) g2)) (hno (c' - c) i0 (by omega) ?_)
            rw [show c + (c' - c) = c' by omega]
            exact b3
          · rw [z] at b3
            have s0 := slot_live R.ok.ris b3
            rw [sl] at s0
            injection s0 with s0
            rw [← s0, hp] at g1
            exact absurd ((congrArg Prod.snd (Option.some.inj g1)).trans g2) same
          · omega
      by_cases hl : t.led = true
      · refine wp_if_neg (by simp [hl]) ?_
        try refine wpAny_bind (wpAny_pure ?_)
        exact tail
      · refine wp_if_pos (by simp [hl]) (wpAny_bind (quiet_bs hx (fun y hy => ?_) ?_))
        · obtain ⟨z, hz, ez⟩ := List.mem_map.mp hy
          have hz1 : z ∈ es ∧ z.1 = bHash w k := by simpa using hz
          have hz2 : z ∈ es.toList := by simpa using hz1.1
          rw [R.es_] at hz2
          obtain ⟨p2, hp2, z2⟩ := List.mem_map.mp hz2
          exact ⟨p2.2, p2.1, by rw [← ez, ← z2], T p2 hp2⟩
        · refine wp_if_neg (by decide) ?_
          try refine wpAny_bind (wpAny_pure ?_)
          exact tail
    · rw [hgo]
      dsimp only
      rw [show c + (e - c) = e by omega]
      refine wpAny_pure (no fun hm => ?_)
      obtain ⟨p0, m0, g2⟩ := List.mem_map.mp hm
      obtain ⟨i0, l0, z0⟩ := List.getElem_of_mem m0
      have g1 : L[i0]? = some p0 := by rw [List.getElem?_eq_getElem l0, z0]
      obtain ⟨c', b1, b2, b3⟩ := ahead i0 p0 g1 g2
      refine hno (c' - c) i0 (by omega) ?_ ((hat i0 p0 g1).trans (congrArg (bHash w) g2))
      rw [show c + (c' - c) = c' by omega]
      exact b3
end
end TL
/-! TLtc: adding to a set of tuples of truth values. -/
namespace TL
open PySem PySem.Spec PyProof.Rows L2
def bRow (w : World) (p : Addr × List Bool) : Int × Value := (bHash w p.2, Value.ref p.1)
theorem range_all {α : Type} : ∀ L : List α, (List.range L.length).filterMap (fun i => L[i]?) = L
  | [] => rfl
  | x :: L => by
    rw [List.length_cons, List.range_succ_eq_map, List.filterMap_cons_some (by rfl : (x :: L)[0]? = some x), List.filterMap_map]
    have e : ((fun i => (x :: L)[i]?) ∘ Nat.succ) = fun i => L[i]? := by funext i; rfl
    rw [e, range_all L]
theorem fm_some {α β : Type} {f : α → Option β} {g : α → β} : ∀ {l : List α}, (∀ i ∈ l, f i = some (g i)) → l.filterMap f = l.map g
  | [], _ => rfl
  | i :: l, h => by rw [List.filterMap_cons_some (h i List.mem_cons_self), fm_some fun j hj => h j (List.mem_cons_of_mem _ hj), List.map_cons]
/-- rows laid in another sequence -/
theorem bRows_order {w : World} {L : BL} {es : Array (Int × Value)} {order : Array Nat} (hr : es.toList = bRows w L) (hp : order.toList.Perm (List.range L.length)) :
    ∃ L2, (order.filterMap (es[·]?)).toList = bRows w L2 ∧ L2.Perm L ∧ bHs w L2 = order.toList.map fun i => (es.map (·.1)).getD i 0 := by
  have ei : ∀ i, es[i]? = (L[i]?).map (bRow w) := fun i => by
    rw [← Array.getElem?_toList, hr, bRows, List.getElem?_map]
    rfl
  refine ⟨order.toList.filterMap fun i => L[i]?, ?_, ?_, ?_⟩
  · rw [Array.toList_filterMap, bRows, List.map_filterMap]
    congr 1
    funext i
    exact ei i
  · have q := hp.filterMap fun i => L[i]?
    rw [range_all] at q
    exact q
  · rw [bHs, List.map_filterMap]
    refine fm_some fun i hi => ?_
    have il : i < L.length := List.mem_range.mp (hp.mem_iff.mp hi)
    have z : (es.map (·.1))[i]? = some (bHash w L[i].2) := by
      rw [Array.getElem?_map, ei, List.getElem?_eq_getElem il]
      rfl
    rw [List.getElem?_eq_getElem il, Option.map_some, Array.getD_eq_getD_getElem?, z]
    rfl
theorem mid_perm {α : Type} (L : List α) (p : Nat) (x : α) : (L.take p ++ x :: L.drop p).Perm (x :: L) := by
  have h : (L.take p ++ x :: L.drop p).Perm (x :: (L.take p ++ L.drop p)) := List.perm_middle
  rwa [List.take_append_drop] at h
section
variable {P : Program} {w : World} {A : Around} {E : Value → Shared → Prop} {s : Shared} {a x : Addr} {L : BL} {es : Array (Int × Value)} {ep : Nat} {t : SetTable} {k : List Bool}
theorem bfind (R : SB0 w s.heap a L es ep t) (T : BTup s.heap L) (hx : IsBs s.heap k x) (hu : A.units + 8 < cLine) {Q : SetFound → Shared → Prop} (yes : k ∈ L.map (·.2) → Q (.there none) s)
    (no : ∀ e, k ∉ L.map (·.2) → (stp t (bHash w k) e).j ∉ t.place.toList → (∀ c, c < e → (stp t (bHash w k) c).j ∈ t.place.toList) → Q (.free (stp t (bHash w k) e).j false) s) :
    wpAny (model P w) A (setSearch a (.ref x) (bHash w k) true) Q E s := by
  have room := R.rm
  obtain ⟨e, e1, e2, e3⟩ := R.ok.first (by rw [bHs, List.length_map]; omega) (bHash w k)
  have small : e < 100000 := by
    have z : 10 * SetTable.turns t.mask ≤ 1420 := by
      unfold SetTable.turns
      rcases R.ok.mok with m | m | m <;> omega
    omega
  unfold setSearch
  refine bsearch R T hx hu e1 e2 e3 yes (fun hn => no e hn e2 e3) 100000 0 none rfl (Nat.zero_le _) (by omega) fun i p hp hk => ?_
  have il : i < t.place.toList.length := by
    rw [Array.length_toList, R.hlen]
    exact (List.getElem?_eq_some_iff.mp hp).1
  have hj := List.getElem?_eq_getElem il
  obtain ⟨c, hc, z⟩ := R.ok.before e2 (i := i) (by rw [bHs, List.getElem?_map, hp, ← hk]; rfl) hj
  exact ⟨c, Nat.zero_le _, hc, by rw [hj]; exact congrArg some z.symm⟩
theorem bs_apart {h h' : Heap} {bs : List Bool} {b : Addr} {o : Obj} (hb : IsBs h bs b) (ho : h.get? a = some o) (hd : o.data = .set es ep t) (hs : Heap.SameBut a h h') : IsBs h' bs b := by
  refine hb.keep fun o' e => (hs.2 b ?_).trans e
  rintro rfl
  obtain ⟨o2, n, g1, _, g2⟩ := hb
  rw [ho] at g1
  cases g1
  rw [hd] at g2
  cases g2
/-- the table, laid anew -/
theorem brelay {o : Obj} (ho : s.heap.get? a = some o) (hex : o.ExactSet) (hd : o.data = .set es ep t) (hr : es.toList = bRows w L) (sz : t.place.size = es.size) (dm : t.dummies = #[]) (fl : es.size ≤ t.mask) (nd : (L.map (·.2)).Nodup) (pl : t.plain = true)
    (ld : w.params.followText "set-order" = true ∨ t.led = true) (fw : L.length < 64) {n M : Nat} (hn : SetTable.sizeAbove n - 1 = M) (hM : MaskOk M) (h2 : SetTable.sizeAbove n ≤ 128) (rm : L.length * 5 < M * 3) {Q : Unit → Shared → Prop}
    (hQ : ∀ h' L' es' ep' t', Heap.SameBut a s.heap h' → SB0 w h' a L' es' ep' t' → L'.Perm L → Q () { s with heap := h' }) : wpAny (model P w) A (setRelay a n) Q E s := by
  have esl : es.size = L.length := by
    have z := congrArg List.length hr
    rw [bRows, List.length_map, Array.length_toList] at z
    exact z
  have fit : t.fits es.size = true := by
    unfold SetTable.fits SetTable.fill
    rw [dm, Bool.and_eq_true, beq_iff_eq, decide_eq_true_eq]
    exact ⟨by omega, show t.place.size + 0 ≤ t.mask by omega⟩
  obtain ⟨t', order, e, hp, T, em, el, ep', _⟩ := relaid_ok t (hs := es.map (·.1)) (wanted := n) hn hM (by rw [Array.size_map, esl]; omega)
  rw [Array.size_map, esl] at hp
  obtain ⟨L2, r1, r2, r3⟩ := bRows_order hr hp
  rw [← r3] at T
  have s2 : (order.filterMap (es[·]?)).size = es.size := by
    have z := congrArg List.length r1
    rw [bRows, List.length_map, r2.length_eq, Array.length_toList] at z
    rw [z, esl]
  rw [setRelay_eq]
  refine wpAny_bind (wpAny_setState_of ho hd fit (wp_if_neg (by rw [sizeLine_eq]; omega) ?_))
  try refine wpAny_bind (wpAny_pure ?_)
  dsimp only
  rw [e]
  refine wpAny_bind (wp_if_neg (by rw [s2]; simp) ?_)
  try refine wpAny_bind (wpAny_pure ?_)
  refine wpAny_pure (wpAny_storeSet_of ho hd ?_ (by rw [s2, esl, sizeLine_eq]; omega))
  have sb : Heap.SameBut a s.heap (s.heap.update a (Obj.putSet (order.filterMap (es[·]?)) t')) := Heap.SameBut.update ..
  refine hQ _ L2 (order.filterMap (es[·]?)) (ep + 1) t' sb ⟨⟨_, store_at ho hd, ⟨hex.1, hex.2.1, hex.2.2⟩, rfl⟩, r1, T, (r2.map (·.2)).nodup_iff.mpr nd, by rw [ep']; exact pl, by rw [el]; exact ld, by rw [r2.length_eq, em]; exact rm, by rw [r2.length_eq]; exact fw⟩ r2
/-- adding one -/
theorem badd (R : SB0 w s.heap a L es ep t) (T : BTup s.heap L) (hx : IsBs s.heap k x) (hu : A.units + 8 < cLine) (fw : L.length + 1 < 64 ∨ k ∈ L.map (·.2)) {Q : Bool → Shared → Prop}
    (hQ : ∀ b h' L' es' ep' t', Heap.SameBut a s.heap h' → SB0 w h' a L' es' ep' t' → (k ∈ L.map (·.2) ∧ L' = L ∨ k ∉ L.map (·.2) ∧ L'.Perm ((x, k) :: L)) → Q b { s with heap := h' }) :
    wpAny (model P w) A (setAddHashed a (.ref x) (bHash w k)) Q E s := by
  obtain ⟨o, ho, hex, hd⟩ := R.obj
  have esl := R.len
  have room := R.rm
  unfold setAddHashed
  rw [show (100000 : Nat) = 99999 + 1 from rfl, setAddHashedIn_succ]
  refine wpAny_holding (wpAny_bind (wpAny_setState_of ho hd R.fit (wp_if_neg (by simp [byScan, Value.scannable]) ?_)))
  try refine wpAny_bind (wpAny_pure ?_)
  refine wpAny_bind (bfind R T hx hu (fun hm => ?_) fun e hm e2 e3 => ?_)
  · exact wpAny_pure (hQ false s.heap L es ep t (Heap.SameBut.refl a s.heap) R (.inl ⟨hm, rfl⟩))
  · have fw : L.length + 1 < 64 := fw.resolve_right hm
    refine wpAny_bind (wpAny_setState_of ho hd R.fit ?_)
    obtain ⟨q1, q2, q3, q4, q5, q6, q7, q8, q9⟩ := R.ok.put e2 e3
    have pl1 : (t.put (way t.mask (bHash w k) e)).1.plain = true := by rw [q6]; exact R.pl
    dsimp only
    generalize ht : t.put (way t.mask (bHash w k) e) = pt at q1 q3 q4 q5 q6 q7 q8 q9 pl1 ⊢
    obtain ⟨t1, p⟩ := pt
    dsimp only at q1 q3 q4 q5 q6 q7 q8 q9 pl1 ⊢
    subst q1
    first
      | exact wpAny_bind (wp_if_pos pl1 (hv_bs hx ?_))
      | refine wp_if_pos pl1 (wpAny_bind (hv_bs hx ?_))
      | refine wpAny_bind (wp_if_pos pl1 (hv_bs hx ?_))
    simp only [if_true]
    have ins : (SetTable.insertAt es (SetTable.below t.place (way t.mask (bHash w k) e)) (bHash w k, Value.ref x)).toList = bRows w (L.take (SetTable.below t.place (way t.mask (bHash w k) e)) ++ (x, k) :: L.drop (SetTable.below t.place (way t.mask (bHash w k) e))) := by
      rw [SetTable.toList_insertAt, R.es_]
      simp only [bRows, List.map_append, List.map_cons, List.map_take, List.map_drop]
    have q3' : TabOk t1 (bHs w (L.take (SetTable.below t.place (way t.mask (bHash w k) e)) ++ (x, k) :: L.drop (SetTable.below t.place (way t.mask (bHash w k) e)))) := by
      simp only [bHs, List.map_append, List.map_cons, List.map_take, List.map_drop] at q3 ⊢
      exact q3
    have pm := mid_perm L (SetTable.below t.place (way t.mask (bHash w k) e)) (x, k)
    clear q3 q2
    generalize SetTable.below t.place (way t.mask (bHash w k) e) = p at ins q3' pm ⊢
    generalize SetTable.insertAt es p (bHash w k, Value.ref x) = es1 at ins ⊢
    generalize L.take p ++ (x, k) :: L.drop p = L1 at ins q3' pm
    have l1 : L1.length = L.length + 1 := pm.length_eq
    have s1 : es1.size = L.length + 1 := by
      have z := congrArg List.length ins
      rw [bRows, List.length_map, l1, Array.length_toList] at z
      exact z
    have nd1 : (L1.map (·.2)).Nodup := (pm.map (·.2)).nodup_iff.mpr (List.nodup_cons.mpr ⟨hm, R.nd⟩)
    have ld1 : w.params.followText "set-order" = true ∨ t1.led = true := by rw [q5]; exact R.ld
    have fill1 : t1.tooFull = true ↔ (L.length + 1) * 5 ≥ t1.mask * 3 := by
      unfold SetTable.tooFull
      rw [decide_eq_true_eq, q9, bHs, List.length_map]
    have sz1 : t1.place.size = es1.size := by
      have z := q3'.sz
      rw [bHs, List.length_map, l1] at z
      rw [z, s1]
    refine wpAny_bind (wpAny_storeSet_of ho hd ?_ (by rw [s1, sizeLine_eq]; omega))
    have sb : Heap.SameBut a s.heap (s.heap.update a (Obj.putSet es1 t1)) := Heap.SameBut.update ..
    have ho1 := store_at (es' := es1) (t' := t1) ho hd
    generalize s.heap.update a (Obj.putSet es1 t1) = h1 at sb ho1 ⊢
    by_cases hf : t1.tooFull = true
    · have full := fill1.mp hf
      have two : (t.mask = 7 ∧ L.length = 4) ∨ (t.mask = 31 ∧ L.length = 18) := by
        rcases R.ok.mok with m | m | m
        · left; rw [q4, m] at full; rw [m] at room; exact ⟨m, by omega⟩
        · right; rw [q4, m] at full; rw [m] at room; exact ⟨m, by omega⟩
        · exfalso; rw [q4, m] at full; omega
      have go : ∀ M, SetTable.sizeAbove (SetTable.grown (L.length + 1)) - 1 = M → MaskOk M → SetTable.sizeAbove (SetTable.grown (L.length + 1)) ≤ 128 → (L.length + 1) * 5 < M * 3 → wpAny (model P w) A (setRelay a (SetTable.grown (L.length + 1))) (fun _ s' => wpAny (model P w) A (pure true) Q E s') E { s with heap := h1 } := fun M g1 g2 g3 g4 =>
        brelay (s := { s with heap := h1 }) ho1 ⟨hex.1, hex.2.1, hex.2.2⟩ rfl ins sz1 q3'.dm (by rw [s1, q4]; rcases two with ⟨m, m2⟩ | ⟨m, m2⟩ <;> omega) nd1 pl1 ld1 (by rw [l1]; exact fw) g1 g2 g3 (by rw [l1]; exact g4) fun h2 L2 es2 ep2 t2 sb2 R2 pm2 =>
          wpAny_pure (hQ true h2 L2 es2 ep2 t2 (sb.trans sb2) R2 (.inr ⟨hm, pm2.trans pm⟩))
      rw [esl]
      first
        | refine wpAny_bind (wp_if_pos (by simp [hf]) ?_)
        | refine wp_if_pos (by simp [hf]) (wpAny_bind ?_)
      rcases two with ⟨_, m⟩ | ⟨_, m⟩
      · exact go 31 (by rw [m, size_20]) (.inr (.inl rfl)) (by rw [m, size_20]; decide) (by omega)
      · exact go 127 (by rw [m, size_76]) (.inr (.inr rfl)) (by rw [m, size_76]; decide) (by omega)
    · first
        | refine wp_if_neg (by simp [hf]) ?_
        | refine wpAny_bind (wp_if_neg (by simp [hf]) (wpAny_pure ?_))
      have nf : ¬ ((L.length + 1) * 5 ≥ t1.mask * 3) := fun z => hf (fill1.mpr z)
      exact wpAny_pure (hQ true h1 L1 es1 (ep + 1) t1 sb ⟨⟨_, ho1, ⟨hex.1, hex.2.1, hex.2.2⟩, rfl⟩, ins, q3', nd1, pl1, ld1, by rw [l1]; omega, by rw [l1]; exact fw⟩ (.inr ⟨hm, pm⟩))
end
end TL
/-! TLtd: set(xs), xs tuples of truth values. -/
namespace TL
open PySem PySem.Spec PyProof.Rows L2
theorem nd_len {α : Type} [DecidableEq α] : ∀ {l D : List α}, l.Nodup → (∀ x ∈ l, x ∈ D) → l.length ≤ D.length
  | [], D, _, _ => Nat.zero_le _
  | x :: l, D, h, hs => by
    obtain ⟨n1, n2⟩ := List.nodup_cons.mp h
    have ih := nd_len (D := D.erase x) n2 fun y hy => (List.mem_erase_of_ne (fun e => n1 (by rw [← e]; exact hy))).2 (hs y (List.mem_cons_of_mem _ hy))
    have m := hs x List.mem_cons_self
    rw [List.length_erase_of_mem m] at ih
    have := List.length_pos_of_mem m
    rw [List.length_cons]
    omega
/-- the set behind the first i items -/
structure BPart (w : World) (h : Heap) (a : Addr) (ks : BL) (i : Nat) : Prop where
  ex : ∃ L es ep t, SB0 w h a L es ep t ∧ (∀ p ∈ L, p ∈ ks.take i) ∧ ∀ p ∈ ks.take i, p.2 ∈ L.map (·.2)
  tu : BTup h ks
section
variable {P : Program} {w : World} {A : Around} {E : Value → Shared → Prop} {s : Shared} {a : Addr}
theorem SB0.keep {h h' : Heap} {L : BL} {es : Array (Int × Value)} {ep : Nat} {t : SetTable} (R : SB0 w h a L es ep t) (k : ∀ o, h.get? a = some o → h'.get? a = some o) : SB0 w h' a L es ep t := by
  obtain ⟨o, ho, r⟩ := R.obj
  exact ⟨⟨o, k o ho, r⟩, R.es_, R.ok, R.nd, R.pl, R.ld, R.rm, R.fw⟩
theorem bs_loop {I : Addr} {fp wr : List Addr} {G : Array GenState → Array GenState → Prop} {n : Nat} {Pv : Nat → Value → Prop} {St : Nat → Shared → Prop} {R : Result → Shared → Prop} (W : WalksS P w A.in1 I fp wr G n Pv St) (S : Addr) (nf : S ∉ fp) (ks : BL) (hn : n = ks.length)
    (D : List (List Bool)) (hD : D.length < 63) (hks : ∀ p ∈ ks, p.2 ∈ D) (hu : A.in1.units + 8 < cLine) (na : ∀ p ∈ ks, p.1 ∉ wr)
    (hv : ∀ i v, Pv i v → ∃ p, ks[i]? = some p ∧ v = .ref p.1) : ∀ (m i : Nat) (s : Shared), n - i = m → i ≤ n → St i s → BPart w s.heap S ks i → (∀ s', Moved (S :: wr) G s s' → BPart w s'.heap S ks n → R (.ok (.ret .none)) s') →
      codeAny (model P w) A (.builtin "set.update.loop" ⟨[.ref S, .ref I], []⟩) R s := by
  have nw : S ∉ wr := fun h => nf (W.sub _ h)
  have up : ∀ b ∈ wr, b ∈ S :: wr := fun b hb => List.mem_cons_of_mem _ hb
  intro m
  induction m with
  | zero =>
    intro i s hm hi st p hR
    obtain rfl : i = n := by omega
    refine codeAny_builtin F.entry_set_update_loop ?_
    rw [Around.under_plainId F.plain_set_update_loop _]
    show wpAny _ A.in1 (pyNext (.ref I) >>= _) _ _ s
    refine wpAny_bind (W.done s _ _ st fun s' mv => ?_)
    show wpAny _ A.in1 (ret Value.none) _ _ s'
    obtain ⟨L, es, ep, t, R1, m1, m2⟩ := p.ex
    exact wpAny_pure (hR s' (mv.mono up) ⟨⟨L, es, ep, t, R1.keep fun o e => mv.heap S o nw e, m1, m2⟩, fun q hq => (p.tu q hq).keep fun o e => mv.heap _ o (na q hq) e⟩)
  | succ m ih =>
    intro i s hm hi st p hR
    have lt : i < n := by omega
    obtain ⟨L, es, ep, t, R1, m1, m2⟩ := p.ex
    refine codeAny_builtin F.entry_set_update_loop ?_
    rw [Around.under_plainId F.plain_set_update_loop _]
    show wpAny _ A.in1 (pyNext (.ref I) >>= _) _ _ s
    refine wpAny_bind (W.item i s _ _ lt st fun v s' pv st' mv => ?_)
    obtain ⟨q, hq, rfl⟩ := hv i v pv
    have mq := List.mem_of_getElem? hq
    have R2 := R1.keep (h' := s'.heap) fun o e => mv.heap S o nw e
    have T2 : BTup s'.heap ks := fun q hq => (p.tu q hq).keep fun o e => mv.heap _ o (na q hq) e
    show wpAny _ A.in1 (holding [Value.ref q.1] (setAdd S (.ref q.1)) >>= _) _ _ s'
    refine wpAny_bind (wpAny_holding ?_)
    unfold setAdd
    have nt : ks.take (i + 1) = ks.take i ++ [q] := by rw [List.take_add_one, hq]; rfl
    have few : L.length + 1 < 64 := by
      have z := nd_len R1.nd (D := D) fun x hx => by
        obtain ⟨p, hp, e⟩ := List.mem_map.mp hx
        rw [← e]
        exact hks p (List.mem_of_mem_take (m1 p hp))
      rw [List.length_map] at z
      omega
    refine wpAny_holding (wpAny_bind ((nestedKind P w).pyHash (k := bKey q.2) hu (T2 q mq).key ?_))
    refine badd (s := { s' with toks := s'.toks + (nestedKind P w).draws (bKey q.2) }) R2 (fun p hp => T2 p (List.mem_of_mem_take (m1 p hp))) (T2 q mq) hu (.inl few) fun _ h' L' es' ep' t' sb R3 ch => ?_
    obtain ⟨o, ho, _, hd⟩ := R2.obj
    have p3 : BPart w h' S ks (i + 1) := by
      refine ⟨⟨L', es', ep', t', R3, ?_, ?_⟩, fun p hp => bs_apart (T2 p hp) ho hd sb⟩
      · rw [nt]
        rcases ch with ⟨_, rfl⟩ | ⟨_, pm⟩
        · exact fun p hp => List.mem_append_left _ (m1 p hp)
        · intro p hp
          rcases List.mem_cons.mp (pm.mem_iff.mp hp) with e | z
          · rw [e]; exact List.mem_append_right _ (List.mem_singleton.mpr rfl)
          · exact List.mem_append_left _ (m1 p z)
      · rw [nt]
        intro p hp
        rcases ch with ⟨z, rfl⟩ | ⟨_, pm⟩
        · rcases List.mem_append.mp hp with hp | hp
          · exact m2 p hp
          · rw [List.mem_singleton.mp hp]; exact z
        · rw [(pm.map (·.2)).mem_iff, List.map_cons]
          rcases List.mem_append.mp hp with hp | hp
          · exact List.mem_cons_of_mem _ (m2 p hp)
          · rw [List.mem_singleton.mp hp]; exact List.mem_cons_self
    refine wpAny_pure ⟨plainId_quiet F.plain_set_update_loop _, ih (i + 1) _ (by omega) lt (W.frame _ s' _ _ st' (Nat.le_add_right _ _) fun b hb o e => ?_) p3 fun s'' mv2 p4 => hR s'' ?_ p4⟩
    · exact (sb.2 b fun z => nf (z ▸ hb)).trans e
    · exact Moved.trans W.gtrans ((mv.mono up).then_heap (Nat.le_add_right _ _) fun b o hb e => (sb.2 b fun z => hb (z ▸ List.mem_cons_self)).trans e) mv2
theorem sb_nil {h : Heap} (e : h.get? a = some (nwS w)) : SB0 w h a [] #[] 0 (.fresh 0 0 (!w.params.followText "set-order")) where
  obj := ⟨_, e, ⟨rfl, rfl, rfl⟩, rfl⟩
  es_ := rfl
  ok := ⟨.nil, rfl, rfl, .inl rfl, fun x hx => (by cases hx), fun i h j hi => (by simp [bHs] at hi)⟩
  nd := .nil
  pl := rfl
  ld := by
    show _ ∨ (!w.params.followText "set-order") = true
    cases w.params.followText "set-order"
    · exact .inr rfl
    · exact .inl rfl
  rm := show 0 * 5 < 7 * 3 by decide
  fw := show 0 < 64 by decide
set_option maxHeartbeats 3200000 in
theorem bs_make {b : Addr} {items : Array Value} (ks : BL) {Q : Value → Shared → Prop} (hh : A.handled = none) (hl : s.heap.IsList b items) (hit : items.toList = ks.map fun p => Value.ref p.1) (D : List (List Bool)) (hD : D.length < 63) (hks : ∀ p ∈ ks, p.2 ∈ D) (T : BTup s.heap ks) (hu : A.units + 20 < cLine)
    (h : ∀ (h' : Heap) (tk : Nat), BPart w h' s.heap.objs.size ks ks.length → (∀ c o, s.heap.get? c = some o → h'.get? c = some o) → Q (.ref s.heap.objs.size) { s with heap := h', toks := tk }) :
    wpAny (model P w) A (call (.type "set") [.ref b]) Q E s := by
  have isz : items.size = ks.length := by
    have z := congrArg List.length hit
    rwa [List.length_map, Array.length_toList] at z
  have get : ∀ (i : Nat) (v : Value), items[i]? = some v → ∃ p, ks[i]? = some p ∧ v = .ref p.1 := fun i v hv => by
    rw [← Array.getElem?_toList, hit, List.getElem?_map] at hv
    obtain ⟨p, h1, h2⟩ := Option.map_eq_some_iff.mp hv
    exact ⟨p, h1, h2.symm⟩
  have old : ∀ p ∈ ks, p.1 < s.heap.objs.size := fun p hp => by
    obtain ⟨o, n, e, _⟩ := T p hp
    exact Heap.lt_size e
  obtain ⟨c, tl, hmro⟩ := F.called_set.mro
  have d1 := F.called_set.made
  have d2 := F.called_set.sub
  refine wpAny_call (codeAny_of_tree (show wpAny _ _ (callAny (.type "set") _) _ _ _ from ?_))
  refine wpAny_pure ⟨Code.quiet_builtin _ (by decide +kernel), codeAny_builtin F.entry_type_call ?_⟩
  rw [Around.under_plain (weight_type_call_type "set" [.ref b] []) rfl]
  have d3 := F.called_set.notType
  have d4 := F.called_set.canCreate
  have d5 := F.typeCall_set_1 (.ref b)
  repeat (any_goals (first | assumption | wp_step))
  refine codeAny_mono (code_set_led1 (.ref b) (E := E) (Q₁ := fun x s1 => x = .ref s.heap.objs.size ∧ s1 = { s with heap := s.heap.push (nwS w) }) ⟨rfl, rfl⟩) fun r s1 hr => ?_
  cases r with
  | error e => exact hr
  | ok fl =>
    cases fl with
    | ret obj =>
      obtain ⟨rfl, rfl⟩ := hr
      have gS : (s.heap.push (nwS w)).get? s.heap.objs.size = some (nwS w) := Heap.get?_push_size _ rfl
      have gT : Shared.TypeIs { s with heap := s.heap.push (nwS w) } (.ref s.heap.objs.size) "set" := ⟨_, gS, rfl⟩
      have d6 := F.called_set.init.lookup
      have d7 := F.called_set.init.bind (.ref s.heap.objs.size)
      repeat (any_goals (first | assumption | wp_step))
      refine codeAny_mono (codeAny_call_builtin (R := wants (fun r s2 => r = .none ∧ ∃ h' tk, s2 = { s with heap := h', toks := tk } ∧ BPart w h' s.heap.objs.size ks ks.length ∧ (∀ c o, s.heap.get? c = some o → h'.get? c = some o)) E) F.called_set.init.plain F.entry_set_init (check_set_init_1 gT ?_)) fun r2 s2 hr2 => ?_
      · obtain ⟨⟨oc, od, odt, osl⟩, hol, hcl, nl, hdl⟩ := hl
        simp only at hcl hdl
        subst hcl; subst hdl
        have hol' : (s.heap.push (nwS w)).get? b = some { cls := .type "list", dict := od, data := .seq items nl, slots := osl } := Heap.get?_push_of_some _ hol
        have d8 := F.sub_list_set
        have d9 := F.sub_list_frozenset
        have dd : (Value.type "list" == Value.type "dict") = false := by decide
        have l1 : (s.heap.push (nwS w)).IsList b items := ⟨_, hol', rfl, nl, rfl⟩
        unfold Builtin.«set.__init__» noKeywords Builtin.Frozenset.updateFrom
        generalize hPI : pyIter = PI
        wp_walk
        subst hPI
        refine wpAny_pyIter_list l1 (wpAny_bind (wpAny_runValue ?_))
        have lS : b < s.heap.objs.size := Heap.lt_size hol
        have h3 : A.in1.in1.in1.handled = none := by simp [hh]
        have nI : b ≠ (s.heap.push (nwS w)).objs.size := by
          rw [Heap.size_push]; exact Nat.ne_of_lt (Nat.lt_succ_of_lt lS)
        have nf : s.heap.objs.size ∉ [(s.heap.push (nwS w)).objs.size, b] := by
          rw [Heap.size_push]; simp only [List.mem_cons, List.mem_singleton, List.not_mem_nil, or_false, not_or]
          exact ⟨Nat.ne_of_lt (Nat.lt_succ_self _), Nat.ne_of_gt lS⟩
        refine bs_loop ((Walks.list h3 _ b nI items).toS) s.heap.objs.size nf ks isz D hD hks ?ku (fun p hp hm => ?kn) get (items.size - 0) 0 _ (by omega) (Nat.zero_le _) ⟨⟨_, Heap.get?_push_size _ rfl, rfl, rfl⟩, (l1.push _)⟩ ?k0 ?kR
        case ku =>
          simp only [Around.in1_units]
          exact Nat.lt_of_le_of_lt (Nat.add_le_add_left (show 11 ≤ 20 by decide) A.units) hu
        case kn =>
          have z := old p hp
          rw [List.mem_singleton.mp hm, Heap.size_push] at z
          exact absurd z (Nat.not_lt.mpr (Nat.le_succ _))
        case k0 => exact ⟨⟨[], #[], 0, _, sb_nil (Heap.get?_push_of_some _ gS), fun p hp => absurd hp List.not_mem_nil, fun p hp => absurd hp (by simp)⟩, fun p hp => (T p hp).keep fun o e => Heap.get?_push_of_some _ (Heap.get?_push_of_some _ e)⟩
        case kR =>
          intro s' mv p
          obtain ⟨h', g2, d', tk', os'⟩ := s'
          have eg : g2 = s.gens := mv.gens
          have ed : d' = s.drawn := mv.drawn
          have eo : os' = s.os := mv.os
          subst eg; subst ed; subst eo
          show wpAny _ _ _ _ _ _
          refine wpAny_pure ?_
          show wpAny _ _ (ret Value.none) _ _ _
          rw [isz] at p
          refine wpAny_pure ⟨rfl, h', tk', rfl, p, fun c o e => ?_⟩
          have lc : c < s.heap.objs.size := Heap.lt_size e
          refine mv.heap c o ?_ (Heap.get?_push_of_some _ (Heap.get?_push_of_some _ e))
          rw [Heap.size_push]; simp only [List.mem_cons, List.mem_singleton, List.not_mem_nil, or_false, not_or]
          exact ⟨Nat.ne_of_lt lc, Nat.ne_of_lt (Nat.lt_succ_of_lt lc)⟩
      · cases r2 with
        | error e => exact hr2
        | ok fl2 =>
          cases fl2 with
          | ret r =>
            obtain ⟨rfl, h', tk, rfl, p, k'⟩ := hr2
            repeat (any_goals (first | assumption | wp_step))
            exact h _ _ p k'
          | _ => exact hr2.elim
    | _ => exact hr.elim
end
end TL
/-! TLte: tuples of truth values, sorted. -/
namespace TL
open PySem PySem.Spec PyProof.Rows L2
def bP (bs : List Bool) : PyData := .tuple (bs.map .bool)
abbrev bLe : List Bool → List Bool → Bool := PySem.W.dataLe false bP
def bSort (l : List (List Bool)) : List (List Bool) := l.mergeSort bLe
theorem toks_inj : ∀ {a b : List Bool}, PySem.W.keyToksAll (a.map .bool) = PySem.W.keyToksAll (b.map .bool) → a = b
  | [], [], _ => rfl
  | [], y :: b, h => by simp [PySem.W.keyToksAll] at h
  | x :: a, [], h => by simp [PySem.W.keyToksAll] at h
  | x :: a, y :: b, h => by
    simp only [List.map_cons, PySem.W.keyToksAll, PySem.W.keyToks, List.singleton_append, List.cons.injEq, true_and] at h
    rw [toks_inj h.2]
    have z := h.1
    cases x <;> cases y <;> first | rfl | (simp at z)
theorem bLe_anti {a b : List Bool} (h1 : bLe a b = true) (h2 : bLe b a = true) : a = b := by
  have e1 : (!(listOrd itemOrd).blt (PySem.W.keyToks (bP b)) (PySem.W.keyToks (bP a))) = true := h1
  have e2 : (!(listOrd itemOrd).blt (PySem.W.keyToks (bP a)) (PySem.W.keyToks (bP b))) = true := h2
  rw [Bool.not_eq_true'] at e1 e2
  have z := (listOrd itemOrd).total _ _ e2 e1
  unfold bP at z
  simp only [PySem.W.keyToks] at z
  exact toks_inj z
theorem sorted_same {α : Type} {le : α → α → Bool} (anti : ∀ {a b}, le a b = true → le b a = true → a = b) : ∀ {l m : List α}, l.Pairwise (fun a b => le a b = true) → m.Pairwise (fun a b => le a b = true) → l.Perm m → l = m
  | [], m, _, _, p => p.symm.eq_nil.symm
  | x :: l, [], _, _, p => absurd p.length_eq (by simp)
  | x :: l, y :: m, h1, h2, p => by
    obtain ⟨a1, a2⟩ := List.pairwise_cons.mp h1
    obtain ⟨b1, b2⟩ := List.pairwise_cons.mp h2
    have e : x = y := by
      rcases List.mem_cons.mp (p.mem_iff.mp List.mem_cons_self) with e | e
      · exact e
      · rcases List.mem_cons.mp (p.mem_iff.mpr (List.mem_cons_self (a := y) (l := m))) with f | f
        · exact f.symm
        · exact anti (a1 _ f) (b1 _ e)
    subst e
    rw [sorted_same anti a2 b2 ((List.perm_cons x).mp p)]
theorem bSort_perm {l m : List (List Bool)} (h : l.Perm m) : bSort l = bSort m := by
  have T : PySem.W.TotalLe bLe := PySem.W.sortLe_total _ _ _
  exact sorted_same bLe_anti (PySem.W.sort_pairwise T l) (PySem.W.sort_pairwise T m) (((List.mergeSort_perm l bLe).trans h).trans (List.mergeSort_perm m bLe).symm)
/-- lists of unlike items with the same members -/
theorem bSort_mem {l m : List (List Bool)} (h1 : l.Nodup) (h2 : m.Nodup) (h : ∀ x, x ∈ l ↔ x ∈ m) : bSort l = bSort m := bSort_perm ((List.perm_ext_iff_of_nodup h1 h2).mpr h)
theorem perm_map_inv {α β : Type} {f : α → β} {us vs : List β} (p : us.Perm vs) : ∀ {l : List α}, vs = l.map f → ∃ m : List α, us = m.map f ∧ m.Perm l := by
  induction p with
  | nil =>
    intro l e
    exact ⟨[], rfl, by rw [List.map_eq_nil_iff.mp e.symm]⟩
  | cons x p ih =>
    intro l e
    cases l with
    | nil => simp at e
    | cons y l =>
      rw [List.map_cons] at e
      obtain ⟨e1, e2⟩ := List.cons.inj e
      obtain ⟨m, h1, h2⟩ := ih e2
      exact ⟨y :: m, by rw [List.map_cons, e1, h1], h2.cons y⟩
  | swap x y l' =>
    intro l e
    match l, e with
    | a :: b :: l, e =>
      simp only [List.map_cons, List.cons.injEq] at e
      obtain ⟨e1, e2, e3⟩ := e
      exact ⟨b :: a :: l, by simp only [List.map_cons, e1, e2, e3], .swap a b l⟩
    | [a], e => simp at e
    | [], e => simp at e
  | trans p1 p2 ih1 ih2 =>
    intro l e
    obtain ⟨m, h1, h2⟩ := ih2 e
    obtain ⟨m', h3, h4⟩ := ih1 h1
    exact ⟨m', h3, h4.trans h2⟩
/-! ### as data -/
theorem bReads (h : Heap) : ∀ bs : List Bool, ReadsAll h (bs.map Value.bool) (bs.map .bool) []
  | [] => .nil
  | b :: bs => .cons (.bool b) (bReads h bs)
theorem IsBs.reads {h : Heap} {bs : List Bool} {a : Addr} (x : IsBs h bs a) : Reads h (.ref a) (bP bs) [] := by
  obtain ⟨o, n, h1, h2, h3⟩ := x
  exact .tuple h1 h2 h3 (by simpa using bReads h bs)
theorem bAlike : ∀ a b : List Bool, PySem.W.alikeAll (a.map .bool) (b.map .bool) = true
  | [], _ => by simp [PySem.W.alikeAll]
  | _ :: _, [] => by simp [PySem.W.alikeAll]
  | x :: a, y :: b => by
    simp only [List.map_cons, PySem.W.alikeAll, PySem.W.alike, bAlike a b, Bool.and_self]
theorem bDepth (bs : List Bool) : (bP bs).depth ≤ 1 := by
  have h : ∀ l : List Bool, PyData.depthAll (l.map .bool) = 0 := by
    intro l
    induction l with
    | nil => simp [PyData.depthAll]
    | cons b l ih => simp only [List.map_cons, PyData.depthAll, PyData.depth, ih]; rfl
  unfold bP
  simp only [PyData.depth, h]
  omega
end TL
/-! TLtf: rules: set(xs) and sorted(set), of tuples of truth values. -/
namespace TL
open PySem PySem.Spec PyProof.Rows L2
def SBk (w : World) (h : Heap) (a : Addr) (L : BL) : Prop := ∃ es ep t, SB0 w h a L es ep t
def SetBO (w : World) (a : Addr) (L : BL) : HO := .ext fun h => SBk w h a L
theorem setBO_new {P : Program} {w : World} {H : Hp} {h : Heap} {a : Addr} {L : BL} (R : SBk w h a L) : ObjOk P w H h a (SetBO w a L) := by
  have ⟨es, ep, t, R0⟩ := R
  have ⟨o, ho, _⟩ := R0.obj
  exact ⟨R, ⟨o, ho⟩, fun h1 h2 ⟨es, ep, t, p⟩ k => ⟨es, ep, t, p.keep k⟩⟩
theorem bools_of : ∀ {bs : List Bool} {us : List Value}, Vals (bs.map V.bl) us → us = bs.map Value.bool
  | [], _, .nil => rfl
  | b :: bs, _, .cons r t => by
    have e := bools_of t
    cases r
    rw [e]
    rfl
theorem refs_of : ∀ {L : BL} {us : List Value}, Vals (L.map fun p => V.ref p.1) us → us = L.map fun p => Value.ref p.1
  | [], _, .nil => rfl
  | p :: L, _, .cons r t => by
    have e := refs_of t
    cases r
    rw [e]
    rfl
theorem of_refs : ∀ L : BL, Vals (L.map fun p => V.ref p.1) (L.map fun p => Value.ref p.1)
  | [] => .nil
  | p :: L => .cons rfl (of_refs L)
/-- the value x stands for the row b of L -/
def BR (L : BL) (v : Value) (b : List Bool) : Prop := ∃ p ∈ L, v = Value.ref p.1 ∧ b = p.2
theorem br_map (L : BL) : ∀ M : BL, (∀ p ∈ M, p ∈ L) → PySem.W.EachIs (BR L) (M.map fun p => Value.ref p.1) (M.map (·.2))
  | [], _ => .nil
  | p :: M, h => .cons ⟨p, h p List.mem_cons_self, rfl, rfl⟩ (br_map L M fun q hq => h q (List.mem_cons_of_mem _ hq))
theorem br_inv {L : BL} : ∀ {vs : List Value} {bs : List (List Bool)}, PySem.W.EachIs (BR L) vs bs → ∃ M : BL, vs = M.map (fun p => Value.ref p.1) ∧ bs = M.map (·.2) ∧ ∀ p ∈ M, p ∈ L
  | _, _, .nil => ⟨[], rfl, rfl, fun p hp => absurd hp List.not_mem_nil⟩
  | _, _, .cons ⟨p, hp, e1, e2⟩ t => by
    obtain ⟨M, f1, f2, f3⟩ := br_inv t
    refine ⟨p :: M, by rw [e1, f1]; rfl, by rw [e2, f2]; rfl, fun q hq => ?_⟩
    rcases List.mem_cons.mp hq with rfl | hq
    · exact hp
    · exact f3 q hq
section
variable {P : Program} {w : World} {A : Around} {E : Value → Shared → Prop} {s : Shared} {a : Addr} {L : BL}
theorem sort_bs {vs : List Value} {M : BL} {n : Nat} {Q : Value → Shared → Prop} (ho : s.heap.get? a = some (seqObj "list" vs.toArray n)) (hv : vs = M.map fun p => Value.ref p.1) (T : BTup s.heap M) (ne : ∀ p ∈ M, p.2 ≠ []) (hz : M.length ≤ sizeLine) (hu : A.units + 4 < cLine)
    (h : ∀ (out : Array Value) (N : BL), out.toList = N.map (fun p => Value.ref p.1) → N.map (·.2) = bSort (M.map (·.2)) → (∀ p ∈ N, p ∈ M) → Q .none { s with heap := sortedHeap s.heap a vs out }) :
    wpAny (model P w) A (call (.builtin "list.sort") [.ref a]) Q E s := by
  have e1 := br_map M M fun _ h => h
  rw [← hv] at e1
  refine PySem.W.list_sort_data (R := BR M) (enc := bP) (bs := M.map (·.2)) ho e1 (e1.mono fun v b ⟨p, hp, z1, z2⟩ => ⟨[], by rw [z1, z2]; exact (T p hp).reads, List.not_mem_nil⟩) (.of fun b b' => ?_) ?_ (by rw [List.length_map]; exact hz) (fun b _ => ?_) fun out _ eo => ?_
  · exact bAlike b b'
  · left
    intro d hd
    obtain ⟨b, hb, rfl⟩ := List.mem_map.mp hd
    obtain ⟨p, hp, rfl⟩ := List.mem_map.mp hb
    have z := ne p hp
    cases e : p.2 with
    | nil => exact absurd e z
    | cons x r => exact ⟨_, _, rfl⟩
  · have := bDepth b
    exact Nat.lt_of_le_of_lt (by omega) hu
  · obtain ⟨N, f1, f2, f3⟩ := br_inv eo
    exact h out.toArray N (by simpa using f1) f2.symm f3
theorem sorted_sb {es : Array (Int × Value)} {ep : Nat} {t : SetTable} {Q : Value → Shared → Prop} (R : SB0 w s.heap a L es ep t) (T : BTup s.heap L) (ne : ∀ p ∈ L, p.2 ≠ []) (hh : A.handled = none) (hu : A.units + 10 < cLine)
    (hQ : ∀ s' p (out : Array Value) (c : Nat) (N : BL), (∀ b o, s.heap.get? b = some o → s'.heap.get? b = some o) → s'.gens = s.gens → s'.os = s.os → s.heap.objs.size ≤ p → s'.heap.get? p = some (seqObj "list" out c) → out.toList = N.map (fun p => Value.ref p.1) → N.map (·.2) = bSort (L.map (·.2)) → (∀ p ∈ N, p ∈ L) → Q (.ref p) s') :
    wpAny (model P w) A (call (.builtin "sorted") [.ref a]) Q E s := by
  obtain ⟨o, ho, hex, hd⟩ := R.obj
  have esl := R.len
  have few := R.fw
  refine Calls.call_function_entry kind_sorted plain_sorted entry_sorted (args_sorted1 _) ?_
  unfold Builtin.«sorted»
  refine wpAny_bind (m := checkCount "sorted" 1 1 _) (wpAny_pure (wpAny_bind (collect_set (A := A.in1) hh ⟨o, ho, hex.1, hd⟩ R.fit (by unfold scanBound; omega) R.ok.ris R.ld fun s1 vs k1 hz g1 o1 pv => ?_)))
  have ev : es.toList.map (·.2) = L.map fun p => Value.ref p.1 := by rw [R.es_, bRows, List.map_map]; rfl
  obtain ⟨M, hM, pM⟩ := perm_map_inv pv ev
  have mL : ∀ p ∈ M, p ∈ L := fun p hp => pM.mem_iff.mp hp
  have small : M.length ≤ sizeLine := by rw [pM.length_eq, sizeLine_eq]; omega
  refine wpAny_bind (wpAny_newList ?_ (by rw [hM, List.length_map]; exact small))
  have hoL : (s1.heap.push (seqObj "list" vs.toArray 0)).get? s1.heap.objs.size = some (seqObj "list" vs.toArray 0) := Heap.get?_push_size _ rfl
  refine wpAny_bind (wpAny_holding (sort_bs (s := { s1 with heap := s1.heap.push (seqObj "list" vs.toArray 0) }) hoL hM (fun p hp => (T p (mL p hp)).keep fun o e => Heap.get?_push_of_some _ (k1 _ o e)) (fun p hp => ne p (mL p hp)) small (by simp only [Around.in1_units]; omega) fun out N f1 f2 f3 => ?_))
  obtain ⟨c, hc⟩ := sortedHeap_at (vs := vs) (out := out) hoL
  refine wpAny_pure ⟨_, rfl, hQ _ s1.heap.objs.size out c N (fun b u e => ?_) g1 o1 hz hc f1 (f2.trans (bSort_perm (pM.map _))) fun p hp => mL p (f3 p hp)⟩
  have q := k1 b u e
  have lt := Heap.lt_size q
  show (sortedHeap (s1.heap.push (seqObj "list" vs.toArray 0)) s1.heap.objs.size vs out).get? b = some u
  rw [sortedHeap_old (Nat.ne_of_lt lt) (by rw [size_push']; exact Nat.lt_succ_of_lt lt)]
  exact Heap.get?_push_of_some _ q
end
section
variable {X : Cx}
theorem inv_bs {pins : List (Addr × Obj)} {σ : L2.St} {H : Hp} {s : Shared} {b : Addr} {bs : List Bool} (I : Inv X pins σ H s) (h : SqT X.K H b (bs.map V.bl)) : IsBs s.heap bs b := by
  obtain ⟨its, r, ⟨o, ho, hc, n, hd⟩, _⟩ := I.tuple h
  rw [bools_of r] at hd
  exact ⟨o, n, ho, hc, hd⟩
/-- set(xs), tuples of truth values -/
def rSetOfB (K : PySem.W.Frag) (w : World) : List V → Hp → VK → Prop := fun xs H Q => ∃ (b : Addr) (ks : BL) (D : List (List Bool)), xs = [V.ref b] ∧ SqL K H b (ks.map fun p => V.ref p.1) ∧ (∀ p ∈ ks, SqT K H p.1 (p.2.map V.bl)) ∧ D.length < 63 ∧ (∀ p ∈ ks, p.2 ∈ D) ∧
  ∀ p L, H p = none → (L.map (·.2)).Nodup → (∀ q ∈ L, q ∈ ks) → (∀ q ∈ ks, q.2 ∈ L.map (·.2)) → Q (.ref p) (upd H p (SetBO w p L))
theorem cr_setOfB (hc : X.calm = true) (hu : X.A.units + 64 < cLine) : CallR X (.type "set") (rSetOfB X.K X.w) := by
  intro pins s σ H xs us Q I r h
  obtain ⟨b, ks, D, rfl, hs, ht, hD, hm, q⟩ := h
  obtain ⟨its, rv, hl, hz⟩ := I.list hs
  rw [Vals.ref1 r]
  refine bs_make (P := X.prog) (w := X.w) ks (I.ok.hd hc) hl.isList (by simpa using refs_of rv) D hD hm (fun p hp => inv_bs I (ht p hp)) (Nat.lt_of_le_of_lt (by omega) hu) fun h' tk p k => ?_
  obtain ⟨L, es, ep, t, R, m1, m2⟩ := p.ex
  rw [List.take_length] at m1 m2
  exact ⟨.ref _, upd H s.heap.objs.size (SetBO X.w s.heap.objs.size L), I.laid (t' := tk) k (Nat.le_refl _) (setBO_new ⟨es, ep, t, R⟩), rfl, q _ L (I.hok.fresh (Nat.le_refl _)) R.nd m1 m2⟩
/-- sorted(set(xs)) -/
def rSortedOfB (K : PySem.W.Frag) (w : World) : List V → Hp → VK → Prop := fun vs H Q => ∃ (a : Addr) (L : BL), vs = [V.ref a] ∧ H a = some (SetBO w a L) ∧ (∀ p ∈ L, SqT K H p.1 (p.2.map V.bl)) ∧ (∀ p ∈ L, p.2 ≠ []) ∧
  ∀ (N : BL) (p : Addr), N.map (·.2) = bSort (L.map (·.2)) → (∀ q ∈ N, q ∈ L) → H p = none → Q (.ref p) (upd H p (.lst (N.map fun q => V.ref q.1)))
theorem cr_sortedOfB (hc : X.calm = true) (hu : X.A.units + 64 < cLine) : CallR X (.builtin "sorted") (rSortedOfB X.K X.w) := by
  intro pins s σ H vs us Q I r h
  obtain ⟨a, L, rfl, ha, ht, ne, q⟩ := h
  obtain ⟨es, ep, t, R⟩ : SBk X.w s.heap a L := (I.hok a _ ha).1
  rw [Vals.ref1 r]
  refine sorted_sb R (fun p hp => inv_bs I (ht p hp)) ne (I.ok.hd hc) (Nat.lt_of_le_of_lt (by omega) hu) fun s' p out c N k g o hp hg f1 f2 f3 => ?_
  have few := R.fw
  have nl : N.length = L.length := by
    have z := congrArg List.length f2
    rw [bSort, List.length_mergeSort, List.length_map, List.length_map] at z
    exact z
  have hlen : (N.map fun q => V.ref q.1).length ≤ sizeLine := by rw [List.length_map, nl, sizeLine_eq]; omega
  have hn : H p = none := I.hok.fresh hp
  have J : Inv X pins σ (upd H p (.lst (N.map fun q => V.ref q.1))) { s with heap := s'.heap, gens := s'.gens, drawn := s'.drawn, toks := s'.toks } :=
    I.call (ch := []) (Un.laid k hp hn) (I.hok.laid k hp ⟨hlen, out.toList, c, by rw [f1]; exact of_refs N, hg⟩) (by rw [g]; exact I.bare) (fun _ z => nomatch z)
  have e : s' = { s with heap := s'.heap, gens := s'.gens, drawn := s'.drawn, toks := s'.toks } := by
    cases s'; cases s; cases o; rfl
  rw [e]
  exact ⟨.ref p, _, J, rfl, q N p f2 f3 hn⟩
end
end TL
/-! TLtg: sorted of a dict whose keys are tuples of truth values. -/
namespace TL
open PySem PySem.Spec PyProof.Rows L2 PySem.W
section
variable {X : Cx} {pins : List (Addr × Obj)} {σ : L2.St} {H : Hp} {s : Shared}
theorem dnRaw {d : Addr} {xs : NX} (I : Inv X pins σ H s) (h : H d = some (DN X.w d xs)) : xs.length ≤ sizeLine ∧ (d == sysModules) = false ∧ ∃ (o : Obj) (es : Array DictEntry) (ep : Nat), s.heap.get? d = some o ∧ o.ExactDict ∧ o.data = .dict es ep ∧ es.size = xs.length ∧
    ∀ (i : Nat) (k : NestedKey) (q : Addr) (v : V), xs[i]? = some (k, q, v) → ∃ (en : DictEntry), es[i]? = some en ∧ en.key = .ref q := by
  obtain ⟨⟨z, y, vs, rel, o, es, ep, ho, hx, hdt, he, h5⟩, _, _⟩ := (show ObjOk X.prog X.w H s.heap d (DN X.w d xs) from I.hok d _ h)
  have hl := congrArg List.length he
  rw [Array.length_toList, List.length_map] at hl
  refine ⟨z, y, o, es, ep, ho, hx, hdt, by rw [hl, rel.length], fun i k q v e => ?_⟩
  obtain ⟨b, hb, e1, e2, _⟩ := paired_get rel e
  have q2 : es.toList[i]? = some ⟨b.1.hash X.w, .ref b.2.1, b.2.2⟩ := by rw [he, List.getElem?_map, hb]; rfl
  refine ⟨_, by simpa using q2, ?_⟩
  show Value.ref b.2.1 = .ref q
  rw [← e2]
/-- sorted(d) -/
def rSortedDN (K : PySem.W.Frag) (w : World) : List V → Hp → VK → Prop := fun vs H Q => ∃ (a : Addr) (xs : NX) (L : BL), vs = [V.ref a] ∧ H a = some (DN w a xs) ∧ xs.map (fun x => x.2.1) = L.map (·.1) ∧ (∀ p ∈ L, SqT K H p.1 (p.2.map V.bl)) ∧ (∀ p ∈ L, p.2 ≠ []) ∧
  ∀ (N : BL) (p : Addr), N.map (·.2) = bSort (L.map (·.2)) → (∀ q ∈ N, q ∈ L) → H p = none → Q (.ref p) (upd H p (.lst (N.map fun q => V.ref q.1)))
theorem cr_sortedDN (hc : X.calm = true) (hu : X.A.units + 64 < cLine) : CallR X (.builtin "sorted") (rSortedDN X.K X.w) := by
  intro pins s σ H vs us Q I r h
  obtain ⟨d, xs, L, rfl, hd, hx, ht, ne, q⟩ := h
  obtain ⟨hz, sm, o, es, ep, gd, ex, hdt, hsz, ent⟩ := dnRaw I hd
  have lL : L.length = xs.length := by
    have z := congrArg List.length hx
    rw [List.length_map, List.length_map] at z
    exact z.symm
  rw [Vals.ref1 r]
  refine Calls.call_function_entry kind_sorted plain_sorted entry_sorted (args_sorted1 _) ?_
  unfold Builtin.«sorted»
  refine wpAny_bind (m := checkCount "sorted" 1 1 _) (wpAny_pure (wpAny_bind (kdu_collect (A := X.A.in1) (KdlSrc.rawDict (es := es) (ep := ep) sm) (I.ok.hd hc) ⟨o, gd, ex, hdt⟩ (by rw [hsz]; exact hz) fun h1 tk acc k1 hacc => ?_)))
  have ev : acc.toList = L.map fun p => Value.ref p.1 := by
    refine List.ext_getElem? fun i => ?_
    rw [List.getElem?_map]
    cases hi : L[i]? with
    | none =>
      rw [Option.map_none]
      refine List.getElem?_eq_none ?_
      have z := List.getElem?_eq_none_iff.mp hi
      rw [Array.length_toList, hacc.1, hsz]
      omega
    | some p =>
      have il := (List.getElem?_eq_some_iff.mp hi).1
      have ia : i < acc.size := by rw [hacc.1, hsz]; omega
      have e1 : acc[i]? = some acc[i] := Array.getElem?_eq_getElem ia
      obtain ⟨hi2, e2⟩ := hacc.2 i acc[i] e1
      obtain ⟨y, hy⟩ : ∃ y, xs[i]? = some y := ⟨_, List.getElem?_eq_getElem (by omega)⟩
      obtain ⟨k, a, u⟩ := y
      obtain ⟨en, e3, e4⟩ := ent i k a u hy
      have e5 : a = p.1 := by
        have z : (xs.map fun x => x.2.1)[i]? = some a := by rw [List.getElem?_map, hy]; rfl
        rw [hx, List.getElem?_map, hi] at z
        exact (Option.some.inj z).symm
      rw [Array.getElem?_eq_getElem hi2] at e3
      rw [Array.getElem?_toList, e1, e2, Option.some.inj e3, e4, e5]
      rfl
  have T : BTup s.heap L := fun p hp => inv_bs I (ht p hp)
  have al : acc.toList.length ≤ sizeLine := by rw [ev, List.length_map, lL]; exact hz
  refine wpAny_bind (wpAny_newList ?_ al)
  have hoL : (h1.push (seqObj "list" acc.toList.toArray 0)).get? h1.objs.size = some (seqObj "list" acc.toList.toArray 0) := Heap.get?_push_size _ rfl
  refine wpAny_bind (wpAny_holding (sort_bs (s := { s with heap := h1.push (seqObj "list" acc.toList.toArray 0), toks := tk }) hoL ev (fun p hp => (T p hp).keep fun o e => Heap.get?_push_of_some _ (k1 _ o e)) ne (by rw [lL]; exact hz) (Nat.lt_of_le_of_lt (by simp only [Around.in1_units]; omega) hu) fun out N f1 f2 f3 => ?_))
  obtain ⟨c, hc⟩ := sortedHeap_at (vs := acc.toList) (out := out) hoL
  have nl : N.length = L.length := by
    have z := congrArg List.length f2
    rw [bSort, List.length_mergeSort, List.length_map, List.length_map] at z
    exact z
  have I1 : Inv X pins σ H { s with heap := h1, toks := tk } := I.kept k1
  have hn : H h1.objs.size = none := I1.hok.fresh (Nat.le_refl _)
  have hlen : (N.map fun q => V.ref q.1).length ≤ sizeLine := by rw [List.length_map, nl, lL]; exact hz
  refine wpAny_pure ⟨_, rfl, .ref h1.objs.size, _, I1.laid (t' := tk) (a := h1.objs.size) (o := .lst (N.map fun q => V.ref q.1)) (fun b u e => ?_) (Nat.le_refl _) ⟨hlen, out.toList, c, by rw [f1]; exact of_refs N, hc⟩, rfl, q N _ f2 f3 hn⟩
  have lt := Heap.lt_size e
  show (sortedHeap (h1.push (seqObj "list" acc.toList.toArray 0)) h1.objs.size acc.toList out).get? b = some u
  rw [sortedHeap_old (Nat.ne_of_lt lt) (by rw [size_push']; exact Nat.lt_succ_of_lt lt)]
  exact Heap.get?_push_of_some _ e
end
end TL
/-! TLth: {k: v for ..}, the keys nested tuples. -/
namespace TL
open PySem PySem.Spec PyProof.Rows L2
section
variable {X : Cx} {pins : List (Addr × Obj)} {σ : L2.St} {H : Hp} {s : Shared} {E : Value → Shared → Prop}
theorem dn_dset {D b : Addr} {xs : NX} {k : NestedKey} {v : V} {r : Value} {Q : Unit → Shared → Prop} (hu : X.A.units + 9 < cLine) (I : Inv X pins σ H s) (e : H D = some (DN X.w D xs)) (hk : NKs X.K H xs) (q : Nk X.K H (.ref b) k) (hd : k.depth ≤ 8) (hl : xs.length < sizeLine) (rv : RelV v r)
    (h : ∀ s', Inv X pins σ (upd H D (DN X.w D (putN xs k b v))) s' → Q () s') : wpAny (model X.prog X.w) X.A (dictSet D (.ref b) r) Q E s := by
  obtain ⟨z, hs, vs, rel, dd⟩ := dn_of I (.inl e) hk
  have z1 : vs.length ≤ sizeLine := by rw [← rel.length]; exact z
  have z2 : (putN xs k b v).length ≤ sizeLine := by have := length_putN xs k b v; omega
  refine wpAny_dictSet_heap (hsz := z1) (knd := nestedKind X.prog X.w) (show X.A.units + 8 < cLine by omega) (nk_is I q hd) dd fun h' dd' sb => h _ (d_write I (by rw [e]; exact True.intro) sb ?_ (dn_new (dn_made z2 hs (rel.put k rv) dd')))
  obtain ⟨o, _, _, ho, _⟩ := dd'
  exact ⟨o, ho⟩
/-- {k: v for target in iter if ..}; D: the new dict -/
def tDcN (K : PySem.W.Frag) (w : World) (wi : TI) (g : TG) (tt : TT) (tk tv : TE) (sl : List Nat) : TE := fun σ H Q => wi σ H fun J Ha => ∀ D, Ha D = none → ∃ St : Nat → Nat → Hp → Prop, (∃ m, St 0 m (upd Ha D (DN w D []))) ∧
  ∀ i m Hi, St i m Hi → (J.stop i Hi ∧ Q (.ref D) Hi) ∨ (J.go i Hi ∧ ∃ On : Hp → Prop, (∀ Hn, On Hn → ∃ n, n < m ∧ St (i + 1) n Hn) ∧ ∀ x Hx, J.yld i Hi x Hx → g x (wipe σ sl) Hx fun σt Ht => wipe σt sl = wipe σ sl ∧
    tt σt Ht fun c Hc => if c = true then tk σt Hc fun y Hy => tv σt Hy fun z Hz => ∃ xs b k, y = .ref b ∧ Hz D = some (DN w D xs) ∧ NKs K Hz xs ∧ Nk K Hz (.ref b) k ∧ k.depth ≤ 8 ∧ xs.length < sizeLine ∧ On (upd Hz D (DN w D (putN xs k b z))) else On Hc)
abbrev dObj : Obj := { cls := .type "dict", data := .dict #[] }
theorem dcn_run {kx vx tg iter : Expr} {ifs : List Expr} {scope : Scope} {own : List (Str × Nat)} {pos pos' : Pos} {wi : TI} {g : TG} {tt : TT} {tk tv : TE} {use : Option (Value → Sem Unit)} {Z : Value → Shared → Prop} {Q : VK} (hu : X.A.units + 9 < cLine) (hc : X.calm = true) (hN : X.N.Nodup) (I : Inv X pins σ H s) (hi : PI X tg iter wi)
    (ok : BlkOk X.N X.env.scope scope own) (hg : ∀ (s : Shared) (H : Hp) (C : Addr) (cl : List (Str × Addr)) (fp : List Addr), PG (X.blk s H scope (compEnvC scope cl C X.env) fp) tg g) (ht : ∀ (s : Shared) (H : Hp) (C : Addr) (cl : List (Str × Addr)) (fp : List Addr), PTs (X.blk s H scope (compEnvC scope cl C X.env) fp) ifs tt)
    (hk : ∀ (s : Shared) (H : Hp) (C : Addr) (cl : List (Str × Addr)) (fp : List Addr), PE (X.blk s H scope (compEnvC scope cl C X.env) fp) kx tk) (hv : ∀ (s : Shared) (H : Hp) (C : Addr) (cl : List (Str × Addr)) (fp : List Addr), PE (X.blk s H scope (compEnvC scope cl C X.env) fp) vx tv)
    (hs : ∀ x, foldedSetIterable iter X.env x = pure x) (h : tDcN X.K X.w wi g tt tk tv (own.map (·.2)) σ H Q)
    (fin : ∀ D C s' m H', Inv X pins σ H' s' → Q (.ref D) H' → s'.heap.Ns C m → FpOk X pins H' C → compPost (model X.prog X.w) X.A X.xe use Z (.ref D) C (.ok .next) s') :
    wpAny (model X.prog X.w) X.A (comprehension (.DictComp kx vx [⟨tg, iter, ifs, 0⟩] scope pos) scope X.env pos' newDict false (eval iter X.env) use) Z X.xe s := by
  have cells : ∀ y ∈ scope.names, y.2 = .free → ∃ c, X.env.cells.lookup y.1 = some c := fun y hy e => (ok.free y hy e).elim (fun k => I.ok.has _ (.inl k)) fun k => I.ok.has _ (.inr k)
  refine wpAny_comprehension_free (use := use) rfl hs (closure_ok cells) ok.kind (fun y hy e => by rw [ok.uniq y hy, e]) (thn (hi.run pins s σ H _ I h) fun xv sa hx => thn hx fun itv sb ⟨it, fp, tn, J, Ha, ea, Ia, T, sta, fpa, rest⟩ => ?_)
  subst ea
  refine wpAny_newObj_type (newEnv_comp ?_)
  obtain ⟨St, ⟨m0, w0⟩, turn⟩ := rest sb.heap.objs.size (Ia.hok.fresh (Nat.le_refl _))
  generalize eD : sb.heap.objs.size = D at w0 turn
  have nD : Ha D = none := Ia.hok.fresh (Nat.le_of_eq eD)
  generalize es : ({ sb with heap := sb.heap.push dObj } : Shared) = sc
  have hsc : sc.heap = sb.heap.push dObj := by rw [← es]
  have Ic : Inv X pins σ (upd Ha D (DN X.w D [])) sc := by
    rw [← es]
    refine Ia.laid (t' := sb.toks) (fun b o e => Heap.get?_push_of_some _ e) (Nat.le_of_eq eD) ?_
    rw [← eD]
    exact dn_new ⟨Nat.zero_le _, beq_eq_false_iff_ne.mpr (Ne.symm (Nat.ne_of_lt Ia.big)), [], .nil, _, #[], 0, Heap.get?_push_size _ rfl, ⟨rfl, rfl, rfl⟩, rfl, rfl, List.nodup_nil⟩
  have low : ∀ b ∈ fp, b < sb.heap.objs.size := fun b hb => (T.obj _ _ sta b hb).elim fun o e => Heap.lt_size e.1
  have fpc : ∀ b ∈ fp, FpOk X pins (upd Ha D (DN X.w D [])) b ∧ b < sc.heap.objs.size := fun b hb =>
    ⟨⟨by rw [upd_ne (by rw [← eD]; exact Nat.ne_of_lt (low b hb))]; exact (fpa b hb).1, (fpa b hb).2⟩, by rw [hsc, Heap.size_push]; exact Nat.lt_succ_of_lt (low b hb)⟩
  have stc : tn 0 sc.heap := T.keep _ _ _ sta fun b _ o e => by rw [hsc]; exact Heap.get?_push_of_some _ e
  have Id := block_start Ic ok hN fpc
  have pg := hg sc (upd Ha D (DN X.w D [])) sc.heap.objs.size (cellsFrom (sc.heap.objs.size + 1) scope.names (cloFrom X.env.cells scope.names [])) fp
  have pt := ht sc (upd Ha D (DN X.w D [])) sc.heap.objs.size (cellsFrom (sc.heap.objs.size + 1) scope.names (cloFrom X.env.cells scope.names [])) fp
  have pk := hk sc (upd Ha D (DN X.w D [])) sc.heap.objs.size (cellsFrom (sc.heap.objs.size + 1) scope.names (cloFrom X.env.cells scope.names [])) fp
  have pv := hv sc (upd Ha D (DN X.w D [])) sc.heap.objs.size (cellsFrom (sc.heap.objs.size + 1) scope.names (cloFrom X.env.cells scope.names [])) fp
  show codeAny _ _ (.compStart (.DictComp kx vx [⟨tg, iter, ifs, 0⟩] scope pos) 0 (.ref it) (.ref D) (compEnvC scope (cellsFrom (sc.heap.objs.size + 1) scope.names (cloFrom X.env.cells scope.names [])) sc.heap.objs.size X.env)) (compPost (model X.prog X.w) X.A X.xe use Z (.ref D) sc.heap.objs.size) { sc with heap := pushCells (sc.heap.push dObj) scope.names }
  have out0 : ∀ b ∈ fp, (upd Ha D (DN X.w D [])) b = none := fun b hb => (fpc b hb).1.1
  generalize eC : compEnvC scope (cellsFrom (sc.heap.objs.size + 1) scope.names (cloFrom X.env.cells scope.names [])) sc.heap.objs.size X.env = ce at Id pg pt pk pv ⊢
  have lC : ce.locals = sc.heap.objs.size := by rw [← eC]; rfl
  generalize eH : upd Ha D (DN X.w D []) = Hc at Ic Id pg pt pk pv w0 out0 fpc
  generalize ed : ({ sc with heap := pushCells (sc.heap.push dObj) scope.names } : Shared) = sd at Id ⊢
  have std : tn 0 sd.heap := T.keep _ _ _ stc fun b _ o e => by rw [← ed]; exact pushCells_keeps _ _ _ _ (Heap.get?_push_of_some _ e)
  have still : ∀ {σ' : L2.St} {H' : Hp} {s' : Shared}, Inv (X.blk sc Hc scope ce fp) [] σ' H' s' → (∀ b ∈ fp, H' b = none) → ∀ b ∈ fp, FpOk (X.blk sc Hc scope ce fp) [] H' b := fun I' hn b hb =>
    ⟨hn b hb, (I'.ok.exf b hb).1, I'.ok.exfs b hb, .inl hb, fun x c e => (I'.ok.exf b hb).2 x c e, fun p hp => absurd (show p ∈ ([] : List (Addr × Obj)) ++ [] from hp) (by simp)⟩
  have loop : codeAny (model X.prog X.w) X.A (.compLoop (.DictComp kx vx [⟨tg, iter, ifs, 0⟩] scope pos) 0 (.ref it) (.ref D) ce) (compPost (model X.prog X.w) X.A X.xe use Z (.ref D) sc.heap.objs.size) sd := by
    refine compLoop_anyD (fun n s' => ∃ i H', Inv (X.blk sc Hc scope ce fp) [] (wipe σ (own.map (·.2))) H' s' ∧ tn i s'.heap ∧ (∀ b ∈ fp, H' b = none) ∧ St i n H') ?_ m0 ⟨0, Hc, Id, std, out0, w0⟩
    rintro n se ⟨i, He, Ie, ste, oute, we⟩
    rcases turn i n He we with ⟨stop, qq⟩ | ⟨go, On, back, step⟩
    · refine thnF (T.done (X.blk sc Hc scope ce fp) rfl rfl rfl hc i [] se _ He (fun _ _ => False) Ie (still Ie oute) ste stop) fun r sf ⟨hr, If⟩ => ?_
      subst hr
      have Ig : Inv X pins σ He sf := Ic.call' (ch := fp) If.os If.base If.hok If.bare fun b hb => ⟨(fpc b hb).1.2.2.2.1, (fpc b hb).1.2.1, (fpc b hb).1.2.2.2.2.1, (fpc b hb).1.2.2.2.2.2⟩
      have noC : He sc.heap.objs.size = none := lC ▸ (show He ce.locals = none from If.free)
      obtain ⟨m, hn, _⟩ := If.loc
      exact fin D sc.heap.objs.size sf m He Ig qq (lC ▸ (show sf.heap.Ns ce.locals m from hn)) (Ic.fpOk (Nat.le_refl _) noC)
    · refine thnF (T.item (X.blk sc Hc scope ce fp) rfl rfl rfl hc i [] se _ He (fun _ _ => False) Ie (still Ie oute) ste go) fun r sf ⟨u, hr, hf⟩ => ?_
      subst hr
      refine thnF hf fun _ sg ⟨x, Hg, Ig, rg, yg, stg, outg⟩ => ?_
      have Ip := Ig.pinned (still Ig outg) (T.obj _ _ stg)
      refine thnF (pg.run _ sg _ Hg x u _ Ip rg (step x Hg yg)) fun _ sh ⟨σh, Hh, Ih, wh, qh⟩ => thnF (pt.run _ sh σh Hh _ Ih qh) fun c si ⟨Hi, Ii, qi⟩ => ?_
      have close : ∀ {s' : Shared} {H' : Hp}, Inv (X.blk sc Hc scope ce fp) ([] ++ pinsAt fp sg.heap) σh H' s' → On H' → ∃ m, m < n ∧ ∃ i H', Inv (X.blk sc Hc scope ce fp) [] (wipe σ (own.map (·.2))) H' s' ∧ tn i s'.heap ∧ (∀ b ∈ fp, H' b = none) ∧ St i m H' := fun {s' H'} I' on => by
        obtain ⟨m', lm, w'⟩ := back H' on
        have pin : ∀ b ∈ fp, ∀ o, sg.heap.get? b = some o → s'.heap.get? b = some o ∧ H' b = none := fun b hb o e =>
          (fun z => ⟨z.1, z.2.1⟩) (I'.pin (b, o) (List.mem_append_right _ (List.mem_append_right _ (mem_pinsAt hb e))))
        refine ⟨m', lm, i + 1, H', (I'.unpinned (pins := [])).weak (by rw [← wh, wipe_length]) (fun j v e => (wipe_some (by rw [← wh] at e; exact e)).1), T.keep _ _ _ stg fun b hb o e => (pin b hb o e).1, fun b hb => ?_, w'⟩
        exact (T.obj _ _ stg b hb).elim fun o e => (pin b hb o e.1).2
      cases c with
      | false =>
        simp only [Bool.false_eq_true, if_false] at qi ⊢
        exact close Ii qi
      | true =>
        simp only [if_true] at qi ⊢
        refine thnF (pk.run _ si σh Hi _ Ii qi) fun z sj ⟨yk, Hj, Ij, rj, qj⟩ => thnF (pv.run _ sj σh Hj _ Ij qj) fun z2 sk ⟨yv, Hk, Ik, rk, xs, b, k, ek, gD, nks, nk, dk, lx, on⟩ => ?_
        subst ek
        obtain rfl : z = Value.ref b := rj
        exact dn_dset (X := X.blk sc Hc scope ce fp) hu Ik gD nks nk dk lx rk fun sl Il => close Il on
  exact codeAny_compStart_dict loop (T.self X.A 0 _ _ _ std loop)
/-- as a value -/
theorem pe_dcn {kx vx tg iter : Expr} {ifs : List Expr} {scope : Scope} {own : List (Str × Nat)} {pos : Pos} {wi : TI} {g : TG} {tt : TT} {tk tv : TE} (hu : X.A.units + 9 < cLine) (hc : X.calm = true) (hN : X.N.Nodup) (hi : PI X tg iter wi) (ok : BlkOk X.N X.env.scope scope own)
    (hg : ∀ (s : Shared) (H : Hp) (C : Addr) (cl : List (Str × Addr)) (fp : List Addr), PG (X.blk s H scope (compEnvC scope cl C X.env) fp) tg g) (ht : ∀ (s : Shared) (H : Hp) (C : Addr) (cl : List (Str × Addr)) (fp : List Addr), PTs (X.blk s H scope (compEnvC scope cl C X.env) fp) ifs tt)
    (hk : ∀ (s : Shared) (H : Hp) (C : Addr) (cl : List (Str × Addr)) (fp : List Addr), PE (X.blk s H scope (compEnvC scope cl C X.env) fp) kx tk) (hv : ∀ (s : Shared) (H : Hp) (C : Addr) (cl : List (Str × Addr)) (fp : List Addr), PE (X.blk s H scope (compEnvC scope cl C X.env) fp) vx tv)
    (hs : ∀ x, foldedSetIterable iter X.env x = pure x := by intro _; rfl) : PE X (.DictComp kx vx [⟨tg, iter, ifs, 0⟩] scope pos) (tDcN X.K X.w wi g tt tk tv (own.map (·.2))) := by
  refine ⟨fun pins s σ H Q I h => ?_⟩
  rw [arm_eval_DictComp]
  refine dcn_run hu hc hN I hi ok hg ht hk hv hs h fun D C s' m H' I' q hn f => ⟨m, hn, fun h'' sb => ?_⟩
  obtain ⟨f0, f1, f2, f3, f4, f5⟩ := f
  exact ⟨.ref D, H', I'.turned (t' := s'.toks) (fun b o hb e => (sb.2 b hb).trans e) f0 f1 f3 f4 f5, rfl, q⟩
end
end TL
/-! TLyd: sorted(set(xs)), xs tuples of truth values: by trees. -/
namespace TL
open PySem PySem.Spec PyProof.Rows L2
variable [TheW]
abbrev bT (bs : List Bool) : T := .tup (bs.map T.bl)
def bssT : List T → Option (List (List Bool))
  | [] => some []
  | .tup xs :: ts => match blAll xs, bssT ts with
    | some b, some bs => some (b :: bs)
    | _, _ => none
  | _ => none
theorem blAll_T : ∀ bs : List Bool, blAll (bs.map T.bl) = some bs
  | [] => rfl
  | b :: bs => by simp only [List.map_cons, blAll, blAll_T bs, Option.map_some]
theorem bssT_map : ∀ bss : List (List Bool), bssT (bss.map bT) = some bss
  | [] => rfl
  | b :: bss => by simp only [List.map_cons, bssT, bssT_map bss, blAll_T]
section
variable {X : Cx} {K : PySem.W.Frag} {M : Mode} {E : XK} {G0 H0 G H : Hp}
theorem is_bss : ∀ {us : List T} {ws : List V} {bss : List (List Bool)}, IsAll K G ws us → bssT us = some bss → ∃ ks : BL, ws = ks.map (fun p => V.ref p.1) ∧ ks.map (·.2) = bss ∧ ∀ p ∈ ks, SqT K G p.1 (p.2.map V.bl)
  | [], _, _, .nil, h => by
    cases h
    exact ⟨[], rfl, rfl, fun p hp => absurd hp List.not_mem_nil⟩
  | .tup xs :: us, _, bss, .cons i r, h => by
    unfold bssT at h
    cases h1 : blAll xs with
    | none => rw [h1] at h; cases h
    | some b =>
      cases h2 : bssT us with
      | none => rw [h1, h2] at h; cases h
      | some bs =>
        rw [h1, h2] at h
        cases h
        obtain ⟨ks, e1, e2, e3⟩ := is_bss r h2
        cases i with
        | tup hg ra =>
          rename_i a vs
          refine ⟨(a, b) :: ks, by rw [e1]; rfl, by rw [List.map_cons, e2], fun p hp => ?_⟩
          rcases List.mem_cons.mp hp with rfl | hp
          · rw [← blAll_ok ra h1]
            exact hg
          · exact e3 p hp
theorem is_bT : ∀ (N : BL), (∀ p ∈ N, SqT K G p.1 (p.2.map V.bl)) → IsAll K G (N.map fun p => V.ref p.1) ((N.map (·.2)).map bT)
  | [], _ => .nil
  | p :: N, h => by
    have bl : ∀ bs : List Bool, IsAll K G (bs.map V.bl) (bs.map T.bl) := fun bs => by
      induction bs with
      | nil => exact .nil
      | cons b bs ih => exact .cons .bl ih
    exact .cons (.tup (h p List.mem_cons_self) (bl _)) (is_bT N fun q hq => h q (List.mem_cons_of_mem _ hq))
def gSortSet (a : TAx) : TEx := fun τ q r => a τ (fun ts => match ts with
  | [.lst us] => oks (bssT us) fun bss => (∃ D : List (List Bool), D.length < 63 ∧ ∀ b ∈ bss, b ∈ D) ∧ (∀ b ∈ bss, b ≠ []) ∧ ∀ l : List (List Bool), l.Nodup → (∀ x, x ∈ l ↔ x ∈ bss) → q (.ol ((bSort l).map bT))
  | _ => False) r
theorem sim_sortSet {ta : TA} {a : TAx} (ha : SimA K M E ta a) : SimE K M E (tCB (rSortedOfB K TheW.w) (tCons (tCB (rSetOfB K TheW.w) ta) tNil)) (gSortSet a) := fun τ q r e σ G H w Q hq hx =>
  ha τ _ r e σ G H w _ (fun vs ts G1 H1 g1 i1 q1 => by
    have ok1 := w.ok.go g1
    split at q1
    · obtain ⟨bss, h1, ⟨D, hD, hm⟩, ne, q2⟩ := oks_cases q1
      cases i1 with
      | cons i2 i3 =>
        cases i3
        cases i2 with
        | lst hg ra =>
          rename_i us b ws
          obtain ⟨ks, e1, e2, e3⟩ := is_bss ra h1
          have mem : ∀ p ∈ ks, p.2 ∈ bss := fun p hp => by rw [← e2]; exact List.mem_map.mpr ⟨p, hp, rfl⟩
          refine ⟨b, ks, D, rfl, by rw [← e1]; exact SqL.of (ok1.sub _ _ hg), fun p hp => ok1.sub.sqT (e3 p hp), hD, fun p hp => hm _ (mem p hp), fun p L hp nd m1 m2 => ?_⟩
          have g2 : Go M G1 H1 G1 (upd H1 p (SetBO TheW.w p L)) := Go.lay ok1 hp
          have ok2 := ok1.go g2
          refine ⟨p, L, rfl, upd_same, fun x hx => ok2.sub.sqT (e3 x (m1 x hx)), fun x hx => ne _ (mem x (m1 x hx)), fun N p2 hN mN hp2 => ?_⟩
          obtain ⟨g3, z⟩ := ol_new (K := K) (ts := (N.map (·.2)).map bT) ok2 hp2 (is_bT N fun x hx => e3 x (m1 x (mN x hx)))
          refine hq _ _ _ _ ((g1.trans g2).trans g3) (z.early (g1.trans g2)) ?_
          rw [hN]
          refine q2 (L.map (·.2)) nd fun x => ⟨fun hx => ?_, fun hx => ?_⟩
          · obtain ⟨y, hy, rfl⟩ := List.mem_map.mp hx
            exact mem y (m1 y hy)
          · rw [← e2] at hx
            obtain ⟨y, hy, rfl⟩ := List.mem_map.mp hx
            exact m2 y hy
    · exact q1.elim) hx
end
end TL
/-! TLye: sorted({k: v for ..}), k tuples of truth values: by trees. -/
namespace TL
open PySem PySem.Spec PyProof.Rows L2
variable [TheW]
def dcR (g : TGx) (tt : TTx) (tk tv : TEx) (τ : List Sl) (q : List (List Bool) → Prop) : List T → List (List Bool) → Prop
  | [], acc => q acc
  | t :: ts, acc => g t τ fun τ2 => tt τ2 (fun b => if b = true then tk τ2 (fun s => tv τ2 (fun _ => ∃ bs, s.fz = bT bs ∧ bs ≠ [] ∧ acc.length < sizeLine ∧ dcR g tt tk tv τ q ts (if bs ∈ acc then acc else acc ++ [bs])) rF) rF else dcR g tt tk tv τ q ts acc) rF
def gSortDc (vs : List Nat) (src : TIx) (g : TGx) (tt : TTx) (tk tv : TEx) : TEx := fun τ q r => src τ (fun items => dcR g tt tk tv (wipeS τ vs) (fun acc => q (.ol ((bSort acc).map bT))) items []) r
section
variable {X : Cx} {K : PySem.W.Frag} {M : Mode} {E : XK} {G0 H0 G H : Hp}
theorem nk_bls (H : Hp) : ∀ bs : List Bool, NkAll K H (bs.map V.bl) (bs.map fun b => NestedKey.num (if b = true then 1 else 0))
  | [] => .nil
  | b :: bs => .cons .bl (nk_bls H bs)
theorem nk_b {H : Hp} {a : Addr} {bs : List Bool} (h : SqT K H a (bs.map V.bl)) : Nk K H (.ref a) (bKey bs) := .tup h (nk_bls H bs)
theorem is_b {v : V} {bs : List Bool} (i : Is K G v (bT bs)) : ∃ a, v = .ref a ∧ SqT K G a (bs.map V.bl) := by
  cases i with
  | tup h ra =>
    rw [blAll_ok ra (blAll_T bs)] at h
    exact ⟨_, rfl, h⟩
/-- what stands in the dict -/
structure DcI (K : PySem.W.Frag) (G : Hp) (xs : NX) (L : BL) : Prop where
  k : xs.map (·.1) = L.map fun p => bKey p.2
  a : xs.map (fun x => x.2.1) = L.map (·.1)
  t : ∀ p ∈ L, SqT K G p.1 (p.2.map V.bl)
  n : ∀ p ∈ L, p.2 ≠ []
theorem DcI.len {xs : NX} {L : BL} (h : DcI K G xs L) : xs.length = L.length := by
  have z := congrArg List.length h.k
  rwa [List.length_map, List.length_map] at z
theorem DcI.mono {G' : Hp} {xs : NX} {L : BL} (h : DcI K G xs L) (s : Sub G G') : DcI K G' xs L := ⟨h.k, h.a, fun p hp => s.sqT (h.t p hp), h.n⟩
theorem DcI.nks {xs : NX} {L : BL} (h : DcI K G xs L) (s : Sub G H) : NKs K H xs := by
  have go : ∀ {xs : NX} {L : BL}, xs.map (·.1) = L.map (fun p => bKey p.2) → xs.map (fun x => x.2.1) = L.map (·.1) → (∀ p ∈ L, SqT K G p.1 (p.2.map V.bl)) → NKs K H xs := by
    intro xs
    induction xs with
    | nil => exact fun _ _ _ x hx => absurd hx List.not_mem_nil
    | cons x xs ih =>
      intro L h1 h2 h3
      cases L with
      | nil => simp at h1
      | cons p L =>
        simp only [List.map_cons, List.cons.injEq] at h1 h2
        intro y hy
        rcases List.mem_cons.mp hy with rfl | hy
        · rw [h1.1, h2.1]
          exact ⟨nk_b (s.sqT (h3 p List.mem_cons_self)), bKey_depth _⟩
        · exact ih h1.2 h2.2 (fun q hq => h3 q (List.mem_cons_of_mem _ hq)) y hy
  exact go h.k h.a h.t
theorem DcI.has {xs : NX} {L : BL} (h : DcI K G xs L) (bs : List Bool) : (valN xs (bKey bs)).isSome = decide (bs ∈ L.map (·.2)) := by
  rw [Bool.eq_iff_iff, decide_eq_true_eq]
  unfold valN
  rw [Option.isSome_map, List.find?_isSome]
  have e : bs ∈ L.map (·.2) ↔ bKey bs ∈ xs.map (·.1) := by
    rw [h.k]
    constructor
    · intro m
      obtain ⟨p, hp, rfl⟩ := List.mem_map.mp m
      exact List.mem_map.mpr ⟨p, hp, rfl⟩
    · intro m
      obtain ⟨p, hp, z⟩ := List.mem_map.mp m
      rw [← bKey_inj z]
      exact List.mem_map.mpr ⟨p, hp, rfl⟩
  rw [e, List.mem_map]
  exact ⟨fun ⟨x, h1, h2⟩ => ⟨x, h1, of_decide_eq_true h2⟩, fun ⟨x, h1, h2⟩ => ⟨x, h1, decide_eq_true h2⟩⟩
theorem DcI.put {xs : NX} {L : BL} (h : DcI K G xs L) {a : Addr} {bs : List Bool} (v : V) (ht : SqT K G a (bs.map V.bl)) (hn : bs ≠ []) : ∃ L', DcI K G (putN xs (bKey bs) a v) L' ∧ L'.map (·.2) = if bs ∈ L.map (·.2) then L.map (·.2) else L.map (·.2) ++ [bs] := by
  unfold putN
  rw [h.has bs]
  by_cases m : bs ∈ L.map (·.2)
  · rw [if_pos (decide_eq_true m), if_pos m]
    refine ⟨L, ⟨?_, ?_, h.t, h.n⟩, rfl⟩
    · rw [List.map_map, ← h.k]
      exact List.map_congr_left fun x _ => by dsimp only [Function.comp]; split <;> simp_all
    · rw [List.map_map, ← h.a]
      exact List.map_congr_left fun x _ => by dsimp only [Function.comp]; split <;> rfl
  · rw [if_neg (by simpa using m), if_neg m]
    refine ⟨L ++ [(a, bs)], ⟨by rw [List.map_append, List.map_append, h.k]; rfl, by rw [List.map_append, List.map_append, h.a]; rfl, fun p hp => ?_, fun p hp => ?_⟩, by rw [List.map_append]; rfl⟩
    · rcases List.mem_append.mp hp with hp | hp
      · exact h.t p hp
      · rw [List.mem_singleton.mp hp]; exact ht
    · rcases List.mem_append.mp hp with hp | hp
      · exact h.n p hp
      · rw [List.mem_singleton.mp hp]; exact hn
theorem mu_dn (D : Addr) (xs : NX) : Mu (DN TheW.w D xs) := .inr (.inr ⟨_, rfl, fun h ⟨_, _, _, _, o, es, ep, e, _, d, _⟩ => ⟨D, o, e, fun vs z => by rw [d] at z; cases z⟩⟩)
theorem sim_sortDc {ti : TI} {tg : TG} {tt : TT} {te tf : TE} {vs is : List Nat} {src : TIx} {g : TGx} {gt : TTx} {ge gf : TEx} (hi : SimI K M E ti src) (hg : SimG K M is tg g) (ht : SimT K M L2.E0 tt gt) (he : SimE K M L2.E0 te ge) (hf : SimE K M L2.E0 tf gf) (hv : ∀ i ∈ is, i ∈ vs) :
    SimE K M E (tCB (rSortedDN K TheW.w) (tCons (tDcN K TheW.w ti tg tt te tf vs) tNil)) (gSortDc vs src g gt ge gf) := fun τ q r e σ G H w Q hq hx =>
  hi τ _ r e σ G H w _ (fun J items G1 H1 g1 hJ e1 D hD => by
    have ok1 := w.ok.go g1
    have nS : ¬ M.S D := ok1.noS hD
    refine ⟨fun i m H' => m = items.length - i ∧ i ≤ items.length ∧ ∃ G' xs L, H' D = some (DN TheW.w D xs) ∧ G' D = none ∧ DcI K G' xs L ∧ Go M G1 H1 G' H' ∧ dcR g gt ge gf (wipeS τ vs) (fun acc => q (.ol ((bSort acc).map bT))) (items.drop i) (L.map (·.2)),
      ⟨items.length, rfl, Nat.zero_le _, G1, [], [], upd_same, ok1.fresh hD, ⟨rfl, rfl, fun p hp => absurd hp List.not_mem_nil, fun p hp => absurd hp List.not_mem_nil⟩, .lay ok1 hD, e1⟩, ?_⟩
    rintro i m H' ⟨rfl, hi, G', xs, L, hD', nD', dc, g', el⟩
    have ok' := ok1.go g'
    obtain ⟨hst, hgo⟩ := hJ G' H' g'.gg ok' i
    by_cases hlt : i < items.length
    · refine .inr ⟨(hgo items[i] (by simp [hlt])).1, fun H'' => ∃ m', m' < items.length - i ∧ (m' = items.length - (i + 1) ∧ i + 1 ≤ items.length ∧ ∃ G' xs L, H'' D = some (DN TheW.w D xs) ∧ G' D = none ∧ DcI K G' xs L ∧ Go M G1 H1 G' H'' ∧ dcR g gt ge gf (wipeS τ vs) (fun acc => q (.ol ((bSort acc).map bT))) (items.drop (i + 1)) (L.map (·.2))), fun H'' h => h, ?_⟩
      intro x H'' y
      obtain ⟨G2, g2, ix⟩ := (hgo items[i] (by simp [hlt])).2 x H'' y
      rw [List.drop_eq_getElem_cons hlt] at el
      obtain ⟨os, en, hs⟩ := w.en
      have en2 := en.go hs ((g1.trans g').trans g2)
      obtain ⟨os', en3, ho⟩ := en2.wipe vs
      refine hg _ _ _ el x _ G2 H'' os' ix en3 (ok'.go g2) _ fun σ4 τ4 os4 en4 ho4 hw4 q4 => ⟨by rw [hw4 vs hv, wipe_wipe], ?_⟩
      have w4 : W1 K M G2 H'' σ4 τ4 := ⟨⟨os4, en4, fun a h => hs a (ho a (ho4 a h))⟩, ok'.go g2⟩
      refine ht _ _ rF q4 σ4 G2 H'' w4 _ (fun b G5 H5 g5 q5 => ?_) xp_F
      have g25 := g2.trans g5
      have hD5 : H5 D = some (DN TheW.w D xs) := g25.keep D _ nS hD'
      cases b with
      | true =>
        rw [if_pos rfl] at q5
        rw [if_pos rfl]
        refine he.data q5 (w4.go g5) (fun y G6 H6 s6 g6 i6 q6 => ?_) xp_F
        refine hf.data q6 ((w4.go g5).go g6) (fun z G7 H7 s7 g7 i7 ⟨bs, z1, z2, z3, z4⟩ => ?_) xp_F
        have g27 := (g25.trans g6).trans g7
        have hD7 : H7 D = some (DN TheW.w D xs) := g27.keep D _ nS hD'
        have n7 : G7 D = none := g27.new D nD' (by rw [hD']; simp)
        rw [z1] at i6
        obtain ⟨a, rfl, sa⟩ := is_b i6
        have sa7 := g7.gg.sqT sa
        obtain ⟨L', dc', eL⟩ := (dc.mono g27.gg).put z sa7 z2
        have len := dc.len
        rw [List.length_map] at z3
        refine ⟨xs, a, bKey bs, rfl, hD7, (dc.mono g27.gg).nks g27.sub, nk_b (g27.sub.sqT sa7), bKey_depth bs, by rw [len]; exact z3, items.length - (i + 1), by omega, rfl, hlt, G7, putN xs (bKey bs) a z, L', upd_same, n7, dc', (g'.trans g27).write ok1 hD hD7 (mu_dn _ _) n7, ?_⟩
        rw [eL]
        exact z4
      | false =>
        rw [if_neg (by decide)] at q5
        rw [if_neg (by decide)]
        exact ⟨items.length - (i + 1), by omega, rfl, hlt, G5, xs, L, hD5, g25.new D nD' (by rw [hD']; simp), dc.mono g25.gg, g'.trans g25, q5⟩
    · have e : i = items.length := by omega
      subst e
      rw [List.drop_length] at el
      refine .inl ⟨hst (Nat.le_refl _), D, xs, L, rfl, hD', dc.a, fun p hp => ok'.sub.sqT (dc.t p hp), dc.n, fun N p hN mN hp => ?_⟩
      obtain ⟨g3, z⟩ := ol_new (K := K) (ts := (N.map (·.2)).map bT) ok' hp (is_bT N fun x hx => dc.t x (mN x hx))
      refine hq _ _ _ _ ((g1.trans g').trans g3) (z.early (g1.trans g')) ?_
      rw [hN]
      exact el) hx
end
end TL
/-! TLyg: a list of lists, grown at its last one: x = [[]]; for t in ..: x.append([]) if .. else x[-1].append(t). -/
namespace TL
open PySem PySem.Spec PyProof.Rows L2
variable [TheW]
section
variable {K : PySem.W.Frag} {M : Mode} {E : XK} {G0 H0 G H G' H' : Hp}
/-- D: the list; its last one, at l, still grows -/
structure NestI (K : PySem.W.Frag) (M : Mode) (G0 H0 G H : Hp) (σ : List (Option V)) (τ : List Sl) (i : Nat) (D l : Addr) (dv vs : List V) (done : List (List T)) (cur : List T) (os : List Addr) : Prop where
  en : En K G H σ τ os
  ho : ∀ a ∈ os, H0 a = none
  go : Go M G0 H0 G H
  sD : σ[i]? = some (some (.ref D))
  tD : τ[i]? = some .no
  hD : H D = some (.lst (dv ++ [.ref l]))
  gD : G D = none
  zD : H0 D = none
  oD : D ∉ os
  hl : H l = some (.lst vs)
  gl : G l = none
  zl : H0 l = none
  ol : l ∉ os
  ne : D ≠ l
  iv : IsAll K G vs cur
  id : IsAll K G dv (done.map T.lst)
variable {σ : List (Option V)} {τ : List Sl} {i : Nat} {D l : Addr} {dv vs : List V} {done : List (List T)} {cur : List T} {os : List Addr}
theorem NestI.w2 (n : NestI K M G0 H0 G H σ τ i D l dv vs done cur os) : W2 K M G0 H0 G H σ τ := ⟨⟨os, n.en, n.ho⟩, n.go⟩
theorem NestI.next (n : NestI K M G0 H0 G H σ τ i D l dv vs done cur os) (ok : Ok M G0 H0) (g : Go M G H G' H') : NestI K M G0 H0 G' H' σ τ i D l dv vs done cur os where
  en := n.en.go (fun a ha => ok.noS (n.ho a ha)) g
  ho := n.ho
  go := n.go.trans g
  sD := n.sD
  tD := n.tD
  hD := g.keep D _ (ok.noS n.zD) n.hD
  gD := g.new D n.gD (by rw [n.hD]; simp)
  zD := n.zD
  oD := n.oD
  hl := g.keep l _ (ok.noS n.zl) n.hl
  gl := g.new l n.gl (by rw [n.hl]; simp)
  zl := n.zl
  ol := n.ol
  ne := n.ne
  iv := n.iv.mono g.gg
  id := n.id.mono g.gg
theorem NestI.slot (n : NestI K M G0 H0 G H σ τ i D l dv vs done cur os) {v : Nat} (hv : v ≠ i) (hb : v < τ.length) {x : V} {t : T} (ix : Is K G x t) : ∃ os', NestI K M G0 H0 G H (σ.set v (some x)) (τ.set v (.sh t)) i D l dv vs done cur os' := by
  obtain ⟨os', e1, h1⟩ := n.en.forget v (some x)
  have e2 := e1.putS (i := v) (by rw [List.getElem?_set_self (by simpa using hb)]) ix
  rw [List.set_set, List.set_set] at e2
  exact ⟨os', e2, fun a ha => n.ho a (h1 a ha), n.go, by rw [List.getElem?_set_ne hv]; exact n.sD, by rw [List.getElem?_set_ne hv]; exact n.tD, n.hD, n.gD, n.zD, fun z => n.oD (h1 _ z), n.hl, n.gl, n.zl, fun z => n.ol (h1 _ z), n.ne, n.iv, n.id⟩
theorem NestI.push (n : NestI K M G0 H0 G H σ τ i D l dv vs done cur os) (ok : Ok M G0 H0) {x : V} {t : T} (ix : Is K G x t) : NestI K M G0 H0 G (upd H l (.lst (vs ++ [x]))) σ τ i D l dv (vs ++ [x]) done (cur ++ [t]) os where
  en := n.en.mono (.refl _) (fun a ha o e => by rw [upd_ne (mem_ne ha n.ol)]; exact e) fun a ha => (n.en.own a ha).1
  ho := n.ho
  go := n.go.write ok n.zl n.hl (.inl ⟨_, rfl⟩) n.gl
  sD := n.sD
  tD := n.tD
  hD := by rw [upd_ne n.ne]; exact n.hD
  gD := n.gD
  zD := n.zD
  oD := n.oD
  hl := upd_same
  gl := n.gl
  zl := n.zl
  ol := n.ol
  ne := n.ne
  iv := n.iv.append (.one ix)
  id := n.id
theorem NestI.cut (n : NestI K M G0 H0 G H σ τ i D l dv vs done cur os) (ok : Ok M G0 H0) {p : Addr} (hp : H p = none) :
    NestI K M G0 H0 (upd G l (.lst vs)) (upd (upd H p (.lst [])) D (.lst ((dv ++ [.ref l]) ++ [.ref p]))) σ τ i D p (dv ++ [.ref l]) [] (done ++ [cur]) [] os := by
  have okH := ok.go n.go
  have sG : Sub G (upd G l (.lst vs)) := Sub.upd n.gl
  have pD : p ≠ D := fun z => by rw [z, n.hD] at hp; cases hp
  have pl : p ≠ l := fun z => by rw [z, n.hl] at hp; cases hp
  have po : p ∉ os := fun z => (n.en.own p z).2 hp
  have g1 : Go M G0 H0 G (upd H p (.lst [])) := n.go.trans (Go.lay okH hp)
  have g2 : Go M G0 H0 G (upd (upd H p (.lst [])) D (.lst ((dv ++ [.ref l]) ++ [.ref p]))) := g1.write ok n.zD (by rw [upd_ne (Ne.symm pD)]; exact n.hD) (.inl ⟨_, rfl⟩) n.gD
  have hl2 : (upd (upd H p (.lst [])) D (.lst ((dv ++ [.ref l]) ++ [.ref p]))) l = some (.lst vs) := by rw [upd_ne (Ne.symm n.ne), upd_ne (Ne.symm pl)]; exact n.hl
  refine ⟨n.en.mono sG (fun a ha o e => ?_) (fun a ha => ?_), n.ho, g2.data n.zl hl2 n.gl, n.sD, n.tD, upd_same, ?_, n.zD, n.oD, ?_, ?_, n.go.back hp, po, Ne.symm pD, .nil, ?_⟩
  · rw [upd_ne (mem_ne ha n.oD), upd_ne (mem_ne ha po)]
    exact e
  · rw [upd_ne (mem_ne ha n.ol)]
    exact (n.en.own a ha).1
  · rw [upd_ne n.ne]
    exact n.gD
  · rw [upd_ne pD, upd_same]
  · rw [upd_ne pl]
    cases e : G p with
    | none => rfl
    | some o => exact absurd (okH.sub p o e) (by rw [hp]; simp)
  · rw [List.map_append]
    exact (n.id.mono sG).append (.one (.lst upd_same (n.iv.mono sG)))
theorem NestI.fin (n : NestI K M G0 H0 G H σ τ i D l dv vs done cur os) : W2 K M G0 H0 (upd G l (.lst vs)) H σ (τ.set i (.ol ((done ++ [cur]).map T.lst))) := by
  have sG : Sub G (upd G l (.lst vs)) := Sub.upd n.gl
  have e1 : En K (upd G l (.lst vs)) H σ τ os := n.en.mono sG (fun a ha o e => e) fun a ha => by
    rw [upd_ne (mem_ne ha n.ol)]
    exact (n.en.own a ha).1
  have is : IsAll K (upd G l (.lst vs)) (dv ++ [.ref l]) ((done ++ [cur]).map T.lst) := by
    rw [List.map_append]
    exact (n.id.mono sG).append (.one (.lst upd_same (n.iv.mono sG)))
  obtain ⟨os', e2, h2⟩ := e1.putO n.tD n.hD (by rw [upd_ne n.ne]; exact n.gD) (.l is) n.oD
  have es : σ.set i (some (.ref D)) = σ := by
    refine List.ext_getElem? fun j => ?_
    by_cases z : j = i
    · subst z
      have lt := (List.getElem?_eq_some_iff.mp n.sD).1
      rw [List.getElem?_set_self lt, n.sD]
    · rw [List.getElem?_set_ne (Ne.symm z)]
  rw [es] at e2
  refine ⟨⟨os', e2, fun a ha => ?_⟩, n.go.data n.zl n.hl n.gl⟩
  rcases h2 a ha with rfl | ha
  · exact n.zD
  · exact n.ho a ha
theorem atI_last {α : Type} (l : List α) (x : α) : atI (l ++ [x]) (-1) = some x := by
  have e : ixN (l ++ [x]).length (-1) = some l.length := by
    unfold ixN
    rw [List.length_append, List.length_singleton, if_neg (by decide), if_pos (by omega)]
    congr 1
    omega
  unfold atI
  rw [e]
  simp
def sentT (p : T → Bool) : List T → List (List T) → List T → List (List T)
  | [], done, cur => done ++ [cur]
  | t :: ts, done, cur => if p t = true then sentT p ts (done ++ [cur]) [] else sentT p ts done (cur ++ [t])
def sSent (i v : Nat) (src : TIx) (c : TTx) (p : T → Bool) : TSx := fun τ k => v ≠ i ∧ v < τ.length ∧ i < τ.length ∧ src (τ.set i .no) (fun items => items.length + 1 < sizeLine ∧
  (∀ t ∈ items, ∀ τ' : List Sl, τ'[v]? = some (.sh t) → ∀ Q : Bool → Prop, Q (p t) → c τ' Q k.ex) ∧ ∀ s, k.nx (((τ.set i .no).set v s).set i (.ol ((sentT p items [] []).map T.lst)))) k.ex
theorem sims_sent {i v : Nat} {ti : TI} {src : TIx} {tc : TT} {c : TTx} {tn : TE} {p : T → Bool} (hi : SimI K M E ti src) (hc : SimT K M E tc c) (hn : SimE K M E tn (gNeg (gC (.int 1)))) :
    SimS K M E (tSeq (tAsg (tLst (tCons (tLst tNil) tNil)) (gName i)) (tFor ti (gName v) (tIfS tc (tDrop (tBM K "list" rAppend (tVar i) (tCons (tLst tNil) tNil))) (tDrop (tBM K "list" rAppend (tOp (rIx K) (tVar i) tn) (tCons (tVar v) tNil)))))) (sSent i v src c p) := fun G0 H0 ok τ k e σ G H w D0 d => by
  obtain ⟨vi, vl, il, e⟩ := e
  have one : (1 : Nat) ≤ sizeLine := by rw [sizeLine_eq]; omega
  refine (show ([] : List V).length ≤ sizeLine ∧ ∀ a, H a = none → ([V.ref a] : List V).length ≤ sizeLine ∧ ∀ D, (upd H a (.lst [])) D = none → tFor ti (gName v) _ D0 (σ.set i (some (.ref D))) (upd (upd H a (.lst [])) D (.lst [.ref a])) from ⟨Nat.zero_le _, fun a ha => ⟨one, fun D hD => ?_⟩⟩)
  have ok1 := (w.w1 ok).ok
  have g1 : Go M G H G (upd H a (.lst [])) := Go.lay ok1 ha
  have ok2 := ok1.go g1
  have g2 : Go M (G) (upd H a (.lst [])) G (upd (upd H a (.lst [])) D (.lst [.ref a])) := Go.lay ok2 hD
  have Da : D ≠ a := fun z => by rw [z, upd_same] at hD; cases hD
  have hD0 : H D = none := by rw [upd_ne Da] at hD; exact hD
  obtain ⟨os, en, ho⟩ := w.en
  have en2 := en.go (fun b hb => ok.noS (ho b hb)) (g1.trans g2)
  obtain ⟨os', en3, h3⟩ := en2.forget i (some (.ref D))
  have len := en.length
  have n0 : NestI K M G0 H0 G (upd (upd H a (.lst [])) D (.lst [.ref a])) (σ.set i (some (.ref D))) (τ.set i .no) i D a [] [] [] [] os' :=
    ⟨en3, fun b hb => ho b (h3 b hb), w.go.trans (g1.trans g2), by rw [List.getElem?_set_self (by omega)], by rw [List.getElem?_set_self il], upd_same, ok1.fresh hD0, w.go.back hD0, fun z => (en.own D (h3 D z)).2 hD0,
      by rw [upd_ne (Ne.symm Da), upd_same], ok1.fresh ha, w.go.back ha, fun z => (en.own a (h3 a z)).2 ha, Da, .nil, .nil⟩
  refine hi _ _ _ e _ _ _ (n0.w2.w1 ok) _ (fun J items G1 H1 g hJ ⟨e1, e2, e3⟩ => ?_) (d.ex.at n0.go)
  have n1 := n0.next ok g
  refine ⟨fun m r σ' H' => r = items.length - m ∧ m ≤ items.length ∧ ∃ G' τ' l dv vs done cur os, NestI K M G0 H0 G' H' σ' τ' i D l dv vs done cur os ∧ Sub G1 G' ∧ (∃ s, τ' = (τ.set i .no).set v s) ∧ dv.length ≤ m ∧ vs.length ≤ m ∧ sentT p (items.drop m) done cur = sentT p items [] [],
    ⟨items.length, rfl, Nat.zero_le _, G1, _, a, [], [], [], [], os', n1, .refl _, ⟨(τ.set i .no)[v]?.getD .no, ?_⟩, Nat.le_refl _, Nat.le_refl _, rfl⟩, ?_⟩
  · refine (List.ext_getElem? fun j => ?_)
    by_cases z : j = v
    · subst z
      rw [List.getElem?_set_self (by simpa using vl)]
      cases q : (τ.set i .no)[j]? with
      | none => exact absurd (List.getElem?_eq_none_iff.mp q) (by simp; omega)
      | some x => rfl
    · rw [List.getElem?_set_ne (Ne.symm z)]
  rintro m r σ' H' ⟨rfl, hm, G', τ', l, dv, vs, done, cur, os, n, sG, ⟨s, eτ⟩, ld, lv, es⟩
  obtain ⟨hst, hgo⟩ := hJ G' H' sG (ok.go n.go) m
  by_cases hlt : m < items.length
  · refine .inr ⟨(hgo items[m] (by simp [hlt])).1, fun σ'' H'' => ∃ r', r' < items.length - m ∧ (r' = items.length - (m + 1) ∧ m + 1 ≤ items.length ∧ ∃ G' τ' l dv vs done cur os, NestI K M G0 H0 G' H'' σ'' τ' i D l dv vs done cur os ∧ Sub G1 G' ∧ (∃ s, τ' = (τ.set i .no).set v s) ∧ dv.length ≤ m + 1 ∧ vs.length ≤ m + 1 ∧ sentT p (items.drop (m + 1)) done cur = sentT p items [] []), fun σ'' H'' h => h, fun x H'' y => ?_⟩
    obtain ⟨G2, g2, ix⟩ := (hgo items[m] (by simp [hlt])).2 x H'' y
    rw [List.drop_eq_getElem_cons hlt] at es
    have n2 := n.next ok g2
    have lτ : v < τ'.length := by rw [eτ]; simpa using vl
    obtain ⟨os2, n3⟩ := n2.slot vi lτ ix
    have sv : (τ'.set v (.sh items[m]))[v]? = some (.sh items[m]) := by rw [List.getElem?_set_self lτ]
    have et : τ'.set v (.sh items[m]) = (τ.set i .no).set v (.sh items[m]) := by rw [eτ, List.set_set]
    refine hc _ _ _ (e2 items[m] (List.getElem_mem hlt) _ sv (fun b => b = p items[m]) rfl) (σ'.set v (some x)) G2 H'' (n3.w2.w1 ok) _ (fun b G5 H5 g5 q5 => ?_) (d.ex.at n3.go)
    have n5 := n3.next ok g5
    have s5 : Sub G1 G5 := (sG.trans g2.gg).trans g5.gg
    subst q5
    cases hp : p items[m] with
    | true =>
      rw [if_pos rfl]
      rw [sentT, hp, if_pos rfl] at es
      refine ⟨.ref D, n5.sD, .inl ⟨rfl, _, SqL.of n5.hD⟩, Nat.zero_le _, fun q hq => ?_⟩
      have qD : D ≠ q := fun z => by rw [← z, n5.hD] at hq; cases hq
      refine ⟨D, dv ++ [.ref l], .ref q, rfl, rfl, by rw [upd_ne qD]; exact n5.hD, by rw [List.length_append, List.length_singleton]; omega, ?_⟩
      exact ⟨items.length - (m + 1), by omega, rfl, hlt, _, _, q, dv ++ [.ref l], [], done ++ [cur], [], os2, n5.cut ok hq, s5.trans (Sub.upd n5.gl), ⟨_, et⟩, by rw [List.length_append, List.length_singleton]; omega, Nat.zero_le _, es⟩
    | false =>
      rw [if_neg (by decide)]
      rw [sentT, hp, if_neg (by decide)] at es
      refine ⟨.ref D, n5.sD, hn.data (show gNeg (gC (.int 1)) _ (fun s => s = .sh (.int (-1))) k.ex from rfl) (n5.w2.w1 ok) (fun y G6 H6 s6 g6 i6 e6 => ?_) (d.ex.at n5.go)⟩
      subst e6
      have n6 := n5.next ok g6
      have ey : y = .int (-1) := by cases i6; rfl
      have sx : (σ'.set v (some x))[v]? = some (some x) := by rw [List.getElem?_set_self (by rw [n.en.length]; exact lτ)]
      refine .inl ⟨D, dv ++ [.ref l], -1, .ref l, rfl, ey, SqL.of n6.hD, atI_last dv (.ref l), .inl ⟨rfl, _, SqL.of n6.hl⟩, x, sx, l, vs, x, rfl, rfl, n6.hl, by omega, ?_⟩
      exact ⟨items.length - (m + 1), by omega, rfl, hlt, _, _, l, dv, vs ++ [x], done, cur ++ [items[m]], os2, n6.push ok (ix.mono (g5.gg.trans g6.gg)), s5.trans g6.gg, ⟨_, et⟩, by omega, by rw [List.length_append, List.length_singleton]; omega, es⟩
  · have em : m = items.length := by omega
    subst em
    rw [List.drop_length] at es
    rw [← es] at e3
    refine .inl ⟨hst (Nat.le_refl _), d.nx _ _ _ _ n.fin ((g.gg.trans sG).trans (Sub.upd n.gl)) ?_⟩
    rw [eτ]
    exact e3 s
end
end TL
/-! TLyi: in of plain items, len(dict), dict(pairs), an own dict's item, xs[::-1]. -/
namespace TL
open PySem PySem.Spec PyProof.Rows L2
variable [TheW]
section
variable {K : PySem.W.Frag} {M : Mode} {E : XK} {G0 H0 G H G' H' : Hp} {σ : List (Option V)} {τ : List Sl} {r : Xn → Prop}
/-! ### x in a list or tuple of texts, of truths -/
def T.seqI : T → Option (List T)
  | .lst ts => some ts
  | .fls ts => some ts
  | .tup ts => some ts
  | _ => none
theorem Is.seqI {v : V} {t : T} {ts : List T} (i : Is K G v t) (h : t.seqI = some ts) : ∃ a vs, v = .ref a ∧ (SqL K G a vs ∨ SqT K G a vs) ∧ IsAll K G vs ts := by
  cases i with
  | lst g r => cases h; exact ⟨_, _, rfl, .inl (SqL.of g), r⟩
  | fls g r => cases h; exact ⟨_, _, rfl, .inl g, r⟩
  | tup g r => cases h; exact ⟨_, _, rfl, .inr g, r⟩
  | _ => cases h
def gInF (neg : Bool) : GR2 := fun a b q => oks b.seqI fun us => match a with
  | .str z => oks (strsT us) fun ns => q (.sh (.bl (if neg = true then !decide (z ∈ ns) else decide (z ∈ ns))))
  | .bl c => oks (blAll us) fun bs => q (.sh (.bl (if neg = true then !decide (c ∈ bs) else decide (c ∈ bs))))
  | _ => False
theorem inV_str (z : Str) (ns : List Str) : inV (.str z) (ns.map V.str) = decide (z ∈ ns) := by
  unfold inV
  rw [List.any_map, Bool.eq_iff_iff, List.any_eq_true, decide_eq_true_eq]
  exact ⟨fun ⟨x, h1, h2⟩ => (by have e : x = z := by simpa [eqV] using h2
                                rw [← e]; exact h1), fun h => ⟨z, h, by simp [eqV]⟩⟩
theorem inV_bl (c : Bool) (bs : List Bool) : inV (.bl c) (bs.map V.bl) = decide (c ∈ bs) := by
  unfold inV
  rw [List.any_map, Bool.eq_iff_iff, List.any_eq_true, decide_eq_true_eq]
  exact ⟨fun ⟨x, h1, h2⟩ => (by have e : x = c := by simpa [eqV] using h2
                                rw [← e]; exact h1), fun h => ⟨c, h, by simp [eqV]⟩⟩
theorem simr_inF {neg : Bool} : SimR2 K M (rIn K neg) (gInF neg) := fun tx ty q e x y G H ix iy ok Q hq => by
  obtain ⟨us, h1, e⟩ := oks_cases e
  obtain ⟨a, vs, rfl, hs, ra⟩ := iy.seqI h1
  have hs' : SqL K H a vs ∨ SqT K H a vs := hs.imp ok.sub.sqL ok.sub.sqT
  split at e
  · obtain ⟨ns, h2, e⟩ := oks_cases e
    cases ix
    have ev := strsT_ok ra h2
    refine ⟨a, vs, rfl, hs', rfl, by rw [ev]; exact List.all_eq_true.mpr fun v hv => (by obtain ⟨n, _, rfl⟩ := List.mem_map.mp hv; rfl), ?_⟩
    rw [ev, inV_str]
    exact hq _ (.sh _) G H (.refl ok) .bl e
  · obtain ⟨bs, h2, e⟩ := oks_cases e
    cases ix
    have ev := blAll_ok ra h2
    refine ⟨a, vs, rfl, hs', rfl, by rw [ev]; exact List.all_eq_true.mpr fun v hv => (by obtain ⟨n, _, rfl⟩ := List.mem_map.mp hv; rfl), ?_⟩
    rw [ev, inV_bl]
    exact hq _ (.sh _) G H (.refl ok) .bl e
  · exact e.elim
/-! ### len, of dicts too -/
def rLenX (K : PySem.W.Frag) : List V → Hp → VK → Prop := fun xs H Q => (∃ x n, xs = [x] ∧ LenV K x H n ∧ Q (.int n) H) ∨ ∃ a kvs, xs = [V.ref a] ∧ H a = some (.dK kvs) ∧ Q (.int kvs.length) H
theorem call_lenX {X : Cx} : CallR X (.builtin "len") (rLenX X.K) := CallR.or call_len call_lenD
def gLenX : GC := fun ts q => match ts with
  | [.dct kts] => q (.sh (.int kts.length))
  | ts => gLen ts q
theorem simc_lenX : SimC K M (rLenX K) gLenX := fun ts q e vs G H i ok Q hq => by
  unfold gLenX at e
  split at e
  · cases i with
    | cons i1 i2 =>
      cases i2
      cases i1 with
      | dct g r =>
        refine .inr ⟨_, _, rfl, ok.sub _ _ g, ?_⟩
        rw [IsKv.length r]
        exact hq _ (.sh _) G H (.refl ok) .int e
  · exact .inl (simc_len ts q e vs G H i ok Q hq)
/-! ### dict(pairs) -/
def kvsT : List T → Option (List (Key × T))
  | [] => some []
  | .tup [k, t] :: ts => match k.key, kvsT ts with
    | some k, some kts => some ((k, t) :: kts)
    | _, _ => none
  | _ => none
def mergeT (kts more : List (Key × T)) : List (Key × T) := more.foldl (fun acc kv => putT acc kv.1 kv.2) kts
def gDictP : GC := fun ts q => match ts with
  | [.lst us] => oks (kvsT us) fun kts => q (.od (mergeT [] kts))
  | _ => False
theorem is_pairs : ∀ {us : List T} {vs : List V} {kts : List (Key × T)}, IsAll K G vs us → kvsT us = some kts → ∃ (ps : List Addr) (kvs : List (Key × V)), vs = ps.map V.ref ∧ Paired (fun p kv => SqT K G p [kV kv.1, kv.2]) ps kvs ∧ IsKv K G kvs kts
  | [], _, _, .nil, h => by
    cases h
    exact ⟨[], [], rfl, .nil, .nil⟩
  | .tup [k, t] :: us, _, kts, .cons i r, h => by
    unfold kvsT at h
    cases h1 : k.key with
    | none => rw [h1] at h; cases h
    | some key =>
      cases h2 : kvsT us with
      | none => rw [h1, h2] at h; cases h
      | some kts' =>
        rw [h1, h2] at h
        cases h
        obtain ⟨ps, kvs, e1, e2, e3⟩ := is_pairs r h2
        cases i with
        | tup hg ra =>
          cases ra with
          | cons ik r1 =>
            cases r1 with
            | cons it r2 =>
              cases r2
              rw [ik.key h1] at hg
              exact ⟨_ :: ps, (key, _) :: kvs, by rw [e1]; rfl, .cons hg e2, .cons it e3⟩
theorem is_merge : ∀ {more : List (Key × V)} {mt : List (Key × T)}, IsKv K G more mt → ∀ {kvs : List (Key × V)} {kts : List (Key × T)}, IsKv K G kvs kts → IsKv K G (mergeK kvs more) (mergeT kts mt)
  | _, _, .nil, _, _, h => h
  | _, _, .cons i r, kvs, kts, h => is_merge r (IsKv.put i h)
theorem simc_dictP : SimC K M (fun xs H Q => ∃ (a : Addr) (ps : List Addr) (kvs : List (Key × V)), xs = [.ref a] ∧ SqL K H a (ps.map V.ref) ∧ Paired (fun p kv => SqT K H p [kV kv.1, kv.2]) ps kvs ∧ ∀ p, H p = none → Q (.ref p) (upd H p (.dK (mergeK [] kvs)))) gDictP := fun ts q e vs G H i ok Q hq => by
  unfold gDictP at e
  split at e
  · obtain ⟨kts, h1, e⟩ := oks_cases e
    cases i with
    | cons i1 i2 =>
      cases i2
      cases i1 with
      | lst g r =>
        obtain ⟨ps, kvs, e1, e2, e3⟩ := is_pairs r h1
        have pr : ∀ {ps : List Addr} {kvs : List (Key × V)}, Paired (fun p kv => SqT K G p [kV kv.1, kv.2]) ps kvs → Paired (fun p kv => SqT K H p [kV kv.1, kv.2]) ps kvs := fun h => by
          induction h with
          | nil => exact .nil
          | cons a _ ih => exact .cons (ok.sub.sqT a) ih
        exact ⟨_, ps, kvs, rfl, by rw [← e1]; exact SqL.of (ok.sub _ _ g), pr e2, fun p hp => hq _ (.od (mergeT [] kts)) G _ (.lay ok hp) ⟨p, .dK (mergeK [] kvs), rfl, hp, upd_same, ok.fresh hp, .d (is_merge e3 .nil)⟩ e⟩
  · exact e.elim
/-! ### an own dict's item -/
def gOd (i : Nat) (b : TEx) : TEx := fun τ q r => (∃ kts, τ[i]? = some (.od kts)) ∧ b τ (fun u => match τ[i]? with
  | some (.oo (.d kts)) => oks u.fz.key fun k => oks (lookK kts k) fun t => q (.sh t)
  | _ => False) r
theorem W1.od (w : W1 K M G H σ τ) {i : Nat} {kts : List (Key × T)} (h : τ[i]? = some (.od kts)) : ∃ a kvs, σ[i]? = some (some (.ref a)) ∧ H a = some (.dK kvs) ∧ IsKv K G kvs kts := by
  obtain ⟨os, en, _⟩ := w.en
  obtain ⟨a, o, h1, h2, h3, h4, h5, h6⟩ := en.getO h
  cases h5 with
  | d z => exact ⟨a, _, h1, h3, z⟩
theorem sim_od {i : Nat} {tb : TE} {b : TEx} (hb : SimE K M E tb b) : SimE K M E (tDGet (tVar i) tb) (gOd i b) := fun τ q r e σ G H w Q hq hx => by
  obtain ⟨⟨kts, ht⟩, e⟩ := e
  obtain ⟨a, kvs, h1, h2, h3⟩ := w.od ht
  refine ⟨.ref a, h1, hb.data e w (fun y G2 H2 u g2 iy e2 => ?_) hx⟩
  rw [ht] at e2
  obtain ⟨k, hk, e2⟩ := oks_cases e2
  obtain ⟨t, h4, e2⟩ := oks_cases e2
  obtain ⟨a', kvs', h1', h2', h3'⟩ := (w.go g2).od ht
  rw [h1] at h1'
  cases h1'
  rcases h3'.val (k := k) with ⟨_, z⟩ | ⟨v, t', z1, z2, z3⟩
  · rw [z] at h4; cases h4
  · rw [z2] at h4; cases h4
    exact ⟨a, v, rfl, .inl ⟨kvs', k, .inl h2', iy.key hk, z1.symm⟩, hq v (.sh _) G2 H2 g2 z3 e2⟩
/-! ### xs[::-1] -/
def tRevL (K : PySem.W.Frag) (te tk : TE) : TE := fun σ H Q => te σ H fun x H1 => tk σ H1 fun y H2 => y = .int (-1) ∧ ∃ a xs, x = .ref a ∧ SqL K H2 a xs ∧ ∀ p, H2 p = none → Q (.ref p) (upd H2 p (.lst xs.reverse))
theorem vals_rev : ∀ {xs : List V} {us : List Value}, Vals xs us → Vals xs.reverse us.reverse := fun h => by
  induction h with
  | nil => exact .nil
  | cons a _ ih => rw [List.reverse_cons, List.reverse_cons]; exact Paired.snoc ih a
theorem pe_revL {X : Cx} {e k : Expr} {te tk : TE} {pos p2 : Pos} (he : PE X e te) (hk : PE X k tk) (hs : ∀ a b : Addr, subscripted (Expr.Slice none none (some k) p2) false (.ref a) (.ref b) = operate [.ref a, .ref b] (getItem (.ref a) (.ref b)) := by intro _ _; with_unfolding_all rfl) :
    PE X (.Subscript e (.Slice none none (some k) p2) pos) (tRevL X.K te tk) := by
  refine ⟨fun pins s σ H Q I h => ?_⟩
  refine Subscript_ (thn (he.run pins s σ H _ I h) fun v s1 ⟨x, H1, I1, r1, q1⟩ => ?_)
  refine wpAny_Slice ?_
  rw [evalPart_none]
  refine wpAny_pure ?_
  refine wpAny_pure ?_
  rw [evalPart_some]
  refine thn (hk.run pins s1 σ H1 _ I1 q1) fun u s3 ⟨y, H3, I3, r3, ey, a, xs, ex, hx, q⟩ => ?_
  subst ey
  subst ex
  obtain ⟨tk, rfl⟩ := r3
  cases r1
  have I4 : Inv X pins σ H3 { s3 with heap := s3.heap.push { cls := .type "slice", data := .fields #[.none, .none, .int (-1) tk] } } := I3.kept (t' := s3.toks) fun b ob q => Heap.get?_push_of_some _ q
  obtain ⟨its, rv, ht, hz⟩ := I4.list hx
  have hl := rv.length
  show wpAny (model X.prog X.w) X.A (subscriptTail e (.Slice none none (some k) p2) (.ref a) (.ref s3.heap.objs.size)) (EP X pins σ Q) X.xe { s3 with heap := s3.heap.push { cls := .type "slice", data := .fields #[.none, .none, .int (-1) tk] } }
  refine tail_any (ops := [.ref a, .ref s3.heap.objs.size]) ht.isList.typeIs slot_list_getitem.lookup ?_ (hs _ _)
  refine wpAny_getItem_list_slice ht.isList (Heap.IsSliceOf.new ..) .none .none (.int (-1) tk) (by simp) ?_ (by rw [List.size_toArray] <;> omega)
  rw [PySem.W.krv_pick]
  refine ⟨.ref _, _, I4.laid (t' := s3.toks) (o := .lst xs.reverse) (fun b ob q => Heap.get?_push_of_some _ q) (Nat.le_refl _) ?_, rfl, q _ (I4.hok.fresh (Nat.le_refl _))⟩
  exact ⟨by rw [List.length_reverse]; exact hz, _, 0, vals_rev rv, Heap.get?_push_size _ rfl⟩
end
end TL
/-! TLyj: any(tuple); bundles of TLyd .. TLyi; tuples of texts at module level. -/
namespace TL
open PySem PySem.Spec PyProof.Rows L2
variable [TheW]
section
variable {K : PySem.W.Frag} {M : Mode} {E : XK} {G0 H0 G H G' H' : Hp} {σ : List (Option V)} {τ : List Sl} {r : Xn → Prop}
/-! ### any(t), t a tuple of truths -/
def rAnyT (K : PySem.W.Frag) : List V → Hp → VK → Prop := fun vs H Q => ∃ (a : Addr) (bs : List Bool), vs = [V.ref a] ∧ SqT K H a (bs.map V.bl) ∧ Q (.bl (bs.any id)) H
theorem plain_bls : ∀ bs : List Bool, PyData.plainAll (bs.map .bool) = true
  | [] => by simp [PyData.plainAll]
  | b :: bs => by simp only [List.map_cons, PyData.plainAll, PyData.plain, plain_bls bs, Bool.and_self]
theorem any_bls (bs : List Bool) : ((bs.map PyData.bool).any PyData.truthy) = bs.any id := by
  rw [List.any_map]
  congr 1
theorem cr_anyT {X : Cx} (hc : X.calm = true) : CallR X (.builtin "any") (rAnyT X.K) := by
  intro pins s σ H vs us Q I r h
  obtain ⟨a, bs, rfl, hs, q⟩ := h
  obtain ⟨o, n, ho, hcl, hd⟩ := inv_bs I hs
  rw [Vals.ref1 r]
  refine PySem.W.any_tuple_data (I.ok.hd hc) ⟨o, ho, hcl, n, hd⟩ (xs := bs.map .bool) (as := []) (by simpa using bReads s.heap bs) (plain_bls bs) (fun x hx => ?_) fun h' tk k => ⟨.bl (bs.any id), H, I.kept (t' := tk) k, ?_, q⟩
  · obtain ⟨b, _, rfl⟩ := List.mem_map.mp hx
    exact trivial
  · rw [any_bls]
    rfl
def rAnyX (K : PySem.W.Frag) : List V → Hp → VK → Prop := fun vs H Q => rAny K vs H Q ∨ rAnyT K vs H Q
def gAnyX : GC := fun ts q => match ts with
  | [.lst xs] => oks (blAll xs) fun bs => q (.sh (.bl (bs.any id)))
  | [.tup xs] => oks (blAll xs) fun bs => q (.sh (.bl (bs.any id)))
  | _ => False
theorem simc_anyX : SimC K M (rAnyX K) gAnyX := fun ts q e vs G H i ok Q hq => by
  unfold gAnyX at e
  split at e
  · rename_i xs
    exact .inl (simc_any [.lst xs] q e vs G H i ok Q hq)
  · obtain ⟨bs, h1, e⟩ := oks_cases e
    cases i with
    | cons i1 i2 =>
      cases i2
      cases i1 with
      | tup g ra =>
        rw [blAll_ok ra h1] at g
        exact .inr ⟨_, bs, rfl, ok.sub.sqT g, hq _ (.sh _) G H (.refl ok) .bl e⟩
  · exact e.elim
/-! ### xs[::-1] -/
def gRevL (a : TEx) : TEx := fun τ q r => a τ (fun s => oks s.fz.litems fun xs => q (.ol xs.reverse)) r
theorem is_rev : ∀ {vs : List V} {ts : List T}, IsAll K G vs ts → IsAll K G vs.reverse ts.reverse
  | _, _, .nil => .nil
  | _, _, .cons i r => by
    rw [List.reverse_cons, List.reverse_cons]
    exact (is_rev r).append (.one i)
theorem sim_revL {te tk : TE} {a : TEx} (ha : SimE K M E te a) (hk : SimE K M E tk (gNeg (gC (.int 1)))) : SimE K M E (tRevL K te tk) (gRevL a) := fun τ q r e σ G H w Q hq hx =>
  ha.data e w (fun x G1 H1 s g1 ix e1 => by
    obtain ⟨xs, h1, e1⟩ := oks_cases e1
    refine hk.data (show gNeg (gC (.int 1)) τ (fun s => s = .sh (.int (-1))) r from rfl) (w.go g1) (fun y G2 H2 u g2 iy e2 => ?_) (hx.go g1)
    subst e2
    obtain ⟨a, vs, rfl, hs, ra⟩ := ix.litems h1
    refine ⟨by cases iy; rfl, a, vs, rfl, g2.sub.sqL (g2.gg.sqL hs), fun p hp => ?_⟩
    obtain ⟨g3, z⟩ := ol_new (K := K) ((w.go g1).go g2).ok hp (is_rev (ra.mono g2.gg))
    exact hq _ _ _ _ ((g1.trans g2).trans g3) (z.early (g1.trans g2)) e1) hx
end
section
variable {X : Cx} {M : Mode} {E : XK} {a b c : Expr} {ta tb tc : TE} {ga gb gc : TEx} {pos : Pos}
theorem ge_revL {k : Expr} {tk : TE} {p2 : Pos} (ha : GE X M E a ta ga) (hk : GE X M E k tk (gNeg (gC (.int 1)))) (hs : ∀ a b : Addr, subscripted (Expr.Slice none none (some k) p2) false (.ref a) (.ref b) = operate [.ref a, .ref b] (getItem (.ref a) (.ref b)) := by intro _ _; with_unfolding_all rfl) :
    GE X M E (.Subscript a (.Slice none none (some k) p2) pos) (tRevL X.K ta tk) (gRevL ga) := ⟨pe_revL ha.p hk.p hs, sim_revL ha.s hk.s⟩
/-- an own dict's item -/
theorem ge_od (i : Nat) {x : Str} {p1 : Pos} (hu : X.A.units + 64 < cLine) (hi : GE X M E b tb gb) (hN : X.N[i]? = some x := by rfl) (hv : Vis X.env.scope x := by first | exact Or.inl rfl | exact Or.inr (Or.inl rfl) | exact Or.inr (Or.inr rfl)) (hd : (x == ("__debug__" : Str)) = false := by decide)
    (hcd : (x == ("__classdict__" : Str)) = false := by decide) (hs : NoSl b := by exact fun _ _ => rfl) : GE X M E (.Subscript (.Name x p1) b pos) (tDGet (tVar i) tb) (gOd i gb) :=
  ⟨pe_dget (Nat.lt_of_le_of_lt (by omega) hu) (pe_var hN hv hd hcd) hi.p hs, sim_od hi.s⟩
/-- sorted(set(e)) -/
theorem ge_sortSet {p1 p2 pos2 : Pos} (hc : X.calm = true) (hw : X.w = TheW.w) (hu : X.A.units + 64 < cLine) (hm1 : X.mg "sorted" = none) (hm2 : X.mg "set" = none) (ha : GE X M E a ta ga) (hg1 : Gl X "sorted" := by rfl) (hg2 : Gl X "set" := by rfl)
    (hs : starEach [a] X.env = (false, eval a X.env) :: starEach [] X.env := by rfl) (hpl : (backTo pos2 (starEach [] X.env)).any (·.1) = false := by rfl) (hpl2 : (backTo pos (starEach [] X.env)).any (·.1) = false := by rfl) :
    GE X M E (.Call (.Name "sorted" p1) [.Call (.Name "set" p2) [a] [] pos2] [] pos) (tCB (rSortedOfB X.K TheW.w) (tCons (tCB (rSetOfB X.K TheW.w) (tCons ta tNil)) tNil)) (gSortSet (aCons ga aNil)) :=
  ⟨pe_callB (hw ▸ cr_sortedOfB hc hu) hg1 hm1 (by decide +kernel) (pa_cons (pe_callTy (hw ▸ cr_setOfB hc hu) hg2 hm2 (by decide +kernel) (pa_cons ha.p pa_nil hs) (he := hs) (hpl := hpl)) pa_nil) (hpl := hpl2), sim_sortSet (sima_cons ha.s sima_nil)⟩
/-- sorted({k: v for ..}) -/
theorem ge_sortDc {kx vx tg iter : Expr} {ifs : List Expr} {scope : Scope} (own : List (Str × Nat)) {p1 dpos : Pos} {wi : TI} {g : BlkT TG} {tt : BlkT TT} {tk tv : BlkT TE} {is : List Nat} {gi : TIx} {gg : TGx} {gtt : TTx} {gk gv : TEx} (hc : X.calm = true) (hw : X.w = TheW.w) (hu : X.A.units + 64 < cLine) (hm1 : X.mg "sorted" = none) (hN : X.N.Nodup)
    (hi : GI X M E tg iter wi gi) (ok : BlkOk X.N X.env.scope scope own) (hg : ∀ (s : Shared) (H : Hp) (C : Addr) (cl : List (Str × Addr)) (fp : List Addr), GG (X.blk s H scope (compEnvC scope cl C X.env) fp) M is tg (g s H C cl fp) gg) (ht : ∀ (s : Shared) (H : Hp) (C : Addr) (cl : List (Str × Addr)) (fp : List Addr), GTs (X.blk s H scope (compEnvC scope cl C X.env) fp) M L2.E0 ifs (tt s H C cl fp) gtt)
    (hk : ∀ (s : Shared) (H : Hp) (C : Addr) (cl : List (Str × Addr)) (fp : List Addr), GE (X.blk s H scope (compEnvC scope cl C X.env) fp) M L2.E0 kx (tk s H C cl fp) gk) (hv : ∀ (s : Shared) (H : Hp) (C : Addr) (cl : List (Str × Addr)) (fp : List Addr), GE (X.blk s H scope (compEnvC scope cl C X.env) fp) M L2.E0 vx (tv s H C cl fp) gv) (s0 : Shared) (his : ∀ i ∈ is, i ∈ own.map (·.2) := by decide)
    (hs : ∀ x, foldedSetIterable iter X.env x = pure x := by intro _; rfl) (sg : BlkT.Same g s0 := by exact fun _ _ _ _ _ => rfl) (st : BlkT.Same tt s0 := by exact fun _ _ _ _ _ => rfl) (sk : BlkT.Same tk s0 := by exact fun _ _ _ _ _ => rfl) (sv : BlkT.Same tv s0 := by exact fun _ _ _ _ _ => rfl) (hg1 : Gl X "sorted" := by rfl) (hpl : (backTo pos (starEach [] X.env)).any (·.1) = false := by rfl) :
    GE X M E (.Call (.Name "sorted" p1) [.DictComp kx vx [⟨tg, iter, ifs, 0⟩] scope dpos] [] pos) (tCB (rSortedDN X.K TheW.w) (tCons (tDcN X.K TheW.w wi (g.at s0) (tt.at s0) (tk.at s0) (tv.at s0) (own.map (·.2))) tNil)) (gSortDc (own.map (·.2)) gi gg gtt gk gv) :=
  ⟨pe_callB (hw ▸ cr_sortedDN hc hu) hg1 hm1 (by decide +kernel) (pa_cons (hw ▸ pe_dcn (Nat.lt_of_le_of_lt (by omega) hu) hc hN hi.p ok (fun s H C cl fp => sg s H C cl fp ▸ (hg s H C cl fp).p) (fun s H C cl fp => st s H C cl fp ▸ (ht s H C cl fp).p) (fun s H C cl fp => sk s H C cl fp ▸ (hk s H C cl fp).p) (fun s H C cl fp => sv s H C cl fp ▸ (hv s H C cl fp).p) hs) pa_nil) (hpl := hpl),
    sim_sortDc hi.s (hg s0 (fun _ => none) 0 [] []).s (ht s0 (fun _ => none) 0 [] []).s (hk s0 (fun _ => none) 0 [] []).s (hv s0 (fun _ => none) 0 [] []).s his⟩
/-- x = [[]]; for t in ..: x.append([]) if .. else x[-1].append(t) -/
theorem gss_sent {st1 st2 : Stmt} {rest : List Stmt} {i v : Nat} {ti : TI} {src : TIx} {tc : TT} {c : TTx} {tn : TE} {tu : TS} {gu : TSx} {tg iter e1 tst k : Expr} (p : T → Bool) (h1 : PS X st1 (tAsg (tLst (tCons (tLst tNil) tNil)) (gName i))) (hi : GI X M E tg iter ti src) (hc : GT X M E tst tc c) (hn : GE X M E k tn (gNeg (gC (.int 1))))
    (h2 : PI X tg iter ti → PT X tst tc → PE X k tn → PS X st2 (tFor ti (gName v) (tIfS tc (tDrop (tBM X.K "list" rAppend (tVar i) (tCons (tLst tNil) tNil))) (tDrop (tBM X.K "list" rAppend (tOp (rIx X.K) (tVar i) tn) (tCons (tVar v) tNil)))))) (R : GSs X M E rest tu gu) :
    GSs X M E (st1 :: st2 :: rest) (tSeq (tAsg (tLst (tCons (tLst tNil) tNil)) (gName i)) (tSeq (tFor ti (gName v) (tIfS tc (tDrop (tBM X.K "list" rAppend (tVar i) (tCons (tLst tNil) tNil))) (tDrop (tBM X.K "list" rAppend (tOp (rIx X.K) (tVar i) tn) (tCons (tVar v) tNil))))) tu)) (sSeq (sSent i v src c p) gu) :=
  ⟨pss_cons h1 (pss_cons (h2 hi.p hc.p hn.p) R.p), (show SimS X.K M E (tSeq (tSeq (tAsg (tLst (tCons (tLst tNil) tNil)) (gName i)) (tFor ti (gName v) (tIfS tc (tDrop (tBM X.K "list" rAppend (tVar i) (tCons (tLst tNil) tNil))) (tDrop (tBM X.K "list" rAppend (tOp (rIx X.K) (tVar i) tn) (tCons (tVar v) tNil)))))) tu) (sSeq (sSent i v src c p) gu) from
    sims_seq (sims_sent hi.s hc.s hn.s) R.s)⟩
/-- a tuple of texts of the module's -/
def TupK (K : PySem.W.Frag) (a : Addr) (ns : List Str) : Prop := ∃ (o : Obj) (its : Array Value) (n : Nat), K.lookup a = some o ∧ o.cls = .type "tuple" ∧ o.data = .seq its n ∧ its.size ≤ sizeLine ∧ Vals (ns.map V.str) its.toList
theorem sim_cst {K : PySem.W.Frag} {v : V} {t : T} (h : ∀ G : Hp, Is K G v t) : SimE K M E (tC v) (gC t) := fun τ q r e σ G H w Q hq hx => hq v (.sh t) G H (.refl w.ok) (h G) e
theorem ge_gtup {x : Str} {C : Addr} {ns : List Str} (hm : X.mg x = some (.ref C) ∧ TupK X.K C ns) (hg : Gl X x := by rfl) (hd : (x == ("__debug__" : Str)) = false := by decide) : GE X M E (.Name x pos) (tC (.ref C)) (gC (.tup (ns.map T.str))) :=
  ⟨pe_glob hg hm.1 rfl hd, sim_cst fun G => .tup (.inr hm.2) (isAll_strs ns)⟩
end
end TL
/-! TLyk: [x.replace(..) for .. if ..]: the element behind a test that makes a text. -/
namespace TL
open PySem PySem.Spec PyProof.Rows L2
section
variable {X : Cx} {pins : List (Addr × Obj)} {σ : L2.St} {H : Hp} {s : Shared} {E : Value → Shared → Prop}
/-- tests behind which some token stands -/
structure PTsK (X : Cx) (ifs : List Expr) (t : TT) : Prop where
  run : ∀ (pins : List (Addr × Obj)) (s : Shared) (σ : L2.St) (H : Hp) (Q : Bool → Hp → Prop), Inv X pins σ H s → t σ H Q →
    wpAny (model X.prog X.w) X.A (forIn ifs true fun c r => if r = true then do let ok ← isTrue c X.env (eval c X.env); pure (ForInStep.yield ok) else pure (ForInStep.yield r)) (fun b s' => 1 ≤ s'.toks ∧ TP X pins σ Q b s') X.xe s
theorem ptsK_cmp {op : CmpOp} {a : Expr} {ta : TE} {r : R2} {z : Str} {j : Nat} {p1 p2 pos : Pos} (ho : OpR X (compareOp op) r) (ha : PE X a ta) (hm : behindInMarks op (.List [.Constant (.str z) j p1] p2) = false := by rfl) (hs : backTo p2 (starEach [.Constant (.str z) j p1] X.env) = [(false, eval (.Constant (.str z) j p1) X.env)] := by rfl) :
    PTsK X [.Compare a [op] [.List [.Constant (.str z) j p1] p2] pos] (tB (tOp r ta (tLst (tCons (tC (.str z)) tNil)))) := by
  refine ⟨fun pins s σ H Q I hw => wpAny_tests_one (wpAny_isTrue_Compare1 (thn (ha.run pins s σ H _ I hw) fun v s1 ⟨x, H1, I1, r1, q1⟩ => ?_) hm)⟩
  obtain ⟨z1, q2⟩ := q1
  refine wpAny_List_spliced ?_
  rw [hs]
  refine Calls.spliced_cons (Calls.Constant_str (Calls.spliced_nil ⟨by rw [sizeLine_eq]; show 1 ≤ 16777216; omega, ?_⟩))
  have J : Inv X pins σ (upd H1 s1.heap.objs.size (.lst [.str z])) { s1 with heap := s1.heap.push { cls := .type "list", data := .seq [Value.str z s1.toks].toArray }, toks := s1.toks + 1 } :=
    I1.laid (t' := s1.toks + 1) (fun b u e => Heap.get?_push_of_some _ e) (Nat.le_refl _) ⟨z1, [Value.str z s1.toks], 0, .cons ⟨s1.toks, rfl⟩ .nil, Heap.get?_push_size _ rfl⟩
  refine wpAny_mono (wpAny_toks_of (n := 1) (Nat.le_add_left 1 s1.toks) (ho pins _ σ _ x (.ref s1.heap.objs.size) v (.ref s1.heap.objs.size) _ J r1 rfl (q2 _ (I1.hok.fresh (Nat.le_refl _))))) (fun c s3 ⟨tk, y, H3, I3, r3, d, ey, q⟩ => ?_) fun _ _ e => e.2
  subst ey
  cases r3
  exact wpAny_truthy_bool ⟨tk, H3, I3, q⟩
abbrev lObj : Obj := { cls := .type "list", data := .seq ([] : List Value).toArray }
theorem lck_run {elt tg iter : Expr} {ifs : List Expr} {scope : Scope} {own : List (Str × Nat)} {pos pos' : Pos} {wi : TI} {g : TG} {tt : TT} {te : TE} {use : Option (Value → Sem Unit)} {Z : Value → Shared → Prop} {Q : VK} (hc : X.calm = true) (hN : X.N.Nodup) (I : Inv X pins σ H s) (hi : PI X tg iter wi)
    (ok : BlkOk X.N X.env.scope scope own) (hg : ∀ (s : Shared) (H : Hp) (C : Addr) (cl : List (Str × Addr)) (fp : List Addr), PG (X.blk s H scope (compEnvC scope cl C X.env) fp) tg g) (ht : ∀ (s : Shared) (H : Hp) (C : Addr) (cl : List (Str × Addr)) (fp : List Addr), PTsK (X.blk s H scope (compEnvC scope cl C X.env) fp) ifs tt)
    (he : ∀ (s : Shared) (H : Hp) (C : Addr) (cl : List (Str × Addr)) (fp : List Addr), PET (X.blk s H scope (compEnvC scope cl C X.env) fp) elt te)
    (hs : ∀ x, foldedSetIterable iter X.env x = pure x) (h : tLc wi g tt te (own.map (·.2)) σ H Q)
    (fin : ∀ D C s' m H', Inv X pins σ H' s' → Q (.ref D) H' → s'.heap.Ns C m → FpOk X pins H' C → compPost (model X.prog X.w) X.A X.xe use Z (.ref D) C (.ok .next) s') :
    wpAny (model X.prog X.w) X.A (comprehension (.ListComp elt [⟨tg, iter, ifs, 0⟩] scope pos) scope X.env pos' (newList []) false (eval iter X.env) use) Z X.xe s := by
  have cells : ∀ y ∈ scope.names, y.2 = .free → ∃ c, X.env.cells.lookup y.1 = some c := fun y hy e => (ok.free y hy e).elim (fun k => I.ok.has _ (.inl k)) fun k => I.ok.has _ (.inr k)
  refine wpAny_comprehension_free (use := use) rfl hs (closure_ok cells) ok.kind (fun y hy e => by rw [ok.uniq y hy, e]) (thn (hi.run pins s σ H _ I h) fun xv sa hx => thn hx fun itv sb ⟨it, fp, tn, J, Ha, ea, Ia, T, sta, fpa, rest⟩ => ?_)
  subst ea
  refine wpAny_newObj_type (newEnv_comp ?_) (by show 0 ≤ sizeLine; decide)
  obtain ⟨St, ⟨m0, w0⟩, turn⟩ := rest sb.heap.objs.size (Ia.hok.fresh (Nat.le_refl _))
  generalize eD : sb.heap.objs.size = D at w0 turn
  have nD : Ha D = none := Ia.hok.fresh (Nat.le_of_eq eD)
  generalize es : ({ sb with heap := sb.heap.push lObj } : Shared) = sc
  have hsc : sc.heap = sb.heap.push lObj := by rw [← es]
  have Ic : Inv X pins σ (upd Ha D (.lst [])) sc := by
    rw [← es]
    refine Ia.laid (t' := sb.toks) (fun b o e => Heap.get?_push_of_some _ e) (Nat.le_of_eq eD) ?_
    rw [← eD]
    exact ⟨Nat.zero_le _, [], 0, .nil, Heap.get?_push_size _ rfl⟩
  have low : ∀ b ∈ fp, b < sb.heap.objs.size := fun b hb => (T.obj _ _ sta b hb).elim fun o e => Heap.lt_size e.1
  have fpc : ∀ b ∈ fp, FpOk X pins (upd Ha D (.lst [])) b ∧ b < sc.heap.objs.size := fun b hb =>
    ⟨⟨by rw [upd_ne (by rw [← eD]; exact Nat.ne_of_lt (low b hb))]; exact (fpa b hb).1, (fpa b hb).2⟩, by rw [hsc, Heap.size_push]; exact Nat.lt_succ_of_lt (low b hb)⟩
  have stc : tn 0 sc.heap := T.keep _ _ _ sta fun b _ o e => by rw [hsc]; exact Heap.get?_push_of_some _ e
  have Id := block_start Ic ok hN fpc
  have pg := hg sc (upd Ha D (.lst [])) sc.heap.objs.size (cellsFrom (sc.heap.objs.size + 1) scope.names (cloFrom X.env.cells scope.names [])) fp
  have pt := ht sc (upd Ha D (.lst [])) sc.heap.objs.size (cellsFrom (sc.heap.objs.size + 1) scope.names (cloFrom X.env.cells scope.names [])) fp
  have pl := he sc (upd Ha D (.lst [])) sc.heap.objs.size (cellsFrom (sc.heap.objs.size + 1) scope.names (cloFrom X.env.cells scope.names [])) fp
  show codeAny _ _ (.compStart (.ListComp elt [⟨tg, iter, ifs, 0⟩] scope pos) 0 (.ref it) (.ref D) (compEnvC scope (cellsFrom (sc.heap.objs.size + 1) scope.names (cloFrom X.env.cells scope.names [])) sc.heap.objs.size X.env)) (compPost (model X.prog X.w) X.A X.xe use Z (.ref D) sc.heap.objs.size) { sc with heap := pushCells (sc.heap.push { cls := .type "dict", data := .dict #[] }) scope.names }
  have out0 : ∀ b ∈ fp, (upd Ha D (.lst [])) b = none := fun b hb => (fpc b hb).1.1
  generalize eC : compEnvC scope (cellsFrom (sc.heap.objs.size + 1) scope.names (cloFrom X.env.cells scope.names [])) sc.heap.objs.size X.env = ce at Id pg pt pl ⊢
  have lC : ce.locals = sc.heap.objs.size := by rw [← eC]; rfl
  generalize eH : upd Ha D (.lst []) = Hc at Ic Id pg pt pl w0 out0 fpc
  generalize ed : ({ sc with heap := pushCells (sc.heap.push { cls := .type "dict", data := .dict #[] }) scope.names } : Shared) = sd at Id ⊢
  have std : tn 0 sd.heap := T.keep _ _ _ stc fun b _ o e => by rw [← ed]; exact pushCells_keeps _ _ _ _ (Heap.get?_push_of_some _ e)
  have still : ∀ {σ' : L2.St} {H' : Hp} {s' : Shared}, Inv (X.blk sc Hc scope ce fp) [] σ' H' s' → (∀ b ∈ fp, H' b = none) → ∀ b ∈ fp, FpOk (X.blk sc Hc scope ce fp) [] H' b := fun I' hn b hb =>
    ⟨hn b hb, (I'.ok.exf b hb).1, I'.ok.exfs b hb, .inl hb, fun x c e => (I'.ok.exf b hb).2 x c e, fun p hp => absurd (show p ∈ ([] : List (Addr × Obj)) ++ [] from hp) (by simp)⟩
  have loop : codeAny (model X.prog X.w) X.A (.compLoop (.ListComp elt [⟨tg, iter, ifs, 0⟩] scope pos) 0 (.ref it) (.ref D) ce) (compPost (model X.prog X.w) X.A X.xe use Z (.ref D) sc.heap.objs.size) sd := by
    refine compLoop_any (fun n s' => ∃ i H', Inv (X.blk sc Hc scope ce fp) [] (wipe σ (own.map (·.2))) H' s' ∧ tn i s'.heap ∧ (∀ b ∈ fp, H' b = none) ∧ St i n H') ?_ m0 ⟨0, Hc, Id, std, out0, w0⟩
    rintro n se ⟨i, He, Ie, ste, oute, we⟩
    rcases turn i n He we with ⟨stop, qq⟩ | ⟨go, On, back, step⟩
    · refine thnF (T.done (X.blk sc Hc scope ce fp) rfl rfl rfl hc i [] se _ He (fun _ _ => False) Ie (still Ie oute) ste stop) fun r sf ⟨hr, If⟩ => ?_
      subst hr
      have Ig : Inv X pins σ He sf := Ic.call' (ch := fp) If.os If.base If.hok If.bare fun b hb => ⟨(fpc b hb).1.2.2.2.1, (fpc b hb).1.2.1, (fpc b hb).1.2.2.2.2.1, (fpc b hb).1.2.2.2.2.2⟩
      have noC : He sc.heap.objs.size = none := lC ▸ (show He ce.locals = none from If.free)
      obtain ⟨m, hn, _⟩ := If.loc
      exact fin D sc.heap.objs.size sf m He Ig qq (lC ▸ (show sf.heap.Ns ce.locals m from hn)) (Ic.fpOk (Nat.le_refl _) noC)
    · refine thnF (T.item (X.blk sc Hc scope ce fp) rfl rfl rfl hc i [] se _ He (fun _ _ => False) Ie (still Ie oute) ste go) fun r sf ⟨u, hr, hf⟩ => ?_
      subst hr
      refine thnF hf fun _ sg ⟨x, Hg, Ig, rg, yg, stg, outg⟩ => ?_
      have Ip := Ig.pinned (still Ig outg) (T.obj _ _ stg)
      refine thnF (pg.run _ sg _ Hg x u _ Ip rg (step x Hg yg)) fun _ sh ⟨σh, Hh, Ih, wh, qh⟩ => thnF (pt.run _ sh σh Hh _ Ih qh) fun c si ⟨tok, Hi, Ii, qi⟩ => ?_
      have close : ∀ {s' : Shared} {H' : Hp}, Inv (X.blk sc Hc scope ce fp) ([] ++ pinsAt fp sg.heap) σh H' s' → On H' → ∃ m, m < n ∧ ∃ i H', Inv (X.blk sc Hc scope ce fp) [] (wipe σ (own.map (·.2))) H' s' ∧ tn i s'.heap ∧ (∀ b ∈ fp, H' b = none) ∧ St i m H' := fun {s' H'} I' on => by
        obtain ⟨m', lm, w'⟩ := back H' on
        have pin : ∀ b ∈ fp, ∀ o, sg.heap.get? b = some o → s'.heap.get? b = some o ∧ H' b = none := fun b hb o e =>
          (fun z => ⟨z.1, z.2.1⟩) (I'.pin (b, o) (List.mem_append_right _ (List.mem_append_right _ (mem_pinsAt hb e))))
        refine ⟨m', lm, i + 1, H', (I'.unpinned (pins := [])).weak (by rw [← wh, wipe_length]) (fun j v e => (wipe_some (by rw [← wh] at e; exact e)).1), T.keep _ _ _ stg fun b hb o e => (pin b hb o e).1, fun b hb => ?_, w'⟩
        exact (T.obj _ _ stg b hb).elim fun o e => (pin b hb o e.1).2
      cases c with
      | false =>
        simp only [Bool.false_eq_true, if_false] at qi ⊢
        exact close Ii qi
      | true =>
        simp only [if_true] at qi ⊢
        refine thnF (pl _ si σh Hi _ tok Ii qi) fun z sj ⟨yv, Hj, Ij, rj, acc, gD, lz, on⟩ => ?_
        exact app_ok (X := X.blk sc Hc scope ce fp) Ij gD lz rj fun sl Il => close Il on
  exact codeAny_compStart_list loop (T.self X.A 0 _ _ _ std loop)
/-- as a value -/
theorem pe_lck {elt tg iter : Expr} {ifs : List Expr} {scope : Scope} {own : List (Str × Nat)} {pos : Pos} {wi : TI} {g : TG} {tt : TT} {te : TE} (hc : X.calm = true) (hN : X.N.Nodup) (hi : PI X tg iter wi) (ok : BlkOk X.N X.env.scope scope own)
    (hg : ∀ (s : Shared) (H : Hp) (C : Addr) (cl : List (Str × Addr)) (fp : List Addr), PG (X.blk s H scope (compEnvC scope cl C X.env) fp) tg g) (ht : ∀ (s : Shared) (H : Hp) (C : Addr) (cl : List (Str × Addr)) (fp : List Addr), PTsK (X.blk s H scope (compEnvC scope cl C X.env) fp) ifs tt)
    (he : ∀ (s : Shared) (H : Hp) (C : Addr) (cl : List (Str × Addr)) (fp : List Addr), PET (X.blk s H scope (compEnvC scope cl C X.env) fp) elt te) (hs : ∀ x, foldedSetIterable iter X.env x = pure x := by intro _; rfl) :
    PE X (.ListComp elt [⟨tg, iter, ifs, 0⟩] scope pos) (tLc wi g tt te (own.map (·.2))) := by
  refine ⟨fun pins s σ H Q I h => ?_⟩
  rw [eval_ListComp]
  refine lck_run hc hN I hi ok hg ht he hs h fun D C s' m H' I' q hn f => ⟨m, hn, fun h'' sb => ?_⟩
  obtain ⟨f0, f1, f2, f3, f4, f5⟩ := f
  exact ⟨.ref D, H', I'.turned (t' := s'.toks) (fun b o hb e => (sb.2 b hb).trans e) f0 f1 f3 f4 f5, rfl, q⟩
end
section
variable [TheW] {X : Cx} {K : PySem.W.Frag} {M : Mode} {E : XK}
/-- e.replace(y, z) -/
def gRepl (y z : Str) (a : TEx) : TEx := fun τ q r => a τ (fun s => match s.fz with
  | .str x => x.length + (x.length + 1) * z.length ≤ 16777216 ∧ q (.sh (.str (Txt.replace x y z)))
  | _ => False) r
theorem sim_repl {te : TE} {a : TEx} {y z : Str} (ha : SimE K M E te a) : SimE K M E (CwR.tReplC te y z) (gRepl y z a) := fun τ q r e σ G H w Q hq hx =>
  ha.data e w (fun v G1 H1 s g1 i e1 => by
    split at e1
    · rename_i x hx
      rw [hx] at i
      cases i
      exact ⟨x, rfl, e1.1, hq _ (.sh _) G1 H1 g1 .str e1.2⟩
    · exact e1.elim) hx
/-- [y.replace(a, b) for y in .. if y op [c]] -/
theorem ge_lck {elt tg iter : Expr} {ifs : List Expr} {scope : Scope} {pos : Pos} (own : List (Str × Nat)) {wi : TI} {g : BlkT TG} {tt : BlkT TT} {te : BlkT TE} {is : List Nat} {gi : TIx} {gg : TGx} {gtt : TTx} {ge : TEx} (hc : X.calm = true) (hN : X.N.Nodup) (hi : GI X M E tg iter wi gi) (ok : BlkOk X.N X.env.scope scope own)
    (hg : ∀ (s : Shared) (H : Hp) (C : Addr) (cl : List (Str × Addr)) (fp : List Addr), GG (X.blk s H scope (compEnvC scope cl C X.env) fp) M is tg (g s H C cl fp) gg)
    (ht : ∀ (s : Shared) (H : Hp) (C : Addr) (cl : List (Str × Addr)) (fp : List Addr), PTsK (X.blk s H scope (compEnvC scope cl C X.env) fp) ifs (tt s H C cl fp) ∧ SimT (X.blk s H scope (compEnvC scope cl C X.env) fp).K M L2.E0 (tt s H C cl fp) gtt)
    (he : ∀ (s : Shared) (H : Hp) (C : Addr) (cl : List (Str × Addr)) (fp : List Addr), PET (X.blk s H scope (compEnvC scope cl C X.env) fp) elt (te s H C cl fp) ∧ SimE (X.blk s H scope (compEnvC scope cl C X.env) fp).K M L2.E0 (te s H C cl fp) ge) (s0 : Shared) (hv : ∀ i ∈ is, i ∈ own.map (·.2) := by decide) (hs : ∀ x, foldedSetIterable iter X.env x = pure x := by intro _; rfl)
    (sg : BlkT.Same g s0 := by exact fun _ _ _ _ _ => rfl) (st : BlkT.Same tt s0 := by exact fun _ _ _ _ _ => rfl) (se : BlkT.Same te s0 := by exact fun _ _ _ _ _ => rfl) :
    GE X M E (.ListComp elt [⟨tg, iter, ifs, 0⟩] scope pos) (tLc wi (g.at s0) (tt.at s0) (te.at s0) (own.map (·.2))) (gLc (own.map (·.2)) gi gg gtt ge) :=
  ⟨pe_lck hc hN hi.p ok (fun s H C cl fp => sg s H C cl fp ▸ (hg s H C cl fp).p) (fun s H C cl fp => st s H C cl fp ▸ (ht s H C cl fp).1) (fun s H C cl fp => se s H C cl fp ▸ (he s H C cl fp).1) hs,
    sim_lc hi.s (hg s0 (fun _ => none) 0 [] []).s (ht s0 (fun _ => none) 0 [] []).2 (he s0 (fun _ => none) 0 [] []).2 hv⟩
/-- y op [c], with its token -/
theorem gts_k {op : CmpOp} {a : Expr} {ta : TE} {ga : TEx} {r : R2} {g : GR2} {z : Str} {j : Nat} {p1 p2 pos : Pos} (ho : OpR X (compareOp op) r) (hr : SimR2 X.K M r g) (ha : GE X M E a ta ga) (hm : behindInMarks op (.List [.Constant (.str z) j p1] p2) = false := by rfl)
    (hs : backTo p2 (starEach [.Constant (.str z) j p1] X.env) = [(false, eval (.Constant (.str z) j p1) X.env)] := by rfl) :
    PTsK X [.Compare a [op] [.List [.Constant (.str z) j p1] p2] pos] (tB (tOp r ta (tLst (tCons (tC (.str z)) tNil)))) ∧ SimT X.K M E (tB (tOp r ta (tLst (tCons (tC (.str z)) tNil)))) (gB (gOp g ga (TL.gLst (aCons (gC (.str z)) aNil)))) :=
  ⟨ptsK_cmp ho ha.p hm hs, simt_B (sim_op hr ha.s (sim_lst (sima_cons sim_str sima_nil)))⟩
theorem ge_repl {o : Expr} {to : TE} {go : TEx} {y z : Str} {j k : Nat} {c0 c1 apos pos : Pos} (ho : GE X M E o to go) (hyz : (y == z) = false := by decide)
    (hst : starEach [.Constant (.str y) j c0, .Constant (.str z) k c1] X.env = [(false, eval (.Constant (.str y) j c0) X.env), (false, eval (.Constant (.str z) k c1) X.env)] := by rfl)
    (hbase : attributeBase o "replace" X.env (eval o X.env) = eval o X.env := by rfl) (hline : (apos.endLine == pos.line) = true := by rfl) :
    PET X (.Call (.Attribute o "replace" apos) [.Constant (.str y) j c0, .Constant (.str z) k c1] [] pos) (CwR.tReplC to y z) ∧ SimE X.K M E (CwR.tReplC to y z) (gRepl y z go) := ⟨CwR.pet_replC ho.p hyz hst hbase hline, sim_repl ho.s⟩
end
end TL
/-! TLyl: a def called with nothing. -/
namespace TL
open PySem PySem.Spec PyProof.Rows L2
section
variable [TheW] {X : Cx} {M : Mode} {E : XK} {x : Str} {p pos : Pos} {k j : Nat} {ps : List Str} {sp : SpX}
theorem ge_c0 (C : Fn X.prog X.w X.K X.mg X.base k x ps sp) (hr : Room j X.A) (hx : Passes (L2.CX X.prog X.w) X E) (hjk : k ≤ j := by decide)
    (hg : Gl X x := by rfl) (hdb : (x == ("__debug__" : Str)) = false := by decide) :
    GE X M E (.Call (.Name x p) [] [] pos) (tCall (lift X.K sp) [] E tNil) (gCall M sp aNil) := by
  obtain ⟨f, fd, F, hm, hk, hb⟩ := C.ex
  exact ⟨pe_call0 F (hr.mono hjk) hg hm hk hb .nil hx hdb, sim_call sima_nil⟩
end
end TL
namespace K00
/-! k00's plain law, on lists of code points -/
abbrev Wd := List Nat
theorem nlt_antisymm {a b : Wd} (h1 : ¬ b < a) (h2 : ¬ a < b) : a = b := List.le_antisymm (List.not_lt.mp h1) (List.not_lt.mp h2)
theorem nlt_trans {a b c : Wd} (h1 : ¬ b < a) (h2 : ¬ c < b) : ¬ c < a := List.not_lt.mpr (List.le_trans (List.not_lt.mp h1) (List.not_lt.mp h2))
theorem lt_of_nlt_ne {a b : Wd} (h : ¬ b < a) (n : a ≠ b) : a < b := by
  by_cases q : a < b
  · exact q
  · exact absurd (nlt_antisymm h q) n
theorem lt_nlt {a b : Wd} (h : a < b) : ¬ b < a := fun q => List.lt_irrefl a (List.lt_trans h q)
/-! ### sorting -/
def ins (x : Wd) : List Wd → List Wd
  | [] => [x]
  | y :: l => if y < x then y :: ins x l else x :: y :: l
def isort : List Wd → List Wd
  | [] => []
  | x :: l => ins x (isort l)
abbrev Asc (l : List Wd) : Prop := l.Pairwise fun a b => ¬ b < a
theorem ins_perm (x : Wd) : ∀ l, (ins x l).Perm (x :: l)
  | [] => .refl _
  | y :: l => by
    unfold ins
    split
    · exact ((ins_perm x l).cons y).trans (.swap x y l)
    · exact .refl _
theorem isort_perm : ∀ l, (isort l).Perm l
  | [] => .refl _
  | x :: l => (ins_perm x _).trans ((isort_perm l).cons x)
theorem ins_asc (x : Wd) : ∀ l, Asc l → Asc (ins x l)
  | [], _ => List.pairwise_singleton _ _
  | y :: l, h => by
    obtain ⟨h1, h2⟩ := List.pairwise_cons.mp h
    unfold ins
    split
    · rename_i q
      refine List.pairwise_cons.mpr ⟨fun z hz => ?_, ins_asc x l h2⟩
      rcases List.mem_cons.mp ((ins_perm x l).mem_iff.mp hz) with e | e
      · rw [e]; exact lt_nlt q
      · exact h1 z e
    · rename_i q
      refine List.pairwise_cons.mpr ⟨fun z hz => ?_, h⟩
      rcases List.mem_cons.mp hz with e | e
      · rw [e]; exact q
      · exact nlt_trans q (h1 z e)
theorem isort_asc : ∀ l, Asc (isort l)
  | [] => .nil
  | x :: l => ins_asc x _ (isort_asc l)
theorem asc_uniq : ∀ {l m : List Wd}, Asc l → Asc m → l.Perm m → l = m
  | [], m, _, _, p => (List.Perm.eq_nil p.symm).symm
  | x :: l, [], _, _, p => absurd p.length_eq (by simp)
  | x :: l, y :: m, hl, hm, p => by
    obtain ⟨a1, a2⟩ := List.pairwise_cons.mp hl
    obtain ⟨b1, b2⟩ := List.pairwise_cons.mp hm
    have e : x = y := by
      rcases List.mem_cons.mp (p.mem_iff.mp List.mem_cons_self) with e | e
      · exact e
      · rcases List.mem_cons.mp (p.mem_iff.mpr List.mem_cons_self) with f | f
        · exact f.symm
        · exact nlt_antisymm (a1 _ f) (b1 _ e)
    subst e
    rw [asc_uniq a2 b2 ((List.perm_cons x).mp p)]
theorem isort_uniq {l m : List Wd} (h : Asc l) (p : l.Perm m) : l = isort m := asc_uniq h (isort_asc m) (p.trans (isort_perm m).symm)
theorem isort_id {l : List Wd} (h : Asc l) : isort l = l := (isort_uniq h (.refl _)).symm
/-- strictly ascending lists with the same members are one -/
theorem strict_uniq : ∀ {l m : List Wd}, l.Pairwise (· < ·) → m.Pairwise (· < ·) → (∀ x, x ∈ l ↔ x ∈ m) → l = m
  | [], [], _, _, _ => rfl
  | [], y :: m, _, _, h => absurd ((h y).mpr List.mem_cons_self) (by simp)
  | x :: l, [], _, _, h => absurd ((h x).mp List.mem_cons_self) (by simp)
  | x :: l, y :: m, hl, hm, h => by
    obtain ⟨a1, a2⟩ := List.pairwise_cons.mp hl
    obtain ⟨b1, b2⟩ := List.pairwise_cons.mp hm
    have e : x = y := by
      rcases List.mem_cons.mp ((h x).mp List.mem_cons_self) with e | e
      · exact e
      · rcases List.mem_cons.mp ((h y).mpr List.mem_cons_self) with f | f
        · exact f.symm
        · exact absurd (a1 _ f) (lt_nlt (b1 _ e))
    subst e
    rw [strict_uniq a2 b2 fun z => ?_]
    constructor
    · intro hz
      rcases List.mem_cons.mp ((h z).mp (List.mem_cons_of_mem _ hz)) with e | e
      · rw [e] at hz; exact absurd (a1 _ hz) (List.lt_irrefl _)
      · exact e
    · intro hz
      rcases List.mem_cons.mp ((h z).mpr (List.mem_cons_of_mem _ hz)) with e | e
      · rw [e] at hz; exact absurd (b1 _ hz) (List.lt_irrefl _)
      · exact e
/-! ### the first of each class -/
section
variable {κ : Type} [DecidableEq κ] (tr : Wd → κ)
def sdf (D : List (κ × Wd)) (w : Wd) : List (κ × Wd) := if tr w ∈ D.map (·.1) then D else D ++ [(tr w, w)]
def fstD (L : List Wd) : List (κ × Wd) := L.foldl (sdf tr) []
structure FD (D : List (κ × Wd)) (seen : List Wd) : Prop where
  key : ∀ e ∈ D, e.1 = tr e.2
  mem : ∀ e ∈ D, e.2 ∈ seen
  asc : D.Pairwise fun a b => a.2 < b.2
  nd : D.Pairwise fun a b => a.1 ≠ b.1
  got : ∀ w ∈ seen, ∃ v, (tr w, v) ∈ D ∧ ¬ w < v
variable {tr}
theorem FD.step {D : List (κ × Wd)} {seen : List Wd} (F : FD tr D seen) {w : Wd} (h : ∀ v ∈ seen, ¬ w < v) : FD tr (sdf tr D w) (seen ++ [w]) := by
  unfold sdf
  split
  · rename_i q
    obtain ⟨e, he, hk⟩ := List.mem_map.mp q
    refine ⟨F.key, fun e he => List.mem_append_left _ (F.mem e he), F.asc, F.nd, fun u hu => ?_⟩
    rcases List.mem_append.mp hu with hu | hu
    · exact F.got u hu
    · rw [List.mem_singleton.mp hu]
      exact ⟨e.2, by rw [← hk]; exact he, h _ (F.mem e he)⟩
  · rename_i q
    refine ⟨fun e he => ?_, fun e he => ?_, ?_, ?_, fun u hu => ?_⟩
    · rcases List.mem_append.mp he with he | he
      · exact F.key e he
      · rw [List.mem_singleton.mp he]
    · rcases List.mem_append.mp he with he | he
      · exact List.mem_append_left _ (F.mem e he)
      · rw [List.mem_singleton.mp he]; exact List.mem_append_right _ (List.mem_singleton.mpr rfl)
    · refine List.pairwise_append.mpr ⟨F.asc, List.pairwise_singleton _ _, fun a ha b hb => ?_⟩
      rw [List.mem_singleton.mp hb]
      refine lt_of_nlt_ne (h _ (F.mem a ha)) fun z => q ?_
      exact List.mem_map.mpr ⟨a, ha, by rw [F.key a ha, z]⟩
    · refine List.pairwise_append.mpr ⟨F.nd, List.pairwise_singleton _ _, fun a ha b hb => ?_⟩
      rw [List.mem_singleton.mp hb]
      exact fun z => q (List.mem_map.mpr ⟨a, ha, z⟩)
    · rcases List.mem_append.mp hu with hu | hu
      · obtain ⟨v, h1, h2⟩ := F.got u hu
        exact ⟨v, List.mem_append_left _ h1, h2⟩
      · rw [List.mem_singleton.mp hu]
        exact ⟨w, List.mem_append_right _ (List.mem_singleton.mpr rfl), List.lt_irrefl w⟩
theorem FD.fold : ∀ (L : List Wd) (D : List (κ × Wd)) (seen : List Wd), FD tr D seen → Asc (seen ++ L) → FD tr (L.foldl (sdf tr) D) (seen ++ L)
  | [], D, seen, F, _ => by rw [List.append_nil]; exact F
  | w :: L, D, seen, F, h => by
    have e : seen ++ w :: L = (seen ++ [w]) ++ L := by simp
    rw [e] at h ⊢
    exact FD.fold L _ _ (F.step fun v hv => (List.pairwise_append.mp (List.pairwise_append.mp h).1).2.2 v hv w (List.mem_singleton.mpr rfl)) h
theorem fstD_ok {L : List Wd} (h : Asc L) : FD tr (fstD tr L) L := FD.fold L [] [] ⟨(fun _ h => nomatch h), (fun _ h => nomatch h), .nil, .nil, (fun _ h => nomatch h)⟩ h
theorem pw_one {α : Type} {R : α → α → Prop} : ∀ {l : List α}, l.Pairwise R → ∀ {a b : α}, a ∈ l → b ∈ l → a = b ∨ R a b ∨ R b a
  | x :: l, h, a, b, ha, hb => by
    obtain ⟨h1, h2⟩ := List.pairwise_cons.mp h
    rcases List.mem_cons.mp ha with e | ha
    · rcases List.mem_cons.mp hb with f | hb
      · exact .inl (e.trans f.symm)
      · rw [e]; exact .inr (.inl (h1 _ hb))
    · rcases List.mem_cons.mp hb with f | hb
      · rw [f]; exact .inr (.inr (h1 _ ha))
      · exact pw_one h2 ha hb
theorem FD.one {D : List (κ × Wd)} {S : List Wd} (F : FD tr D S) {v v' : Wd} {k : κ} (h1 : (k, v) ∈ D) (h2 : (k, v') ∈ D) : v = v' := by
  rcases pw_one F.nd h1 h2 with e | e | e
  · exact congrArg (·.2) e
  · exact absurd rfl e
  · exact absurd rfl e
/-- the least ones of two lists of words, the one within the other, with all classes -/
theorem fst_same {D1 D2 : List (κ × Wd)} {H L : List Wd} (F1 : FD tr D1 H) (F2 : FD tr D2 L) (sub : ∀ h ∈ H, h ∈ L) (all : ∀ w ∈ L, ∃ h ∈ H, ¬ w < h ∧ tr h = tr w) : D1.map (·.2) = D2.map (·.2) := by
  refine strict_uniq (List.pairwise_map.mpr F1.asc) (List.pairwise_map.mpr F2.asc) fun x => ?_
  constructor
  · intro hx
    obtain ⟨⟨k, v⟩, he, rfl⟩ := List.mem_map.mp hx
    have hk : k = tr v := F1.key _ he
    subst hk
    obtain ⟨u, g1, g2⟩ := F2.got v (sub v (F1.mem _ he))
    have ku : tr v = tr u := F2.key _ g1
    obtain ⟨h, hh, l1, l2⟩ := all u (F2.mem _ g1)
    obtain ⟨y, m1, m2⟩ := F1.got h hh
    rw [l2, ← ku] at m1
    obtain rfl : v = y := F1.one he m1
    obtain rfl : v = u := nlt_antisymm (nlt_trans m2 l1) g2
    exact List.mem_map.mpr ⟨_, g1, rfl⟩
  · intro hx
    obtain ⟨⟨k, v⟩, he, rfl⟩ := List.mem_map.mp hx
    have hk : k = tr v := F2.key _ he
    subst hk
    obtain ⟨h, hh, l1, l2⟩ := all v (F2.mem _ he)
    obtain ⟨y, m1, m2⟩ := F1.got h hh
    have ky : tr h = tr y := F1.key _ m1
    obtain ⟨z, n1, n2⟩ := F2.got y (sub y (F1.mem _ m1))
    rw [← ky, l2] at n1
    obtain rfl : v = z := F2.one he n1
    obtain rfl : v = y := nlt_antisymm n2 (nlt_trans m2 l1)
    exact List.mem_map.mpr ⟨_, m1, rfl⟩
end
/-! ### stems and heads -/
abbrev letters : List Nat := List.range' 97 26
/-- where p begins like this: the beginning is asked; else the word itself -/
def star (p : Wd) : Bool := p.getLast? == some 42
def stem (p : Wd) : Wd := if star p then p.dropLast else p
def suits (p w : Wd) : Bool := if star p then p.dropLast.isPrefixOf w else w == p
def free (S : Wd → Bool) (s : Wd) : Option Nat := letters.find? fun c => !S (s ++ [c])
def IsHead (S : Wd → Bool) (h : Wd) : Prop := (h ≠ [] ∧ S h = true) ∨ ∃ s c, S s = true ∧ s.length < 8 ∧ free S s = some c ∧ h = s ++ [c]
theorem part (S : Wd → Bool) : ∀ (r s : Wd), S s = true → S (s ++ r) = false → ∃ s' c r', s ++ r = s' ++ c :: r' ∧ S s' = true ∧ S (s' ++ [c]) = false
  | [], s, h, n => by rw [List.append_nil, h] at n; cases n
  | c :: r, s, h, n => by
    cases q : S (s ++ [c]) with
    | false => exact ⟨s, c, r, rfl, h, q⟩
    | true =>
      obtain ⟨s', c', r', e, h1, h2⟩ := part S r (s ++ [c]) q (by rw [List.append_assoc]; exact n)
      exact ⟨s', c', r', by rw [← e]; simp, h1, h2⟩
theorem find_first : ∀ (n a : Nat) {p : Nat → Bool} {c : Nat}, c ∈ List.range' a n → p c = true → ∃ c', (List.range' a n).find? p = some c' ∧ c' ≤ c ∧ p c' = true
  | 0, a, p, c, h, _ => by simp at h
  | n + 1, a, p, c, h, hp => by
    rw [List.range'_succ] at h ⊢
    rw [List.find?_cons]
    cases q : p a with
    | true =>
      refine ⟨a, rfl, ?_, q⟩
      rcases List.mem_cons.mp h with e | h
      · omega
      · have := List.mem_range'_1.mp h; omega
    | false =>
      rcases List.mem_cons.mp h with e | h
      · rw [e] at hp; rw [hp] at q; cases q
      · exact find_first n (a + 1) h hp
theorem lt_pre : ∀ (s : Wd) {a b : Wd}, s ++ a < s ++ b → a < b
  | [], _, _, h => h
  | x :: s, a, b, h => by
    rcases List.cons_lt_cons_iff.mp h with h | ⟨_, h⟩
    · exact absurd h (Nat.lt_irrefl x)
    · exact lt_pre s h
theorem pre_snoc {t s : Wd} {c : Nat} (h : t <+: s ++ [c]) : t = s ++ [c] ∨ t <+: s := by
  obtain ⟨r, e⟩ := h
  rcases List.eq_nil_or_concat r with rfl | ⟨r', d, rfl⟩
  · rw [List.append_nil] at e; exact .inl e
  · rw [List.concat_eq_append, ← List.append_assoc] at e
    exact .inr ⟨r', (List.append_inj' e rfl).1⟩
theorem pre_cut {t s r : Wd} {c : Nat} (h : t <+: s ++ c :: r) : t <+: s ∨ s ++ [c] <+: t := by
  have h2 : s ++ [c] <+: s ++ c :: r := ⟨r, by simp⟩
  rcases Nat.le_total t.length (s ++ [c]).length with l | l
  · rcases pre_snoc (List.prefix_of_prefix_length_le h h2 l) with e | e
    · exact .inr (by rw [e]; exact List.prefix_refl _)
    · exact .inl e
  · exact .inr (List.prefix_of_prefix_length_le h2 h l)
theorem head_le {S : Wd → Bool} {Ps : List Wd} (hnil : S [] = true) (hpre : ∀ a b, a <+: b → S b = true → S a = true) (hst : ∀ p ∈ Ps, S (stem p) = true) {w : Wd} (hw : w ≠ []) (hl : w.length ≤ 8) (hlet : ∀ c ∈ w, c ∈ letters) :
    ∃ h, IsHead S h ∧ ¬ w < h ∧ Ps.map (suits · h) = Ps.map (suits · w) := by
  cases q : S w with
  | true => exact ⟨w, .inl ⟨hw, q⟩, List.lt_irrefl w, rfl⟩
  | false =>
    obtain ⟨s, c, r, e, h1, h2⟩ := part S w [] hnil q
    rw [List.nil_append] at e
    have hc : c ∈ letters := hlet c (by rw [e]; simp)
    obtain ⟨c', f, le, p⟩ := find_first 26 97 (p := fun c => !S (s ++ [c])) hc (by rw [h2]; rfl)
    have h3 : S (s ++ [c']) = false := by simpa using p
    refine ⟨s ++ [c'], .inr ⟨s, c', h1, ?_, f, rfl⟩, ?_, ?_⟩
    · rw [e] at hl; simp at hl; omega
    · intro z
      rw [e] at z
      rcases List.cons_lt_cons_iff.mp (lt_pre s z) with z | ⟨_, z⟩
      · omega
      · exact absurd z (List.not_lt_nil _)
    · refine List.map_congr_left fun p hp => ?_
      have st := hst p hp
      unfold suits stem at *
      split
      · rename_i k
        rw [if_pos k] at st
        rw [Bool.eq_iff_iff, List.isPrefixOf_iff_prefix, List.isPrefixOf_iff_prefix]
        constructor
        · intro z
          rcases pre_snoc z with z | z
          · rw [z, h3] at st; cases st
          · rw [e]; exact z.trans ⟨_, rfl⟩
        · intro z
          rw [e] at z
          rcases pre_cut z with z | z
          · exact z.trans ⟨_, rfl⟩
          · rw [hpre _ _ z st] at h2; cases h2
      · rename_i k
        rw [if_neg k] at st
        rw [Bool.eq_iff_iff, beq_iff_eq, beq_iff_eq]
        constructor
        · intro z; rw [← z, h3] at st; cases st
        · intro z; rw [← z, q] at st; cases st
end K00
namespace K00
/-! k00's plain law: the program's stems, heads and classes, the law's own, on lists of code points -/
def addS (acc : List Wd) (s : Wd) : List Wd := if s ∈ acc then acc else acc ++ [s]
theorem mem_addS {acc : List Wd} {s x : Wd} : x ∈ addS acc s ↔ x ∈ acc ∨ x = s := by
  unfold addS
  split
  · rename_i h
    exact ⟨.inl, fun z => z.elim id fun e => e ▸ h⟩
  · rw [List.mem_append, List.mem_singleton]
def begs (s : Wd) : List Wd := (List.range' 1 s.length).map fun n => s.take n
def stemsX (Ps : List Wd) : List Wd := Ps.foldl (fun acc p => (begs (stem p)).foldl addS acc) [[]]
theorem mem_begs {s x : Wd} : x ∈ begs s ↔ x ≠ [] ∧ x <+: s := by
  unfold begs
  rw [List.mem_map]
  constructor
  · rintro ⟨n, hn, rfl⟩
    obtain ⟨h1, h2⟩ := List.mem_range'_1.mp hn
    refine ⟨fun z => ?_, List.take_prefix _ _⟩
    have := congrArg List.length z
    rw [List.length_take, List.length_nil] at this
    omega
  · rintro ⟨h1, h2⟩
    refine ⟨x.length, List.mem_range'_1.mpr ⟨?_, ?_⟩, (List.prefix_iff_eq_take.mp h2).symm⟩
    · cases x with
      | nil => exact absurd rfl h1
      | cons a l => rw [List.length_cons]; omega
    · have := h2.length_le
      omega
theorem mem_foldS {L : List Wd} : ∀ {acc : List Wd} {x : Wd}, x ∈ L.foldl addS acc ↔ x ∈ acc ∨ x ∈ L := by
  induction L with
  | nil => intro acc x; simp
  | cons s L ih =>
    intro acc x
    rw [List.foldl_cons, ih, mem_addS, List.mem_cons]
    exact or_assoc
theorem mem_foldP {Ps : List Wd} : ∀ {acc : List Wd} {x : Wd}, x ∈ Ps.foldl (fun acc p => (begs (stem p)).foldl addS acc) acc ↔ x ∈ acc ∨ ∃ p ∈ Ps, x ∈ begs (stem p) := by
  induction Ps with
  | nil => intro acc x; simp
  | cons p Ps ih =>
    intro acc x
    rw [List.foldl_cons, ih, mem_foldS]
    constructor
    · rintro ((h | h) | ⟨p', h1, h2⟩)
      · exact .inl h
      · exact .inr ⟨p, List.mem_cons_self, h⟩
      · exact .inr ⟨p', List.mem_cons_of_mem _ h1, h2⟩
    · rintro (h | ⟨p', h1, h2⟩)
      · exact .inl (.inl h)
      · rcases List.mem_cons.mp h1 with e | h1
        · rw [e] at h2; exact .inl (.inr h2)
        · exact .inr ⟨p', h1, h2⟩
theorem mem_stems {Ps : List Wd} {x : Wd} : x ∈ stemsX Ps ↔ x = [] ∨ ∃ p ∈ Ps, x ≠ [] ∧ x <+: stem p := by
  unfold stemsX
  rw [mem_foldP, List.mem_singleton]
  simp only [mem_begs]
def isS (Ps : List Wd) (x : Wd) : Bool := decide (x ∈ stemsX Ps)
theorem isS_nil {Ps : List Wd} : isS Ps [] = true := decide_eq_true (mem_stems.mpr (.inl rfl))
theorem isS_pre {Ps : List Wd} (a b : Wd) (h : a <+: b) (k : isS Ps b = true) : isS Ps a = true := by
  refine decide_eq_true (mem_stems.mpr ?_)
  by_cases e : a = []
  · exact .inl e
  · rcases mem_stems.mp (of_decide_eq_true k) with z | ⟨p, h1, _, h3⟩
    · rw [z] at h
      exact absurd (List.prefix_nil.mp h) e
    · exact .inr ⟨p, h1, e, h.trans h3⟩
theorem isS_stem {Ps : List Wd} {p : Wd} (h : p ∈ Ps) : isS Ps (stem p) = true := by
  refine decide_eq_true (mem_stems.mpr ?_)
  by_cases e : stem p = []
  · exact .inl e
  · exact .inr ⟨p, h, e, List.prefix_refl _⟩
/-- s and its first free letter -/
def nextX (Ps : List Wd) (s : Wd) : List Wd := if s.length < 8 then ((letters.filter fun c => !decide (s ++ [c] ∈ stemsX Ps)).take 1).map fun c => s ++ [c] else []
def rawX (Ps : List Wd) : List Wd := ((stemsX Ps).filter fun s => !decide (s = [])) ++ (stemsX Ps).flatMap (nextX Ps)
def headsX (Ps : List Wd) : List Wd := isort (rawX Ps)
theorem take1 {α : Type} (p : α → Bool) : ∀ l : List α, (l.filter p).take 1 = (l.find? p).toList
  | [] => rfl
  | a :: l => by
    rw [List.find?_cons]
    cases h : p a with
    | true => rw [List.filter_cons_of_pos h]; rfl
    | false => rw [List.filter_cons_of_neg (by rw [h]; decide)]; exact take1 p l
theorem mem_heads {Ps : List Wd} {x : Wd} : x ∈ headsX Ps ↔ IsHead (isS Ps) x := by
  unfold headsX rawX
  rw [(isort_perm _).mem_iff, List.mem_append, List.mem_filter, List.mem_flatMap]
  constructor
  · rintro (⟨h1, h2⟩ | ⟨s, h1, h2⟩)
    · exact .inl ⟨by simpa using h2, decide_eq_true h1⟩
    · unfold nextX at h2
      split at h2
      · rename_i l
        rw [take1, List.mem_map] at h2
        obtain ⟨c, hc, rfl⟩ := h2
        exact .inr ⟨s, c, decide_eq_true h1, l, Option.mem_toList.mp hc, rfl⟩
      · cases h2
  · rintro (⟨h1, h2⟩ | ⟨s, c, h1, l, f, rfl⟩)
    · exact .inl ⟨of_decide_eq_true h2, by simpa using h1⟩
    · refine .inr ⟨s, of_decide_eq_true h1, ?_⟩
      unfold nextX
      rw [if_pos l, take1, List.mem_map]
      exact ⟨c, Option.mem_toList.mpr f, rfl⟩
def trX (Ps : List Wd) (w : Wd) : List Bool := Ps.map (suits · w)
def clsX (Ps : List Wd) : List (List Bool × Wd) := fstD (trX Ps) (headsX Ps)
/-! ### the law's own -/
def stemsL (Ps : List Wd) : List Wd := Ps.foldl (fun acc p => acc ++ begs (stem p)) [[]]
theorem mem_foldL {Ps : List Wd} : ∀ {acc : List Wd} {x : Wd}, x ∈ Ps.foldl (fun acc p => acc ++ begs (stem p)) acc ↔ x ∈ acc ∨ ∃ p ∈ Ps, x ∈ begs (stem p) := by
  induction Ps with
  | nil => intro acc x; simp
  | cons p Ps ih =>
    intro acc x
    rw [List.foldl_cons, ih, List.mem_append]
    constructor
    · rintro ((h | h) | ⟨p', h1, h2⟩)
      · exact .inl h
      · exact .inr ⟨p, List.mem_cons_self, h⟩
      · exact .inr ⟨p', List.mem_cons_of_mem _ h1, h2⟩
    · rintro (h | ⟨p', h1, h2⟩)
      · exact .inl (.inl h)
      · rcases List.mem_cons.mp h1 with e | h1
        · rw [e] at h2; exact .inl (.inr h2)
        · exact .inr ⟨p', h1, h2⟩
theorem mem_stemsL {Ps : List Wd} {x : Wd} : x ∈ stemsL Ps ↔ x ∈ stemsX Ps := by
  unfold stemsL
  rw [mem_foldL, mem_stems, List.mem_singleton]
  simp only [mem_begs]
def wordsF (Ps : List Wd) (acc : List Wd) (ls : List Nat) : List Wd := ls.foldl (fun acc c => acc ++ ((stemsL Ps).filter fun s => decide (s.length < 8)).map fun s => s ++ [c]) acc
def wordsX (Ps : List Wd) : List Wd := wordsF Ps ((stemsL Ps).filter fun s => !decide (s = [])) letters
theorem mem_wordsF {Ps : List Wd} {x : Wd} : ∀ {ls : List Nat} {acc : List Wd}, x ∈ wordsF Ps acc ls ↔ x ∈ acc ∨ ∃ s c, c ∈ ls ∧ s ∈ stemsL Ps ∧ s.length < 8 ∧ x = s ++ [c]
  | [], acc => by unfold wordsF; simp
  | c :: ls, acc => by
    show x ∈ wordsF Ps _ ls ↔ _
    rw [mem_wordsF, List.mem_append, List.mem_map]
    constructor
    · rintro ((h | ⟨s, h1, rfl⟩) | ⟨s, c', h1, h2⟩)
      · exact .inl h
      · obtain ⟨h1, h2⟩ := List.mem_filter.mp h1
        exact .inr ⟨s, c, List.mem_cons_self, h1, of_decide_eq_true h2, rfl⟩
      · exact .inr ⟨s, c', List.mem_cons_of_mem _ h1, h2⟩
    · rintro (h | ⟨s, c', h1, h2, h3, rfl⟩)
      · exact .inl (.inl h)
      · rcases List.mem_cons.mp h1 with rfl | h1
        · exact .inl (.inr ⟨s, List.mem_filter.mpr ⟨h2, decide_eq_true h3⟩, rfl⟩)
        · exact .inr ⟨s, c', h1, h2, h3, rfl⟩
def lawHeadsX (Ps : List Wd) : List Wd := isort ((fstD (trX Ps) (isort (wordsX Ps))).map (·.2))
/-! ### patterns -/
def isL (c : Nat) : Bool := decide (c ∈ letters)
def wordL (l : Wd) : Bool := decide (1 ≤ l.length) && (decide (l.length ≤ 8) && l.all isL)
def patL (p : Wd) : Bool := wordL p || (star p && (decide (p.dropLast.length ≤ 7) && p.dropLast.all isL))
theorem word_star {p : Wd} (h : p.all isL = true) : star p = false := by
  unfold star
  cases e : p.getLast? with
  | none => rfl
  | some c =>
    have hm : c ∈ p := List.mem_of_getLast? e
    have := of_decide_eq_true (List.all_eq_true.mp h c hm)
    have := List.mem_range'_1.mp this
    rw [beq_eq_false_iff_ne]
    intro z
    cases z
    omega
theorem word_all {w : Wd} (h : wordL w = true) : w.all isL = true := by
  unfold wordL at h
  simp only [Bool.and_eq_true] at h
  exact h.2.2
theorem word_len {w : Wd} (h : wordL w = true) : 1 ≤ w.length ∧ w.length ≤ 8 := by
  unfold wordL at h
  simp only [Bool.and_eq_true, decide_eq_true_eq] at h
  exact ⟨h.1, h.2.1⟩
theorem pat_stem {p : Wd} (h : patL p = true) : (stem p).length ≤ 8 ∧ (stem p).all isL = true := by
  unfold patL at h
  rw [Bool.or_eq_true] at h
  unfold stem
  rcases h with h | h
  · rw [word_star (word_all h)]
    exact ⟨(word_len h).2, word_all h⟩
  · simp only [Bool.and_eq_true, decide_eq_true_eq] at h
    rw [if_pos h.1]
    exact ⟨by omega, h.2.2⟩
theorem pat_len {p : Wd} (h : patL p = true) : 1 ≤ p.length ∧ p.length ≤ 8 := by
  unfold patL at h
  rw [Bool.or_eq_true] at h
  rcases h with h | h
  · exact word_len h
  · simp only [Bool.and_eq_true, decide_eq_true_eq, List.length_dropLast] at h
    have : 1 ≤ p.length := by
      cases p with
      | nil => cases h.1
      | cons a l => rw [List.length_cons]; omega
    omega
section
variable {Ps : List Wd} (hP : ∀ p ∈ Ps, patL p = true)
include hP
theorem stem_ok {x : Wd} (h : x ∈ stemsX Ps) : x.length ≤ 8 ∧ x.all isL = true := by
  rcases mem_stems.mp h with rfl | ⟨p, h1, _, h3⟩
  · exact ⟨by simp, rfl⟩
  · obtain ⟨k1, k2⟩ := pat_stem (hP p h1)
    exact ⟨Nat.le_trans h3.length_le k1, List.all_eq_true.mpr fun c hc => List.all_eq_true.mp k2 c (h3.subset hc)⟩
theorem words_ok {w : Wd} (h : w ∈ wordsX Ps) : w ≠ [] ∧ w.length ≤ 8 ∧ ∀ c ∈ w, c ∈ letters := by
  unfold wordsX at h
  rcases mem_wordsF.mp h with h | ⟨s, c, h1, h2, h3, rfl⟩
  · obtain ⟨a, b⟩ := List.mem_filter.mp h
    obtain ⟨k1, k2⟩ := stem_ok hP (mem_stemsL.mp a)
    exact ⟨by simpa using b, k1, fun c hc => of_decide_eq_true (List.all_eq_true.mp k2 c hc)⟩
  · obtain ⟨k1, k2⟩ := stem_ok hP (mem_stemsL.mp h2)
    refine ⟨by simp, by simp; omega, fun d hd => ?_⟩
    rcases List.mem_append.mp hd with hd | hd
    · exact of_decide_eq_true (List.all_eq_true.mp k2 d hd)
    · rw [List.mem_singleton.mp hd]; exact h1
omit hP in
theorem heads_sub {h : Wd} (k : h ∈ headsX Ps) : h ∈ wordsX Ps := by
  unfold wordsX
  refine mem_wordsF.mpr ?_
  rcases mem_heads.mp k with ⟨h1, h2⟩ | ⟨s, c, h1, l, f, rfl⟩
  · exact .inl (List.mem_filter.mpr ⟨mem_stemsL.mpr (of_decide_eq_true h2), by simpa using h1⟩)
  · exact .inr ⟨s, c, List.mem_of_find?_eq_some f, mem_stemsL.mpr (of_decide_eq_true h1), l, rfl⟩
theorem head_for {w : Wd} (h1 : w ≠ []) (h2 : w.length ≤ 8) (h3 : ∀ c ∈ w, c ∈ letters) : ∃ h ∈ headsX Ps, ¬ w < h ∧ trX Ps h = trX Ps w := by
  obtain ⟨h, k1, k2, k3⟩ := head_le (S := isS Ps) (Ps := Ps) isS_nil isS_pre (fun p hp => isS_stem hp) h1 h2 h3
  exact ⟨h, mem_heads.mpr k1, k2, k3⟩
/-- the told heads are the law's -/
theorem heads_same : (clsX Ps).map (·.2) = lawHeadsX Ps := by
  have F1 : FD (trX Ps) (clsX Ps) (headsX Ps) := fstD_ok (isort_asc _)
  have F2 : FD (trX Ps) (fstD (trX Ps) (isort (wordsX Ps))) (isort (wordsX Ps)) := fstD_ok (isort_asc _)
  have e := fst_same F1 F2 (fun h k => (isort_perm _).mem_iff.mpr (heads_sub k)) fun w hw => by
    obtain ⟨a, b, c⟩ := words_ok hP ((isort_perm _).mem_iff.mp hw)
    exact head_for hP a b c
  unfold lawHeadsX
  rw [← e, isort_id]
  exact (List.pairwise_map.mpr F1.asc).imp fun h => lt_nlt h
/-- each word's class is told, with a head that is not greater -/
theorem word_told {w : Wd} (h : wordL w = true) : ∃ (j : Nat) (e : List Bool × Wd), (clsX Ps)[j]? = some e ∧ e.1 = trX Ps w ∧ ¬ w < e.2 ∧ ∀ (m : Nat) (e' : List Bool × Wd), m < j → (clsX Ps)[m]? = some e' → e'.1 ≠ trX Ps w := by
  have F1 : FD (trX Ps) (clsX Ps) (headsX Ps) := fstD_ok (isort_asc _)
  obtain ⟨l1, l2⟩ := word_len h
  obtain ⟨k, k1, k2, k3⟩ := head_for hP (w := w) (by intro z; rw [z] at l1; simp at l1) l2 (fun c hc => of_decide_eq_true (List.all_eq_true.mp (word_all h) c hc))
  obtain ⟨v, g1, g2⟩ := F1.got k k1
  rw [k3] at g1
  obtain ⟨j, hj⟩ := List.getElem?_of_mem g1
  refine ⟨j, _, hj, rfl, nlt_trans g2 k2, fun m e' hm he z => ?_⟩
  obtain ⟨a, ha⟩ := List.getElem?_eq_some_iff.mp hj
  obtain ⟨b, hb⟩ := List.getElem?_eq_some_iff.mp he
  have nd := List.pairwise_iff_getElem.mp F1.nd m j b a hm
  rw [hb, ha] at nd
  exact nd z
end
theorem cls_fd (Ps : List Wd) : FD (trX Ps) (clsX Ps) (headsX Ps) := fstD_ok (isort_asc _)
end K00
namespace K00
open PySem PySem.Spec PyProof.Rows L2 TL
variable [TheW]
/-! ### texts as lists of code points -/
abbrev cps (z : Str) : Wd := z.cps.toList
def mk (l : Wd) : Str := ⟨l.toArray⟩
theorem cps_mk (l : Wd) : cps (mk l) = l := by simp [cps, mk]
theorem mk_cps (z : Str) : mk (cps z) = z := by simp [cps, mk]
theorem cps_inj {a b : Str} (h : cps a = cps b) : a = b := by rw [← mk_cps a, ← mk_cps b, h]
theorem mk_inj {a b : Wd} (h : mk a = mk b) : a = b := by rw [← cps_mk a, ← cps_mk b, h]
theorem len_cps (z : Str) : z.length = (cps z).length := by simp [cps, Str.length]
theorem cps_app (a b : Str) : cps (a ++ b) = cps a ++ cps b := by
  show (Str.append a b).cps.toList = _
  simp [Str.append, cps]
theorem cps_init (z : Str) : cps (cutS z none (some (-1))) = (cps z).dropLast := by
  unfold cutS
  rw [HT.sIx_none, List.drop_zero, Nat.sub_zero, len_cps]
  show ((cps z).take _).toArray.toList = _
  rw [List.dropLast_eq_take]
  simp only [HT.sIx]
  rw [if_pos (by decide)]
  have e : (-1 + ((cps z).length : Int)).toNat = (cps z).length - 1 := by omega
  rw [e]
theorem cps_take (z : Str) (n : Nat) : cps (cutS z none (some (n : Int))) = (cps z).take n := by
  unfold cutS
  rw [HT.sIx_none, HT.sIx_nat, List.drop_zero, Nat.sub_zero, len_cps]
  show ((cps z).take _).toArray.toList = _
  rw [show ((cps z).take (min n (cps z).length)).toArray.toList = (cps z).take (min n (cps z).length) by simp]
  rcases Nat.le_total n (cps z).length with h | h
  · rw [Nat.min_eq_left h]
  · rw [Nat.min_eq_right h, List.take_length, List.take_of_length_le h]
theorem cps_drop (z : Str) (n : Nat) : cps (cutS z (some (n : Int)) none) = (cps z).drop n := by
  unfold cutS
  rw [HT.sIx_none, HT.sIx_nat, len_cps]
  show (((cps z).drop _).take _).toArray.toList = _
  rw [show (((cps z).drop (min n (cps z).length)).take ((cps z).length - min n (cps z).length)).toArray.toList = ((cps z).drop (min n (cps z).length)).take ((cps z).length - min n (cps z).length) by simp]
  rw [List.take_of_length_le (by rw [List.length_drop]; exact Nat.le_refl _)]
  rcases Nat.le_total n (cps z).length with h | h
  · rw [Nat.min_eq_left h]
  · rw [Nat.min_eq_right h, List.drop_length, List.drop_of_length_le h]
theorem cut_pos {z : Str} {n : Int} (h : 0 ≤ n) : cps (cutS z none (some n)) = (cps z).take n.toNat := by
  have e : n = (n.toNat : Int) := by omega
  rw [e, cps_take, ← e]
abbrev STAR : Str := "*"
theorem cps_star : cps STAR = [42] := by decide +kernel
theorem ends_star (z : Str) : Txt.endswith z STAR = star (cps z) := by
  unfold Txt.endswith star
  rw [StrLaws.subAt_eq, len_cps z, len_cps STAR, cps_star]
  show (decide (0 + 1 ≤ (cps z).length) && (((cps z).drop ((cps z).length - 1)).take 1 == [42])) = _
  generalize cps z = l
  rcases List.eq_nil_or_concat l with rfl | ⟨l', c, rfl⟩
  · rfl
  · rw [List.concat_eq_append, List.getLast?_append]
    simp
theorem starts (w t : Str) : Txt.startswith w t = (cps t).isPrefixOf (cps w) := by
  unfold Txt.startswith
  rw [StrLaws.subAt_eq, len_cps w, len_cps t, List.drop_zero]
  show (decide (0 + (cps t).length ≤ (cps w).length) && ((cps w).take (cps t).length == cps t)) = _
  rw [Bool.eq_iff_iff, Bool.and_eq_true, decide_eq_true_eq, beq_iff_eq, List.isPrefixOf_iff_prefix]
  constructor
  · rintro ⟨_, h⟩
    rw [← h]
    exact List.take_prefix _ _
  · intro h
    exact ⟨by have := h.length_le; omega, (List.prefix_iff_eq_take.mp h).symm⟩
theorem letB_eq {lo hi : Nat} (z : Str) : K87.letB (.str z) lo hi = (decide (lo ≤ (cps z).length) && (decide ((cps z).length ≤ hi) && (cps z).all isL)) := by
  show K87.letS z lo hi = _
  unfold K87.letS
  rw [len_cps]
  have e : (K87.isLet : Nat → Bool) = isL := by
    funext c
    unfold K87.isLet isL
    rw [show K87.LET.cps.toList = letters by decide +kernel]
  rw [e]
  congr 1
  · rw [decide_eq_decide]; omega
  · congr 1
    rw [decide_eq_decide]; omega
theorem word_eq (z : Str) : K87.letB (.str z) 1 8 = wordL (cps z) := letB_eq (lo := 1) (hi := 8) z
/-! ### small data -/
structure Sm (k m : Nat) (d : PyData) : Prop where
  s : d.showable = true
  l : d.leavesShort 13 = true
  b : d.bulk ≤ k
  p : d.depth ≤ m
  n : d.hasDict = false
  c : d.canLay0 = true
theorem Sm.all {k m : Nat} : ∀ {ds : List PyData}, (∀ d ∈ ds, Sm k m d) → PyData.showableAll ds = true ∧ PyData.leavesShortAll 13 ds = true ∧ PyData.bulkAll ds ≤ (k + 1) * ds.length ∧ PyData.depthAll ds ≤ m ∧ PyData.hasDictAll ds = false ∧ PyData.canLayAll0 ds = true
  | [], _ => ⟨rfl, rfl, by simp [PyData.bulkAll], by simp [PyData.depthAll], rfl, rfl⟩
  | d :: ds, h => by
    obtain ⟨h1, h2, h3, h4, h5, h6⟩ := h d List.mem_cons_self
    obtain ⟨k1, k2, k3, k4, k5, k6⟩ := Sm.all fun e he => h e (List.mem_cons_of_mem _ he)
    refine ⟨by simp only [PyData.showableAll, h1, k1, Bool.and_self], by simp only [PyData.leavesShortAll, h2, k2, Bool.and_self], ?_, ?_, by simp only [PyData.hasDictAll, h5, k5, Bool.or_self], by simp only [PyData.canLayAll0, h6, k6, Bool.and_self]⟩
    · simp only [PyData.bulkAll, List.length_cons]
      have e : (k + 1) * (ds.length + 1) = (k + 1) * ds.length + (k + 1) := Nat.mul_succ _ _
      omega
    · simp only [PyData.depthAll]
      omega
theorem Sm.list {k m : Nat} {ds : List PyData} (h : ∀ d ∈ ds, Sm k m d) : Sm ((k + 1) * ds.length) (m + 1) (.list ds) := by
  obtain ⟨k1, k2, k3, k4, k5, k6⟩ := Sm.all h
  exact ⟨by simp only [PyData.showable, k1], by simp only [PyData.leavesShort, k2], by simp only [PyData.bulk]; exact k3, by simp only [PyData.depth]; omega, by simp only [PyData.hasDict, k5], by simp only [PyData.canLay0, k6]⟩
theorem Sm.tuple {k m : Nat} {ds : List PyData} (h : ∀ d ∈ ds, Sm k m d) : Sm ((k + 1) * ds.length) (m + 1) (.tuple ds) := by
  obtain ⟨k1, k2, k3, k4, k5, k6⟩ := Sm.all h
  exact ⟨by simp only [PyData.showable, k1], by simp only [PyData.leavesShort, k2], by simp only [PyData.bulk]; exact k3, by simp only [PyData.depth]; omega, by simp only [PyData.hasDict, k5], by simp only [PyData.canLay0, k6]⟩
theorem Sm.mono {k m k' m' : Nat} {d : PyData} (h : Sm k m d) (a : k ≤ k') (b : m ≤ m') : Sm k' m' d := ⟨h.s, h.l, Nat.le_trans h.b a, Nat.le_trans h.p b, h.n, h.c⟩
theorem Sm.bool {b : Bool} : Sm 0 0 (.bool b) := ⟨rfl, rfl, Nat.le_refl _, Nat.le_refl _, rfl, rfl⟩
theorem Sm.str {z : Str} (h : (cps z).all isL = true) (l : (cps z).length ≤ 8) : Sm 8 0 (.str z) := by
  have hc : ∀ c ∈ z.cps.toList, c < 1000 := fun c hc => by
    have := of_decide_eq_true (List.all_eq_true.mp h c hc)
    have := List.mem_range'_1.mp this
    omega
  refine ⟨rfl, ?_, ?_, Nat.le_refl _, rfl, ?_⟩
  · unfold PyData.leavesShort
    refine List.all_eq_true.mpr fun c h => decide_eq_true ?_
    have := hc c h
    have e : (16 : Nat) ^ 8 = 4294967296 := by decide
    omega
  · simp only [PyData.bulk]
    have e : z.cps.size = (cps z).length := by simp [cps]
    omega
  · simp only [PyData.canLay0]
    unfold PyData.strOk
    first
      | exact List.all_eq_true.mpr fun c h => decide_eq_true (by have := hc c h; omega)
      | (simp only [Array.all_eq_true, decide_eq_true_eq]; intro i hi; have := hc z.cps[i] (by simp); omega)
theorem Sm.sh {k m : Nat} {d : PyData} (h : Sm k m d) (a : k ≤ 1048576) (b : m ≤ 60) : ShOk d := ⟨h.s, h.l, Nat.le_trans h.b (Nat.le_trans a (by decide)), Nat.le_trans h.p b, h.n⟩
theorem Sm.shaped {k m : Nat} {d : PyData} (h : Sm k m d) (b : m ≤ 60) : SeqAt.shaped d = true := by
  unfold SeqAt.shaped
  rw [h.c, Bool.true_and]
  exact decide_eq_true (by have := h.p; omega)
end K00
namespace K44
open PySem PySem.Spec PyProof.Rows L2 TL K00
variable [TheW]
abbrev tps (ps : List Str) : List T := ps.map T.str
abbrev cs (ps : List Str) : List Wd := ps.map cps
structure PatsOk (ps : List Str) : Prop where
  ok : ∀ p ∈ ps, patL (cps p) = true
  few : ps.length ≤ 12
  asc : ps.Pairwise fun a b => cps a < cps b
def trT (bs : List Bool) : T := .tup (bs.map T.bl)
abbrev sp_is_letters := K87.sp_is_letters
abbrev sp_is_word := K87.sp_is_word
def sp_is_pattern : SpX := fun _ ts q _ => ∃ z : Str, ts = [.str z] ∧ patL (cps z) = true ∧ q (.sh (.bl true))
def sp_suits : SpX := fun _ ts q _ => ∃ p z : Str, ts = [.str p, .str z] ∧ patL (cps p) = true ∧ q (.sh (.bl (suits (cps p) (cps z))))
def sp_are_patterns : SpX := fun _ ts q _ => ∃ ps, ts = [.tup (tps ps)] ∧ PatsOk ps ∧ q (.sh (.bl true))
def sp_need_patterns : SpX := fun _ ts q _ => ∃ ps, ts = [.tup (tps ps)] ∧ PatsOk ps ∧ q (.sh .non)
def sp_truths_of : SpX := fun _ ts q _ => ∃ ps z, ts = [.tup (tps ps), .str z] ∧ PatsOk ps ∧ q (.sh (trT (trX (cs ps) (cps z))))
abbrev sp__law_take := spTake
abbrev sp__law_mixed := spMixed
abbrev sp__law_pick := spPickW
def sp__law_pattern : SpX := fun M ts q _ => ∃ d ws, ts = [.raw (.ref d), .lst (tps ws)] ∧ IsDM M d ∧ 0 < ws.length ∧ ws.length < 1000 ∧ (∀ w ∈ ws, wordL (cps w) = true) ∧ ∀ p : Str, patL (cps p) = true → q (.sh (.str p))
def sp__law_vocabulary : SpX := fun M ts q _ => ∃ d, ts = [.raw (.ref d)] ∧ IsDM M d ∧ ∀ ws : List Str, 0 < ws.length → ws.length ≤ 4 → (∀ w ∈ ws, wordL (cps w) = true) → q (.sh (.lst (tps ws)))
def sp__law_fits : SpX := fun _ ts q _ => ∃ p z : Str, ts = [.str p, .str z] ∧ patL (cps p) = true ∧ (cps z).length ≤ 8 ∧ q (.sh (.bl (suits (cps p) (cps z))))
def g_is_letters : TSx := (sRet (gAndV (gCB gIsi (aCons (gVar 0) (aCons (gC (.raw (.ty "str"))) aNil))) (gAndV (gChain gLe gLe (gVar 1) (gCB gLen (aCons (gVar 0) aNil)) (gVar 2)) (gCB gAll (aCons (gLc [3] (iWalk (gVar 0)) (xName 3) gYes (gOp gInS (gVar 3) (gC (.str "abcdefghijklmnopqrstuvwxyz")))) aNil)))))
def g_is_word (M : Mode) : TSx := (sRet (gCall M sp_is_letters (aCons (gVar 0) (aCons (gC (.int 1)) (aCons (gC (.int 8)) aNil)))))
def g_is_pattern (M : Mode) : TSx := (sSeq (sIf (gB (gCall M sp_is_word (aCons (gVar 0) aNil))) (sRet (gC (.bl true))) sNext)
    (sRet (gAndV (gCB gIsi (aCons (gVar 0) (aCons (gC (.raw (.ty "str"))) aNil))) (gAndV (gBM (gStr1 fun a b => .bl (Txt.endswith a b)) (gVar 0) (aCons (gC (.str "*")) aNil)) (gCall M sp_is_letters (aCons (gSli gCut (gVar 0) oNo (oSome (gNeg (gC (.int 1))))) (aCons (gC (.int 0)) (aCons (gOp gSub (gC (.int 8)) (gC (.int 1))) aNil))))))))
def g_suits : TSx := (sIf (gB (gBM (gStr1 fun a b => .bl (Txt.endswith a b)) (gVar 0) (aCons (gC (.str "*")) aNil))) (sRet (gBM (gStr1 fun a b => .bl (Txt.startswith a b)) (gVar 1) (aCons (gSli gCut (gVar 0) oNo (oSome (gNeg (gC (.int 1))))) aNil))) (sRet (gOp gEq (gVar 1) (gVar 0))))
def g_are_patterns (M : Mode) : TSx := (sSeq (sIf (gOr (gNot (gB (gCB gIsi (aCons (gVar 0) (aCons (gC (.raw (.ty "tuple"))) aNil))))) (gOr (gB (gOp gGt (gCB gLen (aCons (gVar 0) aNil)) (gC (.int 12)))) (gNot (gB (gCB gAll (aCons (gLc [1] (iWalk (gVar 0)) (xName 1) gYes (gCall M sp_is_pattern (aCons (gVar 1) aNil))) aNil)))))) (sRet (gC (.bl false))) sNext)
    (sRet (gCB gAll (aCons (gLc [1, 2] (iZp (aCons (gVar 0) (aCons (gSli gCut (gVar 0) (oSome (gC (.int 1))) oNo) aNil))) (xTup 2 (xsCons (xName 1) (xsCons (xName 2) xsNil))) gYes (gOp gLt (gVar 1) (gVar 2))) aNil))))
def g_need_patterns (K : PySem.W.Frag) (M : Mode) : TSx := (sIf (gNot (gB (gCall M sp_are_patterns (aCons (gVar 0) aNil)))) (sRaise (He.ga K "BadPatterns")) sNext)
def g_truths_of (M : Mode) : TSx := (sRet (gCB gTupleOf (aCons (gLc [2] (iWalk (gVar 0)) (xName 2) gYes (gCall M sp_suits (aCons (gVar 2) (aCons (gVar 1) aNil)))) aNil)))
def g__law_mixed (M : Mode) : TSx := (sSeq (sDi M 0 (gOp gAdd (gDi M 0) (gC (.int 1))))
    (sSeq (sAsg2 1 2 (gCB gInt1 (aCons (gDi M 0) aNil)) (gC (.int 0)))
    (sSeq (sFor (iWalk (TL.gLst (aCons (gC (.int 2147483647)) (aCons (gC (.int 2147483629)) (aCons (gC (.int 2147483587)) aNil))))) (xName 3) (sSeq (sSet 4 (gOp gMod (gOp gAdd (gOp gMul (gVar 1) (gC (.int 48271))) (gOp gDiv (gVar 3) (gC (.int 11)))) (gVar 3)))
    (sSeq (sFor (iDc M 0) (xName 5) (sSet 4 (gOp gMod (gOp gAdd (gOp gAdd (gOp gMul (gVar 4) (gC (.int 69621))) (gCB gInt1 (aCons (gVar 5) aNil))) (gVar 1)) (gVar 3))))
    (sSet 2 (gOp gAdd (gOp gMul (gVar 2) (gC (.int 2147483659))) (gOp gMod (gOp gPow (gVar 4) (gC (.int 5))) (gVar 3)))))))
    (sRetV 2))))
def g__law_take (M : Mode) : TSx := (sSeq (sIf (gB (gOp gEq (gDi M 0) (gC (.int 0)))) (sDi M 0 (gDpop M 0 (gCall M sp__law_mixed (aCons (gVar 0) aNil)))) sNext)
    (sSeq (sSet 2 (gOp gMod (gCB gInt1 (aCons (gDi M 0) aNil)) (gVar 1)))
    (sSeq (sDi M 0 (gOp gDiv (gCB gInt1 (aCons (gDi M 0) aNil)) (gVar 1)))
    (sRetV 2))))
def g__law_pick (M : Mode) : TSx := (sRet (gOp gIx (gVar 1) (gCall M sp__law_take (aCons (gVar 0) (aCons (gCB gLen (aCons (gVar 1) aNil)) aNil)))))
def g__law_pattern (M : Mode) : TSx := (sSeq (sSet 2 (gCall M sp__law_pick (aCons (gVar 0) (aCons (gVar 1) aNil))))
    (sSeq (sSet 3 (gCall M sp__law_take (aCons (gVar 0) (aCons (gC (.int 6)) aNil))))
    (sSeq (sIf (gB (gOp gLt (gVar 3) (gC (.int 4)))) (sRetV 2) sNext)
    (sRet (gOp gAdd (gSli gCut (gSli gCut (gVar 2) oNo (oSome (gCall M sp__law_take (aCons (gVar 0) (aCons (gCB gMin2 (aCons (gC (.int 8)) (aCons (gOp gAdd (gCB gLen (aCons (gVar 2) aNil)) (gC (.int 1))) aNil))) aNil))))) oNo (oSome (gC (.int 7)))) (gC (.str "*")))))))
def g__law_vocabulary (M : Mode) : TSx := (sRet (gCall M sp__law_pick (aCons (gVar 0) (aCons (TL.gLst (aCons (TL.gLst (aCons (gC (.str "a")) (aCons (gC (.str "b")) aNil))) (aCons (TL.gLst (aCons (gC (.str "a")) (aCons (gC (.str "ab")) (aCons (gC (.str "b")) aNil)))) (aCons (TL.gLst (aCons (gC (.str "cat")) (aCons (gC (.str "cats")) (aCons (gC (.str "dog")) aNil)))) (aCons (TL.gLst (aCons (gC (.str "x")) (aCons (gC (.str "xy")) (aCons (gC (.str "xyz")) (aCons (gC (.str "y")) aNil))))) (aCons (TL.gLst (aCons (gC (.str "abcdefgh")) (aCons (gC (.str "abcdefg")) (aCons (gC (.str "abc")) aNil)))) (aCons (TL.gLst (aCons (gC (.str "to")) (aCons (gC (.str "be")) (aCons (gC (.str "or")) (aCons (gC (.str "not")) aNil))))) aNil))))))) aNil))))
def g__law_fits : TSx := (sSeq (sIf (gB (gOp gEq (gOp gIx (gVar 0) (gNeg (gC (.int 1)))) (gC (.str "*")))) (sRet (gOp gEq (gSli gCut (gVar 1) oNo (oSome (gOp gSub (gCB gLen (aCons (gVar 0) aNil)) (gC (.int 1))))) (gSli gCut (gVar 0) oNo (oSome (gNeg (gC (.int 1))))))) sNext)
    (sRet (gOp gEq (gVar 1) (gVar 0))))
section
variable {M : Mode} {ts : List T} {q : Sl → Prop} {r : Xn → Prop}
theorem SL {n : Nat} (h : n ≤ 100000 := by decide) : n ≤ sizeLine := by
  rw [sizeLine_eq]
  omega
theorem i_str1 {f : Str → Str → T} {a b : Str} {q : Sl → Prop} (h : q (.sh (f a b))) : gStr1 f (.str a) [.str b] q := h
theorem st_drop {a : TEx} {B : TSx} {τ : List Sl} {k : Kn} (h : a τ (fun _ => B τ k) k.ex) : sSeq (sDrop a) B τ k := h
theorem i_init {i : Nat} {z : Str} {τ : List Sl} {q : Sl → Prop} {r : Xn → Prop} (e : τ[i]? = some (.sh (.str z))) (hl : z.length ≤ sizeLine) (h : q (.sh (.str (cutS z none (some (-1)))))) : gSli gCut (gVar i) oNo (oSome (gNeg (gC (.int 1)))) τ q r :=
  i_var (q := fun s => gCut s.fz none (some (-1)) q) (.str z) e ⟨hl, h⟩
theorem i_take {i j : Nat} {z : Str} {n : Int} {τ : List Sl} {q : Sl → Prop} {r : Xn → Prop} (e : τ[i]? = some (.sh (.str z))) (e2 : τ[j]? = some (.sh (.int n))) (hl : z.length ≤ sizeLine) (h : q (.sh (.str (cutS z none (some n))))) : gSli gCut (gVar i) oNo (oSome (gVar j)) τ q r :=
  i_var (q := fun s => gVar j τ (fun u => isI u.fz fun k => gCut s.fz none (some k) q) r) (.str z) e (i_var (q := fun u => isI u.fz fun k => gCut (.str z) none (some k) q) (.int n) e2 ⟨hl, h⟩)
theorem sem_is_letters (h : sp_is_letters M ts q r) : g_is_letters (startS ["thing", "least", "most", "sign"] ts) (KnOf q r) := K87.sem_is_letters h
theorem sem_is_word (h : sp_is_word M ts q r) : g_is_word M (startS ["thing"] ts) (KnOf q r) := K87.sem_is_word h
theorem sem__law_mixed (h : sp__law_mixed M ts q r) : g__law_mixed M (startS ["draw", "turn", "found", "great", "blend", "cell"] ts) (KnOf q r) := K87.sem__law_mixed h
theorem sem__law_take (h : sp__law_take M ts q r) : g__law_take M (startS ["draw", "amount", "found"] ts) (KnOf q r) := K87.sem__law_take h
theorem sem__law_pick (h : sp__law_pick M ts q r) : g__law_pick M (startS ["draw", "some"] ts) (KnOf q r) := by
  obtain ⟨d, t, xs, rfl, hM, ht, h0, h1, hq⟩ := h
  rcases ht with rfl | rfl | ⟨z, rfl, rfl⟩
  · refine ⟨d, xs.length, rfl, hM, by omega, by omega, fun k k0 k1 => ?_⟩
    obtain ⟨x, e, hx⟩ := atI_mem k0 k1
    show oks (atI xs k) _
    rw [e]
    exact hq x hx
  · refine ⟨d, xs.length, rfl, hM, by omega, by omega, fun k k0 k1 => ?_⟩
    obtain ⟨x, e, hx⟩ := atI_mem k0 k1
    show oks (atI xs k) _
    rw [e]
    exact hq x hx
  · rw [List.length_map] at h0 h1
    have hz : z.length = z.cps.toList.length := len_cps z
    refine ⟨(by rw [sizeLine_eq]; omega), d, z.length, rfl, hM, by omega, by omega, fun k k0 k1 => ?_⟩
    have hk : k.toNat < z.cps.toList.length := by omega
    have e : atI z.cps.toList k = some z.cps.toList[k.toNat] := by
      obtain ⟨n, rfl⟩ := Int.eq_ofNat_of_zero_le k0
      unfold atI
      have e : ixN z.cps.toList.length (n : Int) = some n := by
        unfold ixN
        have : n < z.cps.size := by simpa using hk
        simp [this]
      rw [e]
      have : n < z.cps.size := by simpa using hk
      simp [this]
    refine ⟨(by rw [sizeLine_eq]; omega), ?_⟩
    rw [e]
    exact hq _ (List.mem_map.mpr ⟨_, List.getElem_mem hk, rfl⟩)
theorem tame_of {z : Str} (h : (cps z).length ≤ 100000) : K87.tame (.str z) = true := decide_eq_true (SL (by rw [len_cps]; exact h))
theorem pat_small {z : Str} (h : patL (cps z) = true) : z.length ≤ sizeLine := SL (by rw [len_cps]; have := (pat_len h).2; omega)
theorem isi_str {z : Str} : isiB (.str z) (.raw (.ty "str")) = some true := kit_str_str
theorem isi_tup {xs : List T} : isiB (.tup xs) (.raw (.ty "tuple")) = some true := kit_tuple_tuple
theorem sem_is_pattern (h : sp_is_pattern M ts q r) : g_is_pattern M (startS ["thing"] ts) (KnOf q r) := by
  obtain ⟨z, rfl, hz, hq⟩ := h
  have l := pat_len hz
  refine st_ifN (i_B (i_call (i_cons (i_var (.str z) rfl (i_nil ⟨.str z, rfl, tame_of (by omega), ?_⟩)))))
  rw [word_eq]
  cases hw : wordL (cps z) with
  | true => exact i_isB (ifT rfl (s_ret (i_c hq)))
  | false =>
    refine i_isB (ifF rfl ?_)
    unfold patL at hz
    rw [hw, Bool.false_or] at hz
    simp only [Bool.and_eq_true, decide_eq_true_eq] at hz
    obtain ⟨h1, h2, h3⟩ := hz
    refine s_ret (i_andV (i_cb (i_cons (i_var (.str z) rfl (i_cons (i_c (i_nil (K87.gisi isi_str (i_isB (ifT rfl ?_))))))))))
    refine i_andV (i_bm (i_var (.str z) rfl ⟨⟨[.str STAR], fun _ => True, trivial⟩, i_cons (i_c (i_nil (i_str1 ?_)))⟩))
    show isB (.sh (.bl (Txt.endswith z STAR))) _
    rw [ends_star, h1]
    refine i_isB (ifT rfl (i_call (i_cons (i_init rfl (SL (by rw [len_cps]; omega)) (i_cons (i_c (i_cons ?_)))))))
    refine (show aNil [.sh (.str z)] (fun ts => sp_is_letters M (T.str (cutS z none (some (-1))) :: .int 0 :: .int 7 :: ts) q r) r from ?_)
    refine i_nil ⟨.str (cutS z none (some (-1))), 0, 7, rfl, tame_of (by rw [cps_init, List.length_dropLast]; omega), ?_⟩
    rw [show K87.letB (.str (cutS z none (some (-1)))) 0 7 = K87.letB (.str (cutS z none (some (-1)))) ((0 : Nat) : Int) ((7 : Nat) : Int) from rfl, letB_eq, cps_init, h3]
    rw [decide_eq_true h2]
    exact hq
theorem sem_suits (h : sp_suits M ts q r) : g_suits (startS ["pattern", "word"] ts) (KnOf q r) := by
  obtain ⟨p, z, rfl, hp, hq⟩ := h
  have l := pat_len hp
  unfold suits at hq
  refine s_if (i_B (i_bm (i_var (.str p) rfl ⟨⟨[.str STAR], fun _ => True, trivial⟩, i_cons (i_c (i_nil (i_str1 ?_)))⟩)))
  show isB (.sh (.bl (Txt.endswith p STAR))) _
  rw [ends_star]
  cases hs : star (cps p) with
  | true =>
    rw [hs, if_pos rfl] at hq
    refine i_isB (ifT rfl (s_ret (i_bm (i_var (.str z) rfl ⟨⟨[.str p], fun _ => True, trivial⟩, i_cons (i_init rfl (SL (by rw [len_cps]; omega)) (i_nil (i_str1 ?_)))⟩))))
    show q (.sh (.bl (Txt.startswith z (cutS p none (some (-1))))))
    rw [starts, cps_init]
    exact hq
  | false =>
    rw [hs, if_neg (by decide)] at hq
    refine i_isB (ifF rfl (s_ret (i_op (i_var (.str z) rfl (i_var (.str p) rfl ?_)))))
    show q (.sh (.bl (decide (z = p))))
    have e : decide (z = p) = (cps z == cps p) := by
      rw [Bool.eq_iff_iff, decide_eq_true_eq, beq_iff_eq]
      exact ⟨congrArg cps, cps_inj⟩
    rw [e]
    exact hq
theorem forR_pre {β : Type} {g : TGx} {b : TSx} {k : Kn} (t : β → T) (I : List β → List Sl → Prop) (xs : List β)
    (h : ∀ (pre : List β) (x : β) (post : List β), xs = pre ++ x :: post → ∀ τ, I pre τ → ∀ nx : List Sl → Prop, (∀ τ', I (pre ++ [x]) τ' → nx τ') → g (t x) τ fun τ2 => b τ2 { k with nx := nx, ct := nx, bk := k.nx })
    (h0 : ∀ τ, I xs τ → k.nx τ) : ∀ τ, I [] τ → forR g b k (xs.map t) τ := by
  have go : ∀ (post pre : List β), xs = pre ++ post → ∀ τ, I pre τ → forR g b k (post.map t) τ := by
    intro post
    induction post with
    | nil =>
      intro pre e τ hi
      rw [List.append_nil] at e
      exact h0 τ (e ▸ hi)
    | cons x post ih =>
      intro pre e τ hi
      exact h pre x post e τ hi _ fun τ' hi' => ih (pre ++ [x]) (by rw [e]; simp) τ' hi'
  exact fun τ hi => go xs [] rfl τ hi
theorem range_map (n : Nat) : TL.rangeT 1 n = (List.range' 1 n).map fun i : Nat => T.int (i : Int) := by
  unfold TL.rangeT
  rw [List.range'_eq_map_range, List.map_map]
  refine List.map_congr_left fun i _ => ?_
  show T.int (1 + (i : Int)) = T.int ((1 + i : Nat) : Int)
  congr 1
theorem lcR_pf {β : Type} {i : Nat} {tt : TTx} {te : TEx} {τ : List Sl} {q : List T → Prop} (t : β → T) (p : β → Bool) (f : β → T) : ∀ (xs : List β) (acc : List T), (∀ x ∈ xs, ∀ Q : Bool → Prop, Q (p x) → tt (τ.set i (.sh (t x))) Q rF) → (∀ x ∈ xs, p x = true → ∀ Q : Sl → Prop, Q (.sh (f x)) → te (τ.set i (.sh (t x))) Q rF) →
    acc.length + xs.length ≤ sizeLine → q (acc ++ (xs.filter p).map f) → lcR (xName i) tt te τ q (xs.map t) acc
  | [], acc, _, _, _, k => by
    have z : q (acc ++ []) := k
    rw [List.append_nil] at z
    exact z
  | x :: xs, acc, h1, h2, hl, k => by
    have hl' : acc.length + (xs.length + 1) ≤ sizeLine := hl
    refine h1 x List.mem_cons_self _ ?_
    have r1 : ∀ u ∈ xs, ∀ Q : Bool → Prop, Q (p u) → tt (τ.set i (.sh (t u))) Q rF := fun u hu => h1 u (List.mem_cons_of_mem _ hu)
    have r2 : ∀ u ∈ xs, p u = true → ∀ Q : Sl → Prop, Q (.sh (f u)) → te (τ.set i (.sh (t u))) Q rF := fun u hu => h2 u (List.mem_cons_of_mem _ hu)
    cases hp : p x with
    | true =>
      rw [if_pos rfl]
      refine h2 x List.mem_cons_self hp _ ⟨by omega, lcR_pf t p f xs _ r1 r2 (by rw [List.length_append, List.length_singleton]; omega) ?_⟩
      rw [List.filter_cons_of_pos hp] at k
      rw [List.append_assoc]
      exact k
    | false =>
      rw [if_neg (by decide)]
      refine lcR_pf t p f xs _ r1 r2 (by omega) ?_
      rw [List.filter_cons_of_neg (by rw [hp]; decide)] at k
      exact k
theorem lcR_mf {β : Type} {g : TGx} {te : TEx} {τ : List Sl} {q : List T → Prop} (t : β → T) (f : β → T) (xs : List β) (h : ∀ x ∈ xs, ∀ Q : Sl → Prop, Q (.sh (f x)) → g (t x) τ fun τ2 => te τ2 Q rF) (hl : xs.length ≤ sizeLine) (k : q (xs.map f)) : lcR g gYes te τ q (xs.map t) [] := by
  have go : ∀ (xs : List β) (acc : List T), (∀ x ∈ xs, ∀ Q : Sl → Prop, Q (.sh (f x)) → g (t x) τ fun τ2 => te τ2 Q rF) → acc.length + xs.length ≤ sizeLine → q (acc ++ xs.map f) → lcR g gYes te τ q (xs.map t) acc := by
    intro xs
    induction xs with
    | nil =>
      intro acc _ _ k
      have z : q (acc ++ []) := k
      rw [List.append_nil] at z
      exact z
    | cons x xs ih =>
      intro acc h hl k
      have hl' : acc.length + (xs.length + 1) ≤ sizeLine := hl
      refine h x List.mem_cons_self _ ⟨by omega, ih _ (fun u hu => h u (List.mem_cons_of_mem _ hu)) (by rw [List.length_append, List.length_singleton]; omega) ?_⟩
      rw [List.append_assoc]
      exact k
  exact go xs [] h (by simpa using hl) k
theorem s_lk {i : Nat} {c : Ow} {t : T} {a : TSx} {τ : List Sl} {k : Kn} (e : τ[i]? = some (.oo c)) (el : c.lk = some t) (h : a (τ.set i (.sh t)) k) : sLk i a τ k := by
  unfold sLk
  rw [e]
  show oks c.lk _
  rw [el]
  exact h
theorem s_frz {i : Nat} {c : Ow} {a : TSx} {τ : List Sl} {k : Kn} (e : τ[i]? = some (.oo c)) (h : a (τ.set i (.sh c.fz)) k) : sFrz i a τ k := by
  unfold sFrz frzAt
  rw [e]
  exact h
theorem b_lt {i j : Int} {k : Bool → Prop} (h : k (decide (i < j))) : gLt (.int i) (.int j) (fun s => isB s k) := h
theorem b_gtI {i j : Int} {k : Bool → Prop} (h : k (decide (j < i))) : gGt (.int i) (.int j) (fun s => isB s k) := h
theorem rising_asc : ∀ (l : List Str) (p : Str), risingS p l = true → Asc ((p :: l).map cps)
  | [], p, _ => List.pairwise_singleton _ _
  | x :: r, p, h => by
    have h' : (!ltCps x.cps.toList p.cps.toList && risingS x r) = true := h
    rw [Bool.and_eq_true] at h'
    have ih := rising_asc r x h'.2
    have lt : ¬ cps x < cps p := by
      have z := h'.1
      rw [ltCps_eq] at z
      simpa using z
    rw [List.map_cons]
    refine List.pairwise_cons.mpr ⟨fun y hy => ?_, ih⟩
    rw [List.map_cons] at hy ih
    rcases List.mem_cons.mp hy with e | hy
    · rw [e]; exact lt
    · exact nlt_trans lt ((List.pairwise_cons.mp ih).1 y hy)
theorem sorted_asc {l : List Str} (h : sortedS l = true) : Asc (l.map cps) := by
  cases l with
  | nil => exact .nil
  | cons p l => exact rising_asc l p h
theorem sem_truths_of (h : sp_truths_of M ts q r) : g_truths_of M (startS ["patterns", "word", "pattern"] ts) (KnOf q r) := by
  obtain ⟨ps, z, rfl, P, hq⟩ := h
  refine s_ret (i_cb (i_cons (i_lc (i_walk (i_var (.tup (tps ps)) rfl ?_)))))
  show lcR _ _ _ _ _ (ps.map T.str) []
  refine lcR_mf T.str (fun p => T.bl (suits (cps p) (cps z))) ps (fun p hp Q hQ => ?_) (SL (by have := P.few; omega)) (i_nil ?_)
  · exact x_name (i_call (i_cons (i_var (.str p) rfl (i_cons (i_var (.str z) rfl (i_nil ⟨p, z, rfl, P.ok p hp, hQ⟩))))))
  · show q (.sh (.tup (ps.map fun p => T.bl (suits (cps p) (cps z)))))
    have e : trT (trX (cs ps) (cps z)) = .tup (ps.map fun p => T.bl (suits (cps p) (cps z))) := by
      unfold trT trX cs
      rw [List.map_map, List.map_map]
      rfl
    rw [← e]
    exact hq
theorem cut_one (xs : List T) : cutT xs (some 1) none = xs.drop 1 := by
  unfold cutT
  rw [HT.sIx_none, show (some (1 : Int)) = some ((1 : Nat) : Int) from rfl, HT.sIx_nat]
  cases xs with
  | nil => rfl
  | cons a l =>
    rw [List.length_cons, show min 1 (l.length + 1) = 1 by omega]
    exact List.take_of_length_le (by simp)
theorem zip_next {α : Type} {R : α → α → Prop} : ∀ {l : List α}, l.Pairwise R → ∀ x ∈ l.zip (l.drop 1), R x.1 x.2
  | [], _, x, hx => by simp at hx
  | [a], _, x, hx => by simp at hx
  | a :: b :: l, h, x, hx => by
    obtain ⟨h1, h2⟩ := List.pairwise_cons.mp h
    have hx' : x ∈ (a, b) :: (b :: l).zip ((b :: l).drop 1) := hx
    rcases List.mem_cons.mp hx' with e | hx'
    · rw [e]
      exact h1 b List.mem_cons_self
    · exact zip_next h2 x hx'
theorem zip_tps : ∀ ps : List Str, zipT (tps ps) (cutT (tps ps) (some ((1 : Nat) : Int)) none) = (ps.zip (ps.drop 1)).map fun x => T.tup [.str x.1, .str x.2] := fun ps => by
  rw [show (some ((1 : Nat) : Int)) = some (1 : Int) from rfl, cut_one]
  show List.zipWith _ (ps.map T.str) ((ps.map T.str).drop 1) = _
  rw [← List.map_drop, List.zipWith_map, List.zip, List.map_zipWith]
theorem i_sli1 {i : Nat} {xs : List T} {n : Nat} {τ : List Sl} {q : Sl → Prop} {r : Xn → Prop} (e : τ[i]? = some (.sh (.tup xs))) (h : q (.sh (.tup (cutT xs (some (n : Int)) none)))) : gSli gCut (gVar i) (oSome (gC (.int (n : Int)))) oNo τ q r :=
  i_var (q := fun s => gCut s.fz (some (n : Int)) none q) (.tup xs) e h
theorem x_two {i j : Nat} {s t : T} {τ : List Sl} {ql : List Sl → Prop} (h : ql ((τ.set i (.sh s)).set j (.sh t))) : xTup 2 (xsCons (xName i) (xsCons (xName j) xsNil)) (.tup [s, t]) τ ql := ⟨rfl, rfl, h⟩
theorem PatsOk.all {ps : List Str} (P : PatsOk ps) : ∀ p ∈ cs ps, patL p = true := fun p hp => by
  obtain ⟨y, hy, rfl⟩ := List.mem_map.mp hp
  exact P.ok y hy
theorem i_lenT {xs : List T} {q : Sl → Prop} (h : q (.sh (.int xs.length))) : gLen [Sl.fz (.sh (.tup xs))] q := h
theorem blAll_true {β : Type} (xs : List β) : blAll (xs.map fun _ => T.bl true) = some (xs.map fun _ => true) := blAll_map _ xs
theorem sem_are_patterns (h : sp_are_patterns M ts q r) : g_are_patterns M (startS ["thing", "one", "other"] ts) (KnOf q r) := by
  obtain ⟨ps, rfl, P, hq⟩ := h
  have few := P.few
  refine st_ifN (i_or (i_not (i_B (i_cb (i_cons (i_var (.tup (tps ps)) rfl (i_cons (i_c (i_nil (K87.gisi isi_tup (i_isB (ifF (c := !true) rfl (i_or ?_)))))))))))))
  refine i_B (i_op (i_cb (i_cons (i_var (.tup (tps ps)) rfl (i_nil (i_lenT (i_c ?_)))))))
  refine b_gtI (i := ((tps ps).length : Int)) (j := 12) ?_
  refine ifF (decide_eq_false (by show ¬ ((12 : Int) < ((tps ps).length : Int)); rw [List.length_map]; omega)) ?_
  refine i_not (i_B (i_cb (i_cons (i_lc (i_walk (i_var (.tup (tps ps)) rfl ?_))))))
  show lcR _ _ _ _ _ (ps.map T.str) []
  refine lcR_mf T.str (fun _ => T.bl true) ps (fun p hp Q hQ => ?_) (SL (by omega)) (i_nil ?_)
  · exact x_name (i_call (i_cons (i_var (.str p) rfl (i_nil ⟨p, rfl, P.ok p hp, hQ⟩))))
  · show oks (blAll _) _
    rw [blAll_true]
    have e1 : (ps.map fun _ => true).all id = true := by simp
    show (if (!((ps.map fun _ => true).all id)) = true then _ else _)
    rw [e1]
    refine ifF (c := !true) rfl ?_
    refine s_ret (i_cb (i_cons (i_lc ?_)))
    refine i_cons (i_var (.tup (tps ps)) rfl (i_cons (i_sli1 (xs := tps ps) rfl ?_)))
    show lcR _ _ _ _ _ (zipT (tps ps) (cutT (tps ps) (some ((1 : Nat) : Int)) none)) []
    rw [zip_tps]
    refine lcR_mf (fun x : Str × Str => T.tup [.str x.1, .str x.2]) (fun _ => T.bl true) _ (fun x hx Q hQ => ?_) (SL (by rw [List.length_zip]; omega)) (i_nil ?_)
    · have lt := zip_next P.asc x hx
      refine x_two (i_op (i_var (.str x.1) rfl (i_var (.str x.2) rfl ?_)))
      show Q (.sh (.bl (decide (cps x.1 < cps x.2))))
      rw [decide_eq_true lt]
      exact hQ
    · show oks (blAll _) _
      rw [blAll_true]
      have e2 : ((ps.zip (ps.drop 1)).map fun _ => true).all id = true := by simp
      show q (.sh (.bl (((ps.zip (ps.drop 1)).map fun _ => true).all id)))
      rw [e2]
      exact hq
theorem sem_need_patterns {K : PySem.W.Frag} (h : sp_need_patterns M ts q r) : g_need_patterns K M (startS ["patterns"] ts) (KnOf q r) := by
  obtain ⟨ps, rfl, P, hq⟩ := h
  exact s_if (i_not (i_B (i_call (i_cons (i_var (.tup (tps ps)) rfl (i_nil ⟨ps, rfl, P, i_isB (ifF (c := !true) rfl (s_next hq))⟩))))))
def trP (bs : List Bool) : PyData := .tuple (bs.map .bool)
theorem py_bls : ∀ bs : List Bool, pyAll (bs.map T.bl) = some (bs.map .bool)
  | [] => rfl
  | b :: bs => by simp only [List.map_cons, pyAll, py_bls bs, T.py]
theorem py_tr (bs : List Bool) : (trT bs).py = some (trP bs) := by
  unfold trT trP
  simp only [T.py, py_bls, Option.map_some]
theorem eqv_bls : ∀ a b : List Bool, PyData.eqvAll (a.map .bool) (b.map .bool) = decide (a = b)
  | [], [] => rfl
  | [], _ :: _ => rfl
  | _ :: _, [] => rfl
  | x :: a, y :: b => by
    simp only [List.map_cons, PyData.eqvAll, PyData.eqv, eqv_bls a b]
    cases x <;> cases y <;> simp
theorem eqv_tr (a b : List Bool) : PyData.eqv (trP a) (trP b) = decide (a = b) := by
  unfold trP
  simp only [PyData.eqv, eqv_bls]
theorem sm_tr {bs : List Bool} (h : bs.length ≤ 12) : Sm 12 1 (trP bs) :=
  (Sm.tuple (k := 0) (m := 0) (ds := bs.map .bool) (fun d hd => by obtain ⟨b, _, rfl⟩ := List.mem_map.mp hd; exact .bool)).mono (by rw [List.length_map]; omega) (Nat.le_refl _)
theorem tr_len (ps : List Str) (w : Wd) : (trX (cs ps) w).length = ps.length := by simp [trX]
theorem i_sli {g : T → Option Int → Option Int → (Sl → Prop) → Prop} {a : TEx} {lo hi : TOx} {τ : List Sl} {q : Sl → Prop} {r : Xn → Prop} (h : a τ (fun s => lo τ (fun l => hi τ (fun u => g s.fz l u q) r) r) r) : gSli g a lo hi τ q r := h
theorem pat_of {l : Wd} (h1 : l.length ≤ 7) (h2 : l.all isL = true) : patL (l ++ [42]) = true := by
  unfold patL
  have s : star (l ++ [42]) = true := by
    unfold star
    rw [List.getLast?_append]
    rfl
  rw [s, List.dropLast_concat, decide_eq_true h1, h2, Bool.and_self, Bool.and_self, Bool.or_true]
theorem pat_word {w : Wd} (h : wordL w = true) : patL w = true := by
  unfold patL
  rw [h, Bool.true_or]
theorem all_take {l : Wd} (n : Nat) (h : l.all isL = true) : (l.take n).all isL = true :=
  List.all_eq_true.mpr fun c hc => List.all_eq_true.mp h c (List.mem_of_mem_take hc)
theorem all_drop {l : Wd} (n : Nat) (h : l.all isL = true) : (l.drop n).all isL = true :=
  List.all_eq_true.mpr fun c hc => List.all_eq_true.mp h c (List.mem_of_mem_drop hc)
theorem at_last (l : Wd) (h : l ≠ []) : ∃ c, atI l (-1) = some c ∧ l.getLast? = some c := by
  rcases List.eq_nil_or_concat l with rfl | ⟨l', c, rfl⟩
  · exact absurd rfl h
  · refine ⟨c, ?_, by rw [List.concat_eq_append, List.getLast?_append]; rfl⟩
    rw [List.concat_eq_append]
    have e : ixN (l' ++ [c]).length (-1) = some l'.length := by
      unfold ixN
      rw [List.length_append, List.length_singleton, if_neg (by decide), if_pos (by omega)]
      congr 1
      omega
    unfold atI
    rw [e]
    simp
theorem i_starB {i : Nat} {p : Str} {τ : List Sl} {qb : Bool → Prop} {r : Xn → Prop} (e : τ[i]? = some (.sh (.str p))) (hp : patL (cps p) = true) (h : qb (star (cps p))) :
    gB (gOp gEq (gOp gIx (gVar i) (gNeg (gC (.int 1)))) (gC (.str "*"))) τ qb r := by
  have l := pat_len hp
  obtain ⟨c, e1, e2⟩ := at_last (cps p) (fun z => by rw [z] at l; simp at l)
  refine i_B (i_op (i_op (i_var (.str p) e ?_)))
  refine (show p.length ≤ sizeLine ∧ oks (atI (cps p) (-1)) _ from ⟨pat_small hp, ?_⟩)
  rw [e1]
  show qb (decide (mk [c] = STAR))
  have z : star (cps p) = decide (mk [c] = STAR) := by
    unfold star
    rw [e2, Bool.eq_iff_iff, decide_eq_true_eq, beq_iff_eq]
    constructor
    · intro h
      rw [Option.some.inj h]
      exact cps_inj (by rw [cps_mk, cps_star])
    · intro h
      have := congrArg cps h
      rw [cps_mk, cps_star] at this
      rw [(List.cons.inj this).1]
  rw [← z]
  exact h
theorem sem__law_pattern (h : sp__law_pattern M ts q r) : g__law_pattern M (startS ["draw", "some", "word", "way"] ts) (KnOf q r) := by
  obtain ⟨d, ws, rfl, hM, h0, h1, hw, hq⟩ := h
  refine st_set (i_call (i_cons (i_var (.raw (.ref d)) rfl (i_cons (i_var (.lst (tps ws)) rfl (i_nil ⟨d, .lst (tps ws), tps ws, rfl, hM, .inl rfl, by rw [List.length_map]; exact h0, by rw [List.length_map]; omega, fun x hx => ?_⟩))))))
  obtain ⟨w, mw, rfl⟩ := List.mem_map.mp hx
  have ww := hw w mw
  have wl := word_len ww
  refine st_set (i_call (i_cons (i_var (.raw (.ref d)) rfl (i_cons (i_c (i_nil ⟨d, 6, rfl, hM, by decide, by decide, fun k k0 k1 => ?_⟩))))))
  refine st_ifN (i_B (i_op (i_var (.int k) rfl (i_c ?_))))
  refine b_lt ?_
  by_cases h4 : k < 4
  · exact ifT (decide_eq_true h4) (hq w (pat_word ww))
  · refine ifF (decide_eq_false h4) (s_ret (i_op (i_sli (i_sli (i_var (.str w) rfl ?_)))))
    refine i_call (i_cons (i_var (.raw (.ref d)) rfl (i_cons (i_cb (i_cons (i_c (i_cons (i_op (i_cb (i_cons (i_var (.str w) rfl (i_nil ?_))))))))))))
    have hl : w.length ≤ sizeLine := SL (by rw [len_cps]; omega)
    refine ⟨hl, i_c ?_⟩
    have lw := len_cps w
    refine ⟨d, if (w.length : Int) + 1 < 8 then (w.length : Int) + 1 else 8, rfl, hM, by split <;> omega, by split <;> omega, fun n n0 n1 => ?_⟩
    refine (show w.length ≤ sizeLine ∧ _ from ⟨hl, ?_⟩)
    have l2 : (cutS w none (some n)).length ≤ sizeLine := SL (by rw [len_cps, cut_pos n0, List.length_take]; omega)
    refine (show (cutS w none (some n)).length ≤ sizeLine ∧ _ from ⟨l2, i_c ?_⟩)
    have e7 : cps (cutS (cutS w none (some n)) none (some 7)) = ((cps w).take n.toNat).take 7 := by
      rw [show (some (7 : Int)) = some ((7 : Nat) : Int) from rfl, cps_take, cut_pos n0]
    have l3 : (cutS (cutS w none (some n)) none (some 7)).length ≤ 7 := by rw [len_cps, e7, List.length_take]; omega
    refine (show (cutS (cutS w none (some n)) none (some 7)).length + STAR.length ≤ sizeLine ∧ q _ from ⟨SL (by have : STAR.length = 1 := rfl; omega), hq _ ?_⟩)
    rw [cps_app, e7, cps_star]
    exact pat_of (by rw [List.length_take]; omega) (all_take _ (all_take _ (word_all ww)))
theorem sem__law_fits (h : sp__law_fits M ts q r) : g__law_fits (startS ["pattern", "word"] ts) (KnOf q r) := by
  obtain ⟨p, z, rfl, hp, hz, hq⟩ := h
  have l := pat_len hp
  have lz : z.length ≤ sizeLine := SL (by rw [len_cps]; omega)
  refine st_ifN (i_starB rfl hp ?_)
  unfold suits at hq
  cases hs : star (cps p) with
  | true =>
    rw [hs, if_pos rfl] at hq
    refine ifT rfl (s_ret (i_op (i_sli (i_var (.str z) rfl ?_))))
    refine i_op (i_cb (i_cons (i_var (.str p) rfl (i_nil ⟨pat_small hp, i_c ?_⟩))))
    refine (show z.length ≤ sizeLine ∧ _ from ⟨lz, i_init rfl (pat_small hp) ?_⟩)
    show q (.sh (.bl (decide (cutS z none (some ((p.length : Int) - 1)) = cutS p none (some (-1))))))
    have e : decide (cutS z none (some ((p.length : Int) - 1)) = cutS p none (some (-1))) = (cps p).dropLast.isPrefixOf (cps z) := by
      rw [Bool.eq_iff_iff, decide_eq_true_eq, List.isPrefixOf_iff_prefix, List.prefix_iff_eq_take]
      have e1 : cps (cutS z none (some ((p.length : Int) - 1))) = (cps z).take (cps p).dropLast.length := by
        rw [cut_pos (by rw [len_cps]; omega), len_cps, List.length_dropLast]
        congr 1
        omega
      constructor
      · intro h
        rw [← e1, h, cps_init]
      · intro h
        exact cps_inj (by rw [e1, cps_init, ← h])
    rw [e]
    exact hq
  | false =>
    rw [hs, if_neg (by decide)] at hq
    refine ifF rfl (s_ret (i_op (i_var (.str z) rfl (i_var (.str p) rfl ?_))))
    show q (.sh (.bl (decide (z = p))))
    have e : decide (z = p) = (cps z == cps p) := by
      rw [Bool.eq_iff_iff, decide_eq_true_eq, beq_iff_eq]
      exact ⟨congrArg cps, cps_inj⟩
    rw [e]
    exact hq
def vocs : List (List Str) := [["a", "b"], ["a", "ab", "b"], ["cat", "cats", "dog"], ["x", "xy", "xyz", "y"], ["abcdefgh", "abcdefg", "abc"], ["to", "be", "or", "not"]]
theorem vocs_ok : ∀ ws ∈ vocs, 0 < ws.length ∧ ws.length ≤ 4 ∧ ∀ w ∈ ws, wordL (cps w) = true := by decide +kernel
theorem sem__law_vocabulary (h : sp__law_vocabulary M ts q r) : g__law_vocabulary M (startS ["draw"] ts) (KnOf q r) := by
  obtain ⟨d, rfl, hM, hq⟩ := h
  refine s_ret (i_call (i_cons (i_var (.raw (.ref d)) rfl (i_cons ?_))))
  refine (show 2 ≤ sizeLine ∧ 3 ≤ sizeLine ∧ 3 ≤ sizeLine ∧ 4 ≤ sizeLine ∧ 3 ≤ sizeLine ∧ 4 ≤ sizeLine ∧ 6 ≤ sizeLine ∧ spPickW M [.raw (.ref d), .lst (vocs.map fun ws => .lst (tps ws))] q r from ⟨SL, SL, SL, SL, SL, SL, SL, ?_⟩)
  refine ⟨d, _, _, rfl, hM, .inl rfl, by decide, by decide, fun x hx => ?_⟩
  obtain ⟨ws, mw, rfl⟩ := List.mem_map.mp hx
  obtain ⟨h1, h2, h3⟩ := vocs_ok ws mw
  exact hq ws h1 h2 h3
theorem i_addL {xs ys : List T} {q : Sl → Prop} (hl : xs.length + ys.length ≤ 100000) (h : q (.ol (xs ++ ys))) : gAdd (.lst xs) (.lst ys) q := ⟨SL hl, h⟩
theorem tps_of : ∀ {xs : List T} {P : Str → Prop}, (∀ t ∈ xs, ∃ z, P z ∧ t = T.str z) → ∃ zs : List Str, xs = tps zs ∧ ∀ z ∈ zs, P z
  | [], _, _ => ⟨[], rfl, fun _ h => absurd h List.not_mem_nil⟩
  | t :: xs, P, h => by
    obtain ⟨z, h1, rfl⟩ := h t List.mem_cons_self
    obtain ⟨zs, e, h2⟩ := tps_of fun u hu => h u (List.mem_cons_of_mem _ hu)
    refine ⟨z :: zs, by rw [e]; rfl, fun y hy => ?_⟩
    rcases List.mem_cons.mp hy with e | hy
    · rw [e]; exact h1
    · exact h2 y hy
theorem i_show {t : T} {d : PyData} {q : Sl → Prop} (e : t.py = some d) (s : ShOk d) (h : q (.sh (.str d.shown))) : gShow [t] q := by
  show oks t.py _
  rw [e]
  exact ⟨s, h⟩
theorem ne_self {z : Str} {q : Sl → Prop} (h : q (.sh (.bl false))) : gNe (.str z) (.str z) q := by
  show q (.sh (.bl (!decide (z = z))))
  rw [decide_eq_true rfl]
  exact h
theorem b_neSelf {z : Str} {k : Bool → Prop} (h : k false) : gNe (.str z) (.str z) (fun s => isB s k) := ne_self h
theorem i_tupL {xs : List T} {q : Sl → Prop} (h : q (.sh (.tup xs))) : gTupleOf [Sl.fz (.ol xs)] q := h
theorem sm_bls {bs : List Bool} (h : bs.length ≤ 12) : ShOk (.list (bs.map .bool)) :=
  ((Sm.list (k := 0) (m := 0) (ds := bs.map .bool) (fun d hd => by obtain ⟨b, _, rfl⟩ := List.mem_map.mp hd; exact .bool)).mono (k' := 12) (m' := 1) (by rw [List.length_map]; omega) (Nat.le_refl _)).sh (by omega) (by omega)
end
end K44
namespace K44
open PySem PySem.Spec PyProof.Rows L2 TL K00
variable [TheW]
/-! ### what a view tells -/
def row (ps : List Str) (z : Str) : List Bool := trX (cs ps) (cps z)
def wordsOf (zs : List Str) : List Str := zs.filter fun z : Str => !decide (z = (".": Str))
def spl : List Str → List (List Str) → List Str → List (List Str)
  | [], done, cur => done ++ [cur]
  | z :: zs, done, cur => if z = (".": Str) then spl zs (done ++ [cur]) [] else spl zs done (cur ++ [z])
def orL (m : Nat) (rows : List (List Bool)) : List Bool := (List.range m).map fun i => rows.any fun r => r[i]?.getD false
def idx (f : Str → Bool) : Nat → List Str → List Nat
  | _, [] => []
  | n, z :: zs => if f z = true then n :: idx f (n + 1) zs else idx f (n + 1) zs
def places (ps ws : List Str) : List (List Nat) := ps.map fun p => idx (fun z => suits (cps p) (cps z)) 0 ws
def intsT (l : List Nat) : T := .tup (l.map fun n : Nat => .int (n : Int))
def allT (ps zs : List Str) : T := .tup (zs.map fun z : Str => if z = (".": Str) then .non else bT (row ps z))
def placesT (ps ws : List Str) : T := .tup ((places ps ws).map intsT)
def countsT (ps ws : List Str) : T := .tup ((places ps ws).map fun l => .int (l.length : Int))
def fieldL (ps ws : List Str) : List Bool := orL ps.length (ws.map (row ps))
def dedup : List (List Bool) → List (List Bool) := fun l => l.foldl (fun acc b => if b ∈ acc then acc else acc ++ [b]) []
def setRows (ps zs : List Str) : List (List Bool) := ((spl zs [] []).map fun s => fieldL ps s).filter fun r => r.any id
def sentT' (ps zs : List Str) : T := .tup ((bSort (dedup (setRows ps zs))).map bT)
def viewOf (ps : List Str) (z : Str) (zs : List Str) : T := if z = ("all" : Str) then allT ps zs else if z = ("places" : Str) then placesT ps (wordsOf zs) else if z = ("counts" : Str) then countsT ps (wordsOf zs) else if z = ("sentence" : Str) then sentT' ps zs else bT (fieldL ps (wordsOf zs))
def viewT (ps : List Str) (z : Str) (texts : List (List Str)) : T := if z = ("document" : Str) then bT (orL ps.length (texts.map fun zs => fieldL ps (wordsOf zs))) else .tup (texts.map (viewOf ps z))
def levels : List Str := ["document", "field", "counts", "sentence", "places", "all"]
/-! ### what is handed in -/
structure FldOk (fs : List Str) : Prop where
  ok : ∀ f ∈ fs, wordL (cps f) = true
  one : 1 ≤ fs.length
  few : fs.length ≤ 3
  asc : fs.Pairwise fun a b => cps a < cps b
structure TxtOk (zs : List Str) : Prop where
  ok : ∀ z ∈ zs, K87.tokS z = true
  few : zs.length ≤ 400
def IsTxt (t : T) (zs : List Str) : Prop := t = .lst (tps zs) ∨ t = .tup (tps zs)
structure DocOk (fs : List Str) (texts : List (List Str)) (kts : List (Key × T)) : Prop where
  n : kts.length = fs.length
  l : texts.length = fs.length
  t : ∀ zs ∈ texts, TxtOk zs
  g : ∀ (i : Nat) (f : Str) (zs : List Str), fs[i]? = some f → texts[i]? = some zs → ∃ t, lookK kts (.inr f) = some t ∧ IsTxt t zs
/-! ### what the defs promise -/
abbrev sp_is_token := K87.sp_is_token
abbrev sp_is_text := K87.sp_is_text
def isBrk : T → Bool
  | .str z => decide (z = (".": Str))
  | _ => false
def sp_are_fields : SpX := fun _ ts q _ => ∃ fs, ts = [.tup (tps fs)] ∧ FldOk fs ∧ q (.sh (.bl true))
def sp_need_fields : SpX := fun _ ts q _ => ∃ fs, ts = [.tup (tps fs)] ∧ FldOk fs ∧ q (.sh .non)
def sp_is_document : SpX := fun _ ts q _ => ∃ fs texts kts, ts = [.tup (tps fs), .dct kts] ∧ FldOk fs ∧ DocOk fs texts kts ∧ q (.sh (.bl true))
def sp_need_document : SpX := fun _ ts q _ => ∃ fs texts kts, ts = [.tup (tps fs), .dct kts] ∧ FldOk fs ∧ DocOk fs texts kts ∧ q (.sh .non)
def sp_words_of : SpX := fun _ ts q _ => ∃ t zs, ts = [t] ∧ IsTxt t zs ∧ TxtOk zs ∧ q (.ol (tps (wordsOf zs)))
def sp_sentences_of : SpX := fun _ ts q _ => ∃ t zs, ts = [t] ∧ IsTxt t zs ∧ TxtOk zs ∧ q (.ol (((spl zs [] []).filter fun s => !decide (s = [])).map fun s => .lst (tps s)))
def sp_need_level : SpX := fun _ ts q _ => ∃ z, ts = [.str z] ∧ z ∈ levels ∧ q (.sh .non)
def sp_any_of : SpX := fun _ ts q _ => ∃ t rows m, ts = [t, .int ((m : Nat) : Int)] ∧ (t = .lst (rows.map bT) ∨ t = .tup (rows.map bT)) ∧ (∀ r ∈ rows, r.length = m) ∧ m ≤ 12 ∧ rows.length ≤ 1000 ∧ q (.sh (bT (orL m rows)))
def sp_places_in : SpX := fun _ ts q _ => ∃ ps ws, ts = [.tup (tps ps), .lst (tps ws)] ∧ PatsOk ps ∧ ws.length ≤ 400 ∧ q (.sh (placesT ps ws))
def sp_view_of : SpX := fun _ ts q _ => ∃ ps z t zs, ts = [.tup (tps ps), .str z, t] ∧ PatsOk ps ∧ IsTxt t zs ∧ TxtOk zs ∧ q (.sh (viewOf ps z zs))
def sp_view : SpX := fun _ ts q _ => ∃ fs ps z texts kts, ts = [.tup (tps fs), .tup (tps ps), .str z, .dct kts] ∧ FldOk fs ∧ PatsOk ps ∧ z ∈ levels ∧ DocOk fs texts kts ∧ q (.sh (viewT ps z texts))
def sp__law_fields : SpX := fun M ts q _ => ∃ d, ts = [.raw (.ref d)] ∧ IsDM M d ∧ ∀ fs, FldOk fs → q (.sh (.tup (tps fs)))
def sp__law_sentences : SpX := fun _ ts q _ => ∃ t zs, ts = [t] ∧ IsTxt t zs ∧ TxtOk zs ∧ q (.ol ((spl zs [] []).map fun s => .lst (tps s)))
def docK (fs : List Str) (texts : List (List Str)) : List (Key × T) := List.zipWith (fun f zs => ((.inr f : Key), T.lst (tps zs))) fs texts
def sp__law_document : SpX := fun M ts q _ => ∃ d fs ws n, ts = [.raw (.ref d), .tup (tps fs), .lst (tps ws), .int ((n : Nat) : Int)] ∧ IsDM M d ∧ FldOk fs ∧ n ≤ 20 ∧ ws.length ≤ 100 ∧ (∀ w ∈ ws, K87.tokS w = true) ∧
  ∀ texts : List (List Str), texts.length = fs.length → (∀ zs ∈ texts, zs.length ≤ 20 ∧ ∀ z ∈ zs, K87.tokS z = true) → q (.od (docK fs texts))
def sp__law_says : SpX := fun _ ts q _ => ∃ t u d, ts = [t, u] ∧ t.py = some d ∧ u.py = some d ∧ ShOk d ∧ q (.sh (.bl true))
def sp__law_chain : SpX := fun _ ts q _ => ∃ ps z, ts = [.tup (tps ps), .str z] ∧ PatsOk ps ∧ (cps z).length ≤ 8 ∧ q (.sh (bT (row ps z)))
abbrev sp__law_joined_truths := sp_any_of
def sp__law_view_of : SpX := fun _ ts q _ => ∃ ps z t zs, ts = [.tup (tps ps), .str z, t] ∧ PatsOk ps ∧ IsTxt t zs ∧ TxtOk zs ∧ (dedup (setRows ps zs)).length < 60 ∧ q (.sh (viewOf ps z zs))
def sp__law_view : SpX := fun _ ts q _ => ∃ fs ps z texts kts, ts = [.tup (tps fs), .tup (tps ps), .str z, .dct kts] ∧ FldOk fs ∧ PatsOk ps ∧ DocOk fs texts kts ∧ (∀ zs ∈ texts, (dedup (setRows ps zs)).length < 60) ∧ q (.sh (viewT ps z texts))
def sp__law_levels : SpX := fun _ ts q _ => ts = [] ∧ q (.ol (tps levels))
def sp__law_patterns_drawn : SpX := fun M ts q _ => ∃ d, ts = [.raw (.ref d)] ∧ IsDM M d ∧ ∀ ps, PatsOk ps → q (.sh (.tup (tps ps)))
def sp__law_near_document : SpX := fun M ts q _ => ∃ d fs texts ws, ts = [.raw (.ref d), .tup (tps fs), .dct (docK fs texts), .lst (tps ws)] ∧ IsDM M d ∧ FldOk fs ∧ texts.length = fs.length ∧ (∀ zs ∈ texts, zs.length ≤ 20 ∧ ∀ z ∈ zs, K87.tokS z = true) ∧ 0 < ws.length ∧ ws.length ≤ 100 ∧ (∀ w ∈ ws, K87.tokS w = true) ∧
  ∀ texts' : List (List Str), texts'.length = fs.length → (∀ zs ∈ texts', zs.length ≤ 40 ∧ ∀ z ∈ zs, K87.tokS z = true) → q (.od (docK fs texts'))
def sp__law_right : SpX := fun M ts q _ => ∃ d, ts = [.raw (.ref d)] ∧ IsDM M d ∧ q (.sh (.bl true))
/-! ### readings of the defs -/
def g_is_token (M : Mode) : TSx := (sRet (gOrV (gCall M sp_is_word (aCons (gVar 0) aNil)) (gAndV (gCB gIsi (aCons (gVar 0) (aCons (gC (.raw (.ty "str"))) aNil))) (gOp gEq (gVar 0) (gC (.str "."))))))
def g_is_text (M : Mode) : TSx := (sRet (gAndV (gIsiT ["list", "tuple"] (gVar 0)) (gAndV (gOp gLe (gCB gLen (aCons (gVar 0) aNil)) (gC (.int 400))) (gCB gAll (aCons (gLc [1] (iWalk (gVar 0)) (xName 1) gYes (gCall M sp_is_token (aCons (gVar 1) aNil))) aNil)))))
def g_are_fields (M : Mode) : TSx := (sSeq (sIf (gOr (gNot (gB (gCB gIsi (aCons (gVar 0) (aCons (gC (.raw (.ty "tuple"))) aNil))))) (gOr (gNot (gB (gChain gLe gLe (gC (.int 1)) (gCB gLen (aCons (gVar 0) aNil)) (gC (.int 3))))) (gNot (gB (gCB gAll (aCons (gLc [1] (iWalk (gVar 0)) (xName 1) gYes (gCall M sp_is_word (aCons (gVar 1) aNil))) aNil)))))) (sRet (gC (.bl false))) sNext)
    (sRet (gCB gAll (aCons (gLc [2, 3] (iZp (aCons (gVar 0) (aCons (gSli gCut (gVar 0) (oSome (gC (.int 1))) oNo) aNil))) (xTup 2 (xsCons (xName 2) (xsCons (xName 3) xsNil))) gYes (gOp gLt (gVar 2) (gVar 3))) aNil))))
def g_need_fields (K : PySem.W.Frag) (M : Mode) : TSx := (sIf (gNot (gB (gCall M sp_are_fields (aCons (gVar 0) aNil)))) (sRaise (He.ga K "BadFields")) sNext)
def g_is_document (M : Mode) : TSx := (sSeq (sDrop (gCall M sp_need_fields (aCons (gVar 0) aNil)))
    (sSeq (sIf (gOr (gNot (gB (gCB gIsi (aCons (gVar 1) (aCons (gC (.raw (.ty "dict"))) aNil))))) (gB (gOp gNe (gCB gLenX (aCons (gVar 1) aNil)) (gCB gLen (aCons (gVar 0) aNil))))) (sRet (gC (.bl false))) sNext)
    (sRet (gCB gAll (aCons (gLc [2] (iWalk (gVar 0)) (xName 2) gYes (gAndV (gDIn id (gVar 2) (gVar 1)) (gCall M sp_is_text (aCons (gDget (gVar 1) (gVar 2)) aNil)))) aNil)))))
def g_need_document (K : PySem.W.Frag) (M : Mode) : TSx := (sIf (gNot (gB (gCall M sp_is_document (aCons (gVar 0) (aCons (gVar 1) aNil))))) (sRaise (He.ga K "BadDocument")) sNext)
def g_words_of : TSx := (sRet (gLc [1] (iWalk (gVar 0)) (xName 1) (gB (gOp gNe (gVar 1) (gC (.str ".")))) (gVar 1)))
def g_sentences_of : TSx := (sSeq (sSent 1 2 (iWalk (gVar 0)) (gB (gOp gEq (gVar 2) (gC (.str ".")))) isBrk) (sFrz 1 (sRet (gLc [3] (iWalk (gVar 1)) (xName 3) (gB (gOp gNe (gVar 3) (TL.gLst aNil))) (gVar 3)))))
def g_need_level (K : PySem.W.Frag) : TSx := (sIf (gOr (gNot (gB (gCB gIsi (aCons (gVar 0) (aCons (gC (.raw (.ty "str"))) aNil))))) (gB (gOp (gInF true) (gVar 0) (gC (.tup ((["document", "field", "counts", "sentence", "places", "all"] : List Str).map T.str)))))) (sRaise (He.ga K "BadLevel")) sNext)
def g_any_of : TSx := (sRet (gCB gTupleOf (aCons (gLc [2] (iR1 (aCons (gVar 1) aNil)) (xName 2) gYes (gCB gAny (aCons (gLc [3] (iWalk (gVar 0)) (xName 3) gYes (gOp gIx (gVar 3) (gVar 2))) aNil))) aNil)))
def g_places_in (M : Mode) : TSx := (sSeq (sAsg2 2 3 (gLc [5] (iWalk (gVar 1)) (xName 5) gYes (gCall M sp_truths_of (aCons (gVar 0) (aCons (gVar 5) aNil)))) (TL.gLst aNil))
    (sSeq (sFrz 2 (sFor (iR1 (aCons (gCB gLen (aCons (gVar 0) aNil)) aNil)) (xName 4) (sApp 3 (gCB gTupleOf (aCons (gLc [6, 7] (iEn (aCons (gVar 2) aNil)) (xTup 2 (xsCons (xName 6) (xsCons (xName 7) xsNil))) (gB (gOp gIx (gVar 7) (gVar 4))) (gVar 6)) aNil)))))
    (sFrz 3 (sRet (gCB gTupleOf (aCons (gVar 3) aNil))))))
def g_view_of (M : Mode) : TSx := (sSeq (sSet 3 (gCall M sp_words_of (aCons (gVar 2) aNil)))
    (sSeq (sFrz 3 (sIf (gB (gOp gEq (gVar 1) (gC (.str "all")))) (sRet (gCB gTupleOf (aCons (gLc [5] (iWalk (gVar 2)) (xName 5) gYes (gIf (gB (gOp gEq (gVar 5) (gC (.str ".")))) (gC .non) (gCall M sp_truths_of (aCons (gVar 0) (aCons (gVar 5) aNil))))) aNil))) sNext))
    (sSeq (sIf (gB (gOp gEq (gVar 1) (gC (.str "places")))) (sRet (gCall M sp_places_in (aCons (gVar 0) (aCons (gVar 3) aNil)))) sNext)
    (sSeq (sIf (gB (gOp gEq (gVar 1) (gC (.str "counts")))) (sRet (gCB gTupleOf (aCons (gLc [6] (iWalk (gCall M sp_places_in (aCons (gVar 0) (aCons (gVar 3) aNil)))) (xName 6) gYes (gCB gLen (aCons (gVar 6) aNil))) aNil))) sNext)
    (sSeq (sIf (gB (gOp gEq (gVar 1) (gC (.str "sentence")))) (sSeq (sSet 4 (gLc [7] (iWalk (gCall M sp_sentences_of (aCons (gVar 2) aNil))) (xName 7) gYes (gCall M sp_any_of (aCons (gLc [8] (iWalk (gVar 7)) (xName 8) gYes (gCall M sp_truths_of (aCons (gVar 0) (aCons (gVar 8) aNil)))) (aCons (gCB gLen (aCons (gVar 0) aNil)) aNil)))))
    (sFrz 4 (sRet (gCB gTupleOf (aCons (gSortDc [9] (iWalk (gVar 4)) (xName 9) (gB (gCB gAnyX (aCons (gVar 9) aNil))) (gVar 9) (gC (.bl true))) aNil))))) sNext)
    (sRet (gCall M sp_any_of (aCons (gLc [8] (iWalk (gVar 3)) (xName 8) gYes (gCall M sp_truths_of (aCons (gVar 0) (aCons (gVar 8) aNil)))) (aCons (gCB gLen (aCons (gVar 0) aNil)) aNil)))))))))
def g_view (M : Mode) : TSx := (sSeq (sDrop (gCall M sp_need_fields (aCons (gVar 0) aNil)))
    (sSeq (sDrop (gCall M sp_need_patterns (aCons (gVar 1) aNil)))
    (sSeq (sDrop (gCall M sp_need_level (aCons (gVar 2) aNil)))
    (sSeq (sDrop (gCall M sp_need_document (aCons (gVar 0) (aCons (gVar 3) aNil))))
    (sSeq (sSet 4 (gCB gTupleOf (aCons (gLc [5] (iWalk (gVar 0)) (xName 5) gYes (gCall M sp_view_of (aCons (gVar 1) (aCons (gVar 2) (aCons (gDget (gVar 3) (gVar 5)) aNil))))) aNil)))
    (sIf (gB (gOp gEq (gVar 2) (gC (.str "document")))) (sRet (gCall M sp_any_of (aCons (gVar 4) (aCons (gCB gLen (aCons (gVar 1) aNil)) aNil)))) (sRetV 4)))))))
def g__law_fields (M : Mode) : TSx := (sRet (gCall M sp__law_pick (aCons (gVar 0) (aCons (TL.gLst (aCons (TL.gTup (aCons (gC (.str "body")) aNil)) (aCons (TL.gTup (aCons (gC (.str "body")) aNil)) (aCons (TL.gTup (aCons (gC (.str "body")) (aCons (gC (.str "title")) aNil))) (aCons (TL.gTup (aCons (gC (.str "a")) (aCons (gC (.str "body")) (aCons (gC (.str "zebra")) aNil)))) aNil))))) aNil))))
def g__law_sentences : TSx := (sSeq (sSet 1 (TL.gLst (aCons (TL.gLst aNil) aNil)))
    (sSeq (sFor (iWalk (gVar 0)) (xName 2) (sFrz 1 (sSet 1 (gIf (gB (gOp gEq (gVar 2) (gC (.str ".")))) (gOp gAdd (gVar 1) (TL.gLst (aCons (TL.gLst aNil) aNil))) (gOp gAdd (gSli gCut (gVar 1) oNo (oSome (gNeg (gC (.int 1))))) (TL.gLst (aCons (gOp gAdd (gOp gIx (gVar 1) (gNeg (gC (.int 1)))) (TL.gLst (aCons (gVar 2) aNil))) aNil)))))))
    (sRetV 1)))
def g__law_document (M : Mode) : TSx := (sSeq (sSet 4 gD0)
    (sSeq (sFor (iWalk (gVar 1)) (xName 5) (sDp 4 (gVar 5) (gLc [6] (iR1 (aCons (gCall M sp__law_take (aCons (gVar 0) (aCons (gOp gAdd (gVar 3) (gC (.int 1))) aNil))) aNil)) (xName 6) gYes (gCall M sp__law_pick (aCons (gVar 0) (aCons (gOp gAdd (gOp gAdd (gVar 2) (gVar 2)) (TL.gLst (aCons (gC (.str ".")) aNil))) aNil))))))
    (sRetV 4)))
def g__law_says : TSx := (sRet (gOp gEq (gCB gShow (aCons (gVar 0) aNil)) (gCB gShow (aCons (gVar 1) aNil))))
def g__law_chain (M : Mode) : TSx := (sRet (gCB gTupleOf (aCons (gLc [2] (iWalk (gVar 0)) (xName 2) gYes (gCall M sp__law_fits (aCons (gVar 2) (aCons (gVar 1) aNil)))) aNil)))
def g__law_joined_truths : TSx := (sRet (gCB gTupleOf (aCons (gLc [2] (iR1 (aCons (gVar 1) aNil)) (xName 2) gYes (gOp (gInF false) (gC (.bl true)) (gLc [3] (iWalk (gVar 0)) (xName 3) gYes (gOp gIx (gVar 3) (gVar 2))))) aNil)))
def g__law_view_of (M : Mode) : TSx := (sSeq (sSet 3 (gLc [6] (iWalk (gVar 2)) (xName 6) (gB (gOp gNe (gVar 6) (gC (.str ".")))) (gVar 6)))
    (sSeq (sFrz 3 (sIf (gB (gOp gEq (gVar 1) (gC (.str "all")))) (sRet (gCB gTupleOf (aCons (gLc [6] (iWalk (gVar 2)) (xName 6) gYes (gIf (gB (gOp gEq (gVar 6) (gC (.str ".")))) (gC .non) (gCall M sp__law_chain (aCons (gVar 0) (aCons (gVar 6) aNil))))) aNil))) sNext))
    (sSeq (sSet 4 (gCB gTupleOf (aCons (gLc [7] (iWalk (gVar 0)) (xName 7) gYes (gCB gTupleOf (aCons (gLc [8, 9] (iEn (aCons (gVar 3) aNil)) (xTup 2 (xsCons (xName 8) (xsCons (xName 9) xsNil))) (gB (gCall M sp__law_fits (aCons (gVar 7) (aCons (gVar 9) aNil)))) (gVar 8)) aNil))) aNil)))
    (sSeq (sIf (gB (gOp gEq (gVar 1) (gC (.str "places")))) (sRetV 4) sNext)
    (sSeq (sIf (gB (gOp gEq (gVar 1) (gC (.str "counts")))) (sRet (gCB gTupleOf (aCons (gLc [10] (iWalk (gVar 4)) (xName 10) gYes (gCB gLen (aCons (gVar 10) aNil))) aNil))) sNext)
    (sSeq (sIf (gB (gOp gEq (gVar 1) (gC (.str "sentence")))) (sSeq (sSet 5 (gLc [10] (iWalk (gCall M sp__law_sentences (aCons (gVar 2) aNil))) (xName 10) gYes (gCall M sp__law_joined_truths (aCons (gLc [9] (iWalk (gVar 10)) (xName 9) gYes (gCall M sp__law_chain (aCons (gVar 0) (aCons (gVar 9) aNil)))) (aCons (gCB gLen (aCons (gVar 0) aNil)) aNil)))))
    (sFrz 5 (sRet (gCB gTupleOf (aCons (gSortSet (aCons (gLc [11] (iWalk (gVar 5)) (xName 11) (gB (gOp (gInF false) (gC (.bl true)) (gVar 11))) (gVar 11)) aNil)) aNil))))) sNext)
    (sRet (gCB gTupleOf (aCons (gLc [10] (iWalk (gVar 4)) (xName 10) gYes (gOp gNe (gVar 10) (TL.gTup aNil))) aNil)))))))))
def g__law_view (M : Mode) : TSx := (sSeq (sSet 4 (gCB gTupleOf (aCons (gLc [5] (iWalk (gVar 0)) (xName 5) gYes (gCall M sp__law_view_of (aCons (gVar 1) (aCons (gVar 2) (aCons (gDget (gVar 3) (gVar 5)) aNil))))) aNil)))
    (sIf (gB (gOp gEq (gVar 2) (gC (.str "document")))) (sRet (gCall M sp__law_joined_truths (aCons (gVar 4) (aCons (gCB gLen (aCons (gVar 1) aNil)) aNil)))) (sRetV 4)))
def g__law_levels : TSx := (sRet (TL.gLst (aCons (gC (.str "document")) (aCons (gC (.str "field")) (aCons (gC (.str "counts")) (aCons (gC (.str "sentence")) (aCons (gC (.str "places")) (aCons (gC (.str "all")) aNil))))))))
def g__law_patterns_drawn (M : Mode) : TSx := (sSeq (sSet 1 (gOp gAdd (gCall M sp__law_vocabulary (aCons (gVar 0) aNil)) (gCall M sp__law_pick (aCons (gVar 0) (aCons (TL.gLst (aCons (TL.gLst aNil) (aCons (TL.gLst (aCons (gC (.str "zebra")) (aCons (gC (.str "zoo")) (aCons (gC (.str "z")) aNil)))) (aCons (TL.gLst (aCons (gC (.str "be")) (aCons (gC (.str "bee")) (aCons (gC (.str "beef")) (aCons (gC (.str "bees")) (aCons (gC (.str "beet")) aNil)))))) aNil)))) aNil)))))
    (sFrz 1 (sRet (gCB gTupleOf (aCons (gCB gSorted (aCons (gCB gSetOf (aCons (gLc [2] (iR1 (aCons (gCall M sp__law_pick (aCons (gVar 0) (aCons (TL.gLst (aCons (gC (.int 0)) (aCons (gC (.int 1)) (aCons (gC (.int 2)) (aCons (gC (.int 3)) (aCons (gC (.int 6)) (aCons (gC (.int 12)) aNil))))))) aNil))) aNil)) (xName 2) gYes (gCall M sp__law_pattern (aCons (gVar 0) (aCons (gVar 1) aNil)))) aNil)) aNil)) aNil)))))
def g__law_near_document (M : Mode) : TSx := (sSeq (sSet 4 (gCB gDictP (aCons (gLc [5] (iWalk (gVar 1)) (xName 5) gYes (TL.gTup (aCons (gVar 5) (aCons (gCB gListOf (aCons (gDget (gVar 2) (gVar 5)) aNil)) aNil)))) aNil)))
    (sSeq (sSet 5 (gCall M sp__law_pick (aCons (gVar 0) (aCons (gCB gListOf (aCons (gVar 1) aNil)) aNil))))
    (sSeq (sAsg2 6 7 (gOd 4 (gVar 5)) (gCall M sp__law_take (aCons (gVar 0) (aCons (gC (.int 6)) aNil))))
    (sSeq (sSet 8 (gCall M sp__law_take (aCons (gVar 0) (aCons (gOp gAdd (gCB gLen (aCons (gVar 6) aNil)) (gC (.int 1))) aNil))))
    (sSeq (sIf (gOr (gB (gOp gEq (gVar 7) (gC (.int 0)))) (gB (gOp gEq (gVar 6) (TL.gLst aNil)))) (sDp 4 (gVar 5) (gOp gAdd (gOp gAdd (gSli gCut (gVar 6) oNo (oSome (gVar 8))) (TL.gLst (aCons (gC (.str ".")) aNil))) (gSli gCut (gVar 6) (oSome (gVar 8)) oNo))) (sIf (gB (gOp gEq (gVar 7) (gC (.int 1)))) (sDp 4 (gVar 5) (gLc [9] (iWalk (gVar 6)) (xName 9) (gB (gOp gNe (gVar 9) (gC (.str ".")))) (gVar 9))) (sIf (gB (gOp gEq (gVar 7) (gC (.int 2)))) (sDp 4 (gVar 5) (gOp gAdd (gSli gCut (gVar 6) oNo (oSome (gVar 8))) (gRevL (gSli gCut (gVar 6) (oSome (gVar 8)) oNo)))) (sIf (gB (gOp gEq (gVar 7) (gC (.int 3)))) (sDp 4 (gVar 5) (gOp gAdd (gVar 6) (TL.gLst (aCons (gCall M sp__law_pick (aCons (gVar 0) (aCons (gVar 3) aNil))) aNil)))) (sIf (gB (gOp gEq (gVar 7) (gC (.int 4)))) (sDp 4 (gVar 5) (gOp gAdd (gSli gCut (gVar 6) oNo (oSome (gVar 8))) (gSli gCut (gVar 6) (oSome (gOp gAdd (gVar 8) (gC (.int 1)))) oNo))) (sDp 4 (gVar 5) (gOp gAdd (gVar 6) (gVar 6))))))))
    (sRetV 4))))))
def g__law_right (M : Mode) : TSx := (sSeq (sAsg2 1 2 (gCall M sp__law_fields (aCons (gVar 0) aNil)) (gCall M sp__law_patterns_drawn (aCons (gVar 0) aNil)))
    (sSeq (sSet 3 (gOp gAdd (gOp gAdd (gCall M sp__law_vocabulary (aCons (gVar 0) aNil)) (gLc [11] (iWalk (gVar 2)) (xName 11) (gB (gOp (gInF true) (gVar 11) (TL.gLst (aCons (gC (.str "*")) aNil)))) (gRepl "*" "" (gVar 11)))) (TL.gLst (aCons (gC (.str "q")) aNil))))
    (sSeq (sFrz 3 (sSet 4 (gCall M sp__law_document (aCons (gVar 0) (aCons (gVar 1) (aCons (gVar 3) (aCons (gCall M sp__law_pick (aCons (gVar 0) (aCons (TL.gLst (aCons (gC (.int 3)) (aCons (gC (.int 9)) (aCons (gC (.int 20)) aNil)))) aNil))) aNil)))))))
    (sSeq (sFrz 4 (sSet 5 (gCall M sp__law_near_document (aCons (gVar 0) (aCons (gVar 1) (aCons (gVar 4) (aCons (gVar 3) aNil)))))))
    (sSeq (sSet 6 (TL.gLst aNil))
    (sSeq (sFrz 5 (sFor (iWalk (gCall M sp__law_levels aNil)) (xName 7) (sSeq (sSet 8 (gLc [12] (iWalk (TL.gLst (aCons (gVar 4) (aCons (gVar 5) aNil)))) (xName 12) gYes (gCall M sp__law_view (aCons (gVar 1) (aCons (gVar 2) (aCons (gVar 7) (aCons (gVar 12) aNil)))))))
    (sSeq (sSet 9 (gCB gDictP (aCons (gLc [13] (iWalk (gVar 1)) (xName 13) gYes (TL.gTup (aCons (gVar 13) (aCons (gCB gTupleOf (aCons (gDget (gVar 5) (gVar 13)) aNil)) aNil)))) aNil)))
    (sSeq (sFrz 9 (sFrz 8 (sIf (gNot (gB (gCall M sp__law_says (aCons (TL.gLst (aCons (gCall M sp_view (aCons (gVar 1) (aCons (gVar 2) (aCons (gVar 7) (aCons (gVar 4) aNil))))) (aCons (gCallW M sp_view [3, 2, 1, 0] (aCons (gVar 9) (aCons (gVar 7) (aCons (gVar 2) (aCons (gVar 1) aNil))))) aNil))) (aCons (gVar 8) aNil))))) (sFrz 10 (sFrz 6 (sRet (gC (.bl false))))) sNext)))
    (sApp 6 (gOp gEq (gOp gIx (gVar 8) (gC (.int 0))) (gOp gIx (gVar 8) (gC (.int 1))))))))))
    (sSeq (sSet 10 (TL.gLst (aCons (TL.gTup (aCons (gC (.int 0)) (aCons (gC (.int 1)) aNil))) (aCons (TL.gTup (aCons (gC (.int 1)) (aCons (gC (.int 2)) aNil))) (aCons (TL.gTup (aCons (gC (.int 2)) (aCons (gC (.int 4)) aNil))) (aCons (TL.gTup (aCons (gC (.int 4)) (aCons (gC (.int 5)) aNil))) (aCons (TL.gTup (aCons (gC (.int 1)) (aCons (gC (.int 3)) aNil))) (aCons (TL.gTup (aCons (gC (.int 3)) (aCons (gC (.int 5)) aNil))) aNil))))))))
    (sFrz 10 (sFrz 6 (sRet (gOp gEq (gLc [14, 15] (iWalk (gVar 10)) (xTup 2 (xsCons (xName 14) (xsCons (xName 15) xsNil))) (gAnd (gB (gOp gIx (gVar 6) (gVar 15))) (gNot (gB (gOp gIx (gVar 6) (gVar 14))))) (gC (.int 1))) (TL.gLst aNil))))))))))))
def g_law (M : Mode) : TSx := (sSeq (sFor (iR1 (aCons (gOp gAdd (gC (.int 6)) (gCB gMin2 (aCons (gCB gLen (aCons (gVar 0) aNil)) (aCons (gC (.int 10)) aNil)))) aNil)) (xName 2) (sIf (gNot (gB (gCall M sp__law_right (aCons (gVar 1) aNil)))) (sFrz 6 (sRet (gC (.bl false)))) sNext))
    (sSeq (sSet 3 (gD1 (gC (.str "body")) (gLc [2] (iR1 (aCons (gC (.int 400)) aNil)) (xName 2) gYes (gCall M sp__law_pick (aCons (gVar 1) (aCons (TL.gLst (aCons (gC (.str "a")) (aCons (gC (.str "b")) (aCons (gC (.str ".")) (aCons (gC (.str "ab")) aNil))))) aNil))))))
    (sSeq (sFrz 3 (sFor (iWalk (gCall M sp__law_levels aNil)) (xName 4) (sIf (gNot (gB (gCall M sp__law_says (aCons (gCall M sp_view (aCons (TL.gTup (aCons (gC (.str "body")) aNil)) (aCons (TL.gTup (aCons (gC (.str "a")) (aCons (gC (.str "a*")) aNil))) (aCons (gVar 4) (aCons (gVar 3) aNil))))) (aCons (gCall M sp__law_view (aCons (TL.gTup (aCons (gC (.str "body")) aNil)) (aCons (TL.gTup (aCons (gC (.str "a")) (aCons (gC (.str "a*")) aNil))) (aCons (gVar 4) (aCons (gVar 3) aNil))))) aNil))))) (sFrz 6 (sRet (gC (.bl false)))) sNext)))
    (sSeq (sSet 5 (gD1 (gC (.str "body")) (TL.gLst (aCons (gC (.str "a")) (aCons (gC (.str ".")) (aCons (gC (.str "ab")) (aCons (gC (.str "c")) (aCons (gC (.str ".")) (aCons (gC (.str ".")) aNil)))))))))
    (sSeq (sFrz 5 (sSet 6 (gLc [4] (iWalk (TL.gLst (aCons (gC (.str "document")) (aCons (gC (.str "sentence")) (aCons (gC (.str "places")) (aCons (gC (.str "counts")) aNil)))))) (xName 4) gYes (gCall M sp_view (aCons (TL.gTup (aCons (gC (.str "body")) aNil)) (aCons (TL.gTup (aCons (gC (.str "a")) (aCons (gC (.str "a*")) aNil))) (aCons (gVar 4) (aCons (gVar 5) aNil))))))))
    (sFrz 6 (sRet (gCall M sp__law_says (aCons (gVar 6) (aCons (TL.gLst (aCons (TL.gTup (aCons (gC (.bl true)) (aCons (gC (.bl true)) aNil))) (aCons (TL.gTup (aCons (TL.gTup (aCons (TL.gTup (aCons (gC (.bl false)) (aCons (gC (.bl true)) aNil))) (aCons (TL.gTup (aCons (gC (.bl true)) (aCons (gC (.bl true)) aNil))) aNil))) aNil)) (aCons (TL.gTup (aCons (TL.gTup (aCons (TL.gTup (aCons (gC (.int 0)) aNil)) (aCons (TL.gTup (aCons (gC (.int 0)) (aCons (gC (.int 1)) aNil))) aNil))) aNil)) (aCons (TL.gTup (aCons (TL.gTup (aCons (gC (.int 1)) (aCons (gC (.int 2)) aNil))) aNil)) aNil))))) aNil))))))))))
end K44
namespace K44
open PySem PySem.Spec PyProof.Rows L2 TL K00
variable [TheW]
section
variable {M : Mode} {ts : List T} {q : Sl → Prop} {r : Xn → Prop}
/-! ### tokens -/
theorem tok_or {z : Str} (h : K87.tokS z = true) : wordL (cps z) = true ∨ z = "." := by
  unfold K87.tokS at h
  rw [Bool.or_eq_true] at h
  rcases h with h | h
  · exact .inl (by rw [← word_eq]; exact h)
  · exact .inr (of_decide_eq_true h)
theorem tok_len {z : Str} (h : K87.tokS z = true) : (cps z).length ≤ 8 := by
  rcases tok_or h with h | rfl
  · exact (word_len h).2
  · decide
theorem tok_word {z : Str} (h : wordL (cps z) = true) : K87.tokS z = true := by
  unfold K87.tokS
  rw [show K87.letS z 1 8 = wordL (cps z) from word_eq z, h, Bool.true_or]
theorem tok_brk : K87.tokS "." = true := by decide +kernel
theorem sm_brk : Sm 8 0 (.str ".") := ⟨by decide +kernel, by decide +kernel, by decide +kernel, by decide +kernel, by decide +kernel, by decide +kernel⟩
theorem sm_tok {z : Str} (h : K87.tokS z = true) : Sm 8 0 (.str z) := by
  rcases tok_or h with h | rfl
  · exact Sm.str (word_all h) (word_len h).2
  · exact sm_brk
theorem sm_toks {zs : List Str} (h : ∀ z ∈ zs, K87.tokS z = true) : Sm (9 * zs.length) 1 (.list (zs.map .str)) :=
  (Sm.list (k := 8) (m := 0) (ds := zs.map .str) (fun d hd => by obtain ⟨z, hz, rfl⟩ := List.mem_map.mp hd; exact sm_tok (h z hz))).mono (by rw [List.length_map]; exact Nat.le_refl _) (Nat.le_refl _)
theorem py_strs : ∀ zs : List Str, pyAll (zs.map T.str) = some (zs.map .str)
  | [] => rfl
  | z :: zs => by simp only [List.map_cons, pyAll, py_strs zs, T.py]
/-! ### IsTxt -/
theorem IsTxt.walk {t : T} {zs : List Str} (h : IsTxt t zs) : t.items = some (tps zs) := by
  rcases h with rfl | rfl <;> rfl
theorem IsTxt.isText {t : T} {zs : List Str} (h : IsTxt t zs) (Z : TxtOk zs) : K87.tameX t = true ∧ K87.textB t = true := by
  have a : (tps zs).all K87.tame = true := List.all_eq_true.mpr fun x hx => by
    obtain ⟨z, hz, rfl⟩ := List.mem_map.mp hx
    exact tame_of (Nat.le_trans (tok_len (Z.ok z hz)) (by decide))
  have b : K87.textL (tps zs) = true := by
    unfold K87.textL
    rw [Bool.and_eq_true, decide_eq_true_eq, List.length_map]
    refine ⟨by have := Z.few; omega, List.all_eq_true.mpr fun x hx => ?_⟩
    obtain ⟨z, hz, rfl⟩ := List.mem_map.mp hx
    exact Z.ok z hz
  rcases h with rfl | rfl
  · exact ⟨a, b⟩
  · exact ⟨a, b⟩
theorem sem_is_token (h : sp_is_token M ts q r) : g_is_token M (startS ["thing"] ts) (KnOf q r) := K87.sem_is_token h
theorem sem_is_text (h : sp_is_text M ts q r) : g_is_text M (startS ["thing", "token"] ts) (KnOf q r) := K87.sem_is_text h
/-! ### fields -/
theorem zip_tps' (ps : List Str) : zipT (tps ps) (cutT (tps ps) (some ((1 : Nat) : Int)) none) = (ps.zip (ps.drop 1)).map fun x => T.tup [.str x.1, .str x.2] := zip_tps ps
theorem sem_are_fields (h : sp_are_fields M ts q r) : g_are_fields M (startS ["thing", "name", "one", "other"] ts) (KnOf q r) := by
  obtain ⟨fs, rfl, F, hq⟩ := h
  have few := F.few
  have one := F.one
  refine st_ifN (i_or (i_not (i_B (i_cb (i_cons (i_var (.tup (tps fs)) rfl (i_cons (i_c (i_nil (K87.gisi isi_tup (i_isB (ifF (c := !true) rfl (i_or ?_)))))))))))))
  refine i_not (i_B ?_)
  refine ifT (c := decide ((1 : Int) ≤ ((tps fs).length : Int))) (decide_eq_true (by rw [List.length_map]; omega)) ?_
  refine ifF (c := !decide (((tps fs).length : Int) ≤ 3)) (by rw [decide_eq_true (by rw [List.length_map]; omega)]; rfl) ?_
  refine i_not (i_B (i_cb (i_cons (i_lc (i_walk (i_var (.tup (tps fs)) rfl ?_))))))
  show lcR _ _ _ _ _ (fs.map T.str) []
  refine lcR_mf T.str (fun _ => T.bl true) fs (fun p hp Q hQ => ?_) (SL (by omega)) (i_nil ?_)
  · have wl := F.ok p hp
    refine x_name (i_call (i_cons (i_var (.str p) rfl (i_nil ⟨.str p, rfl, tame_of (by have := (word_len wl).2; omega), ?_⟩))))
    rw [word_eq, wl]
    exact hQ
  · show oks (blAll _) _
    rw [blAll_true]
    have e1 : (fs.map fun _ => true).all id = true := by simp
    show (if (!((fs.map fun _ => true).all id)) = true then _ else _)
    rw [e1]
    refine ifF (c := !true) rfl ?_
    refine s_ret (i_cb (i_cons (i_lc ?_)))
    refine i_cons (i_var (.tup (tps fs)) rfl (i_cons (i_sli1 (xs := tps fs) rfl ?_)))
    show lcR _ _ _ _ _ (zipT (tps fs) (cutT (tps fs) (some ((1 : Nat) : Int)) none)) []
    rw [zip_tps]
    refine lcR_mf (fun x : Str × Str => T.tup [.str x.1, .str x.2]) (fun _ => T.bl true) _ (fun x hx Q hQ => ?_) (SL (by rw [List.length_zip]; omega)) (i_nil ?_)
    · have lt := zip_next F.asc x hx
      refine x_two (i_op (i_var (.str x.1) rfl (i_var (.str x.2) rfl ?_)))
      show Q (.sh (.bl (decide (cps x.1 < cps x.2))))
      rw [decide_eq_true lt]
      exact hQ
    · show oks (blAll _) _
      rw [blAll_true]
      have e2 : ((fs.zip (fs.drop 1)).map fun _ => true).all id = true := by simp
      show q (.sh (.bl (((fs.zip (fs.drop 1)).map fun _ => true).all id)))
      rw [e2]
      exact hq
theorem sem_need_fields {K : PySem.W.Frag} (h : sp_need_fields M ts q r) : g_need_fields K M (startS ["fields"] ts) (KnOf q r) := by
  obtain ⟨fs, rfl, F, hq⟩ := h
  exact s_if (i_not (i_B (i_call (i_cons (i_var (.tup (tps fs)) rfl (i_nil ⟨fs, rfl, F, i_isB (ifF (c := !true) rfl (s_next hq))⟩))))))
/-! ### documents -/
theorem DocOk.get {fs : List Str} {texts : List (List Str)} {kts : List (Key × T)} (D : DocOk fs texts kts) {i : Nat} {f : Str} (e : fs[i]? = some f) : ∃ zs t, texts[i]? = some zs ∧ lookK kts (.inr f) = some t ∧ IsTxt t zs ∧ TxtOk zs := by
  have hi : i < fs.length := (List.getElem?_eq_some_iff.mp e).1
  have hj : i < texts.length := by rw [D.l]; exact hi
  obtain ⟨t, h1, h2⟩ := D.g i f texts[i] e (List.getElem?_eq_getElem hj)
  exact ⟨texts[i], t, List.getElem?_eq_getElem hj, h1, h2, D.t _ (List.getElem_mem hj)⟩
theorem kit_dict_dict : kitB "dict" "dict" = some true := by decide +kernel
theorem isi_dct {kts : List (Key × T)} : isiB (.dct kts) (.raw (.ty "dict")) = some true := kit_dict_dict
theorem ne_int {i j : Int} {k : Bool → Prop} (h : k (!decide (i = j))) : gNe (.int i) (.int j) (fun s => isB s k) := h
theorem i_dget {i j : Nat} {kts : List (Key × T)} {f : Str} {t : T} {τ : List Sl} {q : Sl → Prop} {r : Xn → Prop} (e1 : τ[i]? = some (.sh (.dct kts))) (e2 : τ[j]? = some (.sh (.str f))) (e3 : lookK kts (.inr f) = some t) (h : q (.sh t)) : gDget (gVar i) (gVar j) τ q r := by
  refine i_var (q := fun s => gVar j τ (fun u => oks s.fz.kd fun kts => oks u.fz.key fun k => oks (lookK kts k) fun t => q (.sh t)) r) (.dct kts) e1 (i_var (q := fun u => oks u.fz.key fun k => oks (lookK kts k) fun t => q (.sh t)) (.str f) e2 ?_)
  show oks (lookK kts (.inr f)) _
  rw [e3]
  exact h
theorem sem_is_document (h : sp_is_document M ts q r) : g_is_document M (startS ["fields", "thing", "name"] ts) (KnOf q r) := by
  obtain ⟨fs, texts, kts, rfl, F, D, hq⟩ := h
  refine st_drop (i_call (i_cons (i_var (.tup (tps fs)) rfl (i_nil ⟨fs, rfl, F, ?_⟩))))
  refine st_ifN (i_or (i_not (i_B (i_cb (i_cons (i_var (.dct kts) rfl (i_cons (i_c (i_nil (K87.gisi isi_dct (i_isB (ifF (c := !true) rfl ?_)))))))))))) 
  refine i_B (i_op (i_cb (i_cons (i_var (.dct kts) rfl (i_nil ?_)))))
  refine i_cb (i_cons (i_var (.tup (tps fs)) rfl (i_nil ?_)))
  refine (show gNe (.int (kts.length : Int)) (.int ((tps fs).length : Int)) (fun s => isB s _) from ne_int ?_)
  rw [decide_eq_true (by rw [List.length_map, D.n])]
  refine ifF (c := !true) rfl ?_
  refine s_ret (i_cb (i_cons (i_lc (i_walk (i_var (.tup (tps fs)) rfl ?_)))))
  show lcR _ _ _ _ _ (fs.map T.str) []
  refine lcR_mf T.str (fun _ => T.bl true) fs (fun f hf Q hQ => ?_) (SL (by have := F.few; omega)) (i_nil ?_)
  · obtain ⟨i, hi, e⟩ := List.getElem_of_mem hf
    obtain ⟨zs, t, h0, h1, h2, h3⟩ := D.get (i := i) (f := f) (by rw [List.getElem?_eq_getElem hi, e])
    obtain ⟨k1, k2⟩ := h2.isText h3
    refine x_name (i_andV ?_)
    refine i_var (q := fun s => gVar 1 _ (fun u => oks u.fz.kd fun kts => oks s.fz.key fun k => isB (.sh (.bl (id (lookK kts k).isSome))) _) _) (.str f) rfl (i_var (.dct kts) rfl ?_)
    show (if (lookK kts (.inr f)).isSome = true then _ else _)
    rw [h1]
    refine ifT rfl (i_call (i_cons (i_dget rfl rfl h1 (i_nil ⟨t, rfl, k1, ?_⟩))))
    rw [k2]
    exact hQ
  · show oks (blAll _) _
    rw [blAll_true]
    have e1 : (fs.map fun _ => true).all id = true := by simp
    show q (.sh (.bl ((fs.map fun _ => true).all id)))
    rw [e1]
    exact hq
theorem sem_need_document {K : PySem.W.Frag} (h : sp_need_document M ts q r) : g_need_document K M (startS ["fields", "document"] ts) (KnOf q r) := by
  obtain ⟨fs, texts, kts, rfl, F, D, hq⟩ := h
  exact s_if (i_not (i_B (i_call (i_cons (i_var (.tup (tps fs)) rfl (i_cons (i_var (.dct kts) rfl (i_nil ⟨fs, texts, kts, rfl, F, D, i_isB (ifF (c := !true) rfl (s_next hq))⟩))))))))
/-! ### words, levels -/
theorem dec_brk {z : Str} {q : Bool → Prop} (h : q (!decide (z = (".": Str)))) : gNe (.str z) (.str ".") (fun s => isB s q) := h
theorem sem_words_of (h : sp_words_of M ts q r) : g_words_of (startS ["text", "token"] ts) (KnOf q r) := by
  obtain ⟨t, zs, rfl, ht, Z, hq⟩ := h
  refine s_ret (i_lc (i_walk (i_var t rfl ?_)))
  show oks t.items _
  rw [ht.walk]
  show lcR _ _ _ _ _ (zs.map T.str) []
  refine lcR_pf T.str (fun z => !decide (z = (".": Str))) T.str zs [] (fun z hz Q hQ => ?_) (fun z hz _ Q hQ => hQ) (SL (by have := Z.few; simp; omega)) hq
  exact i_B (i_op (i_var (.str z) rfl (i_c (dec_brk hQ))))
theorem i_inS {neg : Bool} {z : Str} {ns : List Str} {q : Sl → Prop} (h : q (.sh (.bl (if neg = true then !decide (z ∈ ns) else decide (z ∈ ns))))) : gInF neg (.str z) (.tup (ns.map T.str)) q := by
  show oks (strsT (ns.map T.str)) (fun ns => q (.sh (.bl (if neg = true then !decide (z ∈ ns) else decide (z ∈ ns)))))
  rw [show strsT (ns.map T.str) = some ns from strsT_map ns]
  exact h
theorem sem_need_level {K : PySem.W.Frag} (h : sp_need_level M ts q r) : g_need_level K (startS ["level"] ts) (KnOf q r) := by
  obtain ⟨z, rfl, hz, hq⟩ := h
  refine s_if (i_or (i_not (i_B (i_cb (i_cons (i_var (.str z) rfl (i_cons (i_c (i_nil (K87.gisi isi_str (i_isB (ifF (c := !true) rfl ?_))))))))))))
  refine i_B (i_op (i_var (.str z) rfl (i_c ?_)))
  refine i_inS (ns := levels) ?_
  show (if (!decide (z ∈ levels)) = true then _ else _)
  rw [decide_eq_true hz]
  exact ifF (c := !true) rfl (s_next hq)
end
end K44
namespace K44
open PySem PySem.Spec PyProof.Rows L2 TL K00
variable [TheW]
abbrev lsT (s : List Str) : T := .lst (tps s)
/-! ### sentences -/
theorem spl_mem : ∀ (zs : List Str) (done : List (List Str)) (cur : List Str), ∀ s ∈ spl zs done cur, ∀ z ∈ s, z ∈ zs ∨ z ∈ cur ∨ ∃ d ∈ done, z ∈ d
  | [], done, cur, s, hs, z, hz => by
    rcases List.mem_append.mp hs with h | h
    · exact .inr (.inr ⟨s, h, hz⟩)
    · rw [List.mem_singleton.mp h] at hz
      exact .inr (.inl hz)
  | x :: zs, done, cur, s, hs, z, hz => by
    unfold spl at hs
    by_cases h : x = (".": Str)
    · rw [if_pos h] at hs
      rcases spl_mem zs _ _ s hs z hz with a | a | ⟨d, hd, a⟩
      · exact .inl (List.mem_cons_of_mem _ a)
      · exact absurd a List.not_mem_nil
      · rcases List.mem_append.mp hd with hd | hd
        · exact .inr (.inr ⟨d, hd, a⟩)
        · rw [List.mem_singleton.mp hd] at a
          exact .inr (.inl a)
    · rw [if_neg h] at hs
      rcases spl_mem zs _ _ s hs z hz with a | a | a
      · exact .inl (List.mem_cons_of_mem _ a)
      · rcases List.mem_append.mp a with a | a
        · exact .inr (.inl a)
        · rw [List.mem_singleton.mp a]
          exact .inl List.mem_cons_self
      · exact .inr (.inr a)
theorem spl_in {zs s : List Str} (hs : s ∈ spl zs [] []) {z : Str} (hz : z ∈ s) : z ∈ zs := by
  rcases spl_mem zs [] [] s hs z hz with a | a | ⟨d, a, _⟩
  · exact a
  · exact absurd a List.not_mem_nil
  · exact absurd a List.not_mem_nil
theorem spl_len : ∀ (zs : List Str) (done : List (List Str)) (cur : List Str), (spl zs done cur).length ≤ done.length + zs.length + 1
  | [], done, cur => by
    unfold spl
    rw [List.length_append, List.length_singleton]
    simp
  | z :: zs, done, cur => by
    unfold spl
    rw [List.length_cons]
    by_cases h : z = (".": Str)
    · rw [if_pos h]
      have := spl_len zs (done ++ [cur]) []
      rw [List.length_append, List.length_singleton] at this
      omega
    · rw [if_neg h]
      have := spl_len zs done (cur ++ [z])
      omega
theorem spl_long : ∀ (zs : List Str) (done : List (List Str)) (cur : List Str), ∀ s ∈ spl zs done cur, s.length ≤ zs.length + cur.length ∨ s ∈ done
  | [], done, cur, s, hs => by
    rcases List.mem_append.mp hs with h | h
    · exact .inr h
    · rw [List.mem_singleton.mp h]
      exact .inl (by omega)
  | z :: zs, done, cur, s, hs => by
    unfold spl at hs
    rw [List.length_cons]
    by_cases h : z = (".": Str)
    · rw [if_pos h] at hs
      rcases spl_long zs _ _ s hs with a | a
      · rw [List.length_nil] at a
        exact .inl (by omega)
      · rcases List.mem_append.mp a with a | a
        · exact .inr a
        · rw [List.mem_singleton.mp a]
          exact .inl (by omega)
    · rw [if_neg h] at hs
      rcases spl_long zs _ _ s hs with a | a
      · rw [List.length_append, List.length_singleton] at a
        exact .inl (by omega)
      · exact .inr a
theorem spl_le {zs s : List Str} (hs : s ∈ spl zs [] []) : s.length ≤ zs.length := by
  rcases spl_long zs [] [] s hs with a | a
  · simpa using a
  · exact absurd a List.not_mem_nil
theorem sent_spl : ∀ (zs : List Str) (done : List (List Str)) (cur : List Str), sentT isBrk (tps zs) (done.map tps) (tps cur) = (spl zs done cur).map tps
  | [], done, cur => by
    show done.map tps ++ [tps cur] = _
    unfold spl
    rw [List.map_append]
    rfl
  | z :: zs, done, cur => by
    show (if isBrk (.str z) = true then sentT isBrk (tps zs) (done.map tps ++ [tps cur]) [] else sentT isBrk (tps zs) (done.map tps) (tps cur ++ [T.str z])) = _
    unfold spl
    by_cases h : z = (".": Str)
    · rw [if_pos h, if_pos (show isBrk (.str z) = true from decide_eq_true h)]
      have := sent_spl zs (done ++ [cur]) []
      rw [List.map_append] at this
      exact this
    · rw [if_neg h, if_neg (show ¬ isBrk (.str z) = true from fun c => h (of_decide_eq_true c))]
      have := sent_spl zs done (cur ++ [z])
      unfold tps at this
      rw [List.map_append] at this
      exact this
section
variable {M : Mode} {ts : List T} {q : Sl → Prop} {r : Xn → Prop}
theorem eqv_nil (ds : List PyData) : PyData.eqv (.list ds) (.list []) = decide (ds = []) := by
  cases ds with
  | nil => rfl
  | cons d ds => rfl
theorem ne_nilL {s : List Str} {q : Bool → Prop} (hz : ∀ z ∈ s, K87.tokS z = true) (hl : s.length ≤ 400) (h : q (!decide (s = []))) : gNe (lsT s) (.lst []) (fun s => isB s q) := by
  have e1 : (lsT s).py = some (.list (s.map .str)) := by
    show (T.lst (s.map T.str)).py = _
    simp only [T.py, py_strs, Option.map_some]
  have e2 : (T.lst []).py = some (.list []) := rfl
  show match (lsT s).py, (T.lst []).py with
    | some d, some e => SeqAt.shaped d = true ∧ SeqAt.shaped e = true ∧ _
    | _, _ => False
  rw [e1, e2]
  refine ⟨(sm_toks hz).shaped (by decide), (sm_toks (zs := []) (fun z hz => absurd hz List.not_mem_nil)).shaped (by decide), ?_⟩
  show q (!(PyData.eqv (.list (s.map .str)) (.list [])))
  rw [eqv_nil, show decide (s.map PyData.str = []) = decide (s = []) from by simp]
  exact h
theorem eqs_brk {z : Str} {q : Bool → Prop} (h : q (decide (z = (".": Str)))) : gEq (.str z) (.str ".") (fun s => isB s q) := h
theorem i_if {c : TTx} {a b : TEx} {τ : List Sl} (h : c τ (fun k => if k = true then a τ q r else b τ q r) r) : gIf c a b τ q r := h
theorem b_of {x : TTx} {τ : List Sl} {qb : Bool → Prop} (h : x τ qb r) : x τ qb r := h
theorem i_brk {i : Nat} {z : Str} {τ : List Sl} {qb : Bool → Prop} (e : τ[i]? = some (.sh (.str z))) (h : qb (decide (z = (".": Str)))) : gB (gOp gEq (gVar i) (gC (.str "."))) τ qb r :=
  i_B (i_op (i_var (.str z) e (i_c (eqs_brk h))))
theorem i_eqS {i : Nat} {z y : Str} {τ : List Sl} {qb : Bool → Prop} (e : τ[i]? = some (.sh (.str z))) (h : qb (decide (z = y))) : gB (gOp gEq (gVar i) (gC (.str y))) τ qb r :=
  i_B (i_op (i_var (.str z) e h))
theorem S1 : (1 : Nat) ≤ sizeLine := SL
theorem st_sent {i v : Nat} {src : TIx} {c : TTx} {p : T → Bool} {B : TSx} {τ : List Sl} {k : Kn} (h1 : v ≠ i) (h2 : v < τ.length) (h3 : i < τ.length) (h : src (τ.set i .no) (fun items => items.length + 1 < sizeLine ∧ (∀ t ∈ items, ∀ τ' : List Sl, τ'[v]? = some (.sh t) → ∀ Q : Bool → Prop, Q (p t) → c τ' Q k.ex) ∧ ∀ s, B (((τ.set i .no).set v s).set i (.ol ((sentT p items [] []).map T.lst))) k) k.ex) : sSeq (sSent i v src c p) B τ k := ⟨h1, h2, h3, h⟩
theorem lst_fz (xs : List T) : Sl.fz (.ol xs) = .lst xs := rfl
theorem sem_sentences_of (h : sp_sentences_of M ts q r) : g_sentences_of (startS ["text", "found", "token", "one"] ts) (KnOf q r) := by
  obtain ⟨t, zs, rfl, ht, Z, hq⟩ := h
  have few := Z.few
  refine st_sent (by decide) (by show 2 < 4; decide) (by show 1 < 4; decide) (i_walk (i_var t rfl ?_))
  show oks t.items _
  rw [ht.walk]
  refine ⟨by show (tps zs).length + 1 < sizeLine; rw [sizeLine_eq, List.length_map]; omega, fun u hu τ' e Q hQ => ?_, fun s => ?_⟩
  · obtain ⟨z, hz, rfl⟩ := List.mem_map.mp hu
    exact i_brk e hQ
  · have e : (sentT isBrk (tps zs) [] []).map T.lst = (spl zs [] []).map lsT := by
      rw [show sentT isBrk (tps zs) [] [] = (spl zs [] []).map tps from sent_spl zs [] [], List.map_map]
      rfl
    rw [e]
    have n := spl_len zs [] []
    refine s_frz (c := .l ((spl zs [] []).map lsT)) rfl ?_
    refine s_ret (i_lc (i_walk (i_var (.lst ((spl zs [] []).map lsT)) rfl ?_)))
    show lcR _ _ _ _ _ ((spl zs [] []).map lsT) []
    refine lcR_pf lsT (fun s => !decide (s = [])) lsT (spl zs [] []) [] (fun s hs Q hQ => ?_) (fun s hs _ Q hQ => hQ) (SL (by rw [List.length_nil] at n ⊢; omega)) hq
    exact i_B (i_op (i_var (lsT s) rfl (i_lst (i_nil ⟨Nat.zero_le _, ne_nilL (fun z hz => Z.ok z (spl_in hs hz)) (by have := spl_le hs; omega) hQ⟩))))
theorem cut_initL (xs : List T) (x : T) : cutT (xs ++ [x]) none (some (-1)) = xs := by
  unfold cutT
  rw [HT.sIx_none, List.drop_zero, Nat.sub_zero]
  have : HT.sIx (xs ++ [x]).length (xs ++ [x]).length (some (-1)) = xs.length := by
    simp only [HT.sIx]
    rw [List.length_append, List.length_singleton]
    simp
    omega
  rw [this, List.take_left']
  rfl
theorem i_initL {i : Nat} {xs : List T} {x : T} {τ : List Sl} (e : τ[i]? = some (.sh (.lst (xs ++ [x])))) (h : q (.ol xs)) : gSli gCut (gVar i) oNo (oSome (gNeg (gC (.int 1)))) τ q r := by
  refine i_var (q := fun s => gCut s.fz none (some (-1)) q) (.lst (xs ++ [x])) e ?_
  show q (.ol (cutT (xs ++ [x]) none (some (-1))))
  rw [cut_initL]
  exact h
theorem at_lastL (xs : List T) (x : T) : atI (xs ++ [x]) (-1) = some x := by
  have e : ixN (xs ++ [x]).length (-1) = some xs.length := by
    unfold ixN
    rw [List.length_append, List.length_singleton, if_neg (by decide), if_pos (by omega)]
    congr 1
    omega
  unfold atI
  rw [e]
  simp
theorem i_lastL {i : Nat} {xs : List T} {x : T} {τ : List Sl} (e : τ[i]? = some (.sh (.lst (xs ++ [x])))) (h : q (.sh x)) : gOp gIx (gVar i) (gNeg (gC (.int 1))) τ q r := by
  refine i_op (i_var (.lst (xs ++ [x])) e ?_)
  show oks (atI (xs ++ [x]) (-1)) _
  rw [at_lastL]
  exact h
theorem add_l {xs ys : List T} (hl : xs.length + ys.length ≤ 100000) (h : q (.ol (xs ++ ys))) : gAdd (.lst xs) (.lst ys) q := ⟨SL hl, h⟩
theorem sem__law_sentences (h : sp__law_sentences M ts q r) : g__law_sentences (startS ["text", "found", "token"] ts) (KnOf q r) := by
  obtain ⟨t, zs, rfl, ht, Z, hq⟩ := h
  have few := Z.few
  refine st_set (i_lst (i_cons (i_lst (i_nil ⟨Nat.zero_le _, i_nil ⟨S1, ?_⟩⟩))))
  refine st_for (i_walk (i_var t rfl ?_))
  show oks t.items _
  rw [ht.walk]
  refine forR_pre T.str (fun pre τ => ∃ done cur s2, τ = [.sh t, .ol ((done ++ [cur]).map lsT), s2] ∧ (∀ post, spl (pre ++ post) [] [] = spl post done cur) ∧ done.length ≤ pre.length ∧ cur.length ≤ pre.length) zs ?_ ?_ _ ⟨[], [], .no, rfl, fun post => rfl, Nat.le_refl _, Nat.le_refl _⟩
  · intro pre z post ez τ hi nx hn
    obtain ⟨done, cur, s2, rfl, hs, l1, l2⟩ := hi
    have lz := congrArg List.length ez
    rw [List.length_append, List.length_cons] at lz
    refine x_name ?_
    refine s_frz (c := .l ((done ++ [cur]).map lsT)) rfl ?_
    refine s_set (i_if (i_brk rfl ?_))
    by_cases hz : z = (".": Str)
    · refine ifT (decide_eq_true hz) (i_op (i_var (.lst ((done ++ [cur]).map lsT)) rfl (i_lst (i_cons (i_lst (i_nil ⟨Nat.zero_le _, i_nil ⟨S1, ?_⟩⟩))))))
      refine add_l (by rw [List.length_map, List.length_append, List.length_singleton]; show _ + 1 ≤ _; omega) (hn _ ⟨done ++ [cur], [], .sh (.str z), ?_, fun post => ?_, ?_, Nat.zero_le _⟩)
      · rw [List.map_append (l₂ := [[]])]
        rfl
      · rw [List.append_assoc, hs, List.singleton_append]
        show (if z = (".": Str) then _ else _) = _
        rw [if_pos hz]
      · simp only [List.length_append, List.length_singleton]
        omega
    · have e3 : (done ++ [cur]).map lsT = done.map lsT ++ [lsT cur] := by rw [List.map_append]; rfl
      rw [e3]
      refine ifF (decide_eq_false hz) (i_op (i_initL rfl (i_lst (i_cons (i_op (i_lastL rfl (i_lst (i_cons (i_var (.str z) rfl (i_nil ⟨S1, ?_⟩))))))))))
      refine add_l (by rw [List.length_map]; show _ + 1 ≤ _; omega) (i_nil ⟨S1, add_l (by rw [List.length_map]; show _ + 1 ≤ _; omega) (hn _ ⟨done, cur ++ [z], .sh (.str z), ?_, fun post => ?_, ?_, ?_⟩)⟩)
      · rw [List.map_append]
        show _ = [_, Sl.ol (done.map lsT ++ [.lst ((cur ++ [z]).map T.str)]), _]
        rw [List.map_append]
        rfl
      · rw [List.append_assoc, hs, List.singleton_append]
        show (if z = (".": Str) then _ else _) = _
        rw [if_neg hz]
      · simp only [List.length_append, List.length_singleton]
        omega
      · simp only [List.length_append, List.length_singleton]
        omega
  · intro τ hi
    obtain ⟨done, cur, s2, rfl, hs, l1, l2⟩ := hi
    have e := hs []
    rw [List.append_nil] at e
    have e2 : spl zs [] [] = done ++ [cur] := e
    rw [e2] at hq
    exact hq
end
end K44
namespace K44
open PySem PySem.Spec PyProof.Rows L2 TL K00
variable [TheW]
section
variable {M : Mode} {ts : List T} {q : Sl → Prop} {r : Xn → Prop}
theorem at_nat {α : Type} (xs : List α) {n : Nat} (h : n < xs.length) : atI xs (n : Int) = some xs[n] := by
  unfold atI
  have e : ixN xs.length (n : Int) = some n := by
    unfold ixN
    simp [h]
  rw [e]
  simp [h]
theorem range0_map (n : Nat) : TL.rangeT 0 n = (List.range n).map fun i : Nat => T.int (i : Int) := by
  unfold TL.rangeT
  refine List.map_congr_left fun i _ => ?_
  show T.int (0 + (i : Int)) = T.int (i : Int)
  rw [Int.zero_add]
theorem i_r1v {i n : Nat} {τ : List Sl} {ti : List T → Prop} (e : τ[i]? = some (.sh (.int (n : Int)))) (hl : n ≤ 100000) (h : ti ((List.range n).map fun i : Nat => T.int (i : Int))) : iR1 (aCons (gVar i) aNil) τ ti r := by
  rw [← range0_map] at h
  exact i_cons (i_var (.int (n : Int)) e (i_nil ⟨by omega, h⟩))
theorem i_r1len {i : Nat} {xs : List T} {τ : List Sl} {ti : List T → Prop} (e : τ[i]? = some (.sh (.tup xs))) (hl : xs.length ≤ 100000) (h : ti ((List.range xs.length).map fun i : Nat => T.int (i : Int))) : iR1 (aCons (gCB gLen (aCons (gVar i) aNil)) aNil) τ ti r := by
  rw [← range0_map] at h
  exact i_cons (i_cb (i_cons (i_var (.tup xs) e (i_nil (i_lenT (i_nil ⟨by omega, h⟩))))))
theorem i_bAt {i j n : Nat} {b : List Bool} {τ : List Sl} (e : τ[i]? = some (.sh (bT b))) (e2 : τ[j]? = some (.sh (.int (n : Int)))) (hn : n < b.length) (h : q (.sh (.bl (b[n]?.getD false)))) : gOp gIx (gVar i) (gVar j) τ q r := by
  refine i_op (i_var (bT b) e (i_var (.int (n : Int)) e2 ?_))
  show oks (atI (b.map T.bl) (n : Int)) _
  rw [at_nat _ (by rw [List.length_map]; exact hn), List.getElem_map]
  rw [List.getElem?_eq_getElem hn] at h
  exact h
/-! ### any of the rows -/
theorem lc_col {i j n : Nat} {rows : List (List Bool)} {τ : List Sl} {q : List T → Prop} (hl : rows.length ≤ 1000) (hr : ∀ b ∈ rows, n < b.length) (e1 : ∀ s, (τ.set i s)[i]? = some s) (e2 : ∀ s, (τ.set i s)[j]? = some (.sh (.int (n : Int)))) (h : q (rows.map fun b => T.bl (b[n]?.getD false))) :
    lcR (xName i) gYes (gOp gIx (gVar i) (gVar j)) τ q (rows.map bT) [] := by
  refine lcR_mf bT (fun b => T.bl (b[n]?.getD false)) rows (fun b hb Q hQ => ?_) (SL (by omega)) h
  exact x_name (i_bAt (e1 _) (e2 _) (hr b hb) hQ)
theorem sem_any_of (h : sp_any_of M ts q r) : g_any_of (startS ["rows", "many", "place", "row"] ts) (KnOf q r) := by
  obtain ⟨t, rows, m, rfl, ht, hr, hm, hl, hq⟩ := h
  refine s_ret (i_cb (i_cons (i_lc (i_r1v rfl (by omega) ?_))))
  refine lcR_mf (fun i : Nat => T.int (i : Int)) (fun i => T.bl (rows.any fun b => b[i]?.getD false)) (List.range m) (fun i hi Q hQ => ?_) (SL (by rw [List.length_range]; omega)) (i_nil ?_)
  · have hi' := List.mem_range.mp hi
    refine x_name (i_cb (i_cons (i_lc (i_walk (i_var t rfl ?_)))))
    have e : t.items = some (rows.map bT) := by rcases ht with rfl | rfl <;> rfl
    show oks t.items _
    rw [e]
    refine lc_col (n := i) hl (fun b hb => by rw [hr b hb]; exact hi') (fun _ => rfl) (fun _ => rfl) (i_nil ?_)
    show oks (blAll _) _
    rw [blAll_map]
    show Q (.sh (.bl ((rows.map fun b => b[i]?.getD false).any id)))
    rw [List.any_map]
    exact hQ
  · unfold bT orL at hq
    rw [List.map_map] at hq
    exact hq
theorem sem__law_joined_truths (h : sp__law_joined_truths M ts q r) : g__law_joined_truths (startS ["rows", "many", "at", "row"] ts) (KnOf q r) := by
  obtain ⟨t, rows, m, rfl, ht, hr, hm, hl, hq⟩ := h
  refine s_ret (i_cb (i_cons (i_lc (i_r1v rfl (by omega) ?_))))
  refine lcR_mf (fun i : Nat => T.int (i : Int)) (fun i => T.bl (rows.any fun b => b[i]?.getD false)) (List.range m) (fun i hi Q hQ => ?_) (SL (by rw [List.length_range]; omega)) (i_nil ?_)
  · have hi' := List.mem_range.mp hi
    refine x_name (i_op (i_c (i_lc (i_walk (i_var t rfl ?_)))))
    have e : t.items = some (rows.map bT) := by rcases ht with rfl | rfl <;> rfl
    show oks t.items _
    rw [e]
    refine lc_col (n := i) hl (fun b hb => by rw [hr b hb]; exact hi') (fun _ => rfl) (fun _ => rfl) ?_
    show oks (blAll _) _
    rw [blAll_map]
    show Q (.sh (.bl (decide (true ∈ rows.map fun b => b[i]?.getD false))))
    have e2 : decide (true ∈ rows.map fun b => b[i]?.getD false) = rows.any fun b => b[i]?.getD false := by
      rw [Bool.eq_iff_iff, decide_eq_true_eq, List.any_eq_true, List.mem_map]
    rw [e2]
    exact hQ
  · unfold bT orL at hq
    rw [List.map_map] at hq
    exact hq
theorem row_len (ps : List Str) (z : Str) : (row ps z).length = ps.length := tr_len ps (cps z)
theorem row_eq (ps : List Str) (z : Str) : row ps z = ps.map fun p => suits (cps p) (cps z) := by
  unfold row trX cs
  rw [List.map_map]
  rfl
theorem row_at (ps : List Str) (z : Str) (i : Nat) : (row ps z)[i]?.getD false = (ps[i]?.map fun p => suits (cps p) (cps z)).getD false := by
  rw [row_eq, List.getElem?_map]
theorem field_len (ps ws : List Str) : (fieldL ps ws).length = ps.length := by
  unfold fieldL orL
  rw [List.length_map, List.length_range]
theorem sem__law_chain (h : sp__law_chain M ts q r) : g__law_chain M (startS ["patterns", "token", "pattern"] ts) (KnOf q r) := by
  obtain ⟨ps, z, rfl, P, hz, hq⟩ := h
  refine s_ret (i_cb (i_cons (i_lc (i_walk (i_var (.tup (tps ps)) rfl ?_)))))
  show lcR _ _ _ _ _ (ps.map T.str) []
  refine lcR_mf T.str (fun p => T.bl (suits (cps p) (cps z))) ps (fun p hp Q hQ => ?_) (SL (by have := P.few; omega)) (i_nil ?_)
  · exact x_name (i_call (i_cons (i_var (.str p) rfl (i_cons (i_var (.str z) rfl (i_nil ⟨p, z, rfl, P.ok p hp, hz, hQ⟩))))))
  · rw [row_eq, show bT (ps.map fun p => suits (cps p) (cps z)) = .tup (ps.map fun p => T.bl (suits (cps p) (cps z))) from by unfold bT; rw [List.map_map]; rfl] at hq
    exact hq
/-! ### rows of a list of tokens, joined -/
theorem i_rows {j v : Nat} {ps ws : List Str} {τ : List Sl} (P : PatsOk ps) (hl : ws.length ≤ 400) (ej : τ[j]? = some (.sh (.lst (tps ws)))) (e0 : ∀ s, ((τ.set v .no).set v s)[0]? = some (.sh (.tup (tps ps)))) (ev : ∀ s, ((τ.set v .no).set v s)[v]? = some s) (e0' : τ[0]? = some (.sh (.tup (tps ps)))) (h : q (.sh (bT (fieldL ps ws)))) :
    gCall M sp_any_of (aCons (gLc [v] (iWalk (gVar j)) (xName v) gYes (gCall M sp_truths_of (aCons (gVar 0) (aCons (gVar v) aNil)))) (aCons (gCB gLen (aCons (gVar 0) aNil)) aNil)) τ q r := by
  refine i_call (i_cons (i_lc (i_walk (i_var (.lst (tps ws)) ej ?_))))
  show lcR _ _ _ (τ.set v .no) _ (ws.map T.str) []
  refine lcR_mf T.str (fun z => bT (row ps z)) ws (fun z hz Q hQ => ?_) (SL (by omega)) ?_
  · exact x_name (i_call (i_cons (i_var (.tup (tps ps)) (e0 _) (i_cons (i_var (.str z) (ev _) (i_nil ⟨ps, z, rfl, P, hQ⟩))))))
  · refine i_cons (i_cb (i_cons (i_var (.tup (tps ps)) e0' (i_nil (i_lenT (i_nil ?_))))))
    refine ⟨.lst (ws.map fun z => bT (row ps z)), ws.map (row ps), ps.length, ?_, .inl ?_, fun b hb => ?_, P.few, by rw [List.length_map]; omega, h⟩
    · show [_, T.int ((tps ps).length : Int)] = _
      rw [List.length_map]
      rfl
    · rw [List.map_map]
      rfl
    · obtain ⟨z, _, rfl⟩ := List.mem_map.mp hb
      exact row_len ps z
theorem i_rowsL {j v : Nat} {ps ws : List Str} {τ : List Sl} (P : PatsOk ps) (hl : ws.length ≤ 400) (hw : ∀ z ∈ ws, (cps z).length ≤ 8) (ej : τ[j]? = some (.sh (.lst (tps ws)))) (e0 : ∀ s, ((τ.set v .no).set v s)[0]? = some (.sh (.tup (tps ps)))) (ev : ∀ s, ((τ.set v .no).set v s)[v]? = some s) (e0' : τ[0]? = some (.sh (.tup (tps ps)))) (h : q (.sh (bT (fieldL ps ws)))) :
    gCall M sp__law_joined_truths (aCons (gLc [v] (iWalk (gVar j)) (xName v) gYes (gCall M sp__law_chain (aCons (gVar 0) (aCons (gVar v) aNil)))) (aCons (gCB gLen (aCons (gVar 0) aNil)) aNil)) τ q r := by
  refine i_call (i_cons (i_lc (i_walk (i_var (.lst (tps ws)) ej ?_))))
  show lcR _ _ _ (τ.set v .no) _ (ws.map T.str) []
  refine lcR_mf T.str (fun z => bT (row ps z)) ws (fun z hz Q hQ => ?_) (SL (by omega)) ?_
  · exact x_name (i_call (i_cons (i_var (.tup (tps ps)) (e0 _) (i_cons (i_var (.str z) (ev _) (i_nil ⟨ps, z, rfl, P, hw z hz, hQ⟩))))))
  · refine i_cons (i_cb (i_cons (i_var (.tup (tps ps)) e0' (i_nil (i_lenT (i_nil ?_))))))
    refine ⟨.lst (ws.map fun z => bT (row ps z)), ws.map (row ps), ps.length, ?_, .inl ?_, fun b hb => ?_, P.few, by rw [List.length_map]; omega, h⟩
    · show [_, T.int ((tps ps).length : Int)] = _
      rw [List.length_map]
      rfl
    · rw [List.map_map]
      rfl
    · obtain ⟨z, _, rfl⟩ := List.mem_map.mp hb
      exact row_len ps z
/-! ### places -/
theorem lcR_pg {β : Type} {g : TGx} {tt : TTx} {te : TEx} {τ : List Sl} {q : List T → Prop} (t : β → T) (p : β → Bool) (f : β → T) : ∀ (xs : List β) (acc : List T), (∀ x ∈ xs, ∀ (K1 : T → Prop) (K2 : Prop), (p x = true → K1 (f x)) → (p x = false → K2) → g (t x) τ fun τ2 => tt τ2 (fun b => if b = true then te τ2 (fun s => K1 s.fz) rF else K2) rF) →
    acc.length + xs.length ≤ sizeLine → q (acc ++ (xs.filter p).map f) → lcR g tt te τ q (xs.map t) acc
  | [], acc, _, _, k => by
    have z : q (acc ++ []) := k
    rw [List.append_nil] at z
    exact z
  | x :: xs, acc, h, hl, k => by
    have hl' : acc.length + (xs.length + 1) ≤ sizeLine := hl
    refine h x List.mem_cons_self (fun u => acc.length < sizeLine ∧ lcR g tt te τ q (xs.map t) (acc ++ [u])) (lcR g tt te τ q (xs.map t) acc) (fun hp => ⟨by omega, lcR_pg t p f xs _ (fun u hu => h u (List.mem_cons_of_mem _ hu)) (by rw [List.length_append, List.length_singleton]; omega) ?_⟩) (fun hp => lcR_pg t p f xs _ (fun u hu => h u (List.mem_cons_of_mem _ hu)) (by omega) ?_)
    · rw [List.filter_cons_of_pos hp] at k
      rw [List.append_assoc]
      exact k
    · rw [List.filter_cons_of_neg (by rw [hp]; decide)] at k
      exact k
def numb {α : Type} : Nat → List α → List (Nat × α)
  | _, [] => []
  | n, z :: zs => (n, z) :: numb (n + 1) zs
theorem numb_len {α : Type} : ∀ (n : Nat) (zs : List α), (numb n zs).length = zs.length
  | _, [] => rfl
  | n, z :: zs => congrArg (· + 1) (numb_len (n + 1) zs)
theorem numb_mem {α : Type} : ∀ (n : Nat) (zs : List α), ∀ x ∈ numb n zs, x.2 ∈ zs
  | _, [], x, h => absurd h List.not_mem_nil
  | n, z :: zs, x, h => by
    rcases List.mem_cons.mp h with rfl | h
    · exact List.mem_cons_self
    · exact List.mem_cons_of_mem _ (numb_mem (n + 1) zs x h)
theorem enum_numb {α : Type} (t : α → T) : ∀ (n : Nat) (zs : List α), enumT n (zs.map t) = (numb n zs).map fun x => T.tup [.int (x.1 : Int), t x.2]
  | _, [] => rfl
  | n, z :: zs => congrArg (_ :: ·) (enum_numb t (n + 1) zs)
theorem idx_numb (f : Str → Bool) : ∀ (n : Nat) (zs : List Str), ((numb n zs).filter fun x => f x.2).map (·.1) = idx f n zs
  | _, [] => rfl
  | n, z :: zs => by
    unfold numb idx
    have ih := idx_numb f (n + 1) zs
    by_cases h : f z = true
    · rw [if_pos h, List.filter_cons_of_pos (p := fun x : Nat × Str => f x.2) (a := (n, z)) h, List.map_cons, ih]
    · rw [if_neg h, List.filter_cons_of_neg (p := fun x : Nat × Str => f x.2) (a := (n, z)) h, ih]
theorem idx_le (f : Str → Bool) : ∀ (n : Nat) (zs : List Str), (idx f n zs).length ≤ zs.length
  | _, [] => Nat.le_refl _
  | n, z :: zs => by
    unfold idx
    have ih := idx_le f (n + 1) zs
    rw [List.length_cons]
    by_cases h : f z = true
    · rw [if_pos h, List.length_cons]; omega
    · rw [if_neg h]; omega
theorem idx_congr {f g : Str → Bool} : ∀ (n : Nat) (zs : List Str), (∀ z ∈ zs, f z = g z) → idx f n zs = idx g n zs
  | _, [], _ => rfl
  | n, z :: zs, h => by
    unfold idx
    rw [h z List.mem_cons_self, idx_congr (n + 1) zs fun z hz => h z (List.mem_cons_of_mem _ hz)]
theorem ints_filter (f : Str → Bool) (ws : List Str) : T.tup (((numb 0 ws).filter fun x => f x.2).map fun x => T.int (x.1 : Int)) = intsT (idx f 0 ws) := by
  unfold intsT
  rw [← idx_numb, List.map_map]
  rfl
theorem places_range (ps ws : List Str) : places ps ws = (List.range ps.length).map fun i => idx (fun z => (row ps z)[i]?.getD false) 0 ws := by
  refine List.ext_getElem (by unfold places; rw [List.length_map, List.length_map, List.length_range]) fun i h1 h2 => ?_
  unfold places at h1 ⊢
  rw [List.length_map] at h1
  rw [List.getElem_map, List.getElem_map, List.getElem_range]
  refine idx_congr 0 ws fun z _ => ?_
  rw [row_at, List.getElem?_eq_getElem h1]
  rfl
theorem x_tup2 {i j : Nat} {s t : T} {τ : List Sl} {ql : List Sl → Prop} (h : ql ((τ.set i (.sh s)).set j (.sh t))) : xTup 2 (xsCons (xName i) (xsCons (xName j) xsNil)) (.tup [s, t]) τ ql := x_two h
theorem sem_places_in (h : sp_places_in M ts q r) : g_places_in M (startS ["patterns", "words", "rows", "found", "at", "word", "number", "row"] ts) (KnOf q r) := by
  obtain ⟨ps, ws, rfl, P, hl, hq⟩ := h
  have few := P.few
  refine st_asg2 (i_lc (i_walk (i_var (.lst (tps ws)) rfl ?_)))
  show lcR _ _ _ _ _ (ws.map T.str) []
  refine lcR_mf T.str (fun z => bT (row ps z)) ws (fun z hz Q hQ => ?_) (SL (by omega)) (i_lst (i_nil ⟨Nat.zero_le _, ?_⟩))
  · exact x_name (i_call (i_cons (i_var (.tup (tps ps)) rfl (i_cons (i_var (.str z) rfl (i_nil ⟨ps, z, rfl, P, hQ⟩))))))
  refine s_seq (s_frz (c := .l (ws.map fun z => bT (row ps z))) rfl (s_for (i_r1len rfl (by rw [List.length_map]; omega) ?_)))
  rw [List.length_map]
  refine forR_pre (fun i : Nat => T.int (i : Int)) (fun pre τ => ∃ s4, τ = [.sh (.tup (tps ps)), .sh (.lst (tps ws)), .sh (.lst (ws.map fun z => bT (row ps z))), .ol (pre.map fun i => intsT (idx (fun z => (row ps z)[i]?.getD false) 0 ws)), s4, .no, .no, .no]) (List.range ps.length) ?_ ?_ _ ⟨.no, rfl⟩
  · intro pre i post ez τ hi nx hn
    obtain ⟨s4, rfl⟩ := hi
    have hi : i < ps.length := List.mem_range.mp (by rw [ez]; exact List.mem_append_right _ List.mem_cons_self)
    have lz := congrArg List.length ez
    rw [List.length_range, List.length_append, List.length_cons] at lz
    refine x_name (s_app (pre.map fun i => intsT (idx (fun z => (row ps z)[i]?.getD false) 0 ws)) rfl (i_cb (i_cons (i_lc (i_cons (i_var (.lst (ws.map fun z => bT (row ps z))) rfl (i_nil ?_)))))))
    show lcR _ _ _ _ _ (enumT 0 (ws.map fun z => bT (row ps z))) []
    rw [enum_numb]
    refine lcR_pg _ (fun x => (row ps x.2)[i]?.getD false) (fun x => T.int (x.1 : Int)) (numb 0 ws) [] (fun x hx K1 K2 h1 h2 => ?_) (SL (by rw [numb_len, List.length_nil]; omega)) (i_nil ?_)
    · refine x_tup2 (i_B (i_bAt rfl rfl (by rw [row_len]; exact hi) (i_isB ?_)))
      cases hp : (row ps x.2)[i]?.getD false with
      | true => exact ifT rfl (i_var (.int (x.1 : Int)) rfl (h1 hp))
      | false => exact ifF rfl (h2 hp)
    · refine (show _ < sizeLine ∧ nx _ from ⟨?_, ?_⟩)
      · rw [List.length_map, sizeLine_eq]; omega
      · refine hn _ ⟨.sh (.int (i : Int)), ?_⟩
        rw [List.map_append]
        show [_, _, _, Sl.ol (_ ++ [T.tup ([] ++ _)]), _, _, _, _] = _
        rw [List.nil_append, ints_filter fun z => (row ps z)[i]?.getD false]
        rfl
  · intro τ hi
    obtain ⟨s4, rfl⟩ := hi
    refine (show sFrz 3 (sRet (gCB gTupleOf (aCons (gVar 3) aNil))) [.sh (.tup (tps ps)), .sh (.lst (tps ws)), .sh (.lst (ws.map fun z => bT (row ps z))), .ol ((List.range ps.length).map fun i => intsT (idx (fun z => (row ps z)[i]?.getD false) 0 ws)), s4, .no, .no, .no] (KnOf q r) from ?_)
    refine s_frz (c := .l ((List.range ps.length).map fun i => intsT (idx (fun z => (row ps z)[i]?.getD false) 0 ws))) rfl ?_
    refine s_ret (i_cb (i_cons (i_var (.lst ((List.range ps.length).map fun i => intsT (idx (fun z => (row ps z)[i]?.getD false) 0 ws))) rfl (i_nil ?_))))
    unfold placesT at hq
    rw [places_range, List.map_map] at hq
    exact hq
end
end K44
namespace K44
open PySem PySem.Spec PyProof.Rows L2 TL K00
variable [TheW]
/-! ### plain laws of rows -/
theorem orL_nil (m : Nat) : (orL m []).any id = false := by
  unfold orL
  rw [List.any_map, List.any_eq_false]
  intro i _
  simp
theorem field_nil (ps : List Str) : (fieldL ps []).any id = false := orL_nil ps.length
theorem filter_some (ps : List Str) : ∀ l : List (List Str), ((l.filter fun s => !decide (s = [])).map fun s => fieldL ps s).filter (fun r => r.any id) = (l.map fun s => fieldL ps s).filter fun r => r.any id
  | [] => rfl
  | s :: l => by
    have ih := filter_some ps l
    by_cases h : s = []
    · rw [List.filter_cons_of_neg (by rw [h]; decide), ih, List.map_cons, List.filter_cons_of_neg (p := fun r : List Bool => r.any id) (by rw [h, field_nil]; decide)]
    · rw [List.filter_cons_of_pos (by rw [decide_eq_false h]; rfl), List.map_cons, List.map_cons]
      by_cases h2 : (fieldL ps s).any id = true
      · rw [List.filter_cons_of_pos (p := fun r : List Bool => r.any id) h2, List.filter_cons_of_pos (p := fun r : List Bool => r.any id) h2, ih]
      · rw [List.filter_cons_of_neg (p := fun r : List Bool => r.any id) h2, List.filter_cons_of_neg (p := fun r : List Bool => r.any id) h2, ih]
abbrev dedF (acc : List (List Bool)) (b : List Bool) : List (List Bool) := if b ∈ acc then acc else acc ++ [b]
theorem dedF_len (acc : List (List Bool)) (b : List Bool) : (dedF acc b).length ≤ acc.length + 1 := by
  unfold dedF
  split
  · omega
  · rw [List.length_append, List.length_singleton]; omega
theorem dedF_mem {acc : List (List Bool)} {b x : List Bool} : x ∈ dedF acc b ↔ x ∈ acc ∨ x = b := by
  unfold dedF
  split
  · rename_i h
    exact ⟨.inl, fun z => z.elim id fun e => e ▸ h⟩
  · rw [List.mem_append, List.mem_singleton]
theorem dedF_nodup {acc : List (List Bool)} {b : List Bool} (h : acc.Nodup) : (dedF acc b).Nodup := by
  unfold dedF
  split
  · exact h
  · rename_i hb
    rw [List.nodup_append]
    exact ⟨h, by simp, fun x hx y hy e => hb (by rw [List.mem_singleton] at hy; rw [← hy, ← e]; exact hx)⟩
theorem fold_mem : ∀ (l acc : List (List Bool)) (x : List Bool), x ∈ l.foldl dedF acc ↔ x ∈ acc ∨ x ∈ l
  | [], acc, x => ⟨.inl, fun h => h.elim id fun h => absurd h List.not_mem_nil⟩
  | b :: l, acc, x => by
    rw [List.foldl_cons, fold_mem l, dedF_mem, List.mem_cons]
    exact ⟨fun h => h.elim (fun h => h.elim .inl fun e => .inr (.inl e)) fun h => .inr (.inr h), fun h => h.elim (fun h => .inl (.inl h)) fun h => h.elim (fun e => .inl (.inr e)) .inr⟩
theorem fold_nodup : ∀ (l acc : List (List Bool)), acc.Nodup → (l.foldl dedF acc).Nodup
  | [], _, h => h
  | b :: l, acc, h => fold_nodup l _ (dedF_nodup h)
theorem dedup_eq (l : List (List Bool)) : dedup l = l.foldl dedF [] := rfl
theorem dedup_mem {l : List (List Bool)} {x : List Bool} : x ∈ dedup l ↔ x ∈ l := by
  rw [dedup_eq, fold_mem]
  exact ⟨fun h => h.elim (fun h => absurd h List.not_mem_nil) id, .inr⟩
theorem dedup_nodup (l : List (List Bool)) : (dedup l).Nodup := fold_nodup l [] .nil
theorem set_sorted {l rows : List (List Bool)} (h : l.Nodup) (hm : ∀ x, x ∈ l ↔ x ∈ rows) : bSort l = bSort (dedup rows) :=
  bSort_mem h (dedup_nodup rows) fun x => (hm x).trans dedup_mem.symm
theorem any_ne {b : List Bool} (h : b.any id = true) : b ≠ [] := fun e => by rw [e] at h; cases h
theorem dcR_run {g : TGx} {tt : TTx} {tk tv : TEx} {τ : List Sl} {q : List (List Bool) → Prop} : ∀ (rows acc : List (List Bool)), (∀ b ∈ rows, ∀ (K1 : List Bool → Prop) (K2 : Prop), (b.any id = true → K1 b) → (b.any id = false → K2) → g (bT b) τ fun τ2 => tt τ2 (fun c => if c = true then tk τ2 (fun s => tv τ2 (fun _ => ∃ bs, s.fz = bT bs ∧ bs ≠ [] ∧ K1 bs) rF) rF else K2) rF) →
    acc.length + rows.length ≤ sizeLine → q ((rows.filter fun r => r.any id).foldl dedF acc) → dcR g tt tk tv τ q (rows.map bT) acc
  | [], acc, _, _, k => k
  | b :: rows, acc, h, hl, k => by
    have hl' : acc.length + (rows.length + 1) ≤ sizeLine := hl
    refine h b List.mem_cons_self (fun bs => acc.length < sizeLine ∧ dcR g tt tk tv τ q (rows.map bT) (dedF acc bs)) (dcR g tt tk tv τ q (rows.map bT) acc) (fun hb => ⟨by omega, dcR_run rows _ (fun u hu => h u (List.mem_cons_of_mem _ hu)) (by have := dedF_len acc b; omega) ?_⟩) (fun hb => dcR_run rows _ (fun u hu => h u (List.mem_cons_of_mem _ hu)) (by omega) ?_)
    · rw [List.filter_cons_of_pos (p := fun r : List Bool => r.any id) hb] at k
      exact k
    · rw [List.filter_cons_of_neg (p := fun r : List Bool => r.any id) (by rw [hb]; decide)] at k
      exact k
theorem words_of_le (zs : List Str) : (wordsOf zs).length ≤ zs.length := List.length_filter_le _ _
section
variable {M : Mode} {ts : List T} {q : Sl → Prop} {r : Xn → Prop}
theorem st_frzIf {i : Nat} {c : Ow} {ta : TTx} {A B : TSx} {τ : List Sl} {k : Kn} (e : τ[i]? = some (.oo c)) (h : ta (τ.set i (.sh c.fz)) (fun d => if d = true then A (τ.set i (.sh c.fz)) { k with nx := fun τ' => B τ' k } else B (τ.set i (.sh c.fz)) k) k.ex) : sSeq (sFrz i (sIf ta A sNext)) B τ k := s_seq (s_frz e h)
theorem i_truths {i : Nat} {ps : List Str} {z : Str} {τ : List Sl} (P : PatsOk ps) (e0 : τ[0]? = some (.sh (.tup (tps ps)))) (e : τ[i]? = some (.sh (.str z))) (h : q (.sh (bT (row ps z)))) : gCall M sp_truths_of (aCons (gVar 0) (aCons (gVar i) aNil)) τ q r :=
  i_call (i_cons (i_var (.tup (tps ps)) e0 (i_cons (i_var (.str z) e (i_nil ⟨ps, z, rfl, P, h⟩)))))
theorem i_lenI {i : Nat} {l : List Nat} {τ : List Sl} (e : τ[i]? = some (.sh (intsT l))) (h : q (.sh (.int (l.length : Int)))) : gCB gLen (aCons (gVar i) aNil) τ q r := by
  refine i_cb (i_cons (i_var (intsT l) e (i_nil (i_lenT ?_))))
  rw [List.length_map]
  exact h
theorem i_anyX {i : Nat} {b : List Bool} {τ : List Sl} {qb : Bool → Prop} (e : τ[i]? = some (.sh (bT b))) (h : qb (b.any id)) : gB (gCB gAnyX (aCons (gVar i) aNil)) τ qb r := by
  refine i_B (i_cb (i_cons (i_var (bT b) e (i_nil ?_))))
  show oks (blAll (b.map T.bl)) _
  rw [blAll_T]
  exact h
theorem sem_view_of (h : sp_view_of M ts q r) : g_view_of M (startS ["patterns", "level", "text", "words", "sets", "token", "numbers", "some", "word", "one"] ts) (KnOf q r) := by
  obtain ⟨ps, z, t, zs, rfl, P, ht, Z, hq⟩ := h
  have few := Z.few
  have pfew := P.few
  have wfew : (wordsOf zs).length ≤ 400 := by have := words_of_le zs; omega
  unfold viewOf at hq
  refine st_set (i_call (i_cons (i_var t rfl (i_nil ⟨t, zs, rfl, ht, Z, ?_⟩))))
  refine st_frzIf (c := .l (tps (wordsOf zs))) rfl ?_
  refine i_eqS (z := z) (y := ("all" : Str)) rfl ?_
  by_cases h1 : z = ("all" : Str)
  · rw [if_pos h1] at hq
    refine ifT (decide_eq_true h1) (s_ret (i_cb (i_cons (i_lc (i_walk (i_var t rfl ?_))))))
    show oks t.items _
    rw [ht.walk]
    show lcR _ _ _ _ _ (zs.map T.str) []
    refine lcR_mf T.str (fun z : Str => if z = (".": Str) then T.non else bT (row ps z)) zs (fun y hy Q hQ => ?_) (SL (by omega)) (i_nil hq)
    refine x_name (i_if (i_brk rfl ?_))
    by_cases hb : y = (".": Str)
    · rw [if_pos hb] at hQ
      exact ifT (decide_eq_true hb) (i_c hQ)
    · rw [if_neg hb] at hQ
      exact ifF (decide_eq_false hb) (i_truths P rfl rfl hQ)
  rw [if_neg h1] at hq
  refine ifF (decide_eq_false h1) ?_
  refine st_ifN ?_
  refine i_eqS (z := z) (y := ("places" : Str)) rfl ?_
  by_cases h2 : z = ("places" : Str)
  · rw [if_pos h2] at hq
    refine ifT (decide_eq_true h2) (s_ret (i_call (i_cons (i_var (.tup (tps ps)) rfl (i_cons (i_var (.lst (tps (wordsOf zs))) rfl (i_nil ⟨ps, wordsOf zs, rfl, P, wfew, hq⟩)))))))
  rw [if_neg h2] at hq
  refine ifF (decide_eq_false h2) ?_
  refine st_ifN ?_
  refine i_eqS (z := z) (y := ("counts" : Str)) rfl ?_
  by_cases h3 : z = ("counts" : Str)
  · rw [if_pos h3] at hq
    refine ifT (decide_eq_true h3) (s_ret (i_cb (i_cons (i_lc (i_walk (i_call (i_cons (i_var (.tup (tps ps)) rfl (i_cons (i_var (.lst (tps (wordsOf zs))) rfl (i_nil ⟨ps, wordsOf zs, rfl, P, wfew, ?_⟩)))))))))))
    show lcR _ _ _ _ _ ((places ps (wordsOf zs)).map intsT) []
    refine lcR_mf intsT (fun l => T.int (l.length : Int)) (places ps (wordsOf zs)) (fun l hl Q hQ => x_name (i_lenI rfl hQ)) (SL (by unfold places; rw [List.length_map]; omega)) (i_nil hq)
  rw [if_neg h3] at hq
  refine ifF (decide_eq_false h3) ?_
  refine st_ifN ?_
  refine i_eqS (z := z) (y := ("sentence" : Str)) rfl ?_
  by_cases h4 : z = ("sentence" : Str)
  · rw [if_pos h4] at hq
    refine ifT (decide_eq_true h4) (st_set (i_lc (i_walk (i_call (i_cons (i_var t rfl (i_nil ⟨t, zs, rfl, ht, Z, ?_⟩)))))))
    have n := spl_len zs [] []
    rw [List.length_nil] at n
    have n2 : ((spl zs [] []).filter fun s => !decide (s = [])).length ≤ (spl zs [] []).length := List.length_filter_le _ _
    show lcR _ _ _ _ _ (((spl zs [] []).filter fun s => !decide (s = [])).map lsT) []
    refine lcR_mf lsT (fun s => bT (fieldL ps s)) _ (fun s hs Q hQ => ?_) (SL (by omega)) ?_
    · have hs' := spl_le (List.mem_filter.mp hs).1
      exact x_name (i_rows P (by omega) rfl (fun _ => rfl) (fun _ => rfl) rfl hQ)
    refine s_frz (c := .l (((spl zs [] []).filter fun s => !decide (s = [])).map fun s => bT (fieldL ps s))) rfl (s_ret (i_cb (i_cons ?_)))
    refine (show iWalk (gVar 4) _ (fun items => dcR _ _ _ _ (wipeS _ [9]) (fun acc => _) items []) _ from i_walk (i_var (.lst (((spl zs [] []).filter fun s => !decide (s = [])).map fun s => bT (fieldL ps s))) rfl ?_))
    show dcR _ _ _ _ _ _ (((spl zs [] []).filter fun s => !decide (s = [])).map fun s => bT (fieldL ps s)) []
    rw [show (((spl zs [] []).filter fun s => !decide (s = [])).map fun s => bT (fieldL ps s)) = (((spl zs [] []).filter fun s => !decide (s = [])).map fun s => fieldL ps s).map bT from by rw [List.map_map]; rfl]
    refine dcR_run _ [] (fun b hb K1 K2 a1 a2 => ?_) (SL (by rw [List.length_map, List.length_nil]; omega)) ?_
    · refine x_name (i_anyX rfl ?_)
      cases hb : b.any id with
      | true => exact ifT rfl (i_var (bT b) rfl (i_c ⟨b, rfl, any_ne hb, a1 hb⟩))
      | false => exact ifF rfl (a2 hb)
    · rw [filter_some]
      exact i_nil hq
  rw [if_neg h4] at hq
  refine ifF (decide_eq_false h4) ?_
  exact s_ret (i_rows P wfew rfl (fun _ => rfl) (fun _ => rfl) rfl hq)
/-! ### the whole view -/
theorem zip_fst {fs : List Str} {texts : List (List Str)} (h : texts.length = fs.length) : fs.map T.str = (fs.zip texts).map fun x => T.str x.1 := by
  rw [show (fs.zip texts).map (fun x => T.str x.1) = ((fs.zip texts).map Prod.fst).map T.str from by rw [List.map_map]; rfl, List.map_fst_zip (by omega)]
theorem zip_snd {α : Type} {fs : List Str} {texts : List (List Str)} (f : List Str → α) (h : texts.length = fs.length) : ((fs.zip texts).map fun x => f x.2) = texts.map f := by
  rw [show (fs.zip texts).map (fun x => f x.2) = ((fs.zip texts).map Prod.snd).map f from by rw [List.map_map]; rfl, List.map_snd_zip (by omega)]
theorem DocOk.mem {fs : List Str} {texts : List (List Str)} {kts : List (Key × T)} (D : DocOk fs texts kts) {x : Str × List Str} (h : x ∈ fs.zip texts) : ∃ t, lookK kts (.inr x.1) = some t ∧ IsTxt t x.2 ∧ TxtOk x.2 := by
  obtain ⟨i, hi, e⟩ := List.getElem_of_mem h
  rw [List.length_zip] at hi
  have h1 : i < fs.length := by omega
  have h2 : i < texts.length := by omega
  rw [List.getElem_zip] at e
  obtain ⟨t, a, b⟩ := D.g i fs[i] texts[i] (List.getElem?_eq_getElem h1) (List.getElem?_eq_getElem h2)
  subst e
  exact ⟨t, a, b, D.t _ (List.getElem_mem h2)⟩
theorem view_doc {ps : List Str} {texts : List (List Str)} : texts.map (viewOf ps "document") = (texts.map fun zs => fieldL ps (wordsOf zs)).map bT := by
  rw [List.map_map]
  refine List.map_congr_left fun zs _ => ?_
  unfold viewOf
  rw [if_neg (by decide), if_neg (by decide), if_neg (by decide), if_neg (by decide)]
  rfl
theorem sem_view (h : sp_view M ts q r) : g_view M (startS ["fields", "patterns", "level", "document", "found", "field"] ts) (KnOf q r) := by
  obtain ⟨fs, ps, z, texts, kts, rfl, F, P, hz, D, hq⟩ := h
  have few := F.few
  refine st_drop (i_call (i_cons (i_var (.tup (tps fs)) rfl (i_nil ⟨fs, rfl, F, ?_⟩))))
  refine st_drop (i_call (i_cons (i_var (.tup (tps ps)) rfl (i_nil ⟨ps, rfl, P, ?_⟩))))
  refine st_drop (i_call (i_cons (i_var (.str z) rfl (i_nil ⟨z, rfl, hz, ?_⟩))))
  refine st_drop (i_call (i_cons (i_var (.tup (tps fs)) rfl (i_cons (i_var (.dct kts) rfl (i_nil ⟨fs, texts, kts, rfl, F, D, ?_⟩))))))
  refine st_set (i_cb (i_cons (i_lc (i_walk (i_var (.tup (tps fs)) rfl ?_)))))
  show lcR _ _ _ _ _ (fs.map T.str) []
  rw [zip_fst D.l]
  refine lcR_mf _ (fun x => viewOf ps z x.2) (fs.zip texts) (fun x hx Q hQ => ?_) (SL (by rw [List.length_zip]; omega)) (i_nil (i_tupL ?_))
  · obtain ⟨t, e, ht, Z⟩ := D.mem hx
    exact x_name (i_call (i_cons (i_var (.tup (tps ps)) rfl (i_cons (i_var (.str z) rfl (i_cons (i_dget rfl rfl e (i_nil ⟨ps, z, t, x.2, rfl, P, ht, Z, hQ⟩))))))))
  · rw [zip_snd (viewOf ps z) D.l]
    unfold viewT at hq
    refine s_if ?_
    refine i_eqS (z := z) (y := ("document" : Str)) rfl ?_
    by_cases h1 : z = ("document" : Str)
    · rw [if_pos h1] at hq
      refine ifT (decide_eq_true h1) (s_ret (i_call (i_cons (i_var (.tup (texts.map (viewOf ps z))) rfl (i_cons (i_cb (i_cons (i_var (.tup (tps ps)) rfl (i_nil (i_lenT (i_nil ?_)))))))))))
      rw [h1, view_doc]
      refine ⟨_, texts.map fun zs => fieldL ps (wordsOf zs), ps.length, ?_, .inr rfl, fun b hb => ?_, P.few, by rw [List.length_map, D.l]; omega, hq⟩
      · rw [List.length_map]
        rfl
      · obtain ⟨zs, _, rfl⟩ := List.mem_map.mp hb
        exact field_len _ _
    · rw [if_neg h1] at hq
      exact ifF (decide_eq_false h1) hq
end
end K44
namespace K44
open PySem PySem.Spec PyProof.Rows L2 TL K00
variable [TheW]
/-! ### numbers of places -/
theorem idx_lt (f : Str → Bool) : ∀ (n : Nat) (zs : List Str), ∀ k ∈ idx f n zs, k < n + zs.length
  | _, [], k, h => absurd h List.not_mem_nil
  | n, z :: zs, k, h => by
    unfold idx at h
    rw [List.length_cons]
    by_cases hf : f z = true
    · rw [if_pos hf] at h
      rcases List.mem_cons.mp h with rfl | h
      · omega
      · have := idx_lt f (n + 1) zs k h; omega
    · rw [if_neg hf] at h
      have := idx_lt f (n + 1) zs k h; omega
theorem idx_any (f : Str → Bool) : ∀ (n : Nat) (zs : List Str), (!decide (idx f n zs = [])) = zs.any f
  | _, [] => rfl
  | n, z :: zs => by
    unfold idx
    rw [List.any_cons]
    by_cases hf : f z = true
    · rw [if_pos hf, hf, Bool.true_or]
      rfl
    · rw [if_neg hf, show f z = false from Bool.eq_false_iff.mpr hf, Bool.false_or, idx_any f (n + 1) zs]
theorem field_places (ps ws : List Str) : (places ps ws).map (fun l => !decide (l = [])) = fieldL ps ws := by
  rw [places_range, List.map_map]
  unfold fieldL orL
  refine List.map_congr_left fun i _ => ?_
  show (!decide (idx (fun z => (row ps z)[i]?.getD false) 0 ws = [])) = (ws.map (row ps)).any _
  rw [idx_any, List.any_map]
  rfl
theorem nat_short : ∀ n : Nat, n < 1001 → (PyData.int (n : Int)).showable = true ∧ PyData.leavesShort 13 (.int (n : Int)) = true := by decide +kernel
theorem sm_nat {n : Nat} (h : n ≤ 1000) : Sm 0 0 (.int (n : Int)) := ⟨(nat_short n (by omega)).1, (nat_short n (by omega)).2, Nat.le_refl _, Nat.le_refl _, rfl, rfl⟩
theorem sm_none : Sm 0 0 .none := ⟨rfl, rfl, Nat.le_refl _, Nat.le_refl _, rfl, rfl⟩
theorem py_ints : ∀ l : List Nat, pyAll (l.map fun n : Nat => T.int (n : Int)) = some (l.map fun n : Nat => PyData.int (n : Int))
  | [] => rfl
  | n :: l => by simp only [List.map_cons, pyAll, py_ints l, T.py]
theorem sm_ints {l : List Nat} (h : ∀ n ∈ l, n ≤ 1000) : Sm l.length 1 (.tuple (l.map fun n : Nat => PyData.int (n : Int))) :=
  (Sm.tuple (k := 0) (m := 0) (ds := l.map fun n : Nat => PyData.int (n : Int)) (fun d hd => by obtain ⟨n, hn, rfl⟩ := List.mem_map.mp hd; exact sm_nat (h n hn))).mono (by rw [List.length_map]; omega) (Nat.le_refl _)
section
variable {M : Mode} {ts : List T} {q : Sl → Prop} {r : Xn → Prop}
theorem eqv_nilT (ds : List PyData) : PyData.eqv (.tuple ds) (.tuple []) = decide (ds = []) := by
  cases ds with
  | nil => rfl
  | cons d ds => rfl
theorem ne_ints {l : List Nat} (h : ∀ n ∈ l, n ≤ 1000) (hl : l.length ≤ 1000) (hq : q (.sh (.bl (!decide (l = []))))) : gNe (intsT l) (.tup []) q := by
  have e1 : (intsT l).py = some (.tuple (l.map fun n : Nat => PyData.int (n : Int))) := by
    unfold intsT
    simp only [T.py, py_ints, Option.map_some]
  have e2 : (T.tup []).py = some (.tuple []) := rfl
  show match (intsT l).py, (T.tup []).py with
    | some d, some e => SeqAt.shaped d = true ∧ SeqAt.shaped e = true ∧ _
    | _, _ => False
  rw [e1, e2]
  refine ⟨(sm_ints h).shaped (by decide), (sm_ints (l := []) (fun n hn => absurd hn List.not_mem_nil)).shaped (by decide), ?_⟩
  show q (.sh (.bl (!(PyData.eqv (.tuple (l.map fun n : Nat => PyData.int (n : Int))) (.tuple [])))))
  rw [eqv_nilT, show decide (l.map (fun n : Nat => PyData.int (n : Int)) = []) = decide (l = []) from by simp]
  exact hq
theorem i_chain {i : Nat} {ps : List Str} {z : Str} {τ : List Sl} (P : PatsOk ps) (hz : (cps z).length ≤ 8) (e0 : τ[0]? = some (.sh (.tup (tps ps)))) (e : τ[i]? = some (.sh (.str z))) (h : q (.sh (bT (row ps z)))) : gCall M sp__law_chain (aCons (gVar 0) (aCons (gVar i) aNil)) τ q r :=
  i_call (i_cons (i_var (.tup (tps ps)) e0 (i_cons (i_var (.str z) e (i_nil ⟨ps, z, rfl, P, hz, h⟩)))))
theorem i_trueIn {i : Nat} {b : List Bool} {τ : List Sl} {qb : Bool → Prop} (e : τ[i]? = some (.sh (bT b))) (h : qb (b.any id)) : gB (gOp (gInF false) (gC (.bl true)) (gVar i)) τ qb r := by
  refine i_B (i_op (i_c (i_var (bT b) e ?_)))
  show oks (blAll (b.map T.bl)) _
  rw [blAll_T]
  show qb (decide (true ∈ b))
  have e2 : decide (true ∈ b) = b.any id := by
    rw [Bool.eq_iff_iff, decide_eq_true_eq, List.any_eq_true]
    exact ⟨fun h => ⟨true, h, rfl⟩, fun ⟨x, h1, h2⟩ => by
      have : x = true := h2
      rw [← this]; exact h1⟩
  rw [e2]
  exact h
theorem words_in {zs : List Str} {z : Str} (h : z ∈ wordsOf zs) : z ∈ zs := (List.mem_filter.mp h).1
theorem sem__law_view_of (h : sp__law_view_of M ts q r) : g__law_view_of M (startS ["patterns", "level", "text", "words", "numbers", "sets", "token", "pattern", "at", "word", "some", "one"] ts) (KnOf q r) := by
  obtain ⟨ps, z, t, zs, rfl, P, ht, Z, hd, hq⟩ := h
  have few := Z.few
  have pfew := P.few
  have wfew : (wordsOf zs).length ≤ 400 := by have := words_of_le zs; omega
  have zlen : ∀ y ∈ zs, (cps y).length ≤ 8 := fun y hy => tok_len (Z.ok y hy)
  unfold viewOf at hq
  refine st_set (i_lc (i_walk (i_var t rfl ?_)))
  show oks t.items _
  rw [ht.walk]
  show lcR _ _ _ _ _ (zs.map T.str) []
  refine lcR_pf T.str (fun z => !decide (z = (".": Str))) T.str zs [] (fun y hy Q hQ => i_B (i_op (i_var (.str y) rfl (i_c (dec_brk hQ))))) (fun y hy _ Q hQ => hQ) (SL (by rw [List.length_nil]; omega)) ?_
  rw [List.nil_append]
  refine st_frzIf (c := .l (tps (wordsOf zs))) rfl ?_
  refine i_eqS (z := z) (y := ("all" : Str)) rfl ?_
  by_cases h1 : z = ("all" : Str)
  · rw [if_pos h1] at hq
    refine ifT (decide_eq_true h1) (s_ret (i_cb (i_cons (i_lc (i_walk (i_var t rfl ?_))))))
    show oks t.items _
    rw [ht.walk]
    show lcR _ _ _ _ _ (zs.map T.str) []
    refine lcR_mf T.str (fun z : Str => if z = (".": Str) then T.non else bT (row ps z)) zs (fun y hy Q hQ => ?_) (SL (by omega)) (i_nil hq)
    refine x_name (i_if (i_brk rfl ?_))
    by_cases hb : y = (".": Str)
    · rw [if_pos hb] at hQ
      exact ifT (decide_eq_true hb) (i_c hQ)
    · rw [if_neg hb] at hQ
      exact ifF (decide_eq_false hb) (i_chain P (zlen y hy) rfl rfl hQ)
  rw [if_neg h1] at hq
  refine ifF (decide_eq_false h1) ?_
  refine st_set (i_cb (i_cons (i_lc (i_walk (i_var (.tup (tps ps)) rfl ?_)))))
  show lcR _ _ _ _ _ (ps.map T.str) []
  refine lcR_mf T.str (fun p => intsT (idx (fun z => suits (cps p) (cps z)) 0 (wordsOf zs))) ps (fun p hp Q hQ => ?_) (SL (by omega)) (i_nil (i_tupL ?_))
  · refine x_name (i_cb (i_cons (i_lc (i_cons (i_var (.lst (tps (wordsOf zs))) rfl (i_nil ?_))))))
    show lcR _ _ _ _ _ (enumT 0 ((wordsOf zs).map T.str)) []
    rw [enum_numb]
    refine lcR_pg _ (fun x => suits (cps p) (cps x.2)) (fun x => T.int (x.1 : Int)) (numb 0 (wordsOf zs)) [] (fun x hx K1 K2 a1 a2 => ?_) (SL (by rw [numb_len, List.length_nil]; omega)) (i_nil ?_)
    · have hx2 := numb_mem 0 _ x hx
      refine x_tup2 (i_B (i_call (i_cons (i_var (.str p) rfl (i_cons (i_var (.str x.2) rfl (i_nil ⟨p, x.2, rfl, P.ok p hp, zlen _ (words_in hx2), i_isB ?_⟩)))))))
      cases hs : suits (cps p) (cps x.2) with
      | true => exact ifT rfl (i_var (.int (x.1 : Int)) rfl (a1 hs))
      | false => exact ifF rfl (a2 hs)
    · show Q (.sh (.tup ([] ++ _)))
      rw [List.nil_append, ints_filter fun z => suits (cps p) (cps z)]
      exact hQ
  have ep : T.tup (ps.map fun p => intsT (idx (fun z => suits (cps p) (cps z)) 0 (wordsOf zs))) = placesT ps (wordsOf zs) := by
    unfold placesT places
    rw [List.map_map]
    rfl
  rw [ep]
  refine st_ifN ?_
  refine i_eqS (z := z) (y := ("places" : Str)) rfl ?_
  by_cases h2 : z = ("places" : Str)
  · rw [if_pos h2] at hq
    exact ifT (decide_eq_true h2) hq
  rw [if_neg h2] at hq
  refine ifF (decide_eq_false h2) ?_
  refine st_ifN ?_
  refine i_eqS (z := z) (y := ("counts" : Str)) rfl ?_
  by_cases h3 : z = ("counts" : Str)
  · rw [if_pos h3] at hq
    refine ifT (decide_eq_true h3) (s_ret (i_cb (i_cons (i_lc (i_walk (i_var (placesT ps (wordsOf zs)) rfl ?_))))))
    show lcR _ _ _ _ _ ((places ps (wordsOf zs)).map intsT) []
    refine lcR_mf intsT (fun l => T.int (l.length : Int)) (places ps (wordsOf zs)) (fun l hl Q hQ => x_name (i_lenI rfl hQ)) (SL (by unfold places; rw [List.length_map]; omega)) (i_nil hq)
  rw [if_neg h3] at hq
  refine ifF (decide_eq_false h3) ?_
  refine st_ifN ?_
  refine i_eqS (z := z) (y := ("sentence" : Str)) rfl ?_
  by_cases h4 : z = ("sentence" : Str)
  · rw [if_pos h4] at hq
    refine ifT (decide_eq_true h4) (st_set (i_lc (i_walk (i_call (i_cons (i_var t rfl (i_nil ⟨t, zs, rfl, ht, Z, ?_⟩)))))))
    have n := spl_len zs [] []
    rw [List.length_nil] at n
    show lcR _ _ _ _ _ ((spl zs [] []).map lsT) []
    refine lcR_mf lsT (fun s => bT (fieldL ps s)) _ (fun s hs Q hQ => ?_) (SL (by omega)) ?_
    · have hs' := spl_le hs
      exact x_name (i_rowsL P (by omega) (fun y hy => zlen y (spl_in hs hy)) rfl (fun _ => rfl) (fun _ => rfl) rfl hQ)
    refine s_frz (c := .l ((spl zs [] []).map fun s => bT (fieldL ps s))) rfl (s_ret (i_cb (i_cons ?_)))
    refine (show aCons _ aNil _ (fun ts => match ts with
      | [.lst us] => oks (bssT us) fun bss => (∃ D : List (List Bool), D.length < 63 ∧ ∀ b ∈ bss, b ∈ D) ∧ (∀ b ∈ bss, b ≠ []) ∧ ∀ l : List (List Bool), l.Nodup → (∀ x, x ∈ l ↔ x ∈ bss) → _
      | _ => False) _ from i_cons (i_lc (i_walk (i_var (.lst ((spl zs [] []).map fun s => bT (fieldL ps s))) rfl ?_))))
    show lcR _ _ _ _ _ ((spl zs [] []).map fun s => bT (fieldL ps s)) []
    refine lcR_pf (fun s => bT (fieldL ps s)) (fun s => (fieldL ps s).any id) (fun s => bT (fieldL ps s)) (spl zs [] []) [] (fun s hs Q hQ => i_trueIn rfl hQ) (fun s hs _ Q hQ => i_var (bT (fieldL ps s)) rfl hQ) (SL (by rw [List.length_nil]; omega)) (i_nil ?_)
    rw [List.nil_append]
    have em : ((spl zs [] []).filter fun s => (fieldL ps s).any id).map (fun s => bT (fieldL ps s)) = (setRows ps zs).map bT := by
      unfold setRows
      rw [List.filter_map, List.map_map]
      rfl
    show oks (bssT (((spl zs [] []).filter fun s => (fieldL ps s).any id).map fun s => bT (fieldL ps s))) _
    rw [em, bssT_map]
    refine ⟨⟨dedup (setRows ps zs), by omega, fun b hb => dedup_mem.mpr hb⟩, fun b hb => any_ne (List.mem_filter.mp hb).2, fun l nd hm => i_nil ?_⟩
    rw [set_sorted nd hm]
    exact hq
  rw [if_neg h4] at hq
  refine ifF (decide_eq_false h4) ?_
  refine s_ret (i_cb (i_cons (i_lc (i_walk (i_var (placesT ps (wordsOf zs)) rfl ?_)))))
  show lcR _ _ _ _ _ ((places ps (wordsOf zs)).map intsT) []
  refine lcR_mf intsT (fun l => T.bl (!decide (l = []))) (places ps (wordsOf zs)) (fun l hl Q hQ => ?_) (SL (by unfold places; rw [List.length_map]; omega)) (i_nil ?_)
  · unfold places at hl
    obtain ⟨p, _, rfl⟩ := List.mem_map.mp hl
    refine x_name (i_op (i_var (intsT _) rfl (i_tup (i_nil ⟨Nat.zero_le _, ne_ints (fun n hn => ?_) ?_ hQ⟩))))
    · have := idx_lt _ 0 _ n hn; omega
    · have := idx_le (fun z => suits (cps p) (cps z)) 0 (wordsOf zs); omega
  · have e : T.tup ((places ps (wordsOf zs)).map fun l => T.bl (!decide (l = []))) = bT (fieldL ps (wordsOf zs)) := by
      rw [← field_places]
      unfold bT
      rw [List.map_map]
      rfl
    rw [← e] at hq
    exact hq
theorem sem__law_view (h : sp__law_view M ts q r) : g__law_view M (startS ["fields", "patterns", "level", "document", "found", "field"] ts) (KnOf q r) := by
  obtain ⟨fs, ps, z, texts, kts, rfl, F, P, D, hd, hq⟩ := h
  have few := F.few
  refine st_set (i_cb (i_cons (i_lc (i_walk (i_var (.tup (tps fs)) rfl ?_)))))
  show lcR _ _ _ _ _ (fs.map T.str) []
  rw [zip_fst D.l]
  refine lcR_mf _ (fun x => viewOf ps z x.2) (fs.zip texts) (fun x hx Q hQ => ?_) (SL (by rw [List.length_zip]; omega)) (i_nil (i_tupL ?_))
  · obtain ⟨t, e, ht, Z⟩ := D.mem hx
    exact x_name (i_call (i_cons (i_var (.tup (tps ps)) rfl (i_cons (i_var (.str z) rfl (i_cons (i_dget rfl rfl e (i_nil ⟨ps, z, t, x.2, rfl, P, ht, Z, hd _ (List.of_mem_zip hx).2, hQ⟩))))))))
  · rw [zip_snd (viewOf ps z) D.l]
    unfold viewT at hq
    refine s_if ?_
    refine i_eqS (z := z) (y := ("document" : Str)) rfl ?_
    by_cases h1 : z = ("document" : Str)
    · rw [if_pos h1] at hq
      refine ifT (decide_eq_true h1) (s_ret (i_call (i_cons (i_var (.tup (texts.map (viewOf ps z))) rfl (i_cons (i_cb (i_cons (i_var (.tup (tps ps)) rfl (i_nil (i_lenT (i_nil ?_)))))))))))
      rw [h1, view_doc]
      refine ⟨_, texts.map fun zs => fieldL ps (wordsOf zs), ps.length, ?_, .inr rfl, fun b hb => ?_, P.few, by rw [List.length_map, D.l]; omega, hq⟩
      · rw [List.length_map]
        rfl
      · obtain ⟨zs, _, rfl⟩ := List.mem_map.mp hb
        exact field_len _ _
    · rw [if_neg h1] at hq
      exact ifF (decide_eq_false h1) hq
end
end K44
namespace K44
open PySem PySem.Spec PyProof.Rows L2 TL K00
variable [TheW]
/-! ### dicts of documents -/
def docF (f : List Str → T) (fs : List Str) (texts : List (List Str)) : List (Key × T) := List.zipWith (fun fl zs => ((.inr fl : Key), f zs)) fs texts
abbrev tpT (s : List Str) : T := .tup (tps s)
theorem doc_lst (fs : List Str) (texts : List (List Str)) : docK fs texts = docF lsT fs texts := rfl
theorem FldOk.nodup {fs : List Str} (F : FldOk fs) : fs.Nodup := F.asc.imp fun {a b} h e => by
  rw [e] at h
  exact List.lt_irrefl _ h
theorem look_cons_ne {k k' : Key} {t : T} {kts : List (Key × T)} (h : k' ≠ k) : lookK ((k', t) :: kts) k = lookK kts k := by
  unfold lookK
  rw [List.find?_cons_of_neg (by simpa using h)]
theorem look_cons_eq {k : Key} {t : T} {kts : List (Key × T)} : lookK ((k, t) :: kts) k = some t := by
  unfold lookK
  rw [List.find?_cons_of_pos (by simp)]
  rfl
theorem docF_look {f : List Str → T} : ∀ {fs : List Str} {texts : List (List Str)} {i : Nat} {fl : Str} {zs : List Str}, fs.Nodup → fs[i]? = some fl → texts[i]? = some zs → lookK (docF f fs texts) (.inr fl) = some (f zs)
  | [], _, _, _, _, _, h, _ => by simp at h
  | _ :: _, [], _, _, _, _, _, h => by simp at h
  | a :: fs, b :: texts, 0, fl, zs, nd, h1, h2 => by
    simp only [List.getElem?_cons_zero, Option.some.injEq] at h1 h2
    subst h1; subst h2
    exact look_cons_eq
  | a :: fs, b :: texts, i + 1, fl, zs, nd, h1, h2 => by
    simp only [List.getElem?_cons_succ] at h1 h2
    have ne : a ≠ fl := fun e => (List.nodup_cons.mp nd).1 (e ▸ List.mem_of_getElem? h1)
    show lookK ((.inr a, f b) :: docF f fs texts) (.inr fl) = _
    rw [look_cons_ne fun e => ne (Sum.inr.inj e)]
    exact docF_look (List.nodup_cons.mp nd).2 h1 h2
theorem docF_any {f : List Str → T} {fl : Str} : ∀ {fs : List Str} {texts : List (List Str)}, fl ∉ fs → ((docF f fs texts).any fun kv => decide (kv.1 = .inr fl)) = false
  | [], _, _ => rfl
  | _ :: _, [], _ => rfl
  | a :: fs, b :: texts, h => by
    show (decide ((.inr a : Key) = .inr fl) || ((docF f fs texts).any fun kv => decide (kv.1 = .inr fl))) = false
    rw [docF_any fun h' => h (List.mem_cons_of_mem _ h'), decide_eq_false fun e => h (by rw [Sum.inr.inj e]; exact List.mem_cons_self)]
    rfl
theorem docF_new {f : List Str → T} {fs : List Str} {texts : List (List Str)} {fl : Str} {zs : List Str} (hl : texts.length = fs.length) (h : fl ∉ fs) : putT (docF f fs texts) (.inr fl) (f zs) = docF f (fs ++ [fl]) (texts ++ [zs]) := by
  unfold putT
  rw [docF_any h, if_neg (by decide)]
  unfold docF
  rw [List.zipWith_append hl.symm]
  rfl
theorem putT_cons_ne {k k' : Key} {t t' : T} {kts : List (Key × T)} (h : k' ≠ k) (ha : (kts.any fun kv => decide (kv.1 = k)) = true) : putT ((k', t') :: kts) k t = (k', t') :: putT kts k t := by
  unfold putT
  rw [List.any_cons, ha, Bool.or_true, if_pos rfl, if_pos rfl, List.map_cons, if_neg h]
theorem docF_has {f : List Str → T} : ∀ {fs : List Str} {texts : List (List Str)} {i : Nat} {fl : Str}, fs[i]? = some fl → i < texts.length → ((docF f fs texts).any fun kv => decide (kv.1 = .inr fl)) = true
  | [], _, _, _, h, _ => by simp at h
  | _ :: _, [], _, _, _, h => by simp at h
  | a :: fs, b :: texts, 0, fl, h1, h2 => by
    simp only [List.getElem?_cons_zero, Option.some.injEq] at h1
    subst h1
    show (decide ((.inr a : Key) = .inr a) || _) = true
    rw [decide_eq_true rfl, Bool.true_or]
  | a :: fs, b :: texts, i + 1, fl, h1, h2 => by
    simp only [List.getElem?_cons_succ] at h1
    show (decide ((.inr a : Key) = .inr fl) || ((docF f fs texts).any fun kv => decide (kv.1 = .inr fl))) = true
    rw [docF_has h1 (by simpa using h2), Bool.or_true]
theorem map_not {k : Key} {t : T} : ∀ {kts : List (Key × T)}, (kts.any fun kv => decide (kv.1 = k)) = false → (kts.map fun kv => if kv.1 = k then (kv.1, t) else kv) = kts
  | [], _ => rfl
  | kv :: kts, h => by
    rw [List.any_cons, Bool.or_eq_false_iff] at h
    rw [List.map_cons, if_neg (of_decide_eq_false h.1), map_not h.2]
theorem docF_put {f : List Str → T} : ∀ {fs : List Str} {texts : List (List Str)} {i : Nat} {fl : Str} {zs : List Str}, fs.Nodup → fs[i]? = some fl → i < texts.length → putT (docF f fs texts) (.inr fl) (f zs) = docF f fs (texts.set i zs)
  | [], _, _, _, _, _, h, _ => by simp at h
  | _ :: _, [], _, _, _, _, _, h => by simp at h
  | a :: fs, b :: texts, 0, fl, zs, nd, h1, h2 => by
    simp only [List.getElem?_cons_zero, Option.some.injEq] at h1
    subst h1
    have n := docF_any (f := f) (texts := texts) (List.nodup_cons.mp nd).1
    show putT ((.inr a, f b) :: docF f fs texts) (.inr a) (f zs) = (.inr a, f zs) :: docF f fs texts
    unfold putT
    rw [List.any_cons, decide_eq_true rfl, Bool.true_or, if_pos rfl, List.map_cons, if_pos rfl, map_not n]
  | a :: fs, b :: texts, i + 1, fl, zs, nd, h1, h2 => by
    simp only [List.getElem?_cons_succ] at h1
    have h2' : i < texts.length := by simpa using h2
    have ne : a ≠ fl := fun e => (List.nodup_cons.mp nd).1 (e ▸ List.mem_of_getElem? h1)
    show putT ((.inr a, f b) :: docF f fs texts) (.inr fl) (f zs) = (.inr a, f b) :: docF f fs (texts.set i zs)
    rw [putT_cons_ne (fun e => ne (Sum.inr.inj e)) (docF_has h1 h2'), docF_put (List.nodup_cons.mp nd).2 h1 h2']
theorem docF_merge {f : List Str → T} : ∀ {fs pre : List Str} {texts pts : List (List Str)}, (pre ++ fs).Nodup → pts.length = pre.length → texts.length = fs.length → mergeT (docF f pre pts) (docF f fs texts) = docF f (pre ++ fs) (pts ++ texts)
  | [], pre, [], pts, _, _, _ => by
    rw [List.append_nil, List.append_nil]
    rfl
  | [], _, _ :: _, _, _, _, h => by simp at h
  | _ :: _, _, [], _, _, _, h => by simp at h
  | a :: fs, pre, b :: texts, pts, nd, h1, h2 => by
    have na : a ∉ pre := fun h => (List.nodup_append.mp nd).2.2 a h a List.mem_cons_self rfl
    show mergeT (putT (docF f pre pts) (.inr a) (f b)) (docF f fs texts) = _
    rw [docF_new h1 na, docF_merge (by rw [List.append_assoc]; exact nd) (by rw [List.length_append, List.length_append, h1]; rfl) (by simpa using h2), List.append_assoc, List.append_assoc]
    rfl
theorem docF_dict {f : List Str → T} {fs : List Str} {texts : List (List Str)} (nd : fs.Nodup) (hl : texts.length = fs.length) : mergeT [] (docF f fs texts) = docF f fs texts :=
  docF_merge (pre := []) (pts := []) nd rfl hl
theorem docF_kvs {f : List Str → T} : ∀ {fs : List Str} {texts : List (List Str)}, kvsT ((fs.zip texts).map fun x => T.tup [.str x.1, f x.2]) = some (docF f fs texts)
  | [], _ => rfl
  | _ :: _, [] => rfl
  | a :: fs, b :: texts => by
    show (match (T.str a).key, kvsT ((fs.zip texts).map fun x => T.tup [.str x.1, f x.2]) with
      | some k, some kts => some ((k, f b) :: kts)
      | _, _ => none) = _
    rw [docF_kvs]
    rfl
theorem docF_len {f : List Str → T} {fs : List Str} {texts : List (List Str)} (hl : texts.length = fs.length) : (docF f fs texts).length = fs.length := by
  unfold docF
  rw [List.length_zipWith, hl, Nat.min_self]
theorem docF_ok {f : List Str → T} {fs : List Str} {texts : List (List Str)} (F : FldOk fs) (hl : texts.length = fs.length) (hf : ∀ zs, IsTxt (f zs) zs) (ht : ∀ zs ∈ texts, TxtOk zs) : DocOk fs texts (docF f fs texts) :=
  ⟨docF_len hl, hl, ht, fun i fl zs h1 h2 => ⟨f zs, docF_look F.nodup h1 h2, hf zs⟩⟩
theorem cut_take (xs : List T) (n : Nat) : cutT xs none (some (n : Int)) = xs.take n := by
  unfold cutT
  rw [HT.sIx_none, HT.sIx_nat, List.drop_zero, Nat.sub_zero]
  rcases Nat.le_total n xs.length with h | h
  · rw [Nat.min_eq_left h]
  · rw [Nat.min_eq_right h, List.take_length, List.take_of_length_le h]
theorem cut_drop (xs : List T) (n : Nat) : cutT xs (some (n : Int)) none = xs.drop n := by
  unfold cutT
  rw [HT.sIx_none, HT.sIx_nat]
  rcases Nat.le_total n xs.length with h | h
  · rw [Nat.min_eq_left h]
    exact List.take_of_length_le (by rw [List.length_drop]; exact Nat.le_refl _)
  · rw [Nat.min_eq_right h, List.drop_length, List.drop_of_length_le h, List.take_nil]
theorem tps_take (zs : List Str) (n : Nat) : (tps zs).take n = tps (zs.take n) := List.map_take.symm
theorem tps_drop (zs : List Str) (n : Nat) : (tps zs).drop n = tps (zs.drop n) := List.map_drop.symm
theorem tps_app (a b : List Str) : tps a ++ tps b = tps (a ++ b) := List.map_append.symm
theorem tps_rev (a : List Str) : (tps a).reverse = tps a.reverse := List.map_reverse.symm
section
variable {M : Mode} {ts : List T} {q : Sl → Prop} {r : Xn → Prop}
theorem i_takeL {i j n : Nat} {zs : List Str} {τ : List Sl} (e : τ[i]? = some (.sh (lsT zs))) (e2 : τ[j]? = some (.sh (.int (n : Int)))) (h : q (.ol (tps (zs.take n)))) : gSli gCut (gVar i) oNo (oSome (gVar j)) τ q r := by
  refine i_var (q := fun s => gVar j τ (fun u => isI u.fz fun k => gCut s.fz none (some k) q) r) (lsT zs) e (i_var (q := fun u => isI u.fz fun k => gCut (lsT zs) none (some k) q) (.int (n : Int)) e2 ?_)
  show q (.ol (cutT (tps zs) none (some (n : Int))))
  rw [cut_take, tps_take]
  exact h
theorem i_dropL {i j n : Nat} {zs : List Str} {τ : List Sl} (e : τ[i]? = some (.sh (lsT zs))) (e2 : τ[j]? = some (.sh (.int (n : Int)))) (h : q (.ol (tps (zs.drop n)))) : gSli gCut (gVar i) (oSome (gVar j)) oNo τ q r := by
  refine i_var (q := fun s => gVar j τ (fun u => isI u.fz fun k => gCut s.fz (some k) none q) r) (lsT zs) e (i_var (q := fun u => isI u.fz fun k => gCut (lsT zs) (some k) none q) (.int (n : Int)) e2 ?_)
  show q (.ol (cutT (tps zs) (some (n : Int)) none))
  rw [cut_drop, tps_drop]
  exact h
theorem i_dropL1 {i j n : Nat} {zs : List Str} {τ : List Sl} (e : τ[i]? = some (.sh (lsT zs))) (e2 : τ[j]? = some (.sh (.int (n : Int)))) (h : q (.ol (tps (zs.drop (n + 1))))) : gSli gCut (gVar i) (oSome (gOp gAdd (gVar j) (gC (.int 1)))) oNo τ q r := by
  refine i_var (q := fun s => gOp gAdd (gVar j) (gC (.int 1)) τ (fun u => isI u.fz fun k => gCut s.fz (some k) none q) r) (lsT zs) e (i_op (i_var (.int (n : Int)) e2 ?_))
  show q (.ol (cutT (tps zs) (some ((n : Int) + 1)) none))
  rw [show (n : Int) + 1 = ((n + 1 : Nat) : Int) from rfl, cut_drop, tps_drop]
  exact h
theorem s_dp {i j : Nat} {kts : List (Key × T)} {fl : Str} {b : TEx} {τ : List Sl} {k : Kn} (e : τ[i]? = some (.od kts)) (e2 : τ[j]? = some (.sh (.str fl))) (hl : kts.length ≤ 100000) (h : b τ (fun u => k.nx (τ.set i (.od (putT kts (.inr fl) u.fz)))) k.ex) (mono : ∀ (Q Q' : Sl → Prop), (∀ s, Q s → Q' s) → b τ Q k.ex → b τ Q' k.ex) : sDp i (gVar j) b τ k := by
  refine ⟨⟨kts, e⟩, mono _ _ (fun u hu => ?_) h⟩
  refine i_var (.str fl) e2 ?_
  rw [e]
  exact ⟨by rw [sizeLine_eq]; show kts.length < _; omega, hu⟩
theorem sem__law_levels (h : sp__law_levels M ts q r) : g__law_levels (startS [] ts) (KnOf q r) := by
  obtain ⟨rfl, hq⟩ := h
  exact s_ret (show 6 ≤ sizeLine ∧ q (.ol (tps levels)) from ⟨SL, hq⟩)
theorem sem__law_says (h : sp__law_says M ts q r) : g__law_says (startS ["told", "due"] ts) (KnOf q r) := by
  obtain ⟨t, u, d, rfl, e1, e2, s, hq⟩ := h
  refine s_ret (i_op (i_cb (i_cons (i_var t rfl (i_nil (i_show e1 s (i_cb (i_cons (i_var u rfl (i_nil (i_show e2 s ?_))))))))))) 
  show q (.sh (.bl (decide (d.shown = d.shown))))
  rw [decide_eq_true rfl]
  exact hq
def flds : List (List Str) := [["body"], ["body"], ["body", "title"], ["a", "body", "zebra"]]
theorem flds_ok : ∀ fs ∈ flds, FldOk fs := by
  have h : ∀ fs ∈ flds, (∀ f ∈ fs, wordL (cps f) = true) ∧ 1 ≤ fs.length ∧ fs.length ≤ 3 ∧ fs.Pairwise fun a b => cps a < cps b := by decide +kernel
  exact fun fs hf => ⟨(h fs hf).1, (h fs hf).2.1, (h fs hf).2.2.1, (h fs hf).2.2.2⟩
theorem sem__law_fields (h : sp__law_fields M ts q r) : g__law_fields M (startS ["draw"] ts) (KnOf q r) := by
  obtain ⟨d, rfl, hM, hq⟩ := h
  refine s_ret (i_call (i_cons (i_var (.raw (.ref d)) rfl (i_cons ?_))))
  refine (show 1 ≤ sizeLine ∧ 1 ≤ sizeLine ∧ 2 ≤ sizeLine ∧ 3 ≤ sizeLine ∧ 4 ≤ sizeLine ∧ spPickW M [.raw (.ref d), .lst (flds.map tpT)] q r from ⟨SL, SL, SL, SL, SL, ?_⟩)
  refine ⟨d, _, _, rfl, hM, .inl rfl, by decide, by decide, fun x hx => ?_⟩
  obtain ⟨fs, mf, rfl⟩ := List.mem_map.mp hx
  exact hq fs (flds_ok fs mf)
end
end K44
namespace K44
open PySem PySem.Spec PyProof.Rows L2 TL K00
variable [TheW]
def Toks (n : Nat) (zs : List Str) : Prop := zs.length ≤ n ∧ ∀ z ∈ zs, K87.tokS z = true
theorem paired_tps : ∀ {items ts : List T}, Paired (fun _ u => ∃ w, K87.tokS w = true ∧ u = T.str w) items ts → ∃ ws : List Str, ts = tps ws ∧ ws.length = items.length ∧ ∀ w ∈ ws, K87.tokS w = true
  | _, _, .nil => ⟨[], rfl, rfl, fun _ h => absurd h List.not_mem_nil⟩
  | _, _, .cons ⟨w, h1, e⟩ r => by
    obtain ⟨ws, e2, e3, h2⟩ := paired_tps r
    refine ⟨w :: ws, by rw [e, e2]; rfl, by rw [List.length_cons, e3]; rfl, fun y hy => ?_⟩
    rcases List.mem_cons.mp hy with e | hy
    · rw [e]; exact h1
    · exact h2 y hy
theorem mem_dot {ws : List Str} (h : ∀ w ∈ ws, K87.tokS w = true) : ∀ x ∈ tps (ws ++ ws ++ [("." : Str)]), ∃ z : Str, K87.tokS z = true ∧ x = .str z := fun x hx => by
  obtain ⟨z, hz, rfl⟩ := List.mem_map.mp hx
  refine ⟨z, ?_, rfl⟩
  rcases List.mem_append.mp hz with hz | hz
  · rcases List.mem_append.mp hz with hz | hz
    · exact h z hz
    · exact h z hz
  · rw [List.mem_singleton.mp hz]
    exact tok_brk
section
variable {M : Mode} {ts : List T} {q : Sl → Prop} {r : Xn → Prop}
/-- tokens drawn -/
theorem i_drawn {n : Nat} {ws : List Str} {d : Addr} {τ : List Sl} (hM : IsDM M d) (e0 : τ[0]? = some (.sh (.raw (.ref d)))) (e3 : τ[3]? = some (.sh (.int (n : Int)))) (w0 : ∀ s, ((τ.set 6 .no).set 6 s)[0]? = some (.sh (.raw (.ref d)))) (w2 : ∀ s, ((τ.set 6 .no).set 6 s)[2]? = some (.sh (lsT ws)))
    (hn : n ≤ 20) (hl : ws.length ≤ 100) (hw : ∀ w ∈ ws, K87.tokS w = true) (h : ∀ zs, Toks 20 zs → q (.ol (tps zs))) :
    gLc [6] (iR1 (aCons (gCall M sp__law_take (aCons (gVar 0) (aCons (gOp gAdd (gVar 3) (gC (.int 1))) aNil))) aNil)) (xName 6) gYes (gCall M sp__law_pick (aCons (gVar 0) (aCons (gOp gAdd (gOp gAdd (gVar 2) (gVar 2)) (TL.gLst (aCons (gC (.str ".")) aNil))) aNil))) τ q r := by
  refine i_lc (i_cons (i_call (i_cons (i_var (.raw (.ref d)) e0 (i_cons (i_op (i_var (.int (n : Int)) e3 (i_c ?_))))))))
  refine ⟨d, (n : Int) + 1, rfl, hM, by omega, by omega, fun k k0 k1 => ?_⟩
  refine (show (-(2 ^ 62) ≤ k ∧ k < 2 ^ 62) ∧ lcR _ _ _ (τ.set 6 .no) (fun ts => q (.ol ts)) (TL.rangeT 0 k.toNat) [] from ⟨by omega, ?_⟩)
  have lr : (TL.rangeT 0 k.toNat).length ≤ 20 := by unfold TL.rangeT; rw [List.length_map, List.length_range]; omega
  refine lcR_any (P := fun _ u => ∃ w, K87.tokS w = true ∧ u = T.str w) (fun t _ q' hq => ?_) (SL (by rw [List.length_nil]; omega)) fun ts hp => ?_
  · refine x_name (i_call (i_cons (i_var (.raw (.ref d)) (w0 _) (i_cons (i_op (i_op (i_var (lsT ws) (w2 _) (i_var (lsT ws) (w2 _) (add_l (by rw [List.length_map]; omega) (i_lst (i_cons (i_c (i_nil ⟨S1, add_l (by rw [List.length_append, List.length_map]; show _ + 1 ≤ _; omega) (i_nil ?_)⟩)))))))))))))
    refine ⟨d, lsT (ws ++ ws ++ [("." : Str)]), tps (ws ++ ws ++ [("." : Str)]), ?_, hM, .inl rfl, by rw [List.length_map, List.length_append]; show 0 < _ + 1; omega, by rw [List.length_map, List.length_append, List.length_append]; show _ + 1 < _; omega, fun x hx => ?_⟩
    · show [_, T.lst (tps ws ++ tps ws ++ tps [("." : Str)])] = _
      rw [tps_app, tps_app]
      rfl
    · obtain ⟨z, hz, rfl⟩ := mem_dot hw x hx
      exact hq _ ⟨z, hz, rfl⟩
  · obtain ⟨zs, rfl, e2, h2⟩ := paired_tps hp
    exact h zs ⟨by omega, h2⟩
theorem lc_mono {vs : List Nat} {src : TIx} {g : TGx} {tt : TTx} {te : TEx} {τ : List Sl} {Q Q' : Sl → Prop} (hs : True) : True := trivial
theorem sem__law_document (h : sp__law_document M ts q r) : g__law_document M (startS ["draw", "fields", "words", "most", "found", "field", "lap"] ts) (KnOf q r) := by
  obtain ⟨d, fs, ws, n, rfl, hM, F, hn, hl, hw, hq⟩ := h
  have few := F.few
  refine st_set (i_d0 ?_)
  refine st_for (i_walk (i_var (.tup (tps fs)) rfl ?_))
  show forR _ _ _ (fs.map T.str) _
  refine forR_pre T.str (fun pre τ => ∃ texts s5, τ = [.sh (.raw (.ref d)), .sh (.tup (tps fs)), .sh (lsT ws), .sh (.int (n : Int)), .od (docF lsT pre texts), s5, .no] ∧ texts.length = pre.length ∧ ∀ zs ∈ texts, Toks 20 zs) fs ?_ ?_ _ ⟨[], .no, rfl, rfl, fun _ h => absurd h List.not_mem_nil⟩
  · intro pre fl post ez τ hi nx hn2
    obtain ⟨texts, s5, rfl, e1, ht⟩ := hi
    have lz := congrArg List.length ez
    rw [List.length_append, List.length_cons] at lz
    have nfl : fl ∉ pre := fun h => by
      have nd := F.nodup
      rw [ez] at nd
      exact (List.nodup_append.mp nd).2.2 fl h fl List.mem_cons_self rfl
    refine x_name ⟨⟨docF lsT pre texts, rfl⟩, i_drawn hM rfl rfl (fun _ => rfl) (fun _ => rfl) hn hl hw fun zs hz => ?_⟩
    refine i_var (.str fl) rfl ?_
    refine (show (docF lsT pre texts).length < sizeLine ∧ nx [.sh (.raw (.ref d)), .sh (.tup (tps fs)), .sh (lsT ws), .sh (.int (n : Int)), .od (putT (docF lsT pre texts) (.inr fl) (lsT zs)), .sh (.str fl), .no] from ⟨by rw [docF_len e1, sizeLine_eq]; omega, hn2 _ ⟨texts ++ [zs], .sh (.str fl), by rw [docF_new e1 nfl], by rw [List.length_append, List.length_append, e1]; rfl, fun y hy => ?_⟩⟩)
    rcases List.mem_append.mp hy with hy | hy
    · exact ht y hy
    · rw [List.mem_singleton.mp hy]
      exact hz
  · intro τ hi
    obtain ⟨texts, s5, rfl, e1, ht⟩ := hi
    exact hq texts e1 ht
/-! ### patterns -/
def extras : List (List Str) := [[], ["zebra", "zoo", "z"], ["be", "bee", "beef", "bees", "beet"]]
theorem extras_ok : ∀ ws ∈ extras, ws.length ≤ 5 ∧ ∀ w ∈ ws, wordL (cps w) = true := by decide +kernel
theorem nodup_le {α : Type} [DecidableEq α] : ∀ {l zs : List α}, l.Nodup → (∀ x ∈ l, x ∈ zs) → l.length ≤ zs.length
  | [], _, _, _ => Nat.zero_le _
  | a :: l, zs, nd, h => by
    have ha := h a List.mem_cons_self
    have nd' := List.nodup_cons.mp nd
    have ih := nodup_le (l := l) (zs := zs.erase a) nd'.2 fun x hx => by
      have hx' := h x (List.mem_cons_of_mem _ hx)
      exact (List.mem_erase_of_ne fun (e : x = a) => nd'.1 (by rw [← e]; exact hx)).mpr hx'
    rw [List.length_erase_of_mem ha] at ih
    have := List.length_pos_of_mem ha
    rw [List.length_cons]
    omega
theorem patsOf {zs ys l : List Str} (hz : ∀ z ∈ zs, patL (cps z) = true) (h12 : zs.length ≤ 12) (nd : l.Nodup) (hm : ∀ x, x ∈ l ↔ x ∈ zs) (pm : ys.Perm l) (sd : sortedS ys = true) : PatsOk ys := by
  have as := sorted_asc sd
  have ny : ys.Nodup := pm.nodup_iff.mpr nd
  refine ⟨fun p hp => hz p ((hm p).mp (pm.mem_iff.mp hp)), ?_, ?_⟩
  · have := nodup_le ny (fun x hx => (hm x).mp (pm.mem_iff.mp hx))
    omega
  · have z : ys.Pairwise fun a b => ¬ cps b < cps a := List.pairwise_map.mp as
    exact (z.and ny).imp fun {a b} h => lt_of_nlt_ne h.1 fun e => h.2 (cps_inj e)
theorem paired_pats : ∀ {items ts : List T}, Paired (fun _ u => ∃ w : Str, patL (cps w) = true ∧ u = T.str w) items ts → ∃ ws : List Str, ts = tps ws ∧ ws.length = items.length ∧ ∀ w ∈ ws, patL (cps w) = true
  | _, _, .nil => ⟨[], rfl, rfl, fun _ h => absurd h List.not_mem_nil⟩
  | _, _, .cons ⟨w, h1, e⟩ r => by
    obtain ⟨ws, e2, e3, h2⟩ := paired_pats r
    refine ⟨w :: ws, by rw [e, e2]; rfl, by rw [List.length_cons, e3]; rfl, fun y hy => ?_⟩
    rcases List.mem_cons.mp hy with e | hy
    · rw [e]; exact h1
    · exact h2 y hy
def amts : List Int := [0, 1, 2, 3, 6, 12]
theorem amts_ok : ∀ k ∈ amts, 0 ≤ k ∧ k ≤ 12 := by decide +kernel
theorem i_extras {τ : List Sl} (h : q (.ol (extras.map lsT))) : TL.gLst (aCons (TL.gLst aNil) (aCons (TL.gLst (aCons (gC (.str "zebra")) (aCons (gC (.str "zoo")) (aCons (gC (.str "z")) aNil)))) (aCons (TL.gLst (aCons (gC (.str "be")) (aCons (gC (.str "bee")) (aCons (gC (.str "beef")) (aCons (gC (.str "bees")) (aCons (gC (.str "beet")) aNil)))))) aNil))) τ q r :=
  (show 0 ≤ sizeLine ∧ 3 ≤ sizeLine ∧ 5 ≤ sizeLine ∧ 3 ≤ sizeLine ∧ q (.ol (extras.map lsT)) from ⟨SL, SL, SL, SL, h⟩)
theorem i_amts {τ : List Sl} (h : q (.ol (amts.map T.int))) : TL.gLst (aCons (gC (.int 0)) (aCons (gC (.int 1)) (aCons (gC (.int 2)) (aCons (gC (.int 3)) (aCons (gC (.int 6)) (aCons (gC (.int 12)) aNil)))))) τ q r :=
  (show 6 ≤ sizeLine ∧ q (.ol (amts.map T.int)) from ⟨SL, h⟩)
theorem sem__law_patterns_drawn (h : sp__law_patterns_drawn M ts q r) : g__law_patterns_drawn M (startS ["draw", "words", "lap"] ts) (KnOf q r) := by
  obtain ⟨d, rfl, hM, hq⟩ := h
  refine st_set (i_op (i_call (i_cons (i_var (.raw (.ref d)) rfl (i_nil ⟨d, rfl, hM, fun ws w0 w4 hw => ?_⟩)))))
  refine i_call (i_cons (i_var (.raw (.ref d)) rfl (i_cons (i_extras (i_nil ?_)))))
  refine ⟨d, .lst (extras.map lsT), extras.map lsT, rfl, hM, .inl rfl, by decide, by decide, fun x hx => ?_⟩
  obtain ⟨ex, mx, rfl⟩ := List.mem_map.mp hx
  obtain ⟨x5, hx⟩ := extras_ok ex mx
  refine add_l (by rw [List.length_map, List.length_map]; omega) ?_
  rw [tps_app]
  have hall : ∀ w ∈ ws ++ ex, wordL (cps w) = true := fun w m => (List.mem_append.mp m).elim (hw w) (hx w)
  have l0 : 0 < (ws ++ ex).length := by rw [List.length_append]; omega
  have l9 : (ws ++ ex).length ≤ 9 := by rw [List.length_append]; omega
  generalize ws ++ ex = vs at *
  refine s_frz (c := .l (tps vs)) rfl (s_ret (i_cb (i_cons (i_cb (i_cons (i_cb (i_cons (i_lc ?_))))))))
  refine i_cons (i_call (i_cons (i_var (.raw (.ref d)) rfl (i_cons (i_amts (i_nil ?_))))))
  refine ⟨d, .lst (amts.map T.int), amts.map T.int, rfl, hM, .inl rfl, by decide, by decide, fun x hx => ?_⟩
  obtain ⟨k, mk, rfl⟩ := List.mem_map.mp hx
  obtain ⟨k0, k1⟩ := amts_ok k mk
  refine (show (-(2 ^ 62) ≤ k ∧ k < 2 ^ 62) ∧ lcR _ _ _ _ _ (TL.rangeT 0 k.toNat) [] from ⟨by omega, ?_⟩)
  have lr : (TL.rangeT 0 k.toNat).length ≤ 12 := by unfold TL.rangeT; rw [List.length_map, List.length_range]; omega
  refine lcR_any (P := fun _ u => ∃ w : Str, patL (cps w) = true ∧ u = T.str w) (fun t _ q' hq' => ?_) (SL (by rw [List.length_nil]; omega)) fun ts hp => ?_
  · exact x_name (i_call (i_cons (i_var (.raw (.ref d)) rfl (i_cons (i_var (lsT vs) rfl (i_nil ⟨d, vs, rfl, hM, l0, by omega, hall, fun p hp => hq' _ ⟨p, hp, rfl⟩⟩))))))
  · obtain ⟨zs, rfl, e2, h2⟩ := paired_pats hp
    refine i_nil ?_
    show oks (strsT (zs.map T.str)) _
    rw [strsT_map]
    refine ⟨by show zs.length + 1 < scanBound; have : scanBound > 100 := by decide +kernel
               omega, fun l nd hm => i_nil ⟨l, rfl, fun ys pm sd => i_nil ?_⟩⟩
    exact hq ys (patsOf h2 (by omega) nd hm pm sd)
end
end K44
namespace K44
open PySem PySem.Spec PyProof.Rows L2 TL K00
variable [TheW]
section
variable {M : Mode} {ts : List T} {q : Sl → Prop} {r : Xn → Prop}
theorem i_listL {xs : List T} (h : q (.ol xs)) : gListOf [T.lst xs] q := h
theorem i_listT {xs : List T} (h : q (.ol xs)) : gListOf [T.tup xs] q := h
theorem i_lenL {xs : List T} (h : q (.sh (.int xs.length))) : gLen [T.lst xs] q := h
theorem i_dictP {us : List T} {kts : List (Key × T)} (e : kvsT us = some kts) (h : q (.od (mergeT [] kts))) : gDictP [T.lst us] q := by
  show oks (kvsT us) _
  rw [e]
  exact h
theorem i_docD {f : List Str → T} {fs : List Str} {texts : List (List Str)} (nd : fs.Nodup) (hl : texts.length = fs.length) (h : q (.od (docF f fs texts))) : gDictP [T.lst ((fs.zip texts).map fun x => T.tup [.str x.1, f x.2])] q :=
  i_dictP docF_kvs (by rw [docF_dict nd hl]; exact h)
theorem i_od {i j : Nat} {kts : List (Key × T)} {fl : Str} {t : T} {τ : List Sl} (e : τ[i]? = some (.od kts)) (e2 : τ[j]? = some (.sh (.str fl))) (e3 : lookK kts (.inr fl) = some t) (h : q (.sh t)) : gOd i (gVar j) τ q r := by
  refine ⟨⟨kts, e⟩, i_var (.str fl) e2 ?_⟩
  rw [e]
  show oks (lookK kts (.inr fl)) _
  rw [e3]
  exact h
theorem i_eqI {i : Nat} {a b : Int} {τ : List Sl} {qb : Bool → Prop} (e : τ[i]? = some (.sh (.int a))) (h : qb (decide (a = b))) : gB (gOp gEq (gVar i) (gC (.int b))) τ qb r :=
  i_B (i_op (i_var (.int a) e h))
theorem eq_nilL {s : List Str} {q : Bool → Prop} (hz : ∀ z ∈ s, K87.tokS z = true) (hl : s.length ≤ 400) (h : q (decide (s = []))) : gEq (lsT s) (.lst []) (fun s => isB s q) := by
  have e1 : (lsT s).py = some (.list (s.map .str)) := by
    show (T.lst (s.map T.str)).py = _
    simp only [T.py, py_strs, Option.map_some]
  have e2 : (T.lst []).py = some (.list []) := rfl
  show match (lsT s).py, (T.lst []).py with
    | some d, some e => SeqAt.shaped d = true ∧ SeqAt.shaped e = true ∧ _
    | _, _ => False
  rw [e1, e2]
  refine ⟨(sm_toks hz).shaped (by decide), (sm_toks (zs := []) (fun z hz => absurd hz List.not_mem_nil)).shaped (by decide), ?_⟩
  show q (PyData.eqv (.list (s.map .str)) (.list []))
  rw [eqv_nil, show decide (s.map PyData.str = []) = decide (s = []) from by simp]
  exact h
theorem dp_end {kts : List (Key × T)} {fl : Str} {u : T} {τ : List Sl} {k : Kn} (e : τ[4]? = some (.od kts)) (e2 : τ[5]? = some (.sh (.str fl))) (hl : kts.length ≤ 100000) (h : k.nx (τ.set 4 (.od (putT kts (.inr fl) u)))) : gVar 5 τ (fun s => match (τ[4]? : Option Sl), s.fz with
  | some (Sl.oo (Ow.d kts)), T.str z => kts.length < sizeLine ∧ k.nx (τ.set 4 (.od (putT kts (.inr z) u)))
  | _, _ => False) k.ex := by
  refine i_var (.str fl) e2 ?_
  rw [e]
  exact ⟨by rw [sizeLine_eq]; omega, h⟩
theorem add_tps {a b : List Str} (hl : a.length + b.length ≤ 100000) (h : q (.ol (tps (a ++ b)))) : gAdd (lsT a) (lsT b) q := by
  refine add_l (by rw [List.length_map, List.length_map]; exact hl) ?_
  rw [tps_app]
  exact h
theorem i_rev {a : TEx} {zs : List Str} {τ : List Sl} (h : a τ (fun s => s.fz = lsT zs ∧ q (.ol (tps zs.reverse))) r) (mono : ∀ (Q Q' : Sl → Prop), (∀ s, Q s → Q' s) → a τ Q r → a τ Q' r) : gRevL a τ q r := by
  refine mono _ _ (fun s hs => ?_) h
  show oks s.fz.litems _
  rw [hs.1]
  show q (.ol (tps zs).reverse)
  rw [tps_rev]
  exact hs.2
theorem i_revDrop {i j n : Nat} {zs : List Str} {τ : List Sl} (e : τ[i]? = some (.sh (lsT zs))) (e2 : τ[j]? = some (.sh (.int (n : Int)))) (h : q (.ol (tps (zs.drop n).reverse))) : gRevL (gSli gCut (gVar i) (oSome (gVar j)) oNo) τ q r := by
  refine i_dropL (q := fun s => oks s.fz.litems fun xs => q (.ol xs.reverse)) e e2 ?_
  show q (.ol (tps (zs.drop n)).reverse)
  rw [tps_rev]
  exact h
theorem sem__law_near_document (h : sp__law_near_document M ts q r) : g__law_near_document M (startS ["draw", "fields", "document", "words", "found", "field", "text", "way", "at", "token"] ts) (KnOf q r) := by
  obtain ⟨d, fs, texts, ws, rfl, hM, F, hl, ht, w0, w1, hw, hq⟩ := h
  have few := F.few
  have one := F.one
  have nd := F.nodup
  refine st_set (i_cb (i_cons (i_lc (i_walk (i_var (.tup (tps fs)) rfl ?_)))))
  show lcR _ _ _ _ _ (fs.map T.str) []
  rw [zip_fst hl]
  refine lcR_mf _ (fun x : Str × List Str => T.tup [.str x.1, lsT x.2]) (fs.zip texts) (fun x hx Q hQ => ?_) (SL (by rw [List.length_zip]; omega)) (i_nil (i_docD (f := lsT) nd hl ?_))
  · obtain ⟨i, hi, e⟩ := List.getElem_of_mem hx
    rw [List.length_zip] at hi
    have h1 : i < fs.length := by omega
    have h2 : i < texts.length := by omega
    rw [List.getElem_zip] at e
    subst e
    have e1 : lookK (docK fs texts) (.inr fs[i]) = some (lsT texts[i]) := docF_look nd (List.getElem?_eq_getElem h1) (List.getElem?_eq_getElem h2)
    exact x_name (i_tup (i_cons (i_var (.str fs[i]) rfl (i_cons (i_cb (i_cons (i_dget rfl rfl e1 (i_nil (i_listL (i_nil ⟨SL (n := 2), hQ⟩))))))))))
  refine st_set (i_call (i_cons (i_var (.raw (.ref d)) rfl (i_cons (i_cb (i_cons (i_var (.tup (tps fs)) rfl (i_nil (i_listT (i_nil ?_))))))))))
  refine ⟨d, .lst (tps fs), tps fs, rfl, hM, .inl rfl, by rw [List.length_map]; omega, by rw [List.length_map]; omega, fun x hx => ?_⟩
  obtain ⟨fl, mf, rfl⟩ := List.mem_map.mp hx
  obtain ⟨i, hi, e⟩ := List.getElem_of_mem mf
  have hfl : fs[i]? = some fl := by rw [List.getElem?_eq_getElem hi, e]
  have hti : i < texts.length := by omega
  obtain ⟨zs, hzs⟩ : ∃ zs, texts[i]? = some zs := ⟨_, List.getElem?_eq_getElem hti⟩
  have e4 : lookK (docF lsT fs texts) (.inr fl) = some (lsT zs) := docF_look nd hfl hzs
  obtain ⟨z20, ztok⟩ := ht zs (List.mem_of_getElem? hzs)
  refine st_asg2 (i_od rfl rfl e4 (i_call (i_cons (i_var (.raw (.ref d)) rfl (i_cons (i_c (i_nil ⟨d, 6, rfl, hM, by decide, by decide, fun k k0 k1 => ?_⟩)))))))
  refine st_set (i_call (i_cons (i_var (.raw (.ref d)) rfl (i_cons (i_op (i_cb (i_cons (i_var (lsT zs) rfl (i_nil (i_lenL (i_c ?_)))))))))))
  have lz : (tps zs).length = zs.length := List.length_map _
  refine ⟨d, ((tps zs).length : Int) + 1, rfl, hM, by omega, by omega, fun m m0 m1 => ?_⟩
  obtain ⟨n, rfl⟩ := Int.eq_ofNat_of_zero_le m0
  have fin : ∀ new : List Str, Toks 40 new → sRetV 4 [.sh (.raw (.ref d)), .sh (.tup (tps fs)), .sh (.dct (docK fs texts)), .sh (lsT ws), .od (putT (docF lsT fs texts) (.inr fl) (lsT new)), .sh (.str fl), .sh (lsT zs), .sh (.int k), .sh (.int (n : Int)), .no] (KnOf q r) := fun new hn => by
    rw [docF_put nd hfl hti]
    refine hq (texts.set i new) (by rw [List.length_set]; exact hl) fun y hy => ?_
    rcases List.mem_or_eq_of_mem_set hy with hy | rfl
    · exact ⟨by have := (ht y hy).1; omega, (ht y hy).2⟩
    · exact hn
  have ltake : ∀ n, (zs.take n).length ≤ 20 := fun n => by rw [List.length_take]; omega
  have ldrop : ∀ n, (zs.drop n).length ≤ 20 := fun n => by rw [List.length_drop]; omega
  have ttake : ∀ n, ∀ z ∈ zs.take n, K87.tokS z = true := fun n z hz => ztok z (List.mem_of_mem_take hz)
  have tdrop : ∀ n, ∀ z ∈ zs.drop n, K87.tokS z = true := fun n z hz => ztok z (List.mem_of_mem_drop hz)
  have dl : (docF lsT fs texts).length ≤ 100000 := by rw [docF_len hl]; omega
  have tapp : ∀ {a b : List Str}, (∀ z ∈ a, K87.tokS z = true) → (∀ z ∈ b, K87.tokS z = true) → ∀ z ∈ a ++ b, K87.tokS z = true := fun ha hb z hz => (List.mem_append.mp hz).elim (ha z) (hb z)
  have tdot : ∀ z ∈ ([("." : Str)] : List Str), K87.tokS z = true := fun z hz => by rw [List.mem_singleton.mp hz]; exact tok_brk
  have b0 : ∀ {k : Kn}, (∀ new : List Str, Toks 40 new → k.nx [.sh (.raw (.ref d)), .sh (.tup (tps fs)), .sh (.dct (docK fs texts)), .sh (lsT ws), .od (putT (docF lsT fs texts) (.inr fl) (lsT new)), .sh (.str fl), .sh (lsT zs), .sh (.int 0), .sh (.int (n : Int)), .no]) → True := fun _ => trivial
  refine s_seq (s_if (i_or (i_eqI rfl ?_)))
  have first : sDp 4 (gVar 5) (gOp gAdd (gOp gAdd (gSli gCut (gVar 6) oNo (oSome (gVar 8))) (TL.gLst (aCons (gC (.str ".")) aNil))) (gSli gCut (gVar 6) (oSome (gVar 8)) oNo)) [.sh (.raw (.ref d)), .sh (.tup (tps fs)), .sh (.dct (docK fs texts)), .sh (lsT ws), .od (docF lsT fs texts), .sh (.str fl), .sh (lsT zs), .sh (.int k), .sh (.int (n : Int)), .no] { KnOf q r with nx := fun τ' => sRetV 4 τ' (KnOf q r) } := by
    refine ⟨⟨_, rfl⟩, i_op (i_op (i_takeL rfl rfl (i_lst (i_cons (i_c (i_nil ⟨S1, add_tps (b := ["."]) (by have := ltake n; show _ + 1 ≤ _; omega) (i_dropL rfl rfl (add_tps ?_ (dp_end rfl rfl dl (fin _ ⟨?_, ?_⟩))))⟩))))))⟩
    · have := ltake n; have := ldrop n
      rw [List.length_append]; show _ + 1 + _ ≤ _; omega
    · have lts : (zs.take n).length + (zs.drop n).length = zs.length := by rw [List.length_take, List.length_drop]; omega
      rw [List.length_append, List.length_append]; show _ + 1 + _ ≤ _; omega
    · exact tapp (tapp (ttake n) tdot) (tdrop n)
  by_cases h0 : k = 0
  · refine ifT (decide_eq_true h0) (ifT rfl first)
  refine ifF (decide_eq_false h0) (i_B (i_op (i_var (lsT zs) rfl (i_lst (i_nil ⟨Nat.zero_le _, eq_nilL ztok (by omega) ?_⟩)))))
  by_cases hz : zs = []
  · exact ifT (decide_eq_true hz) first
  refine ifF (decide_eq_false hz) (s_if (i_eqI rfl ?_))
  by_cases h1 : k = 1
  · refine ifT (decide_eq_true h1) ⟨⟨_, rfl⟩, i_lc (i_walk (i_var (lsT zs) rfl ?_))⟩
    show lcR _ _ _ _ _ (zs.map T.str) []
    refine lcR_pf T.str (fun z => !decide (z = (".": Str))) T.str zs [] (fun y hy Q hQ => i_B (i_op (i_var (.str y) rfl (i_c (dec_brk hQ))))) (fun y hy _ Q hQ => hQ) (SL (by rw [List.length_nil]; omega)) ?_
    rw [List.nil_append]
    exact dp_end (u := lsT (wordsOf zs)) rfl rfl dl (fin _ ⟨by have := words_of_le zs; omega, fun z hz => ztok z (words_in hz)⟩)
  refine ifF (decide_eq_false h1) (s_if (i_eqI rfl ?_))
  by_cases h2 : k = 2
  · refine ifT (decide_eq_true h2) ⟨⟨_, rfl⟩, i_op (i_takeL rfl rfl (i_revDrop rfl rfl (add_tps ?_ (dp_end rfl rfl dl (fin _ ⟨?_, ?_⟩)))))⟩
    · have := ltake n; have := ldrop n
      rw [List.length_reverse]; omega
    · have := ltake n; have := ldrop n
      rw [List.length_append, List.length_reverse]; omega
    · exact tapp (ttake n) fun z hz => tdrop n z (List.mem_reverse.mp hz)
  refine ifF (decide_eq_false h2) (s_if (i_eqI rfl ?_))
  by_cases h3 : k = 3
  · refine ifT (decide_eq_true h3) ⟨⟨_, rfl⟩, i_op (i_var (lsT zs) rfl (i_lst (i_cons (i_call (i_cons (i_var (.raw (.ref d)) rfl (i_cons (i_var (lsT ws) rfl (i_nil ⟨d, lsT ws, tps ws, rfl, hM, .inl rfl, by rw [List.length_map]; omega, by rw [List.length_map]; omega, fun x hx => ?_⟩)))))))))⟩
    obtain ⟨w, mw, rfl⟩ := List.mem_map.mp hx
    refine i_nil ⟨S1, add_tps (b := [w]) (by show _ + 1 ≤ _; omega) (dp_end rfl rfl dl (fin _ ⟨by rw [List.length_append]; show _ + 1 ≤ _; omega, tapp ztok fun z hz => by rw [List.mem_singleton.mp hz]; exact hw w mw⟩))⟩
  refine ifF (decide_eq_false h3) (s_if (i_eqI rfl ?_))
  by_cases h4 : k = 4
  · refine ifT (decide_eq_true h4) ⟨⟨_, rfl⟩, i_op (i_takeL rfl rfl (i_dropL1 rfl rfl (add_tps ?_ (dp_end rfl rfl dl (fin _ ⟨?_, ?_⟩)))))⟩
    · have := ltake n; have := ldrop (n + 1)
      omega
    · have := ltake n; have := ldrop (n + 1)
      rw [List.length_append]; omega
    · exact tapp (ttake n) (tdrop (n + 1))
  refine ifF (decide_eq_false h4) ⟨⟨_, rfl⟩, i_op (i_var (lsT zs) rfl (i_var (lsT zs) rfl (add_tps (by omega) (dp_end rfl rfl dl (fin _ ⟨by rw [List.length_append]; omega, tapp ztok ztok⟩)))))⟩
end
end K44
namespace K44
open PySem PySem.Spec PyProof.Rows L2 TL K00
variable [TheW]
/-! ### plain data as trees -/
theorem py_map {α : Type} {t : α → T} {p : α → PyData} (h : ∀ x, (t x).py = some (p x)) : ∀ xs : List α, pyAll (xs.map t) = some (xs.map p)
  | [] => rfl
  | x :: xs => by simp only [List.map_cons, pyAll, py_map h xs, h]
theorem eqv_map {α : Type} [DecidableEq α] {p : α → PyData} (h : ∀ x y, PyData.eqv (p x) (p y) = decide (x = y)) : ∀ a b : List α, PyData.eqvAll (a.map p) (b.map p) = decide (a = b)
  | [], [] => rfl
  | [], _ :: _ => rfl
  | _ :: _, [] => rfl
  | x :: a, y :: b => by
    simp only [List.map_cons, PyData.eqvAll, h, eqv_map h a b]
    by_cases h1 : x = y
    · by_cases h2 : a = b
      · simp [h1, h2]
      · simp [h1, h2]
    · simp [h1]
structure Enc (α : Type) [DecidableEq α] where
  t : α → T
  p : α → PyData
  h : ∀ x, (t x).py = some (p x)
  e : ∀ x y, PyData.eqv (p x) (p y) = decide (x = y)
def Enc.tup {α : Type} [DecidableEq α] (c : Enc α) : Enc (List α) where
  t xs := .tup (xs.map c.t)
  p xs := .tuple (xs.map c.p)
  h xs := by simp only [T.py, py_map c.h, Option.map_some]
  e a b := by simp only [PyData.eqv, eqv_map c.e]
def eB : Enc Bool := ⟨T.bl, .bool, fun _ => rfl, fun x y => by cases x <;> cases y <;> rfl⟩
def eN : Enc Nat := ⟨fun n => .int (n : Int), fun n => .int (n : Int), fun _ => rfl, fun x y => by
  simp only [PyData.eqv]
  by_cases h : x = y
  · simp [h]
  · simp [h]
    omega⟩
def eO : Enc (Option (List Bool)) where
  t
    | none => .non
    | some b => bT b
  p
    | none => .none
    | some b => trP b
  h
    | none => rfl
    | some b => py_tr b
  e
    | none, none => rfl
    | none, some _ => rfl
    | some _, none => rfl
    | some a, some b => by
      show PyData.eqv (trP a) (trP b) = _
      rw [eqv_tr]
      by_cases h : a = b
      · simp [h]
      · simp [h]
/-! ### what the views hold -/
def aD (ps zs : List Str) : List (Option (List Bool)) := zs.map fun z : Str => if z = (".": Str) then none else some (row ps z)
def pD (ps zs : List Str) : List (List Nat) := places ps (wordsOf zs)
def cD (ps zs : List Str) : List Nat := (pD ps zs).map List.length
def sD (ps zs : List Str) : List (List Bool) := bSort (dedup (setRows ps zs))
def fD (ps zs : List Str) : List Bool := fieldL ps (wordsOf zs)
def dD (ps : List Str) (texts : List (List Str)) : List Bool := orL ps.length (texts.map (fD ps))
theorem allT_eq (ps zs : List Str) : allT ps zs = eO.tup.t (aD ps zs) := by
  show T.tup _ = T.tup ((aD ps zs).map eO.t)
  unfold aD
  rw [List.map_map]
  congr 1
  refine List.map_congr_left fun z _ => ?_
  show (if z = (".": Str) then T.non else bT (row ps z)) = eO.t (if z = (".": Str) then none else some (row ps z))
  by_cases h : z = (".": Str)
  · rw [if_pos h, if_pos h]; rfl
  · rw [if_neg h, if_neg h]; rfl
theorem placesT_eq (ps zs : List Str) : placesT ps (wordsOf zs) = eN.tup.tup.t (pD ps zs) := rfl
theorem countsT_eq (ps zs : List Str) : countsT ps (wordsOf zs) = eN.tup.t (cD ps zs) := by
  show T.tup _ = T.tup ((cD ps zs).map eN.t)
  unfold cD
  rw [List.map_map]
  rfl
theorem sentT_eq (ps zs : List Str) : sentT' ps zs = eB.tup.tup.t (sD ps zs) := rfl
theorem fieldT_eq (ps zs : List Str) : bT (fieldL ps (wordsOf zs)) = eB.tup.t (fD ps zs) := rfl
/-- one text's view as data -/
def voP (ps : List Str) (z : Str) (zs : List Str) : PyData := if z = ("all" : Str) then eO.tup.p (aD ps zs) else if z = ("places" : Str) then eN.tup.tup.p (pD ps zs) else if z = ("counts" : Str) then eN.tup.p (cD ps zs) else if z = ("sentence" : Str) then eB.tup.tup.p (sD ps zs) else eB.tup.p (fD ps zs)
def sameO (ps : List Str) (z : Str) (a b : List Str) : Bool := if z = ("all" : Str) then decide (aD ps a = aD ps b) else if z = ("places" : Str) then decide (pD ps a = pD ps b) else if z = ("counts" : Str) then decide (cD ps a = cD ps b) else if z = ("sentence" : Str) then decide (sD ps a = sD ps b) else decide (fD ps a = fD ps b)
theorem vo_py (ps : List Str) (z : Str) (zs : List Str) : (viewOf ps z zs).py = some (voP ps z zs) := by
  unfold viewOf voP
  split
  · rw [allT_eq]; exact eO.tup.h _
  split
  · rw [placesT_eq]; exact eN.tup.tup.h _
  split
  · rw [countsT_eq]; exact eN.tup.h _
  split
  · rw [sentT_eq]; exact eB.tup.tup.h _
  · rw [fieldT_eq]; exact eB.tup.h _
theorem vo_eqv (ps : List Str) (z : Str) (a b : List Str) : PyData.eqv (voP ps z a) (voP ps z b) = sameO ps z a b := by
  unfold voP sameO
  split
  · exact eO.tup.e _ _
  split
  · exact eN.tup.tup.e _ _
  split
  · exact eN.tup.e _ _
  split
  · exact eB.tup.tup.e _ _
  · exact eB.tup.e _ _
def vP (ps : List Str) (z : Str) (texts : List (List Str)) : PyData := if z = ("document" : Str) then trP (dD ps texts) else .tuple (texts.map (voP ps z))
def all2 {α : Type} (f : α → α → Bool) : List α → List α → Bool
  | [], [] => true
  | x :: a, y :: b => f x y && all2 f a b
  | _, _ => false
def sameB (ps : List Str) (z : Str) (a b : List (List Str)) : Bool := if z = ("document" : Str) then decide (dD ps a = dD ps b) else all2 (sameO ps z) a b
theorem v_py (ps : List Str) (z : Str) (texts : List (List Str)) : (viewT ps z texts).py = some (vP ps z texts) := by
  unfold viewT vP
  split
  · exact py_tr _
  · simp only [T.py, py_map (vo_py ps z), Option.map_some]
theorem eqv_all2 {α : Type} {p : α → PyData} {f : α → α → Bool} (h : ∀ x y, PyData.eqv (p x) (p y) = f x y) : ∀ a b : List α, PyData.eqvAll (a.map p) (b.map p) = all2 f a b
  | [], [] => rfl
  | [], _ :: _ => rfl
  | _ :: _, [] => rfl
  | x :: a, y :: b => by simp only [List.map_cons, PyData.eqvAll, h, eqv_all2 h a b, all2]
theorem v_eqv (ps : List Str) (z : Str) (a b : List (List Str)) : PyData.eqv (vP ps z a) (vP ps z b) = sameB ps z a b := by
  unfold vP sameB
  split
  · exact eqv_tr _ _
  · simp only [PyData.eqv, eqv_all2 (vo_eqv ps z)]
/-! ### sizes -/
theorem sm_row {b : List Bool} (h : b.length ≤ 12) : Sm 12 1 (eB.tup.p b) := sm_tr h
theorem Sm.tups {α : Type} [DecidableEq α] {c : Enc α} {k m n k' : Nat} {xs : List α} (h : ∀ x ∈ xs, Sm k m (c.p x)) (hl : xs.length ≤ n) (hk : (k + 1) * n ≤ k') : Sm k' (m + 1) (c.tup.p xs) :=
  (Sm.tuple (k := k) (m := m) (ds := xs.map c.p) (fun d hd => by obtain ⟨x, hx, rfl⟩ := List.mem_map.mp hd; exact h x hx)).mono (by rw [List.length_map]; exact Nat.le_trans (Nat.mul_le_mul_left _ hl) hk) (Nat.le_refl _)
theorem set_rows_len (ps zs : List Str) : (setRows ps zs).length ≤ zs.length + 1 := by
  unfold setRows
  have h1 := List.length_filter_le (fun r : List Bool => r.any id) ((spl zs [] []).map fun s => fieldL ps s)
  have h2 := spl_len zs [] []
  rw [List.length_map] at h1
  rw [List.length_nil] at h2
  omega
theorem fold_len : ∀ (l acc : List (List Bool)), (l.foldl dedF acc).length ≤ acc.length + l.length
  | [], acc => Nat.le_refl _
  | b :: l, acc => by
    have h1 := fold_len l (dedF acc b)
    have h2 := dedF_len acc b
    rw [List.foldl_cons, List.length_cons]
    omega
theorem dedup_len (l : List (List Bool)) : (dedup l).length ≤ l.length := by
  have := fold_len l []
  rw [List.length_nil] at this
  rw [dedup_eq]
  omega
theorem sD_mem {ps zs : List Str} {b : List Bool} : b ∈ sD ps zs ↔ b ∈ setRows ps zs := by
  unfold sD bSort
  rw [List.mem_mergeSort, dedup_mem]
theorem set_row_len {ps zs : List Str} {b : List Bool} (h : b ∈ setRows ps zs) : b.length = ps.length := by
  unfold setRows at h
  obtain ⟨s, _, rfl⟩ := List.mem_map.mp (List.mem_filter.mp h).1
  exact field_len _ _
theorem vo_sm {ps zs : List Str} (z : Str) (hp : ps.length ≤ 12) (hz : zs.length ≤ 400) : Sm 6000 2 (voP ps z zs) := by
  have wl : (wordsOf zs).length ≤ 400 := Nat.le_trans (words_of_le zs) hz
  have pl : (pD ps zs).length ≤ 12 := by unfold pD places; rw [List.length_map]; exact hp
  have pm : ∀ l ∈ pD ps zs, l.length ≤ 400 ∧ ∀ n ∈ l, n ≤ 1000 := fun l hl => by
    unfold pD places at hl
    obtain ⟨p, _, rfl⟩ := List.mem_map.mp hl
    have h1 := idx_le (fun z => suits (cps p) (cps z)) 0 (wordsOf zs)
    refine ⟨by omega, fun n hn => ?_⟩
    have := idx_lt _ _ _ n hn
    omega
  unfold voP
  split
  · refine Sm.tups (k := 12) (m := 1) (n := 400) (fun o ho => ?_) (by unfold aD; rw [List.length_map]; exact hz) (by decide)
    unfold aD at ho
    obtain ⟨y, _, rfl⟩ := List.mem_map.mp ho
    split
    · exact sm_none.mono (by omega) (by omega)
    · exact sm_row (by rw [row_len]; exact hp)
  split
  · exact Sm.tups (c := eN.tup) (k := 400) (m := 1) (n := 12) (fun l hl => Sm.tups (c := eN) (k := 0) (m := 0) (n := 400) (fun n hn => sm_nat ((pm l hl).2 n hn)) (pm l hl).1 (by decide)) pl (by decide)
  split
  · refine (Sm.tups (c := eN) (k := 0) (m := 0) (n := 12) (k' := 12) (fun n hn => ?_) (by unfold cD; rw [List.length_map]; exact pl) (by decide)).mono (by omega) (by omega)
    unfold cD at hn
    obtain ⟨l, hl, rfl⟩ := List.mem_map.mp hn
    exact sm_nat (by have := (pm l hl).1; omega)
  split
  · refine Sm.tups (c := eB.tup) (k := 12) (m := 1) (n := 401) (fun b hb => sm_row (by rw [set_row_len (sD_mem.mp hb)]; exact hp)) ?_ (by decide)
    unfold sD bSort
    rw [List.length_mergeSort]
    have h1 := dedup_len (setRows ps zs)
    have h2 := set_rows_len ps zs
    omega
  · exact (sm_row (by unfold fD; rw [field_len]; exact hp)).mono (by omega) (by omega)
theorem v_sm {ps : List Str} {texts : List (List Str)} (z : Str) (hp : ps.length ≤ 12) (hl : texts.length ≤ 3) (hz : ∀ zs ∈ texts, zs.length ≤ 400) : Sm 18003 3 (vP ps z texts) := by
  unfold vP
  split
  · exact (sm_tr (by unfold dD orL; rw [List.length_map, List.length_range]; exact hp)).mono (by omega) (by omega)
  · refine (Sm.tuple (k := 6000) (m := 2) (ds := texts.map (voP ps z)) (fun d hd => by obtain ⟨zs, h, rfl⟩ := List.mem_map.mp hd; exact vo_sm z hp (hz zs h))).mono ?_ (Nat.le_refl _)
    rw [List.length_map]
    omega
/-! ### the finer view tells the coarser one -/
theorem all2_mono {α : Type} {f g : α → α → Bool} (h : ∀ x y, f x y = true → g x y = true) : ∀ a b : List α, all2 f a b = true → all2 g a b = true
  | [], [], _ => rfl
  | [], _ :: _, e => by cases e
  | _ :: _, [], e => by cases e
  | x :: a, y :: b, e => by
    unfold all2 at e ⊢
    rw [Bool.and_eq_true] at e ⊢
    exact ⟨h x y e.1, all2_mono h a b e.2⟩
theorem all2_map {α β : Type} {f : α → α → Bool} {g : α → β} (h : ∀ x y, f x y = true → g x = g y) : ∀ a b : List α, all2 f a b = true → a.map g = b.map g
  | [], [], _ => rfl
  | [], _ :: _, e => by cases e
  | _ :: _, [], e => by cases e
  | x :: a, y :: b, e => by
    unfold all2 at e
    rw [Bool.and_eq_true] at e
    rw [List.map_cons, List.map_cons, h x y e.1, all2_map h a b e.2]
def idxG {α : Type} (f : α → Bool) : Nat → List α → List Nat
  | _, [] => []
  | n, z :: zs => if f z = true then n :: idxG f (n + 1) zs else idxG f (n + 1) zs
theorem idx_G {α : Type} (g : Str → α) (f : α → Bool) : ∀ (n : Nat) (zs : List Str), idx (fun z => f (g z)) n zs = idxG f n (zs.map g)
  | _, [] => rfl
  | n, z :: zs => by
    unfold idx
    rw [List.map_cons]
    unfold idxG
    rw [idx_G g f (n + 1) zs]
theorem aD_rows (ps zs : List Str) : (wordsOf zs).map (row ps) = (aD ps zs).filterMap id := by
  unfold wordsOf aD
  induction zs with
  | nil => rfl
  | cons z zs ih =>
    rw [List.map_cons]
    by_cases h : z = (".": Str)
    · rw [if_pos h, List.filter_cons_of_neg (by rw [h]; decide), ih]
      rfl
    · rw [if_neg h, List.filter_cons_of_pos (by rw [decide_eq_false h]; rfl), List.map_cons, ih]
      rfl
theorem pD_of (ps zs : List Str) : pD ps zs = (List.range ps.length).map fun i => idxG (fun r : List Bool => r[i]?.getD false) 0 ((aD ps zs).filterMap id) := by
  unfold pD
  rw [places_range, ← aD_rows]
  exact List.map_congr_left fun i _ => idx_G (row ps) (fun r : List Bool => r[i]?.getD false) 0 (wordsOf zs)
theorem fD_of (ps zs : List Str) : fD ps zs = (cD ps zs).map fun n => !decide (n = 0) := by
  unfold fD cD pD
  rw [← field_places, List.map_map]
  refine List.map_congr_left fun l _ => ?_
  show (!decide (l = [])) = !decide (l.length = 0)
  cases l <;> rfl
def splO : List (Option (List Bool)) → List (List (List Bool)) → List (List Bool) → List (List (List Bool))
  | [], done, cur => done ++ [cur]
  | none :: zs, done, cur => splO zs (done ++ [cur]) []
  | some b :: zs, done, cur => splO zs done (cur ++ [b])
theorem spl_O (ps : List Str) : ∀ (zs : List Str) (done : List (List Str)) (cur : List Str), (spl zs done cur).map (fun s => s.map (row ps)) = splO (aD ps zs) (done.map fun s => s.map (row ps)) (cur.map (row ps))
  | [], done, cur => by
    unfold spl aD
    rw [List.map_append]
    rfl
  | z :: zs, done, cur => by
    unfold spl aD
    rw [List.map_cons]
    by_cases h : z = (".": Str)
    · rw [if_pos h, if_pos h]
      have ih := spl_O ps zs (done ++ [cur]) []
      rw [List.map_append] at ih
      exact ih
    · rw [if_neg h, if_neg h]
      have ih := spl_O ps zs done (cur ++ [z])
      rw [List.map_append (f := row ps)] at ih
      exact ih
theorem sD_of (ps zs : List Str) : sD ps zs = bSort (dedup (((splO (aD ps zs) [] []).map (orL ps.length)).filter fun r => r.any id)) := by
  unfold sD setRows
  have e := spl_O ps zs [] []
  rw [show splO (aD ps zs) [] [] = (spl zs [] []).map (fun s => s.map (row ps)) from e.symm, List.map_map]
  rfl
theorem spl_flat : ∀ (zs : List Str) (done : List (List Str)) (cur : List Str) (z : Str), (∃ s ∈ spl zs done cur, z ∈ s) ↔ (∃ s ∈ done, z ∈ s) ∨ z ∈ cur ∨ z ∈ wordsOf zs
  | [], done, cur, z => by
    unfold spl wordsOf
    constructor
    · rintro ⟨s, hs, hz⟩
      rcases List.mem_append.mp hs with h | h
      · exact .inl ⟨s, h, hz⟩
      · rw [List.mem_singleton.mp h] at hz
        exact .inr (.inl hz)
    · rintro (⟨s, h, hz⟩ | h | h)
      · exact ⟨s, List.mem_append_left _ h, hz⟩
      · exact ⟨cur, List.mem_append_right _ List.mem_cons_self, h⟩
      · exact absurd h List.not_mem_nil
  | y :: zs, done, cur, z => by
    unfold spl
    by_cases h : y = (".": Str)
    · rw [if_pos h, spl_flat zs]
      have ew : wordsOf (y :: zs) = wordsOf zs := List.filter_cons_of_neg (by rw [h]; decide)
      rw [ew]
      constructor
      · rintro (⟨s, hs, hz⟩ | h | h)
        · rcases List.mem_append.mp hs with h | h
          · exact .inl ⟨s, h, hz⟩
          · rw [List.mem_singleton.mp h] at hz
            exact .inr (.inl hz)
        · exact absurd h List.not_mem_nil
        · exact .inr (.inr h)
      · rintro (⟨s, h, hz⟩ | h | h)
        · exact .inl ⟨s, List.mem_append_left _ h, hz⟩
        · exact .inl ⟨cur, List.mem_append_right _ List.mem_cons_self, h⟩
        · exact .inr (.inr h)
    · rw [if_neg h, spl_flat zs]
      have ew : wordsOf (y :: zs) = y :: wordsOf zs := List.filter_cons_of_pos (by rw [decide_eq_false h]; rfl)
      rw [ew, List.mem_append, List.mem_singleton, List.mem_cons]
      constructor
      · rintro (h | (h | h) | h)
        · exact .inl h
        · exact .inr (.inl h)
        · exact .inr (.inr (.inl h))
        · exact .inr (.inr (.inr h))
      · rintro (h | h | h | h)
        · exact .inl h
        · exact .inr (.inl (.inl h))
        · exact .inr (.inl (.inr h))
        · exact .inr (.inr h)
theorem or_at {m i : Nat} (h : i < m) (rows : List (List Bool)) : (orL m rows)[i]?.getD false = rows.any fun r => r[i]?.getD false := by
  unfold orL
  rw [List.getElem?_map, List.getElem?_range h]
  rfl
theorem fD_sD (ps zs : List Str) : fD ps zs = orL ps.length (sD ps zs) := by
  unfold fD fieldL
  show orL ps.length ((wordsOf zs).map (row ps)) = _
  unfold orL
  refine List.map_congr_left fun i hi => ?_
  have hi := List.mem_range.mp hi
  rw [Bool.eq_iff_iff, List.any_eq_true, List.any_eq_true]
  constructor
  · rintro ⟨r, hr, h⟩
    obtain ⟨z, hz, rfl⟩ := List.mem_map.mp hr
    obtain ⟨s, hs, hzs⟩ := (spl_flat zs [] [] z).mpr (.inr (.inr hz))
    have h2 : (fieldL ps s)[i]?.getD false = true := by
      unfold fieldL
      rw [or_at hi, List.any_eq_true]
      exact ⟨row ps z, List.mem_map.mpr ⟨z, hzs, rfl⟩, h⟩
    refine ⟨fieldL ps s, sD_mem.mpr (List.mem_filter.mpr ⟨List.mem_map.mpr ⟨s, hs, rfl⟩, ?_⟩), h2⟩
    have hl : i < (fieldL ps s).length := by rw [field_len]; exact hi
    rw [List.getElem?_eq_getElem hl] at h2
    exact List.any_eq_true.mpr ⟨_, List.getElem_mem hl, h2⟩
  · rintro ⟨r, hr, h⟩
    have hr := (List.mem_filter.mp (sD_mem.mp hr)).1
    obtain ⟨s, hs, rfl⟩ := List.mem_map.mp hr
    unfold fieldL at h
    rw [or_at hi, List.any_eq_true] at h
    obtain ⟨r, hr, h⟩ := h
    obtain ⟨z, hz, rfl⟩ := List.mem_map.mp hr
    rcases (spl_flat zs [] [] z).mp ⟨s, hs, hz⟩ with ⟨_, h', _⟩ | h' | h'
    · exact absurd h' List.not_mem_nil
    · exact absurd h' List.not_mem_nil
    · exact ⟨row ps z, List.mem_map.mpr ⟨z, h', rfl⟩, h⟩
def prs : List (Nat × Nat) := [(0, 1), (1, 2), (2, 4), (4, 5), (1, 3), (3, 5)]
def bls (ps : List Str) (a b : List (List Str)) : List Bool := levels.map fun z => sameB ps z a b
theorem and_not {x y : Bool} (h : x = true → y = true) : (x && !y) = false := by
  cases x
  · rfl
  · rw [h rfl]; rfl
theorem same_doc (ps : List Str) (a b : List (List Str)) : sameB ps "document" a b = decide (dD ps a = dD ps b) := by unfold sameB; rw [if_pos rfl]
theorem same_field (ps : List Str) (a b : List (List Str)) : sameB ps "field" a b = all2 (fun x y => decide (fD ps x = fD ps y)) a b := by
  unfold sameB; rw [if_neg (by decide)]; congr 1
theorem same_counts (ps : List Str) (a b : List (List Str)) : sameB ps "counts" a b = all2 (fun x y => decide (cD ps x = cD ps y)) a b := by
  unfold sameB; rw [if_neg (by decide)]; congr 1
theorem same_sent (ps : List Str) (a b : List (List Str)) : sameB ps "sentence" a b = all2 (fun x y => decide (sD ps x = sD ps y)) a b := by
  unfold sameB; rw [if_neg (by decide)]; congr 1
theorem same_places (ps : List Str) (a b : List (List Str)) : sameB ps "places" a b = all2 (fun x y => decide (pD ps x = pD ps y)) a b := by
  unfold sameB; rw [if_neg (by decide)]; congr 1
theorem same_all (ps : List Str) (a b : List (List Str)) : sameB ps "all" a b = all2 (fun x y => decide (aD ps x = aD ps y)) a b := by
  unfold sameB; rw [if_neg (by decide)]; congr 1
theorem finer (ps : List Str) (a b : List (List Str)) : ∀ x ∈ prs, ((bls ps a b)[x.2]?.getD false && !(bls ps a b)[x.1]?.getD false) = false := by
  intro x hx
  have key : (sameB ps "field" a b && !sameB ps "document" a b) = false ∧ (sameB ps "counts" a b && !sameB ps "field" a b) = false ∧ (sameB ps "places" a b && !sameB ps "counts" a b) = false ∧ (sameB ps "all" a b && !sameB ps "places" a b) = false ∧ (sameB ps "sentence" a b && !sameB ps "field" a b) = false ∧ (sameB ps "all" a b && !sameB ps "sentence" a b) = false := by
    rw [same_doc, same_field, same_counts, same_sent, same_places, same_all]
    refine ⟨and_not fun h => ?_, and_not fun h => ?_, and_not fun h => ?_, and_not fun h => ?_, and_not fun h => ?_, and_not fun h => ?_⟩
    · refine decide_eq_true ?_
      unfold dD
      rw [all2_map (g := fD ps) (fun x y e => of_decide_eq_true e) a b h]
    · exact all2_mono (fun x y e => decide_eq_true (by rw [fD_of, fD_of, of_decide_eq_true e])) a b h
    · exact all2_mono (fun x y e => decide_eq_true (by unfold cD; rw [of_decide_eq_true e])) a b h
    · exact all2_mono (fun x y e => decide_eq_true (by rw [pD_of, pD_of, of_decide_eq_true e])) a b h
    · exact all2_mono (fun x y e => decide_eq_true (by rw [fD_sD, fD_sD, of_decide_eq_true e])) a b h
    · exact all2_mono (fun x y e => decide_eq_true (by rw [sD_of, sD_of, of_decide_eq_true e])) a b h
  obtain ⟨k1, k2, k3, k4, k5, k6⟩ := key
  unfold prs at hx
  simp only [List.mem_cons, List.not_mem_nil, or_false] at hx
  rcases hx with rfl | rfl | rfl | rfl | rfl | rfl
  · exact k1
  · exact k2
  · exact k3
  · exact k4
  · exact k5
  · exact k6
/-! ### a pattern without its star -/
theorem repl_star : ∀ l : List Nat, PySem.StrLaws.replL [42] [] l = l.filter fun c => !decide (c = 42)
  | [] => PySem.StrLaws.replL_nil
  | c :: r => by
    by_cases h : c = 42
    · rw [PySem.StrLaws.replL_hit (by decide) (by rw [h]; rfl), List.filter_cons_of_neg (by rw [h]; decide), List.nil_append]
      exact repl_star r
    · rw [List.filter_cons_of_pos (by rw [decide_eq_false h]; rfl), ← repl_star r]
      show PySem.StrLaws.replS [42] [] 0 (c :: r) = _
      rw [PySem.StrLaws.replS.eq_2, if_neg (by intro e; exact h (List.cons.inj e).1)]
      rfl
theorem letters_ne {l : Wd} (h : l.all isL = true) : (l.filter fun c => !decide (c = 42)) = l := by
  refine List.filter_eq_self.mpr fun c hc => ?_
  have := List.all_eq_true.mp h c hc
  rw [decide_eq_false fun e => by rw [e] at this; exact absurd this (by decide)]
  rfl
theorem bare {p : Str} (hp : patL (cps p) = true) (hs : p ≠ ("*" : Str)) : wordL (cps (Txt.replace p "*" "")) = true := by
  have e : cps (Txt.replace p "*" "") = (cps p).filter fun c => !decide (c = 42) := by
    rw [← repl_star]
    exact PySem.StrLaws.replace_list (by decide)
  rw [e]
  unfold patL at hp
  rw [Bool.or_eq_true] at hp
  rcases hp with hp | hp
  · rw [letters_ne (word_all hp)]
    exact hp
  · simp only [Bool.and_eq_true, decide_eq_true_eq] at hp
    obtain ⟨h1, h2, h3⟩ := hp
    have h4 : (cps p).getLast? = some 42 := by
      unfold star at h1
      exact beq_iff_eq.mp h1
    obtain ⟨l', e2⟩ : ∃ l', cps p = l' ++ [42] := by
      rcases List.eq_nil_or_concat (cps p) with e | ⟨l', c, e⟩
      · rw [e] at h4; cases h4
      · rw [List.concat_eq_append] at e
        rw [e, List.getLast?_append] at h4
        have : c = 42 := Option.some.inj h4
        exact ⟨l', by rw [e, this]⟩
    rw [e2, List.dropLast_concat] at h2 h3
    rw [e2, List.filter_append, letters_ne h3, show ([42] : Wd).filter (fun c => !decide (c = 42)) = [] from rfl, List.append_nil]
    have ne : l' ≠ [] := fun z => hs (cps_inj (by rw [e2, z]; decide))
    unfold wordL
    have : 0 < l'.length := List.length_pos_iff.mpr ne
    rw [h3]
    simp
    omega
end K44
namespace K44
open PySem PySem.Spec PyProof.Rows L2 TL K00
variable [TheW]
def mosts : List Nat := [3, 9, 20]
theorem mosts_ok : ∀ k ∈ mosts, k ≤ 20 := by decide +kernel
section
variable {M : Mode} {ts : List T} {q : Sl → Prop} {r : Xn → Prop}
theorem i_notStar {p : Str} {k : Bool → Prop} (h : k (!decide (p = ("*" : Str)))) : gInF true (.str p) (.lst [.str "*"]) (fun s => isB s k) := by
  show k (!decide (p ∈ [("*" : Str)]))
  rw [show decide (p ∈ [("*" : Str)]) = decide (p = ("*" : Str)) from by simp]
  exact h
theorem st_frzSet {i j : Nat} {c : Ow} {a : TEx} {B : TSx} {τ : List Sl} {k : Kn} (e : τ[i]? = some (.oo c)) (h : a (τ.set i (.sh c.fz)) (fun s => B ((τ.set i (.sh c.fz)).set j s) k) k.ex) : sSeq (sFrz i (sSet j a)) B τ k := s_seq (s_frz e h)
theorem st_frzFor {i : Nat} {c : Ow} {src : TIx} {g : TGx} {b B : TSx} {τ : List Sl} {k : Kn} (e : τ[i]? = some (.oo c)) (h : src (τ.set i (.sh c.fz)) (fun items => forR g b { k with nx := fun τ' => B τ' k } items (τ.set i (.sh c.fz))) k.ex) : sSeq (sFrz i (sFor src g b)) B τ k := s_seq (s_frz e h)
theorem st_frz2If {i j : Nat} {c c' : Ow} {ta : TTx} {A B : TSx} {τ : List Sl} {k : Kn} (e : τ[i]? = some (.oo c)) (e2 : (τ.set i (.sh c.fz))[j]? = some (.oo c')) (h : ta ((τ.set i (.sh c.fz)).set j (.sh c'.fz)) (fun d => if d = true then A ((τ.set i (.sh c.fz)).set j (.sh c'.fz)) { k with nx := fun τ' => B τ' k } else B ((τ.set i (.sh c.fz)).set j (.sh c'.fz)) k) k.ex) : sSeq (sFrz i (sFrz j (sIf ta A sNext))) B τ k := s_seq (s_frz e (s_frz e2 h))
theorem i_mosts {τ : List Sl} (h : q (.ol (mosts.map fun n : Nat => T.int (n : Int)))) : TL.gLst (aCons (gC (.int 3)) (aCons (gC (.int 9)) (aCons (gC (.int 20)) aNil))) τ q r :=
  (show 3 ≤ sizeLine ∧ q (.ol (mosts.map fun n : Nat => T.int (n : Int))) from ⟨SL, h⟩)
theorem i_prs {τ : List Sl} (h : q (.ol (prs.map fun x => T.tup [.int (x.1 : Int), .int (x.2 : Int)]))) : TL.gLst (aCons (TL.gTup (aCons (gC (.int 0)) (aCons (gC (.int 1)) aNil))) (aCons (TL.gTup (aCons (gC (.int 1)) (aCons (gC (.int 2)) aNil))) (aCons (TL.gTup (aCons (gC (.int 2)) (aCons (gC (.int 4)) aNil))) (aCons (TL.gTup (aCons (gC (.int 4)) (aCons (gC (.int 5)) aNil))) (aCons (TL.gTup (aCons (gC (.int 1)) (aCons (gC (.int 3)) aNil))) (aCons (TL.gTup (aCons (gC (.int 3)) (aCons (gC (.int 5)) aNil))) aNil)))))) τ q r :=
  (show 2 ≤ sizeLine ∧ 2 ≤ sizeLine ∧ 2 ≤ sizeLine ∧ 2 ≤ sizeLine ∧ 2 ≤ sizeLine ∧ 2 ≤ sizeLine ∧ 6 ≤ sizeLine ∧ q (.ol (prs.map fun x => T.tup [.int (x.1 : Int), .int (x.2 : Int)])) from ⟨SL, SL, SL, SL, SL, SL, SL, h⟩)
theorem i_tupT {xs : List T} (h : q (.sh (.tup xs))) : gTupleOf [T.lst xs] q := h
theorem eq_tup {xs ys : List T} {d e : PyData} (h1 : (T.tup xs).py = some d) (h2 : (T.tup ys).py = some e) (s1 : SeqAt.shaped d = true) (s2 : SeqAt.shaped e = true) (h : q (.sh (.bl (PyData.eqv d e)))) : gEq (.tup xs) (.tup ys) q := by
  show match (T.tup xs).py, (T.tup ys).py with
    | some d, some e => SeqAt.shaped d = true ∧ SeqAt.shaped e = true ∧ _
    | _, _ => False
  rw [h1, h2]
  exact ⟨s1, s2, h⟩
theorem eq_nil0 (h : q (.sh (.bl true))) : gEq (.lst []) (.lst []) q :=
  ⟨(sm_toks (zs := []) (fun z hz => absurd hz List.not_mem_nil)).shaped (by decide), (sm_toks (zs := []) (fun z hz => absurd hz List.not_mem_nil)).shaped (by decide), h⟩
theorem view_tup (ps : List Str) (z : Str) (texts : List (List Str)) : ∃ xs, viewT ps z texts = .tup xs := by
  unfold viewT
  split
  · exact ⟨_, rfl⟩
  · exact ⟨_, rfl⟩
theorem i_bAtL {i j n : Nat} {b : List Bool} {τ : List Sl} (e : τ[i]? = some (.sh (.lst (b.map T.bl)))) (e2 : τ[j]? = some (.sh (.int (n : Int)))) (hn : n < b.length) (h : q (.sh (.bl (b[n]?.getD false)))) : gOp gIx (gVar i) (gVar j) τ q r := by
  refine i_op (i_var (.lst (b.map T.bl)) e (i_var (.int (n : Int)) e2 ?_))
  show oks (atI (b.map T.bl) (n : Int)) _
  rw [at_nat _ (by rw [List.length_map]; exact hn), List.getElem_map]
  rw [List.getElem?_eq_getElem hn] at h
  exact h
theorem tok_ok {zs : List Str} {n : Nat} (h : Toks n zs) (hn : n ≤ 400) : TxtOk zs := ⟨h.2, Nat.le_trans h.1 hn⟩
theorem few_sets {ps zs : List Str} (h : zs.length ≤ 40) : (dedup (setRows ps zs)).length < 60 := by
  have h1 := dedup_len (setRows ps zs)
  have h2 := set_rows_len ps zs
  omega
theorem doc_mem {f : List Str → T} {fs : List Str} {texts : List (List Str)} (nd : fs.Nodup) {x : Str × List Str} (h : x ∈ fs.zip texts) : lookK (docF f fs texts) (.inr x.1) = some (f x.2) := by
  obtain ⟨i, hi, e⟩ := List.getElem_of_mem h
  rw [List.length_zip] at hi
  have h1 : i < fs.length := by omega
  have h2 : i < texts.length := by omega
  rw [List.getElem_zip] at e
  subst e
  exact docF_look nd (List.getElem?_eq_getElem h1) (List.getElem?_eq_getElem h2)
theorem prs_lt : ∀ x ∈ prs, x.1 < 6 ∧ x.2 < 6 := by decide +kernel
/-- the words of a law's round -/
theorem sem__law_right (h : sp__law_right M ts q r) : g__law_right M (startS ["draw", "fields", "patterns", "words", "document", "other", "told", "level", "due", "tuples", "below", "pattern", "one", "field", "low", "high"] ts) (KnOf q r) := by
  obtain ⟨d, rfl, hM, hq⟩ := h
  refine st_asg2 (i_call (i_cons (i_var (.raw (.ref d)) rfl (i_nil ⟨d, rfl, hM, fun fs F => ?_⟩))))
  refine i_call (i_cons (i_var (.raw (.ref d)) rfl (i_nil ⟨d, rfl, hM, fun ps P => ?_⟩)))
  have few := F.few
  have one := F.one
  have pfew := P.few
  have nd := F.nodup
  refine st_set (i_op (i_op (i_call (i_cons (i_var (.raw (.ref d)) rfl (i_nil ⟨d, rfl, hM, fun ws w0 w4 hw => ?_⟩))))))
  refine i_lc (i_walk (i_var (.tup (tps ps)) rfl ?_))
  show lcR _ _ _ _ _ (ps.map T.str) []
  refine lcR_pf T.str (fun p => !decide (p = ("*" : Str))) (fun p => T.str (Txt.replace p "*" "")) ps [] (fun p hp Q hQ => ?_) (fun p hp np Q hQ => ?_) (SL (by rw [List.length_nil]; omega)) ?_
  · exact i_B (i_op (i_var (.str p) rfl (i_lst (i_cons (i_c (i_nil ⟨S1, i_notStar hQ⟩))))))
  · refine i_var (.str p) rfl ⟨?_, hQ⟩
    have := (pat_len (P.ok p hp)).2
    rw [len_cps]
    show _ + _ * 0 ≤ _
    omega
  have er : [] ++ (ps.filter fun p => !decide (p = ("*" : Str))).map (fun p : Str => T.str (Txt.replace p "*" "")) = tps ((ps.filter fun p => !decide (p = ("*" : Str))).map fun p : Str => Txt.replace p "*" "") := by
    rw [List.nil_append]
    show _ = (List.map _ _).map T.str
    rw [List.map_map]
    rfl
  rw [er]
  have hr : ∀ w ∈ (ps.filter fun p => !decide (p = ("*" : Str))).map (fun p : Str => Txt.replace p "*" ""), wordL (cps w) = true := fun w hw => by
    obtain ⟨p, hp, rfl⟩ := List.mem_map.mp hw
    obtain ⟨h1, h2⟩ := List.mem_filter.mp hp
    exact bare (P.ok p h1) fun e => by rw [e] at h2; exact absurd h2 (by decide)
  have lr : ((ps.filter fun p => !decide (p = ("*" : Str))).map (fun p : Str => Txt.replace p "*" "")).length ≤ 12 := by
    rw [List.length_map]
    exact Nat.le_trans (List.length_filter_le _ _) pfew
  generalize (ps.filter fun p => !decide (p = ("*" : Str))).map (fun p : Str => Txt.replace p "*" "") = rest at hr lr ⊢
  refine add_tps (by omega) (i_lst (i_cons (i_c (i_nil ⟨S1, add_tps (b := [("q" : Str)]) (by rw [List.length_append]; show _ + 1 ≤ _; omega) ?_⟩))))
  have hv : ∀ w ∈ ws ++ rest ++ [("q" : Str)], K87.tokS w = true := fun w m => by
    rcases List.mem_append.mp m with m | m
    · rcases List.mem_append.mp m with m | m
      · exact tok_word (hw w m)
      · exact tok_word (hr w m)
    · rw [List.mem_singleton.mp m]
      exact tok_word (by decide +kernel)
  have v0 : 0 < (ws ++ rest ++ [("q" : Str)]).length := by rw [List.length_append]; show 0 < _ + 1; omega
  have v1 : (ws ++ rest ++ [("q" : Str)]).length ≤ 100 := by rw [List.length_append, List.length_append]; show _ + 1 ≤ _; omega
  generalize ws ++ rest ++ [("q" : Str)] = vs at hv v0 v1 ⊢
  refine st_frzSet (c := .l (tps vs)) rfl (i_call (i_cons (i_var (.raw (.ref d)) rfl (i_cons (i_var (.tup (tps fs)) rfl (i_cons (i_var (lsT vs) rfl (i_cons (i_call (i_cons (i_var (.raw (.ref d)) rfl (i_cons (i_mosts (i_nil ?_)))))))))))))) 
  refine ⟨d, .lst (mosts.map fun n : Nat => T.int (n : Int)), mosts.map fun n : Nat => T.int (n : Int), rfl, hM, .inl rfl, by decide, by decide, fun x hx => ?_⟩
  obtain ⟨k, mk, rfl⟩ := List.mem_map.mp hx
  refine i_nil ⟨d, fs, vs, k, rfl, hM, F, mosts_ok k mk, v1, hv, fun texts e1 ht => ?_⟩
  refine st_frzSet (c := .d (docK fs texts)) rfl (i_call (i_cons (i_var (.raw (.ref d)) rfl (i_cons (i_var (.tup (tps fs)) rfl (i_cons (i_var (.dct (docK fs texts)) rfl (i_cons (i_var (lsT vs) rfl (i_nil ⟨d, fs, texts, vs, rfl, hM, F, e1, ht, v0, v1, hv, fun other e2 ho => ?_⟩))))))))))
  have D1 : DocOk fs texts (docK fs texts) := docF_ok (f := lsT) F e1 (fun zs => .inl rfl) fun zs hz => tok_ok (ht zs hz) (by decide)
  have D2 : DocOk fs other (docK fs other) := docF_ok (f := lsT) F e2 (fun zs => .inl rfl) fun zs hz => tok_ok (ho zs hz) (by decide)
  have D3 : DocOk fs other (docF tpT fs other) := docF_ok (f := tpT) F e2 (fun zs => .inr rfl) fun zs hz => tok_ok (ho zs hz) (by decide)
  refine st_set (i_lst (i_nil ⟨Nat.zero_le _, ?_⟩))
  refine st_frzFor (c := .d (docK fs other)) rfl (i_walk (i_call (i_nil ⟨rfl, ?_⟩)))
  refine i_items (xs := levels.map T.str) ?_
  refine forR_pre T.str (fun pre τ => ∃ s7 s8 s9, τ = [.sh (.raw (.ref d)), .sh (.tup (tps fs)), .sh (.tup (tps ps)), .sh (lsT vs), .sh (.dct (docK fs texts)), .sh (.dct (docK fs other)), .ol (pre.map fun z => T.bl (sameB ps z texts other)), s7, s8, s9, .no, .no, .no, .no, .no, .no]) levels ?_ ?_ _ ⟨.no, .no, .no, rfl⟩
  · intro pre z post ez τ hi nx hn
    obtain ⟨s7, s8, s9, rfl⟩ := hi
    have hz : z ∈ levels := by rw [ez]; exact List.mem_append_right _ List.mem_cons_self
    have lp : pre.length ≤ 6 := by
      have := congrArg List.length ez
      rw [List.length_append, List.length_cons] at this
      have l6 : levels.length = 6 := rfl
      omega
    refine x_name ?_
    refine st_set (i_lc (i_walk (i_lst (i_cons (i_var (.dct (docK fs texts)) rfl (i_cons (i_var (.dct (docK fs other)) rfl (i_nil ⟨SL (n := 2), ?_⟩))))))))
    refine i_items (xs := [texts, other].map fun tx => T.dct (docK fs tx)) ?_
    refine lcR_mf (fun tx => T.dct (docK fs tx)) (fun tx => viewT ps z tx) [texts, other] (fun tx hx Q hQ => ?_) (SL (n := 2)) ?_
    · have hx' : DocOk fs tx (docK fs tx) ∧ ∀ zs ∈ tx, zs.length ≤ 40 := by
        rcases List.mem_cons.mp hx with rfl | hx
        · exact ⟨D1, fun zs h => by have := (ht zs h).1; omega⟩
        · rw [List.mem_singleton.mp hx]
          exact ⟨D2, fun zs h => (ho zs h).1⟩
      exact x_name (i_call (i_cons (i_var (.tup (tps fs)) rfl (i_cons (i_var (.tup (tps ps)) rfl (i_cons (i_var (.str z) rfl (i_cons (i_var (.dct (docK fs tx)) rfl (i_nil ⟨fs, ps, z, tx, docK fs tx, rfl, F, P, hx'.1, fun zs h => few_sets (hx'.2 zs h), hQ⟩))))))))))
    refine st_set (i_cb (i_cons (i_lc (i_walk (i_var (.tup (tps fs)) rfl ?_)))))
    show lcR _ _ _ _ _ (fs.map T.str) []
    rw [zip_fst e2]
    refine lcR_mf _ (fun x : Str × List Str => T.tup [.str x.1, tpT x.2]) (fs.zip other) (fun x hx Q hQ => ?_) (SL (by rw [List.length_zip]; omega)) (i_nil (i_docD (f := tpT) nd e2 ?_))
    · exact x_name (i_tup (i_cons (i_var (.str x.1) rfl (i_cons (i_cb (i_cons (i_dget rfl rfl (doc_mem (f := lsT) nd hx) (i_nil (i_tupT (i_nil ⟨SL (n := 2), hQ⟩))))))))))
    refine st_frz2If (c := .d (docF tpT fs other)) (c' := .l [viewT ps z texts, viewT ps z other]) rfl rfl ?_
    have sm1 := v_sm (ps := ps) (texts := texts) z pfew (by omega) fun zs h => by have := (ht zs h).1; omega
    have sm2 := v_sm (ps := ps) (texts := other) z pfew (by omega) fun zs h => by have := (ho zs h).1; omega
    have py1 := v_py ps z texts
    have py2 := v_py ps z other
    have ev := v_eqv ps z texts other
    refine i_not (i_B (i_call (i_cons (i_lst (i_cons (i_call (i_cons (i_var (.tup (tps fs)) rfl (i_cons (i_var (.tup (tps ps)) rfl (i_cons (i_var (.str z) rfl (i_cons (i_var (.dct (docK fs texts)) rfl (i_nil ⟨fs, ps, z, texts, docK fs texts, rfl, F, P, hz, D1, ?_⟩)))))))))))))))
    refine i_cons (i_callW (i_cons (i_var (.dct (docF tpT fs other)) rfl (i_cons (i_var (.str z) rfl (i_cons (i_var (.tup (tps ps)) rfl (i_cons (i_var (.tup (tps fs)) rfl (i_nil ⟨rfl, fs, ps, z, other, docF tpT fs other, rfl, F, P, hz, D3, ?_⟩))))))))))
    obtain ⟨xs, ex⟩ := view_tup ps z texts
    obtain ⟨ys, ey⟩ := view_tup ps z other
    rw [ex] at py1 ⊢
    rw [ey] at py2 ⊢
    have pyl : (T.lst [.tup xs, .tup ys]).py = some (.list [vP ps z texts, vP ps z other]) := by
      simp only [T.py, pyAll] at py1 py2 ⊢
      rw [py1, py2]
      rfl
    have sh : ShOk (.list [vP ps z texts, vP ps z other]) := by
      refine ((Sm.list (k := 18003) (m := 3) (ds := [vP ps z texts, vP ps z other]) fun d hd => ?_).mono (k' := 36008) (m' := 4) (by simp) (Nat.le_refl _)).sh (by omega) (by omega)
      rcases List.mem_cons.mp hd with rfl | hd
      · exact sm1
      · rw [List.mem_singleton.mp hd]
        exact sm2
    refine i_nil ⟨SL (n := 2), i_cons (i_var (.lst [.tup xs, .tup ys]) rfl (i_nil ⟨.lst [.tup xs, .tup ys], .lst [.tup xs, .tup ys], _, rfl, pyl, pyl, sh, i_isB (ifF (c := !true) rfl ?_)⟩))⟩
    refine s_app (pre.map fun z => T.bl (sameB ps z texts other)) rfl (i_op (i_op (i_var (.lst [.tup xs, .tup ys]) rfl (i_c (i_ix (t := .tup xs) rfl ?_)))))
    refine i_op (i_var (.lst [.tup xs, .tup ys]) rfl (i_c (i_ix (t := .tup ys) rfl ?_)))
    refine eq_tup py1 py2 (sm1.shaped (by omega)) (sm2.shaped (by omega)) ?_
    rw [ev]
    refine ⟨by rw [List.length_map, sizeLine_eq]; omega, hn _ ⟨.sh (.str z), .sh (.lst [.tup xs, .tup ys]), .sh (.dct (docF tpT fs other)), ?_⟩⟩
    rw [List.map_append]
    rfl
  · intro τ hi
    obtain ⟨s7, s8, s9, rfl⟩ := hi
    have el : levels.map (fun z => T.bl (sameB ps z texts other)) = (bls ps texts other).map T.bl := by
      unfold bls
      rw [List.map_map]
      rfl
    have fin := finer ps texts other
    have len : (bls ps texts other).length = 6 := rfl
    rw [el]
    generalize bls ps texts other = B at fin len ⊢
    dsimp only
    refine st_set (i_prs ?_)
    refine s_frz (c := .l (prs.map fun x => T.tup [.int (x.1 : Int), .int (x.2 : Int)])) rfl ?_
    refine s_frz (c := .l (B.map T.bl)) rfl ?_
    refine s_ret (i_op (i_lc (i_walk (i_var (.lst (prs.map fun x => T.tup [.int (x.1 : Int), .int (x.2 : Int)])) rfl ?_))))
    refine i_items (xs := prs.map fun x => T.tup [.int (x.1 : Int), .int (x.2 : Int)]) ?_
    refine lcR_pg _ (fun x => B[x.2]?.getD false && !B[x.1]?.getD false) (fun x => T.int 1) prs [] (fun x hx K1 K2 h1 h2 => ?_) (SL (by decide)) ?_
    · have lt := prs_lt x hx
      have f := fin x hx
      refine x_tup2 (i_and (i_B (i_bAtL rfl rfl (by omega) (i_isB ?_))))
      have last := h2 f
      cases hb : B[x.2]?.getD false with
      | false => exact ifF rfl (ifF rfl last)
      | true =>
        refine ifT rfl (i_not (i_B (i_bAtL rfl rfl (by omega) (i_isB ?_))))
        rw [hb, Bool.true_and] at f
        exact ifF f last
    · have e0 : prs.filter (fun x => B[x.2]?.getD false && !B[x.1]?.getD false) = [] := List.filter_eq_nil_iff.mpr fun x hx => by rw [fin x hx]; decide
      rw [e0]
      exact i_lst (i_nil ⟨Nat.zero_le _, eq_nil0 hq⟩)
end
end K44
namespace K44
open PySem PySem.Spec PyProof.Rows L2 TL K00
variable [TheW]
def four : List Str := ["a", "b", ".", "ab"]
theorem four_ok : ∀ z ∈ four, K87.tokS z = true := by decide +kernel
def pats : List Str := ["a", "a*"]
theorem pats_ok : PatsOk pats := ⟨by decide +kernel, by decide, by decide +kernel⟩
def fbody : List Str := ["body"]
theorem body_ok : FldOk fbody := flds_ok _ List.mem_cons_self
def smp : List Str := ["a", ".", "ab", "c", ".", "."]
theorem smp_ok : Toks 400 smp := ⟨by decide, by decide +kernel⟩
def lv4 : List Str := ["document", "sentence", "places", "counts"]
theorem lv4_ok : ∀ z ∈ lv4, z ∈ levels := by decide +kernel
theorem two_all : ∀ b : List Bool, b.length = 2 → b ∈ [[true, true], [true, false], [false, true], [false, false]] := fun b h => by
  match b, h with
  | [x, y], _ => cases x <;> cases y <;> decide
theorem few_two (zs : List Str) : (dedup (setRows pats zs)).length < 60 := by
  have := nodup_le (dedup_nodup (setRows pats zs)) (zs := [[true, true], [true, false], [false, true], [false, false]]) fun b hb => two_all b (set_row_len (dedup_mem.mp hb))
  have l4 : ([[true, true], [true, false], [false, true], [false, false]] : List (List Bool)).length = 4 := rfl
  omega
theorem bs2 : bSort [[true, true], [false, true]] = [[false, true], [true, true]] := by
  rw [bSort_perm (m := [[false, true], [true, true]]) (List.Perm.swap _ _ _)]
  exact List.mergeSort_of_pairwise (by decide)
theorem d1 : viewT pats "document" [smp] = bT [true, true] := by
  unfold viewT
  rw [if_pos rfl, show orL pats.length ([smp].map fun zs => fieldL pats (wordsOf zs)) = [true, true] from by decide +kernel]
theorem d2 : viewT pats "sentence" [smp] = .tup [.tup [bT [false, true], bT [true, true]]] := by
  unfold viewT
  rw [if_neg (by decide)]
  show T.tup [viewOf pats "sentence" smp] = _
  unfold viewOf
  rw [if_neg (by decide), if_neg (by decide), if_neg (by decide), if_pos rfl]
  unfold sentT'
  rw [show dedup (setRows pats smp) = [[true, true], [false, true]] from by decide +kernel, bs2]
  rfl
theorem d3 : viewT pats "places" [smp] = .tup [.tup [.tup [.int 0], .tup [.int 0, .int 1]]] := by
  unfold viewT
  rw [if_neg (by decide)]
  show T.tup [viewOf pats "places" smp] = _
  unfold viewOf
  rw [if_neg (by decide), if_pos rfl]
  unfold placesT
  rw [show places pats (wordsOf smp) = [[0], [0, 1]] from by decide +kernel]
  rfl
theorem d4 : viewT pats "counts" [smp] = .tup [.tup [.int 1, .int 2]] := by
  unfold viewT
  rw [if_neg (by decide)]
  show T.tup [viewOf pats "counts" smp] = _
  unfold viewOf
  rw [if_neg (by decide), if_neg (by decide), if_pos rfl]
  unfold countsT
  rw [show places pats (wordsOf smp) = [[0], [0, 1]] from by decide +kernel]
  rfl
abbrev dueL : List T := [.tup [.bl true, .bl true], .tup [.tup [.tup [.bl false, .bl true], .tup [.bl true, .bl true]]], .tup [.tup [.tup [.int 0], .tup [.int 0, .int 1]]], .tup [.tup [.int 1, .int 2]]]
theorem due_eq : lv4.map (fun z => viewT pats z [smp]) = dueL := by
  show [viewT pats "document" [smp], viewT pats "sentence" [smp], viewT pats "places" [smp], viewT pats "counts" [smp]] = _
  rw [d1, d2, d3, d4]
  rfl
def dueP : PyData := .list (lv4.map fun z => vP pats z [smp])
theorem due_py : (T.lst dueL).py = some dueP := by
  rw [← due_eq]
  have h := py_map (t := fun z => viewT pats z [smp]) (p := fun z => vP pats z [smp]) (fun z => v_py pats z [smp]) lv4
  simp only [T.py, h, Option.map_some]
  rfl
theorem due_sh : ShOk dueP := by
  refine ((Sm.list (k := 18003) (m := 3) (ds := lv4.map fun z => vP pats z [smp]) fun d hd => ?_).mono (k' := 72016) (m' := 4) (by simp [lv4]) (Nat.le_refl _)).sh (by omega) (by omega)
  obtain ⟨z, _, rfl⟩ := List.mem_map.mp hd
  exact v_sm z (by decide) (by decide) fun zs h => by rw [List.mem_singleton.mp h]; decide
theorem i_laps {sc : List Int} {τ : List Sl} {ti : List T → Prop} {r : Xn → Prop} (e : τ[0]? = some (.sh (.fls (sc.map T.int)))) (hs : sc.length ≤ 63) (h : ∀ n, ti (TL.rangeT 0 n)) : iR1 (aCons (gOp gAdd (gC (.int 6)) (gCB gMin2 (aCons (gCB gLen (aCons (gVar 0) aNil)) (aCons (gC (.int 10)) aNil)))) aNil) τ ti r := by
  refine i_op (i_c (i_cb (i_cons (i_cb (i_cons (i_var (.fls (sc.map T.int)) e ?_))))))
  have l : (sc.map T.int).length = sc.length := List.length_map _
  refine (show (-(2 ^ 62) ≤ 6 + (if (10 : Int) < ((sc.map T.int).length : Int) then 10 else ((sc.map T.int).length : Int)) ∧ 6 + (if (10 : Int) < ((sc.map T.int).length : Int) then 10 else ((sc.map T.int).length : Int)) < 2 ^ 62) ∧ _ from ⟨?_, h _⟩)
  split <;> omega
section
variable {M : Mode} {q : Sl → Prop} {r : Xn → Prop}
theorem i_d1 {z : Str} {b : TEx} {τ : List Sl} (h : b τ (fun u => q (.od [((.inr z : Key), u.fz)])) r) : gD1 (gC (.str z)) b τ q r := h
theorem i_four {τ : List Sl} (h : q (.ol (tps four))) : TL.gLst (aCons (gC (.str "a")) (aCons (gC (.str "b")) (aCons (gC (.str ".")) (aCons (gC (.str "ab")) aNil)))) τ q r :=
  (show 4 ≤ sizeLine ∧ q (.ol (tps four)) from ⟨SL, h⟩)
theorem i_smp {τ : List Sl} (h : q (.ol (tps smp))) : TL.gLst (aCons (gC (.str "a")) (aCons (gC (.str ".")) (aCons (gC (.str "ab")) (aCons (gC (.str "c")) (aCons (gC (.str ".")) (aCons (gC (.str ".")) aNil)))))) τ q r :=
  (show 6 ≤ sizeLine ∧ q (.ol (tps smp)) from ⟨SL, h⟩)
theorem i_lv4 {τ : List Sl} (h : q (.ol (tps lv4))) : TL.gLst (aCons (gC (.str "document")) (aCons (gC (.str "sentence")) (aCons (gC (.str "places")) (aCons (gC (.str "counts")) aNil)))) τ q r :=
  (show 4 ≤ sizeLine ∧ q (.ol (tps lv4)) from ⟨SL, h⟩)
theorem i_body {τ : List Sl} (h : q (.sh (.tup (tps fbody)))) : TL.gTup (aCons (gC (.str "body")) aNil) τ q r :=
  (show 1 ≤ sizeLine ∧ q (.sh (.tup (tps fbody))) from ⟨SL, h⟩)
theorem i_pats {τ : List Sl} (h : q (.sh (.tup (tps pats)))) : TL.gTup (aCons (gC (.str "a")) (aCons (gC (.str "a*")) aNil)) τ q r :=
  (show 2 ≤ sizeLine ∧ q (.sh (.tup (tps pats))) from ⟨SL, h⟩)
theorem i_due {τ : List Sl} (h : q (.ol dueL)) : (TL.gLst (aCons (TL.gTup (aCons (gC (.bl true)) (aCons (gC (.bl true)) aNil))) (aCons (TL.gTup (aCons (TL.gTup (aCons (TL.gTup (aCons (gC (.bl false)) (aCons (gC (.bl true)) aNil))) (aCons (TL.gTup (aCons (gC (.bl true)) (aCons (gC (.bl true)) aNil))) aNil))) aNil)) (aCons (TL.gTup (aCons (TL.gTup (aCons (TL.gTup (aCons (gC (.int 0)) aNil)) (aCons (TL.gTup (aCons (gC (.int 0)) (aCons (gC (.int 1)) aNil))) aNil))) aNil)) (aCons (TL.gTup (aCons (TL.gTup (aCons (gC (.int 1)) (aCons (gC (.int 2)) aNil))) aNil)) aNil))))) τ q r :=
  (show 2 ≤ sizeLine ∧ 2 ≤ sizeLine ∧ 2 ≤ sizeLine ∧ 2 ≤ sizeLine ∧ 1 ≤ sizeLine ∧ 1 ≤ sizeLine ∧ 2 ≤ sizeLine ∧ 2 ≤ sizeLine ∧ 1 ≤ sizeLine ∧ 2 ≤ sizeLine ∧ 1 ≤ sizeLine ∧ 4 ≤ sizeLine ∧ q (.ol dueL) from ⟨SL, SL, SL, SL, SL, SL, SL, SL, SL, SL, SL, SL, h⟩)
theorem one_doc {zs : List Str} (h : Toks 400 zs) : DocOk fbody [zs] (docF lsT fbody [zs]) := docF_ok (f := lsT) body_ok rfl (fun zs => .inl rfl) fun y hy => by rw [List.mem_singleton.mp hy]; exact tok_ok h (by decide)
theorem sem_law {d : Addr} {sc : List Int} (hM : IsDM M d) (hs : sc.length ≤ 63) : g_law M ([.sh (.fls (sc.map T.int)), .sh (.raw (.ref d))] ++ List.replicate 5 .no) (KnOf (fun s => s = .sh (.bl true)) rF) := by
  refine st_for (i_laps rfl hs fun n => ?_)
  refine forR_inv (I := fun τ => ∃ a2, τ = [.sh (.fls (sc.map T.int)), .sh (.raw (.ref d)), a2, .no, .no, .no, .no]) ?_ ?_ _ ⟨.no, rfl⟩
  · rintro τ ⟨a2, rfl⟩
    dsimp only
    refine st_set (i_d1 (i_lc (i_r1c (by omega) ?_)))
    have lr : (TL.rangeT 0 (400 : Int).toNat).length = 400 := by unfold TL.rangeT; rw [List.length_map, List.length_range]; rfl
    refine lcR_any (P := fun _ u => ∃ w, K87.tokS w = true ∧ u = T.str w) (fun t _ q' hq => ?_) (SL (by rw [List.length_nil]; omega)) fun ts hp => ?_
    · refine x_name (i_call (i_cons (i_var (.raw (.ref d)) rfl (i_cons (i_four (i_nil ⟨d, .lst (tps four), tps four, rfl, hM, .inl rfl, by decide, by decide, fun x hx => ?_⟩))))))
      obtain ⟨z, hz, rfl⟩ := List.mem_map.mp hx
      exact hq _ ⟨z, four_ok z hz, rfl⟩
    obtain ⟨zs, rfl, e2, h2⟩ := paired_tps hp
    have Z : Toks 400 zs := ⟨by omega, h2⟩
    have D := one_doc Z
    rw [List.nil_append]
    refine st_frzFor (c := .d (docF lsT fbody [zs])) rfl (i_walk (i_call (i_nil ⟨rfl, ?_⟩)))
    refine i_items (xs := levels.map T.str) ?_
    refine forR_pre T.str (fun pre τ => ∃ a4, τ = [.sh (.fls (sc.map T.int)), .sh (.raw (.ref d)), a2, .sh (.dct (docF lsT fbody [zs])), a4, .no, .no]) levels ?_ ?_ _ ⟨.no, rfl⟩
    · intro pre z post ez τ hi nx hn
      obtain ⟨a4, rfl⟩ := hi
      have hz : z ∈ levels := by rw [ez]; exact List.mem_append_right _ List.mem_cons_self
      have sh : ShOk (vP pats z [zs]) := (v_sm z (by decide) (by show 1 ≤ 3; decide) fun y h => by rw [List.mem_singleton.mp h]; exact Z.1).sh (by omega) (by omega)
      have py := v_py pats z [zs]
      refine x_name (s_if (i_not (i_B (i_call (i_cons (i_call (i_cons (i_body (i_cons (i_pats (i_cons (i_var (.str z) rfl (i_cons (i_var (.dct (docF lsT fbody [zs])) rfl (i_nil ⟨fbody, pats, z, [zs], docF lsT fbody [zs], rfl, body_ok, pats_ok, hz, D, ?_⟩)))))))))))))))
      refine i_cons (i_call (i_cons (i_body (i_cons (i_pats (i_cons (i_var (.str z) rfl (i_cons (i_var (.dct (docF lsT fbody [zs])) rfl (i_nil ⟨fbody, pats, z, [zs], docF lsT fbody [zs], rfl, body_ok, pats_ok, D, fun y _ => few_two y, ?_⟩))))))))))
      exact i_nil ⟨_, _, _, rfl, py, py, sh, i_isB (ifF (c := !true) rfl (s_next (hn _ ⟨.sh (.str z), rfl⟩)))⟩
    · intro τ hi
      obtain ⟨a4, rfl⟩ := hi
      dsimp only
      refine st_set (i_d1 (i_smp ?_))
      refine st_frzSet (c := .d (docF lsT fbody [smp])) rfl (i_lc (i_walk (i_lv4 ?_)))
      refine i_items (xs := lv4.map T.str) ?_
      refine lcR_mf T.str (fun z => viewT pats z [smp]) lv4 (fun z hz Q hQ => ?_) (SL (n := 4)) ?_
      · exact x_name (i_call (i_cons (i_body (i_cons (i_pats (i_cons (i_var (.str z) rfl (i_cons (i_var (.dct (docF lsT fbody [smp])) rfl (i_nil ⟨fbody, pats, z, [smp], docF lsT fbody [smp], rfl, body_ok, pats_ok, lv4_ok z hz, one_doc smp_ok, hQ⟩))))))))))
      rw [due_eq]
      refine s_frz (c := .l dueL) rfl ?_
      refine s_ret (i_call (i_cons (i_var (.lst dueL) rfl (i_cons (i_due (i_nil ⟨.lst dueL, .lst dueL, dueP, rfl, due_py, due_py, due_sh, rfl⟩))))))
  · rintro t ht τ ⟨a2, rfl⟩ nx hnx
    refine x_name (s_if (i_not (i_B (i_call (i_cons (i_var (.raw (.ref d)) rfl (i_nil ⟨d, rfl, hM, ?_⟩)))))))
    exact i_isB (ifF (c := !true) rfl (s_next (hnx _ ⟨.sh t, rfl⟩)))
end
end K44
namespace K44
open PySem PySem.Spec PyProof.Rows L2 TL K00
variable [TheW]
def top (i : Nat) : Stmt := PySem.Challenge.pw_everyfind_k44_whole_views_of_documents.main.body.getD i (.Pass ⟨0, 0, 0, 0⟩)
theorem len_is_letters {ts : List T} {q : Sl → Prop} {r : Xn → Prop} {M : Mode} (h : sp_is_letters M ts q r) : ts.length = 3 := by
  obtain ⟨_, _, _, rfl, _⟩ := h
  rfl
theorem len_is_word {ts : List T} {q : Sl → Prop} {r : Xn → Prop} {M : Mode} (h : sp_is_word M ts q r) : ts.length = 1 := by
  obtain ⟨_, rfl, _⟩ := h
  rfl
theorem len_is_token {ts : List T} {q : Sl → Prop} {r : Xn → Prop} {M : Mode} (h : sp_is_token M ts q r) : ts.length = 1 := by
  obtain ⟨_, rfl, _⟩ := h
  rfl
theorem len_is_text {ts : List T} {q : Sl → Prop} {r : Xn → Prop} {M : Mode} (h : sp_is_text M ts q r) : ts.length = 1 := by
  obtain ⟨_, rfl, _⟩ := h
  rfl
theorem len_are_fields {ts : List T} {q : Sl → Prop} {r : Xn → Prop} {M : Mode} (h : sp_are_fields M ts q r) : ts.length = 1 := by
  obtain ⟨_, rfl, _⟩ := h
  rfl
theorem len_need_fields {ts : List T} {q : Sl → Prop} {r : Xn → Prop} {M : Mode} (h : sp_need_fields M ts q r) : ts.length = 1 := by
  obtain ⟨_, rfl, _⟩ := h
  rfl
theorem len_is_document {ts : List T} {q : Sl → Prop} {r : Xn → Prop} {M : Mode} (h : sp_is_document M ts q r) : ts.length = 2 := by
  obtain ⟨_, _, _, rfl, _⟩ := h
  rfl
theorem len_need_document {ts : List T} {q : Sl → Prop} {r : Xn → Prop} {M : Mode} (h : sp_need_document M ts q r) : ts.length = 2 := by
  obtain ⟨_, _, _, rfl, _⟩ := h
  rfl
theorem len_words_of {ts : List T} {q : Sl → Prop} {r : Xn → Prop} {M : Mode} (h : sp_words_of M ts q r) : ts.length = 1 := by
  obtain ⟨_, _, rfl, _⟩ := h
  rfl
theorem len_sentences_of {ts : List T} {q : Sl → Prop} {r : Xn → Prop} {M : Mode} (h : sp_sentences_of M ts q r) : ts.length = 1 := by
  obtain ⟨_, _, rfl, _⟩ := h
  rfl
theorem len_is_pattern {ts : List T} {q : Sl → Prop} {r : Xn → Prop} {M : Mode} (h : sp_is_pattern M ts q r) : ts.length = 1 := by
  obtain ⟨_, rfl, _⟩ := h
  rfl
theorem len_suits {ts : List T} {q : Sl → Prop} {r : Xn → Prop} {M : Mode} (h : sp_suits M ts q r) : ts.length = 2 := by
  obtain ⟨_, _, rfl, _⟩ := h
  rfl
theorem len_are_patterns {ts : List T} {q : Sl → Prop} {r : Xn → Prop} {M : Mode} (h : sp_are_patterns M ts q r) : ts.length = 1 := by
  obtain ⟨_, rfl, _⟩ := h
  rfl
theorem len_need_patterns {ts : List T} {q : Sl → Prop} {r : Xn → Prop} {M : Mode} (h : sp_need_patterns M ts q r) : ts.length = 1 := by
  obtain ⟨_, rfl, _⟩ := h
  rfl
theorem len_truths_of {ts : List T} {q : Sl → Prop} {r : Xn → Prop} {M : Mode} (h : sp_truths_of M ts q r) : ts.length = 2 := by
  obtain ⟨_, _, rfl, _⟩ := h
  rfl
theorem len_need_level {ts : List T} {q : Sl → Prop} {r : Xn → Prop} {M : Mode} (h : sp_need_level M ts q r) : ts.length = 1 := by
  obtain ⟨_, rfl, _⟩ := h
  rfl
theorem len_any_of {ts : List T} {q : Sl → Prop} {r : Xn → Prop} {M : Mode} (h : sp_any_of M ts q r) : ts.length = 2 := by
  obtain ⟨_, _, _, rfl, _⟩ := h
  rfl
theorem len_places_in {ts : List T} {q : Sl → Prop} {r : Xn → Prop} {M : Mode} (h : sp_places_in M ts q r) : ts.length = 2 := by
  obtain ⟨_, _, rfl, _⟩ := h
  rfl
theorem len_view_of {ts : List T} {q : Sl → Prop} {r : Xn → Prop} {M : Mode} (h : sp_view_of M ts q r) : ts.length = 3 := by
  obtain ⟨_, _, _, _, rfl, _⟩ := h
  rfl
theorem len_view {ts : List T} {q : Sl → Prop} {r : Xn → Prop} {M : Mode} (h : sp_view M ts q r) : ts.length = 4 := by
  obtain ⟨_, _, _, _, _, rfl, _⟩ := h
  rfl
theorem len__law_mixed {ts : List T} {q : Sl → Prop} {r : Xn → Prop} {M : Mode} (h : sp__law_mixed M ts q r) : ts.length = 1 := by
  obtain ⟨_, rfl, _⟩ := h
  rfl
theorem len__law_take {ts : List T} {q : Sl → Prop} {r : Xn → Prop} {M : Mode} (h : sp__law_take M ts q r) : ts.length = 2 := by
  obtain ⟨_, _, rfl, _⟩ := h
  rfl
theorem len__law_pick {ts : List T} {q : Sl → Prop} {r : Xn → Prop} {M : Mode} (h : sp__law_pick M ts q r) : ts.length = 2 := by
  obtain ⟨_, _, _, rfl, _⟩ := h
  rfl
theorem len__law_pattern {ts : List T} {q : Sl → Prop} {r : Xn → Prop} {M : Mode} (h : sp__law_pattern M ts q r) : ts.length = 2 := by
  obtain ⟨_, _, rfl, _⟩ := h
  rfl
theorem len__law_vocabulary {ts : List T} {q : Sl → Prop} {r : Xn → Prop} {M : Mode} (h : sp__law_vocabulary M ts q r) : ts.length = 1 := by
  obtain ⟨_, rfl, _⟩ := h
  rfl
theorem len__law_fields {ts : List T} {q : Sl → Prop} {r : Xn → Prop} {M : Mode} (h : sp__law_fields M ts q r) : ts.length = 1 := by
  obtain ⟨_, rfl, _⟩ := h
  rfl
theorem len__law_fits {ts : List T} {q : Sl → Prop} {r : Xn → Prop} {M : Mode} (h : sp__law_fits M ts q r) : ts.length = 2 := by
  obtain ⟨_, _, rfl, _⟩ := h
  rfl
theorem len__law_sentences {ts : List T} {q : Sl → Prop} {r : Xn → Prop} {M : Mode} (h : sp__law_sentences M ts q r) : ts.length = 1 := by
  obtain ⟨_, _, rfl, _⟩ := h
  rfl
theorem len__law_document {ts : List T} {q : Sl → Prop} {r : Xn → Prop} {M : Mode} (h : sp__law_document M ts q r) : ts.length = 4 := by
  obtain ⟨_, _, _, _, rfl, _⟩ := h
  rfl
theorem len__law_says {ts : List T} {q : Sl → Prop} {r : Xn → Prop} {M : Mode} (h : sp__law_says M ts q r) : ts.length = 2 := by
  obtain ⟨_, _, _, rfl, _⟩ := h
  rfl
theorem len__law_chain {ts : List T} {q : Sl → Prop} {r : Xn → Prop} {M : Mode} (h : sp__law_chain M ts q r) : ts.length = 2 := by
  obtain ⟨_, _, rfl, _⟩ := h
  rfl
theorem len__law_joined_truths {ts : List T} {q : Sl → Prop} {r : Xn → Prop} {M : Mode} (h : sp__law_joined_truths M ts q r) : ts.length = 2 := by
  obtain ⟨_, _, _, rfl, _⟩ := h
  rfl
theorem len__law_view_of {ts : List T} {q : Sl → Prop} {r : Xn → Prop} {M : Mode} (h : sp__law_view_of M ts q r) : ts.length = 3 := by
  obtain ⟨_, _, _, _, rfl, _⟩ := h
  rfl
theorem len__law_view {ts : List T} {q : Sl → Prop} {r : Xn → Prop} {M : Mode} (h : sp__law_view M ts q r) : ts.length = 4 := by
  obtain ⟨_, _, _, _, _, rfl, _⟩ := h
  rfl
theorem len__law_levels {ts : List T} {q : Sl → Prop} {r : Xn → Prop} {M : Mode} (h : sp__law_levels M ts q r) : ts.length = 0 := by
  obtain ⟨rfl, _⟩ := h
  rfl
theorem len__law_patterns_drawn {ts : List T} {q : Sl → Prop} {r : Xn → Prop} {M : Mode} (h : sp__law_patterns_drawn M ts q r) : ts.length = 1 := by
  obtain ⟨_, rfl, _⟩ := h
  rfl
theorem len__law_near_document {ts : List T} {q : Sl → Prop} {r : Xn → Prop} {M : Mode} (h : sp__law_near_document M ts q r) : ts.length = 4 := by
  obtain ⟨_, _, _, _, rfl, _⟩ := h
  rfl
theorem len__law_right {ts : List T} {q : Sl → Prop} {r : Xn → Prop} {M : Mode} (h : sp__law_right M ts q r) : ts.length = 1 := by
  obtain ⟨_, rfl, _⟩ := h
  rfl
structure Gm (K : PySem.W.Frag) (mg : Str → Option Value) : Prop where
  v_MOST_LETTERS : ∃ t, mg "MOST_LETTERS" = some (.int 8 t)
  v_MOST_TOKENS : ∃ t, mg "MOST_TOKENS" = some (.int 400 t)
  v_MOST_FIELDS : ∃ t, mg "MOST_FIELDS" = some (.int 3 t)
  v_LETTERS : ∃ t, mg "LETTERS" = some (.str "abcdefghijklmnopqrstuvwxyz" t)
  v_BREAK : ∃ t, mg "BREAK" = some (.str "." t)
  v_MOST_TOGETHER : ∃ t, mg "MOST_TOGETHER" = some (.int 12 t)
  v_STAR : ∃ t, mg "STAR" = some (.str "*" t)
  t_LEVELS : mg "LEVELS" = some (.ref (He.ga K "LEVELS")) ∧ TupK K (He.ga K "LEVELS") ["document", "field", "counts", "sentence", "places", "all"]
  f_abs : mg "abs" = none
  f_all : mg "all" = none
  f_any : mg "any" = none
  f_dict : mg "dict" = none
  f_enumerate : mg "enumerate" = none
  f_int : mg "int" = none
  f_isinstance : mg "isinstance" = none
  f_len : mg "len" = none
  f_list : mg "list" = none
  f_min : mg "min" = none
  f_range : mg "range" = none
  f_repr : mg "repr" = none
  f_set : mg "set" = none
  f_sorted : mg "sorted" = none
  f_str : mg "str" = none
  f_tuple : mg "tuple" = none
  f_zip : mg "zip" = none
  c_BadDocument : ExcF K mg "BadDocument"
  c_BadFields : ExcF K mg "BadFields"
  c_BadLevel : ExcF K mg "BadLevel"
  c_BadPatterns : ExcF K mg "BadPatterns"
section
variable {K : PySem.W.Frag} {mg : Str → Option Value} {base : Heap}
theorem sc_is_letters : FnScope ["thing", "least", "most", "sign"] ["thing", "least", "most"] (defScope (top 12)) := ⟨rfl, rfl, rfl, by decide +kernel, rfl, by decide +kernel, by decide +kernel⟩
theorem fo_is_letters (Y : Gm K mg) (F : FnAt K mg "is_letters" (top 12)) : ∃ f fd, FnP K "is_letters" (top 12) f fd ∧ FnOk TheW.P TheW.w K mg base (L2.CX TheW.P TheW.w) 1 f fd ["thing", "least", "most"] (lift K sp_is_letters) ∧ mg "is_letters" = some (.ref f) := by
  obtain ⟨f, fd, F, hm⟩ := F
  exact ⟨f, fd, F, mk_fn F sc_is_letters (fun M ts q r h => len_is_letters h) fun cdv A outer s H E M hr => ⟨_, _, (gss_one (gs_retR (gr_e (ge_and (ge_callB call_isi simc_isi Y.f_isinstance (ga_cons (ge_v 0) (ga_cons (ge_ty Y.f_str) ga_nil))) (ge_and (ge_chain op_leU simr_le op_leU simr_le (ge_v 1) (ge_callB call_len simc_len Y.f_len (ga_cons (ge_v 0) ga_nil)) (ge_v 2)) (ge_one (ge_callB (cr_all rfl) simc_all Y.f_all (ga_cons (ge_lc [("sign", 3)] rfl sc_is_letters.nd (gi_seq (ge_v 0)) (blkOk_by (N := ["thing", "least", "most", "sign"]) (sc := defScope (top 12)) (by decide +kernel)) (fun _ _ _ _ _ => (gg_name 3 sc_is_letters.nd)) (fun _ _ _ _ _ => gts_nil) (fun _ _ _ _ _ => (ge_cmp op_in_sign simr_inS (ge_v 3) (ge_gstr Y.v_LETTERS))) (s0 := s)) ga_nil)))))))), fun ts q r h => sem_is_letters h⟩, hm⟩
theorem fn_is_letters (Y : Gm K mg) (F : FnAt K mg "is_letters" (top 12)) : Fn TheW.P TheW.w K mg base 1 "is_letters" ["thing", "least", "most"] sp_is_letters := by
  obtain ⟨f, fd, F, h, hm⟩ := fo_is_letters (base := base) Y F
  exact ⟨f, fd, h, hm, F.kp, F.bindsN fun _ _ _ _ _ _ us hl => match us, hl with | [_, _, _], _ => rfl⟩
theorem sc_is_word : FnScope ["thing"] ["thing"] (defScope (top 13)) := ⟨rfl, rfl, rfl, by decide +kernel, rfl, by decide +kernel, by decide +kernel⟩
theorem fo_is_word (Y : Gm K mg) (F : FnAt K mg "is_word" (top 13)) (D_is_letters : Fn TheW.P TheW.w K mg base 1 "is_letters" ["thing", "least", "most"] sp_is_letters) : ∃ f fd, FnP K "is_word" (top 13) f fd ∧ FnOk TheW.P TheW.w K mg base (L2.CX TheW.P TheW.w) 2 f fd ["thing"] (lift K sp_is_word) ∧ mg "is_word" = some (.ref f) := by
  obtain ⟨f, fd, F, hm⟩ := F
  exact ⟨f, fd, F, mk_fn F sc_is_word (fun M ts q r h => len_is_word h) fun cdv A outer s H E M hr => ⟨_, _, (gss_one (gs_retR (gr_e (ge_c D_is_letters hr (passE (takes_of rfl rfl rfl rfl)) (ga_cons (ge_v 0) (ga_cons ge_int (ga_cons (ge_gint Y.v_MOST_LETTERS) ga_nil))))))), fun ts q r h => sem_is_word h⟩, hm⟩
theorem fn_is_word (Y : Gm K mg) (F : FnAt K mg "is_word" (top 13)) (D_is_letters : Fn TheW.P TheW.w K mg base 1 "is_letters" ["thing", "least", "most"] sp_is_letters) : Fn TheW.P TheW.w K mg base 2 "is_word" ["thing"] sp_is_word := by
  obtain ⟨f, fd, F, h, hm⟩ := fo_is_word (base := base) Y F D_is_letters
  exact ⟨f, fd, h, hm, F.kp, F.bindsN fun _ _ _ _ _ _ us hl => match us, hl with | [_], _ => rfl⟩
theorem sc_is_token : FnScope ["thing"] ["thing"] (defScope (top 14)) := ⟨rfl, rfl, rfl, by decide +kernel, rfl, by decide +kernel, by decide +kernel⟩
theorem fo_is_token (Y : Gm K mg) (F : FnAt K mg "is_token" (top 14)) (D_is_word : Fn TheW.P TheW.w K mg base 2 "is_word" ["thing"] sp_is_word) : ∃ f fd, FnP K "is_token" (top 14) f fd ∧ FnOk TheW.P TheW.w K mg base (L2.CX TheW.P TheW.w) 3 f fd ["thing"] (lift K sp_is_token) ∧ mg "is_token" = some (.ref f) := by
  obtain ⟨f, fd, F, hm⟩ := F
  exact ⟨f, fd, F, mk_fn F sc_is_token (fun M ts q r h => len_is_token h) fun cdv A outer s H E M hr => ⟨_, _, (gss_one (gs_retR (gr_e (ge_or (ge_c D_is_word hr (passE (takes_of rfl rfl rfl rfl)) (ga_cons (ge_v 0) ga_nil)) (ge_one (ge_and (ge_callB call_isi simc_isi Y.f_isinstance (ga_cons (ge_v 0) (ga_cons (ge_ty Y.f_str) ga_nil))) (ge_one (ge_cmp (op_eqU hr.units) simr_eq (ge_v 0) (ge_gstr Y.v_BREAK))))))))), fun ts q r h => sem_is_token h⟩, hm⟩
theorem fn_is_token (Y : Gm K mg) (F : FnAt K mg "is_token" (top 14)) (D_is_word : Fn TheW.P TheW.w K mg base 2 "is_word" ["thing"] sp_is_word) : Fn TheW.P TheW.w K mg base 3 "is_token" ["thing"] sp_is_token := by
  obtain ⟨f, fd, F, h, hm⟩ := fo_is_token (base := base) Y F D_is_word
  exact ⟨f, fd, h, hm, F.kp, F.bindsN fun _ _ _ _ _ _ us hl => match us, hl with | [_], _ => rfl⟩
theorem sc_is_text : FnScope ["thing", "token"] ["thing"] (defScope (top 15)) := ⟨rfl, rfl, rfl, by decide +kernel, rfl, by decide +kernel, by decide +kernel⟩
theorem fo_is_text (Y : Gm K mg) (F : FnAt K mg "is_text" (top 15)) (D_is_token : Fn TheW.P TheW.w K mg base 3 "is_token" ["thing"] sp_is_token) : ∃ f fd, FnP K "is_text" (top 15) f fd ∧ FnOk TheW.P TheW.w K mg base (L2.CX TheW.P TheW.w) 4 f fd ["thing"] (lift K sp_is_text) ∧ mg "is_text" = some (.ref f) := by
  obtain ⟨f, fd, F, hm⟩ := F
  exact ⟨f, fd, F, mk_fn F sc_is_text (fun M ts q r h => len_is_text h) fun cdv A outer s H E M hr => ⟨_, _, (gss_one (gs_retR (gr_e (ge_and (ge_isiT (ns := ["list", "tuple"]) Y.f_isinstance (ge_v 0) (pa_cons (ty1 Y.f_list) (pa_cons (ty1 Y.f_tuple) pa_nil))) (ge_and (ge_cmp op_leU simr_le (ge_callB call_len simc_len Y.f_len (ga_cons (ge_v 0) ga_nil)) (ge_gint Y.v_MOST_TOKENS)) (ge_one (ge_callB (cr_all rfl) simc_all Y.f_all (ga_cons (ge_lc [("token", 1)] rfl sc_is_text.nd (gi_seq (ge_v 0)) (blkOk_by (N := ["thing", "token"]) (sc := defScope (top 15)) (by decide +kernel)) (fun _ _ _ _ _ => (gg_name 1 sc_is_text.nd)) (fun _ _ _ _ _ => gts_nil) (fun _ _ _ _ _ => (ge_c D_is_token hr passL (ga_cons (ge_v 1) ga_nil))) (s0 := s)) ga_nil)))))))), fun ts q r h => sem_is_text h⟩, hm⟩
theorem fn_is_text (Y : Gm K mg) (F : FnAt K mg "is_text" (top 15)) (D_is_token : Fn TheW.P TheW.w K mg base 3 "is_token" ["thing"] sp_is_token) : Fn TheW.P TheW.w K mg base 4 "is_text" ["thing"] sp_is_text := by
  obtain ⟨f, fd, F, h, hm⟩ := fo_is_text (base := base) Y F D_is_token
  exact ⟨f, fd, h, hm, F.kp, F.bindsN fun _ _ _ _ _ _ us hl => match us, hl with | [_], _ => rfl⟩
theorem sc_are_fields : FnScope ["thing", "name", "one", "other"] ["thing"] (defScope (top 16)) := ⟨rfl, rfl, rfl, by decide +kernel, rfl, by decide +kernel, by decide +kernel⟩
theorem fo_are_fields (Y : Gm K mg) (F : FnAt K mg "are_fields" (top 16)) (D_is_word : Fn TheW.P TheW.w K mg base 2 "is_word" ["thing"] sp_is_word) : ∃ f fd, FnP K "are_fields" (top 16) f fd ∧ FnOk TheW.P TheW.w K mg base (L2.CX TheW.P TheW.w) 3 f fd ["thing"] (lift K sp_are_fields) ∧ mg "are_fields" = some (.ref f) := by
  obtain ⟨f, fd, F, hm⟩ := F
  exact ⟨f, fd, F, mk_fn F sc_are_fields (fun M ts q r h => len_are_fields h) fun cdv A outer s H E M hr => ⟨_, _, (gss_cons (gs_if (gw_or (gt_not (gt_val (ge_callB call_isi simc_isi Y.f_isinstance (ga_cons (ge_v 0) (ga_cons (ge_ty Y.f_tuple) ga_nil))))) (gw_or (gt_not (gt_chain op_leU simr_le op_leU simr_le ge_int (ge_callB call_len simc_len Y.f_len (ga_cons (ge_v 0) ga_nil)) (ge_gint Y.v_MOST_FIELDS))) (gw_or1 (gt_not (gt_val (ge_callB (cr_all rfl) simc_all Y.f_all (ga_cons (ge_lc [("name", 1)] rfl sc_are_fields.nd (gi_seq (ge_v 0)) (blkOk_by (N := ["thing", "name", "one", "other"]) (sc := defScope (top 16)) (by decide +kernel)) (fun _ _ _ _ _ => (gg_name 1 sc_are_fields.nd)) (fun _ _ _ _ _ => gts_nil) (fun _ _ _ _ _ => (ge_c D_is_word hr passL (ga_cons (ge_v 1) ga_nil))) (s0 := s)) ga_nil))))))).t (gss_one (gs_retR (gr_e ge_bl))) gss_nil)
    (gss_one (gs_retR (gr_e (ge_callB (cr_all rfl) simc_all Y.f_all (ga_cons (ge_lc [("one", 2), ("other", 3)] rfl sc_are_fields.nd (gi_zip Y.f_zip (ga_cons (ge_v 0) (ga_cons (ge_slice sl_U simsl_cut (ge_v 0) (go_some ge_int) go_none) ga_nil))) (blkOk_by (N := ["thing", "name", "one", "other"]) (sc := defScope (top 16)) (by decide +kernel)) (fun _ _ _ _ _ => (gg_tup rfl (ggs_cons (gg_name 2 sc_are_fields.nd) (ggs_cons (gg_name 3 sc_are_fields.nd) ggs_nil)))) (fun _ _ _ _ _ => gts_nil) (fun _ _ _ _ _ => (ge_cmp op_ltU simr_lt (ge_v 2) (ge_v 3))) (s0 := s)) ga_nil)))))), fun ts q r h => sem_are_fields h⟩, hm⟩
theorem fn_are_fields (Y : Gm K mg) (F : FnAt K mg "are_fields" (top 16)) (D_is_word : Fn TheW.P TheW.w K mg base 2 "is_word" ["thing"] sp_is_word) : Fn TheW.P TheW.w K mg base 3 "are_fields" ["thing"] sp_are_fields := by
  obtain ⟨f, fd, F, h, hm⟩ := fo_are_fields (base := base) Y F D_is_word
  exact ⟨f, fd, h, hm, F.kp, F.bindsN fun _ _ _ _ _ _ us hl => match us, hl with | [_], _ => rfl⟩
theorem sc_need_fields : FnScope ["fields"] ["fields"] (defScope (top 17)) := ⟨rfl, rfl, rfl, by decide +kernel, rfl, by decide +kernel, by decide +kernel⟩
theorem fo_need_fields (Y : Gm K mg) (F : FnAt K mg "need_fields" (top 17)) (D_are_fields : Fn TheW.P TheW.w K mg base 3 "are_fields" ["thing"] sp_are_fields) : ∃ f fd, FnP K "need_fields" (top 17) f fd ∧ FnOk TheW.P TheW.w K mg base (L2.CX TheW.P TheW.w) 4 f fd ["fields"] (lift K sp_need_fields) ∧ mg "need_fields" = some (.ref f) := by
  obtain ⟨f, fd, F, hm⟩ := F
  exact ⟨f, fd, F, mk_fn F sc_need_fields (fun M ts q r h => len_need_fields h) fun cdv A outer s H E M hr => ⟨_, _, (gss_one (gs_if (gt_not (gt_val (ge_c D_are_fields hr (passE (takes_of rfl rfl rfl rfl)) (ga_cons (ge_v 0) ga_nil)))) (gss_one (gs_raise rfl (takes_of rfl rfl rfl rfl) Y.c_BadFields.2.1 Y.c_BadFields.1 Y.c_BadFields.2.2.1 Y.c_BadFields.2.2.2.1 Y.c_BadFields.2.2.2.2)) gss_nil)), fun ts q r h => sem_need_fields h⟩, hm⟩
theorem fn_need_fields (Y : Gm K mg) (F : FnAt K mg "need_fields" (top 17)) (D_are_fields : Fn TheW.P TheW.w K mg base 3 "are_fields" ["thing"] sp_are_fields) : Fn TheW.P TheW.w K mg base 4 "need_fields" ["fields"] sp_need_fields := by
  obtain ⟨f, fd, F, h, hm⟩ := fo_need_fields (base := base) Y F D_are_fields
  exact ⟨f, fd, h, hm, F.kp, F.bindsN fun _ _ _ _ _ _ us hl => match us, hl with | [_], _ => rfl⟩
theorem sc_is_document : FnScope ["fields", "thing", "name"] ["fields", "thing"] (defScope (top 18)) := ⟨rfl, rfl, rfl, by decide +kernel, rfl, by decide +kernel, by decide +kernel⟩
theorem fo_is_document (Y : Gm K mg) (F : FnAt K mg "is_document" (top 18)) (D_need_fields : Fn TheW.P TheW.w K mg base 4 "need_fields" ["fields"] sp_need_fields) (D_is_text : Fn TheW.P TheW.w K mg base 4 "is_text" ["thing"] sp_is_text) : ∃ f fd, FnP K "is_document" (top 18) f fd ∧ FnOk TheW.P TheW.w K mg base (L2.CX TheW.P TheW.w) 5 f fd ["fields", "thing"] (lift K sp_is_document) ∧ mg "is_document" = some (.ref f) := by
  obtain ⟨f, fd, F, hm⟩ := F
  exact ⟨f, fd, F, mk_fn F sc_is_document (fun M ts q r h => len_is_document h) fun cdv A outer s H E M hr => ⟨_, _, (gss_cons (gs_expr (ge_c D_need_fields hr (passE (takes_of rfl rfl rfl rfl)) (ga_cons (ge_v 0) ga_nil)))
    (gss_cons (gs_if (gw_or (gt_not (gt_val (ge_callB call_isi simc_isi Y.f_isinstance (ga_cons (ge_v 1) (ga_cons (ge_ty Y.f_dict) ga_nil))))) (gw_or1 (gt_cmp (op_neU hr.units) simr_ne (ge_callB call_lenX simc_lenX Y.f_len (ga_cons (ge_v 1) ga_nil)) (ge_callB call_len simc_len Y.f_len (ga_cons (ge_v 0) ga_nil))))).t (gss_one (gs_retR (gr_e ge_bl))) gss_nil)
    (gss_one (gs_retR (gr_e (ge_callB (cr_all rfl) simc_all Y.f_all (ga_cons (ge_lc [("name", 2)] rfl sc_is_document.nd (gi_seq (ge_v 0)) (blkOk_by (N := ["fields", "thing", "name"]) (sc := defScope (top 18)) (by decide +kernel)) (fun _ _ _ _ _ => (gg_name 2 sc_is_document.nd)) (fun _ _ _ _ _ => gts_nil) (fun _ _ _ _ _ => (ge_and (ge_din hr.units (ge_v 2) (ge_v 1)) (ge_one (ge_c D_is_text hr passL (ga_cons (ge_dget hr.units (ge_v 1) (ge_v 2)) ga_nil))))) (s0 := s)) ga_nil))))))), fun ts q r h => sem_is_document h⟩, hm⟩
theorem fn_is_document (Y : Gm K mg) (F : FnAt K mg "is_document" (top 18)) (D_need_fields : Fn TheW.P TheW.w K mg base 4 "need_fields" ["fields"] sp_need_fields) (D_is_text : Fn TheW.P TheW.w K mg base 4 "is_text" ["thing"] sp_is_text) : Fn TheW.P TheW.w K mg base 5 "is_document" ["fields", "thing"] sp_is_document := by
  obtain ⟨f, fd, F, h, hm⟩ := fo_is_document (base := base) Y F D_need_fields D_is_text
  exact ⟨f, fd, h, hm, F.kp, F.bindsN fun _ _ _ _ _ _ us hl => match us, hl with | [_, _], _ => rfl⟩
theorem sc_need_document : FnScope ["fields", "document"] ["fields", "document"] (defScope (top 19)) := ⟨rfl, rfl, rfl, by decide +kernel, rfl, by decide +kernel, by decide +kernel⟩
theorem fo_need_document (Y : Gm K mg) (F : FnAt K mg "need_document" (top 19)) (D_is_document : Fn TheW.P TheW.w K mg base 5 "is_document" ["fields", "thing"] sp_is_document) : ∃ f fd, FnP K "need_document" (top 19) f fd ∧ FnOk TheW.P TheW.w K mg base (L2.CX TheW.P TheW.w) 6 f fd ["fields", "document"] (lift K sp_need_document) ∧ mg "need_document" = some (.ref f) := by
  obtain ⟨f, fd, F, hm⟩ := F
  exact ⟨f, fd, F, mk_fn F sc_need_document (fun M ts q r h => len_need_document h) fun cdv A outer s H E M hr => ⟨_, _, (gss_one (gs_if (gt_not (gt_val (ge_c D_is_document hr (passE (takes_of rfl rfl rfl rfl)) (ga_cons (ge_v 0) (ga_cons (ge_v 1) ga_nil))))) (gss_one (gs_raise rfl (takes_of rfl rfl rfl rfl) Y.c_BadDocument.2.1 Y.c_BadDocument.1 Y.c_BadDocument.2.2.1 Y.c_BadDocument.2.2.2.1 Y.c_BadDocument.2.2.2.2)) gss_nil)), fun ts q r h => sem_need_document h⟩, hm⟩
theorem fn_need_document (Y : Gm K mg) (F : FnAt K mg "need_document" (top 19)) (D_is_document : Fn TheW.P TheW.w K mg base 5 "is_document" ["fields", "thing"] sp_is_document) : Fn TheW.P TheW.w K mg base 6 "need_document" ["fields", "document"] sp_need_document := by
  obtain ⟨f, fd, F, h, hm⟩ := fo_need_document (base := base) Y F D_is_document
  exact ⟨f, fd, h, hm, F.kp, F.bindsN fun _ _ _ _ _ _ us hl => match us, hl with | [_, _], _ => rfl⟩
theorem sc_words_of : FnScope ["text", "token"] ["text"] (defScope (top 20)) := ⟨rfl, rfl, rfl, by decide +kernel, rfl, by decide +kernel, by decide +kernel⟩
theorem fo_words_of (Y : Gm K mg) (F : FnAt K mg "words_of" (top 20)) : ∃ f fd, FnP K "words_of" (top 20) f fd ∧ FnOk TheW.P TheW.w K mg base (L2.CX TheW.P TheW.w) 1 f fd ["text"] (lift K sp_words_of) ∧ mg "words_of" = some (.ref f) := by
  obtain ⟨f, fd, F, hm⟩ := F
  exact ⟨f, fd, F, mk_fn F sc_words_of (fun M ts q r h => len_words_of h) fun cdv A outer s H E M hr => ⟨_, _, (gss_one (gs_retR (gr_e (ge_lc [("token", 1)] rfl sc_words_of.nd (gi_seq (ge_v 0)) (blkOk_by (N := ["text", "token"]) (sc := defScope (top 20)) (by decide +kernel)) (fun _ _ _ _ _ => (gg_name 1 sc_words_of.nd)) (fun _ _ _ _ _ => (gts_one (gt_cmp (op_neU hr.units) simr_ne (ge_v 1) (ge_gstr Y.v_BREAK)))) (fun _ _ _ _ _ => (ge_v 1)) (s0 := s))))), fun ts q r h => sem_words_of h⟩, hm⟩
theorem fn_words_of (Y : Gm K mg) (F : FnAt K mg "words_of" (top 20)) : Fn TheW.P TheW.w K mg base 1 "words_of" ["text"] sp_words_of := by
  obtain ⟨f, fd, F, h, hm⟩ := fo_words_of (base := base) Y F
  exact ⟨f, fd, h, hm, F.kp, F.bindsN fun _ _ _ _ _ _ us hl => match us, hl with | [_], _ => rfl⟩
theorem sc_sentences_of : FnScope ["text", "found", "token", "words"] ["text"] (defScope (top 21)) := ⟨rfl, rfl, rfl, by decide +kernel, rfl, by decide +kernel, by decide +kernel⟩
theorem fo_sentences_of (Y : Gm K mg) (F : FnAt K mg "sentences_of" (top 21)) : ∃ f fd, FnP K "sentences_of" (top 21) f fd ∧ FnOk TheW.P TheW.w K mg base (L2.CX TheW.P TheW.w) 1 f fd ["text"] (lift K sp_sentences_of) ∧ mg "sentences_of" = some (.ref f) := by
  obtain ⟨f, fd, F, hm⟩ := F
  exact ⟨f, fd, F, mk_fn F sc_sentences_of (fun M ts q r h => len_sentences_of h) fun cdv A outer s H E M hr => ⟨_, _, (gss_sent (i := 1) (v := 2) (e1 := Expr.Name "x" ⟨0, 0, 0, 0⟩) isBrk (gs_set (M := M) (E := E) 1 sc_sentences_of.nd (ge_lst (ga_cons (ge_lst ga_nil) ga_nil))).p (gi_seq (ge_v 0)) (gt_cmp (op_eqU hr.units) simr_eq (ge_v 2) (ge_gstr Y.v_BREAK)) (ge_neg ge_int) (fun hi hc hn => ps_for (passes_of rfl) rfl hi (gg_name (M := M) 2 sc_sentences_of.nd).p (pss_one (ps_if hc (pss_one (gs_app (M := M) (E := E) 1 (ge_lst ga_nil)).p) (pss_one (ps_expr (pe_bm PySem.F.plainAttrs_list PySem.F.slot_list_append PySem.F.type_list_append mt_append (pe_ix ix_seq (ge_v (M := M) (E := E) 1).p hn (fun _ _ => rfl)) (pa_cons (ge_v (M := M) (E := E) 2).p pa_nil))))))) (gss_one (gs_frz 1 (gs_retR (gr_e (ge_lc [("words", 3)] rfl sc_sentences_of.nd (gi_seq (ge_v 1)) (blkOk_by (N := ["text", "found", "token", "words"]) (sc := defScope (top 21)) (by decide +kernel)) (fun _ _ _ _ _ => (gg_name 3 sc_sentences_of.nd)) (fun _ _ _ _ _ => (gts_one (gt_cmp (op_neU hr.units) simr_ne (ge_v 3) (ge_lst ga_nil)))) (fun _ _ _ _ _ => (ge_v 3)) (s0 := s))))))), fun ts q r h => sem_sentences_of h⟩, hm⟩
theorem fn_sentences_of (Y : Gm K mg) (F : FnAt K mg "sentences_of" (top 21)) : Fn TheW.P TheW.w K mg base 1 "sentences_of" ["text"] sp_sentences_of := by
  obtain ⟨f, fd, F, h, hm⟩ := fo_sentences_of (base := base) Y F
  exact ⟨f, fd, h, hm, F.kp, F.bindsN fun _ _ _ _ _ _ us hl => match us, hl with | [_], _ => rfl⟩
theorem sc_is_pattern : FnScope ["thing"] ["thing"] (defScope (top 25)) := ⟨rfl, rfl, rfl, by decide +kernel, rfl, by decide +kernel, by decide +kernel⟩
theorem fo_is_pattern (Y : Gm K mg) (F : FnAt K mg "is_pattern" (top 25)) (D_is_word : Fn TheW.P TheW.w K mg base 2 "is_word" ["thing"] sp_is_word) (D_is_letters : Fn TheW.P TheW.w K mg base 1 "is_letters" ["thing", "least", "most"] sp_is_letters) : ∃ f fd, FnP K "is_pattern" (top 25) f fd ∧ FnOk TheW.P TheW.w K mg base (L2.CX TheW.P TheW.w) 3 f fd ["thing"] (lift K sp_is_pattern) ∧ mg "is_pattern" = some (.ref f) := by
  obtain ⟨f, fd, F, hm⟩ := F
  exact ⟨f, fd, F, mk_fn F sc_is_pattern (fun M ts q r h => len_is_pattern h) fun cdv A outer s H E M hr => ⟨_, _, (gss_cons (gs_if (gt_val (ge_c D_is_word hr (passE (takes_of rfl rfl rfl rfl)) (ga_cons (ge_v 0) ga_nil))) (gss_one (gs_retR (gr_e ge_bl))) gss_nil)
    (gss_one (gs_retR (gr_e (ge_and (ge_callB call_isi simc_isi Y.f_isinstance (ga_cons (ge_v 0) (ga_cons (ge_ty Y.f_str) ga_nil))) (ge_and (ge_bm PySem.F.plainAttrs_str PySem.F.slot_str_endswith PySem.F.type_str_endswith mt_endswith (simm_str1 (g := fun a b => .bl (Txt.endswith a b)) fun _ _ _ => .bl) ty_str1 (ge_v 0) (ga_cons (ge_gstr Y.v_STAR) ga_nil)) (ge_one (ge_c D_is_letters hr (passE (takes_of rfl rfl rfl rfl)) (ga_cons (ge_slice sl_U simsl_cut (ge_v 0) go_none (go_some (ge_neg ge_int))) (ga_cons ge_int (ga_cons (ge_bin op_sub simr_sub (ge_gint Y.v_MOST_LETTERS) ge_int) ga_nil))))))))))), fun ts q r h => sem_is_pattern h⟩, hm⟩
theorem fn_is_pattern (Y : Gm K mg) (F : FnAt K mg "is_pattern" (top 25)) (D_is_word : Fn TheW.P TheW.w K mg base 2 "is_word" ["thing"] sp_is_word) (D_is_letters : Fn TheW.P TheW.w K mg base 1 "is_letters" ["thing", "least", "most"] sp_is_letters) : Fn TheW.P TheW.w K mg base 3 "is_pattern" ["thing"] sp_is_pattern := by
  obtain ⟨f, fd, F, h, hm⟩ := fo_is_pattern (base := base) Y F D_is_word D_is_letters
  exact ⟨f, fd, h, hm, F.kp, F.bindsN fun _ _ _ _ _ _ us hl => match us, hl with | [_], _ => rfl⟩
theorem sc_suits : FnScope ["pattern", "word"] ["pattern", "word"] (defScope (top 26)) := ⟨rfl, rfl, rfl, by decide +kernel, rfl, by decide +kernel, by decide +kernel⟩
theorem fo_suits (Y : Gm K mg) (F : FnAt K mg "suits" (top 26)) : ∃ f fd, FnP K "suits" (top 26) f fd ∧ FnOk TheW.P TheW.w K mg base (L2.CX TheW.P TheW.w) 1 f fd ["pattern", "word"] (lift K sp_suits) ∧ mg "suits" = some (.ref f) := by
  obtain ⟨f, fd, F, hm⟩ := F
  exact ⟨f, fd, F, mk_fn F sc_suits (fun M ts q r h => len_suits h) fun cdv A outer s H E M hr => ⟨_, _, (gss_one (gs_retR (gr_if (gt_val (ge_bm PySem.F.plainAttrs_str PySem.F.slot_str_endswith PySem.F.type_str_endswith mt_endswith (simm_str1 (g := fun a b => .bl (Txt.endswith a b)) fun _ _ _ => .bl) ty_str1 (ge_v 0) (ga_cons (ge_gstr Y.v_STAR) ga_nil))) (gr_e (ge_bm PySem.F.plainAttrs_str PySem.F.slot_str_startswith PySem.F.type_str_startswith mt_startswith (simm_str1 (g := fun a b => .bl (Txt.startswith a b)) fun _ _ _ => .bl) ty_str1 (ge_v 1) (ga_cons (ge_slice sl_U simsl_cut (ge_v 0) go_none (go_some (ge_neg ge_int))) ga_nil))) (gr_e (ge_cmp (op_eqU hr.units) simr_eq (ge_v 1) (ge_v 0)))))), fun ts q r h => sem_suits h⟩, hm⟩
theorem fn_suits (Y : Gm K mg) (F : FnAt K mg "suits" (top 26)) : Fn TheW.P TheW.w K mg base 1 "suits" ["pattern", "word"] sp_suits := by
  obtain ⟨f, fd, F, h, hm⟩ := fo_suits (base := base) Y F
  exact ⟨f, fd, h, hm, F.kp, F.bindsN fun _ _ _ _ _ _ us hl => match us, hl with | [_, _], _ => rfl⟩
theorem sc_are_patterns : FnScope ["thing", "one", "other"] ["thing"] (defScope (top 27)) := ⟨rfl, rfl, rfl, by decide +kernel, rfl, by decide +kernel, by decide +kernel⟩
theorem fo_are_patterns (Y : Gm K mg) (F : FnAt K mg "are_patterns" (top 27)) (D_is_pattern : Fn TheW.P TheW.w K mg base 3 "is_pattern" ["thing"] sp_is_pattern) : ∃ f fd, FnP K "are_patterns" (top 27) f fd ∧ FnOk TheW.P TheW.w K mg base (L2.CX TheW.P TheW.w) 4 f fd ["thing"] (lift K sp_are_patterns) ∧ mg "are_patterns" = some (.ref f) := by
  obtain ⟨f, fd, F, hm⟩ := F
  exact ⟨f, fd, F, mk_fn F sc_are_patterns (fun M ts q r h => len_are_patterns h) fun cdv A outer s H E M hr => ⟨_, _, (gss_cons (gs_if (gw_or (gt_not (gt_val (ge_callB call_isi simc_isi Y.f_isinstance (ga_cons (ge_v 0) (ga_cons (ge_ty Y.f_tuple) ga_nil))))) (gw_or (gt_cmp op_gtU simr_gt (ge_callB call_len simc_len Y.f_len (ga_cons (ge_v 0) ga_nil)) (ge_gint Y.v_MOST_TOGETHER)) (gw_or1 (gt_not (gt_val (ge_callB (cr_all rfl) simc_all Y.f_all (ga_cons (ge_lc [("one", 1)] rfl sc_are_patterns.nd (gi_seq (ge_v 0)) (blkOk_by (N := ["thing", "one", "other"]) (sc := defScope (top 27)) (by decide +kernel)) (fun _ _ _ _ _ => (gg_name 1 sc_are_patterns.nd)) (fun _ _ _ _ _ => gts_nil) (fun _ _ _ _ _ => (ge_c D_is_pattern hr passL (ga_cons (ge_v 1) ga_nil))) (s0 := s)) ga_nil))))))).t (gss_one (gs_retR (gr_e ge_bl))) gss_nil)
    (gss_one (gs_retR (gr_e (ge_callB (cr_all rfl) simc_all Y.f_all (ga_cons (ge_lc [("one", 1), ("other", 2)] rfl sc_are_patterns.nd (gi_zip Y.f_zip (ga_cons (ge_v 0) (ga_cons (ge_slice sl_U simsl_cut (ge_v 0) (go_some ge_int) go_none) ga_nil))) (blkOk_by (N := ["thing", "one", "other"]) (sc := defScope (top 27)) (by decide +kernel)) (fun _ _ _ _ _ => (gg_tup rfl (ggs_cons (gg_name 1 sc_are_patterns.nd) (ggs_cons (gg_name 2 sc_are_patterns.nd) ggs_nil)))) (fun _ _ _ _ _ => gts_nil) (fun _ _ _ _ _ => (ge_cmp op_ltU simr_lt (ge_v 1) (ge_v 2))) (s0 := s)) ga_nil)))))), fun ts q r h => sem_are_patterns h⟩, hm⟩
theorem fn_are_patterns (Y : Gm K mg) (F : FnAt K mg "are_patterns" (top 27)) (D_is_pattern : Fn TheW.P TheW.w K mg base 3 "is_pattern" ["thing"] sp_is_pattern) : Fn TheW.P TheW.w K mg base 4 "are_patterns" ["thing"] sp_are_patterns := by
  obtain ⟨f, fd, F, h, hm⟩ := fo_are_patterns (base := base) Y F D_is_pattern
  exact ⟨f, fd, h, hm, F.kp, F.bindsN fun _ _ _ _ _ _ us hl => match us, hl with | [_], _ => rfl⟩
theorem sc_need_patterns : FnScope ["patterns"] ["patterns"] (defScope (top 28)) := ⟨rfl, rfl, rfl, by decide +kernel, rfl, by decide +kernel, by decide +kernel⟩
theorem fo_need_patterns (Y : Gm K mg) (F : FnAt K mg "need_patterns" (top 28)) (D_are_patterns : Fn TheW.P TheW.w K mg base 4 "are_patterns" ["thing"] sp_are_patterns) : ∃ f fd, FnP K "need_patterns" (top 28) f fd ∧ FnOk TheW.P TheW.w K mg base (L2.CX TheW.P TheW.w) 5 f fd ["patterns"] (lift K sp_need_patterns) ∧ mg "need_patterns" = some (.ref f) := by
  obtain ⟨f, fd, F, hm⟩ := F
  exact ⟨f, fd, F, mk_fn F sc_need_patterns (fun M ts q r h => len_need_patterns h) fun cdv A outer s H E M hr => ⟨_, _, (gss_one (gs_if (gt_not (gt_val (ge_c D_are_patterns hr (passE (takes_of rfl rfl rfl rfl)) (ga_cons (ge_v 0) ga_nil)))) (gss_one (gs_raise rfl (takes_of rfl rfl rfl rfl) Y.c_BadPatterns.2.1 Y.c_BadPatterns.1 Y.c_BadPatterns.2.2.1 Y.c_BadPatterns.2.2.2.1 Y.c_BadPatterns.2.2.2.2)) gss_nil)), fun ts q r h => sem_need_patterns h⟩, hm⟩
theorem fn_need_patterns (Y : Gm K mg) (F : FnAt K mg "need_patterns" (top 28)) (D_are_patterns : Fn TheW.P TheW.w K mg base 4 "are_patterns" ["thing"] sp_are_patterns) : Fn TheW.P TheW.w K mg base 5 "need_patterns" ["patterns"] sp_need_patterns := by
  obtain ⟨f, fd, F, h, hm⟩ := fo_need_patterns (base := base) Y F D_are_patterns
  exact ⟨f, fd, h, hm, F.kp, F.bindsN fun _ _ _ _ _ _ us hl => match us, hl with | [_], _ => rfl⟩
theorem sc_truths_of : FnScope ["patterns", "word", "pattern"] ["patterns", "word"] (defScope (top 29)) := ⟨rfl, rfl, rfl, by decide +kernel, rfl, by decide +kernel, by decide +kernel⟩
theorem fo_truths_of (Y : Gm K mg) (F : FnAt K mg "truths_of" (top 29)) (D_suits : Fn TheW.P TheW.w K mg base 1 "suits" ["pattern", "word"] sp_suits) : ∃ f fd, FnP K "truths_of" (top 29) f fd ∧ FnOk TheW.P TheW.w K mg base (L2.CX TheW.P TheW.w) 2 f fd ["patterns", "word"] (lift K sp_truths_of) ∧ mg "truths_of" = some (.ref f) := by
  obtain ⟨f, fd, F, hm⟩ := F
  exact ⟨f, fd, F, mk_fn F sc_truths_of (fun M ts q r h => len_truths_of h) fun cdv A outer s H E M hr => ⟨_, _, (gss_one (gs_retR (gr_e (ge_callTy call_tuple_of simc_tuple Y.f_tuple (ga_cons (ge_lc [("pattern", 2)] rfl sc_truths_of.nd (gi_seq (ge_v 0)) (blkOk_by (N := ["patterns", "word", "pattern"]) (sc := defScope (top 29)) (by decide +kernel)) (fun _ _ _ _ _ => (gg_name 2 sc_truths_of.nd)) (fun _ _ _ _ _ => gts_nil) (fun _ _ _ _ _ => (ge_c D_suits hr passL (ga_cons (ge_v 2) (ga_cons (ge_v 1) ga_nil)))) (s0 := s)) ga_nil))))), fun ts q r h => sem_truths_of h⟩, hm⟩
theorem fn_truths_of (Y : Gm K mg) (F : FnAt K mg "truths_of" (top 29)) (D_suits : Fn TheW.P TheW.w K mg base 1 "suits" ["pattern", "word"] sp_suits) : Fn TheW.P TheW.w K mg base 2 "truths_of" ["patterns", "word"] sp_truths_of := by
  obtain ⟨f, fd, F, h, hm⟩ := fo_truths_of (base := base) Y F D_suits
  exact ⟨f, fd, h, hm, F.kp, F.bindsN fun _ _ _ _ _ _ us hl => match us, hl with | [_, _], _ => rfl⟩
theorem sc_need_level : FnScope ["level"] ["level"] (defScope (top 32)) := ⟨rfl, rfl, rfl, by decide +kernel, rfl, by decide +kernel, by decide +kernel⟩
theorem fo_need_level (Y : Gm K mg) (F : FnAt K mg "need_level" (top 32)) : ∃ f fd, FnP K "need_level" (top 32) f fd ∧ FnOk TheW.P TheW.w K mg base (L2.CX TheW.P TheW.w) 1 f fd ["level"] (lift K sp_need_level) ∧ mg "need_level" = some (.ref f) := by
  obtain ⟨f, fd, F, hm⟩ := F
  exact ⟨f, fd, F, mk_fn F sc_need_level (fun M ts q r h => len_need_level h) fun cdv A outer s H E M hr => ⟨_, _, (gss_one (gs_if (gw_or (gt_not (gt_val (ge_callB call_isi simc_isi Y.f_isinstance (ga_cons (ge_v 0) (ga_cons (ge_ty Y.f_str) ga_nil))))) (gw_or1 (gt_cmp op_notIn_seq simr_inF (ge_v 0) (ge_gtup Y.t_LEVELS)))).t (gss_one (gs_raise rfl (takes_of rfl rfl rfl rfl) Y.c_BadLevel.2.1 Y.c_BadLevel.1 Y.c_BadLevel.2.2.1 Y.c_BadLevel.2.2.2.1 Y.c_BadLevel.2.2.2.2)) gss_nil)), fun ts q r h => sem_need_level h⟩, hm⟩
theorem fn_need_level (Y : Gm K mg) (F : FnAt K mg "need_level" (top 32)) : Fn TheW.P TheW.w K mg base 1 "need_level" ["level"] sp_need_level := by
  obtain ⟨f, fd, F, h, hm⟩ := fo_need_level (base := base) Y F
  exact ⟨f, fd, h, hm, F.kp, F.bindsN fun _ _ _ _ _ _ us hl => match us, hl with | [_], _ => rfl⟩
theorem sc_any_of : FnScope ["rows", "many", "place", "row"] ["rows", "many"] (defScope (top 33)) := ⟨rfl, rfl, rfl, by decide +kernel, rfl, by decide +kernel, by decide +kernel⟩
theorem fo_any_of (Y : Gm K mg) (F : FnAt K mg "any_of" (top 33)) : ∃ f fd, FnP K "any_of" (top 33) f fd ∧ FnOk TheW.P TheW.w K mg base (L2.CX TheW.P TheW.w) 1 f fd ["rows", "many"] (lift K sp_any_of) ∧ mg "any_of" = some (.ref f) := by
  obtain ⟨f, fd, F, hm⟩ := F
  exact ⟨f, fd, F, mk_fn F sc_any_of (fun M ts q r h => len_any_of h) fun cdv A outer s H E M hr => ⟨_, _, (gss_one (gs_retR (gr_e (ge_callTy call_tuple_of simc_tuple Y.f_tuple (ga_cons (ge_lc [("place", 2)] rfl sc_any_of.nd (gi_range1 Y.f_range (ga_cons (ge_v 1) ga_nil)) (blkOk_by (N := ["rows", "many", "place", "row"]) (sc := defScope (top 33)) (by decide +kernel)) (fun _ _ _ _ _ => (gg_name 2 sc_any_of.nd)) (fun _ _ _ _ _ => gts_nil) (fun _ _ _ _ _ => (ge_callB (cr_any rfl) simc_any Y.f_any (ga_cons (ge_lc [("row", 3)] rfl sc_any_of.nd (gi_seq (ge_v 0)) (blkOk_by (by rfl)) (fun _ _ _ _ _ => (gg_name 3 sc_any_of.nd)) (fun _ _ _ _ _ => gts_nil) (fun _ _ _ _ _ => (ge_ix ix_seq simr_ix (ge_v 3) (ge_v 2))) (s0 := s)) ga_nil))) (s0 := s)) ga_nil))))), fun ts q r h => sem_any_of h⟩, hm⟩
theorem fn_any_of (Y : Gm K mg) (F : FnAt K mg "any_of" (top 33)) : Fn TheW.P TheW.w K mg base 1 "any_of" ["rows", "many"] sp_any_of := by
  obtain ⟨f, fd, F, h, hm⟩ := fo_any_of (base := base) Y F
  exact ⟨f, fd, h, hm, F.kp, F.bindsN fun _ _ _ _ _ _ us hl => match us, hl with | [_, _], _ => rfl⟩
theorem sc_places_in : FnScope ["patterns", "words", "rows", "found", "at", "word", "number", "row"] ["patterns", "words"] (defScope (top 34)) := ⟨rfl, rfl, rfl, by decide +kernel, rfl, by decide +kernel, by decide +kernel⟩
theorem fo_places_in (Y : Gm K mg) (F : FnAt K mg "places_in" (top 34)) (D_truths_of : Fn TheW.P TheW.w K mg base 2 "truths_of" ["patterns", "word"] sp_truths_of) : ∃ f fd, FnP K "places_in" (top 34) f fd ∧ FnOk TheW.P TheW.w K mg base (L2.CX TheW.P TheW.w) 3 f fd ["patterns", "words"] (lift K sp_places_in) ∧ mg "places_in" = some (.ref f) := by
  obtain ⟨f, fd, F, hm⟩ := F
  exact ⟨f, fd, F, mk_fn F sc_places_in (fun M ts q r h => len_places_in h) fun cdv A outer s H E M hr => ⟨_, _, (gss_cons (gs_par 2 3 rfl sc_places_in.nd (ge_lc [("word", 5)] rfl sc_places_in.nd (gi_seq (ge_v 1)) (blkOk_by (N := ["patterns", "words", "rows", "found", "at", "word", "number", "row"]) (sc := defScope (top 34)) (by decide +kernel)) (fun _ _ _ _ _ => (gg_name 5 sc_places_in.nd)) (fun _ _ _ _ _ => gts_nil) (fun _ _ _ _ _ => (ge_c D_truths_of hr passL (ga_cons (ge_v 0) (ga_cons (ge_v 5) ga_nil)))) (s0 := s)) (ge_lst ga_nil))
    (gss_cons (gs_frz 2 (gs_for (passes_of rfl) rfl (gi_range1 Y.f_range (ga_cons (ge_callB call_len simc_len Y.f_len (ga_cons (ge_v 0) ga_nil)) ga_nil)) (gg_name 4 sc_places_in.nd) (gss_one (gs_app 3 (ge_callTy call_tuple_of simc_tuple Y.f_tuple (ga_cons (ge_lc [("number", 6), ("row", 7)] rfl sc_places_in.nd (gi_enum Y.f_enumerate (ga_cons (ge_v 2) ga_nil)) (blkOk_by (N := ["patterns", "words", "rows", "found", "at", "word", "number", "row"]) (sc := defScope (top 34)) (by decide +kernel)) (fun _ _ _ _ _ => (gg_tup rfl (ggs_cons (gg_name 6 sc_places_in.nd) (ggs_cons (gg_name 7 sc_places_in.nd) ggs_nil)))) (fun _ _ _ _ _ => (gts_one (gt_val (ge_ix ix_seq simr_ix (ge_v 7) (ge_v 4))))) (fun _ _ _ _ _ => (ge_v 6)) (s0 := s)) ga_nil))))))
    (gss_one (gs_frz 3 (gs_retR (gr_e (ge_callTy call_tuple_of simc_tuple Y.f_tuple (ga_cons (ge_v 3) ga_nil)))))))), fun ts q r h => sem_places_in h⟩, hm⟩
theorem fn_places_in (Y : Gm K mg) (F : FnAt K mg "places_in" (top 34)) (D_truths_of : Fn TheW.P TheW.w K mg base 2 "truths_of" ["patterns", "word"] sp_truths_of) : Fn TheW.P TheW.w K mg base 3 "places_in" ["patterns", "words"] sp_places_in := by
  obtain ⟨f, fd, F, h, hm⟩ := fo_places_in (base := base) Y F D_truths_of
  exact ⟨f, fd, h, hm, F.kp, F.bindsN fun _ _ _ _ _ _ us hl => match us, hl with | [_, _], _ => rfl⟩
theorem sc_view_of : FnScope ["patterns", "level", "text", "words", "sets", "token", "numbers", "some", "word", "one"] ["patterns", "level", "text"] (defScope (top 35)) := ⟨rfl, rfl, rfl, by decide +kernel, rfl, by decide +kernel, by decide +kernel⟩
theorem fo_view_of (Y : Gm K mg) (F : FnAt K mg "view_of" (top 35)) (D_words_of : Fn TheW.P TheW.w K mg base 1 "words_of" ["text"] sp_words_of) (D_truths_of : Fn TheW.P TheW.w K mg base 2 "truths_of" ["patterns", "word"] sp_truths_of) (D_places_in : Fn TheW.P TheW.w K mg base 3 "places_in" ["patterns", "words"] sp_places_in) (D_sentences_of : Fn TheW.P TheW.w K mg base 1 "sentences_of" ["text"] sp_sentences_of) (D_any_of : Fn TheW.P TheW.w K mg base 1 "any_of" ["rows", "many"] sp_any_of) : ∃ f fd, FnP K "view_of" (top 35) f fd ∧ FnOk TheW.P TheW.w K mg base (L2.CX TheW.P TheW.w) 4 f fd ["patterns", "level", "text"] (lift K sp_view_of) ∧ mg "view_of" = some (.ref f) := by
  obtain ⟨f, fd, F, hm⟩ := F
  exact ⟨f, fd, F, mk_fn F sc_view_of (fun M ts q r h => len_view_of h) fun cdv A outer s H E M hr => ⟨_, _, (gss_cons (gs_set 3 sc_view_of.nd (ge_c D_words_of hr (passE (takes_of rfl rfl rfl rfl)) (ga_cons (ge_v 2) ga_nil)))
    (gss_cons (gs_frz 3 (gs_if (gt_cmp (op_eqU hr.units) simr_eq (ge_v 1) ge_str) (gss_one (gs_retR (gr_e (ge_callTy call_tuple_of simc_tuple Y.f_tuple (ga_cons (ge_lc [("token", 5)] rfl sc_view_of.nd (gi_seq (ge_v 2)) (blkOk_by (N := ["patterns", "level", "text", "words", "sets", "token", "numbers", "some", "word", "one"]) (sc := defScope (top 35)) (by decide +kernel)) (fun _ _ _ _ _ => (gg_name 5 sc_view_of.nd)) (fun _ _ _ _ _ => gts_nil) (fun _ _ _ _ _ => (ge_if (gt_cmp (op_eqU hr.units) simr_eq (ge_v 5) (ge_gstr Y.v_BREAK)) ge_non (ge_c D_truths_of hr passL (ga_cons (ge_v 0) (ga_cons (ge_v 5) ga_nil))))) (s0 := s)) ga_nil))))) gss_nil))
    (gss_cons (gs_if (gt_cmp (op_eqU hr.units) simr_eq (ge_v 1) ge_str) (gss_one (gs_retR (gr_e (ge_c D_places_in hr (passE (takes_of rfl rfl rfl rfl)) (ga_cons (ge_v 0) (ga_cons (ge_v 3) ga_nil)))))) gss_nil)
    (gss_cons (gs_if (gt_cmp (op_eqU hr.units) simr_eq (ge_v 1) ge_str) (gss_one (gs_retR (gr_e (ge_callTy call_tuple_of simc_tuple Y.f_tuple (ga_cons (ge_lc [("numbers", 6)] rfl sc_view_of.nd (gi_seq (ge_c D_places_in hr (passE (takes_of rfl rfl rfl rfl)) (ga_cons (ge_v 0) (ga_cons (ge_v 3) ga_nil)))) (blkOk_by (N := ["patterns", "level", "text", "words", "sets", "token", "numbers", "some", "word", "one"]) (sc := defScope (top 35)) (by decide +kernel)) (fun _ _ _ _ _ => (gg_name 6 sc_view_of.nd)) (fun _ _ _ _ _ => gts_nil) (fun _ _ _ _ _ => (ge_callB call_len simc_len Y.f_len (ga_cons (ge_v 6) ga_nil))) (s0 := s)) ga_nil))))) gss_nil)
    (gss_cons (gs_if (gt_cmp (op_eqU hr.units) simr_eq (ge_v 1) ge_str) (gss_cons (gs_setLc 4 [("some", 7)] rfl sc_view_of.nd (gi_seq (ge_c D_sentences_of hr (passE (takes_of rfl rfl rfl rfl)) (ga_cons (ge_v 2) ga_nil))) (blkOk_by (N := ["patterns", "level", "text", "words", "sets", "token", "numbers", "some", "word", "one"]) (sc := defScope (top 35)) (by decide +kernel)) (fun _ _ _ _ _ => (gg_name 7 sc_view_of.nd)) (fun _ _ _ _ _ => gts_nil) (fun _ _ _ _ _ => (ge_c D_any_of hr passL (ga_cons (ge_lc [("word", 8)] rfl sc_view_of.nd (gi_seq (ge_v 7)) (blkOk_by (by rfl)) (fun _ _ _ _ _ => (gg_name 8 sc_view_of.nd)) (fun _ _ _ _ _ => gts_nil) (fun _ _ _ _ _ => (ge_c D_truths_of hr passL (ga_cons (ge_v 0) (ga_cons (ge_v 8) ga_nil)))) (s0 := s)) (ga_cons (ge_callB call_len simc_len Y.f_len (ga_cons (ge_v 0) ga_nil)) ga_nil)))) s)
    (gss_one (gs_frz 4 (gs_retR (gr_e (ge_callTy call_tuple_of simc_tuple Y.f_tuple (ga_cons (ge_sortDc [("one", 9)] rfl rfl hr.units Y.f_sorted sc_view_of.nd (gi_seq (ge_v 4)) (blkOk_by (N := ["patterns", "level", "text", "words", "sets", "token", "numbers", "some", "word", "one"]) (sc := defScope (top 35)) (by decide +kernel)) (fun _ _ _ _ _ => (gg_name 9 sc_view_of.nd)) (fun _ _ _ _ _ => (gts_one (gt_val (ge_callB (TL.CallR.or (cr_any rfl) (cr_anyT rfl)) simc_anyX Y.f_any (ga_cons (ge_v 9) ga_nil))))) (fun _ _ _ _ _ => (ge_v 9)) (fun _ _ _ _ _ => ge_bl) s) ga_nil))))))) gss_nil)
    (gss_one (gs_retR (gr_e (ge_c D_any_of hr (passE (takes_of rfl rfl rfl rfl)) (ga_cons (ge_lc [("word", 8)] rfl sc_view_of.nd (gi_seq (ge_v 3)) (blkOk_by (N := ["patterns", "level", "text", "words", "sets", "token", "numbers", "some", "word", "one"]) (sc := defScope (top 35)) (by decide +kernel)) (fun _ _ _ _ _ => (gg_name 8 sc_view_of.nd)) (fun _ _ _ _ _ => gts_nil) (fun _ _ _ _ _ => (ge_c D_truths_of hr passL (ga_cons (ge_v 0) (ga_cons (ge_v 8) ga_nil)))) (s0 := s)) (ga_cons (ge_callB call_len simc_len Y.f_len (ga_cons (ge_v 0) ga_nil)) ga_nil))))))))))), fun ts q r h => sem_view_of h⟩, hm⟩
theorem fn_view_of (Y : Gm K mg) (F : FnAt K mg "view_of" (top 35)) (D_words_of : Fn TheW.P TheW.w K mg base 1 "words_of" ["text"] sp_words_of) (D_truths_of : Fn TheW.P TheW.w K mg base 2 "truths_of" ["patterns", "word"] sp_truths_of) (D_places_in : Fn TheW.P TheW.w K mg base 3 "places_in" ["patterns", "words"] sp_places_in) (D_sentences_of : Fn TheW.P TheW.w K mg base 1 "sentences_of" ["text"] sp_sentences_of) (D_any_of : Fn TheW.P TheW.w K mg base 1 "any_of" ["rows", "many"] sp_any_of) : Fn TheW.P TheW.w K mg base 4 "view_of" ["patterns", "level", "text"] sp_view_of := by
  obtain ⟨f, fd, F, h, hm⟩ := fo_view_of (base := base) Y F D_words_of D_truths_of D_places_in D_sentences_of D_any_of
  exact ⟨f, fd, h, hm, F.kp, F.bindsN fun _ _ _ _ _ _ us hl => match us, hl with | [_, _, _], _ => rfl⟩
theorem sc_view : FnScope ["fields", "patterns", "level", "document", "found", "field"] ["fields", "patterns", "level", "document"] (defScope (top 36)) := ⟨rfl, rfl, rfl, by decide +kernel, rfl, by decide +kernel, by decide +kernel⟩
theorem fo_view (Y : Gm K mg) (F : FnAt K mg "view" (top 36)) (D_need_fields : Fn TheW.P TheW.w K mg base 4 "need_fields" ["fields"] sp_need_fields) (D_need_patterns : Fn TheW.P TheW.w K mg base 5 "need_patterns" ["patterns"] sp_need_patterns) (D_need_level : Fn TheW.P TheW.w K mg base 1 "need_level" ["level"] sp_need_level) (D_need_document : Fn TheW.P TheW.w K mg base 6 "need_document" ["fields", "document"] sp_need_document) (D_view_of : Fn TheW.P TheW.w K mg base 4 "view_of" ["patterns", "level", "text"] sp_view_of) (D_any_of : Fn TheW.P TheW.w K mg base 1 "any_of" ["rows", "many"] sp_any_of) : ∃ f fd, FnP K "view" (top 36) f fd ∧ FnOk TheW.P TheW.w K mg base (L2.CX TheW.P TheW.w) 7 f fd ["fields", "patterns", "level", "document"] (lift K sp_view) ∧ mg "view" = some (.ref f) := by
  obtain ⟨f, fd, F, hm⟩ := F
  exact ⟨f, fd, F, mk_fn F sc_view (fun M ts q r h => len_view h) fun cdv A outer s H E M hr => ⟨_, _, (gss_cons (gs_expr (ge_c D_need_fields hr (passE (takes_of rfl rfl rfl rfl)) (ga_cons (ge_v 0) ga_nil)))
    (gss_cons (gs_expr (ge_c D_need_patterns hr (passE (takes_of rfl rfl rfl rfl)) (ga_cons (ge_v 1) ga_nil)))
    (gss_cons (gs_expr (ge_c D_need_level hr (passE (takes_of rfl rfl rfl rfl)) (ga_cons (ge_v 2) ga_nil)))
    (gss_cons (gs_expr (ge_c D_need_document hr (passE (takes_of rfl rfl rfl rfl)) (ga_cons (ge_v 0) (ga_cons (ge_v 3) ga_nil))))
    (gss_cons (gs_set 4 sc_view.nd (ge_callTy call_tuple_of simc_tuple Y.f_tuple (ga_cons (ge_lc [("field", 5)] rfl sc_view.nd (gi_seq (ge_v 0)) (blkOk_by (N := ["fields", "patterns", "level", "document", "found", "field"]) (sc := defScope (top 36)) (by decide +kernel)) (fun _ _ _ _ _ => (gg_name 5 sc_view.nd)) (fun _ _ _ _ _ => gts_nil) (fun _ _ _ _ _ => (ge_c D_view_of hr passL (ga_cons (ge_v 1) (ga_cons (ge_v 2) (ga_cons (ge_dget hr.units (ge_v 3) (ge_v 5)) ga_nil))))) (s0 := s)) ga_nil)))
    (gss_one (gs_retR (gr_if (gt_cmp (op_eqU hr.units) simr_eq (ge_v 2) ge_str) (gr_e (ge_c D_any_of hr (passE (takes_of rfl rfl rfl rfl)) (ga_cons (ge_v 4) (ga_cons (ge_callB call_len simc_len Y.f_len (ga_cons (ge_v 1) ga_nil)) ga_nil)))) (gr_v 4))))))))), fun ts q r h => sem_view h⟩, hm⟩
theorem fn_view (Y : Gm K mg) (F : FnAt K mg "view" (top 36)) (D_need_fields : Fn TheW.P TheW.w K mg base 4 "need_fields" ["fields"] sp_need_fields) (D_need_patterns : Fn TheW.P TheW.w K mg base 5 "need_patterns" ["patterns"] sp_need_patterns) (D_need_level : Fn TheW.P TheW.w K mg base 1 "need_level" ["level"] sp_need_level) (D_need_document : Fn TheW.P TheW.w K mg base 6 "need_document" ["fields", "document"] sp_need_document) (D_view_of : Fn TheW.P TheW.w K mg base 4 "view_of" ["patterns", "level", "text"] sp_view_of) (D_any_of : Fn TheW.P TheW.w K mg base 1 "any_of" ["rows", "many"] sp_any_of) : Fn TheW.P TheW.w K mg base 7 "view" ["fields", "patterns", "level", "document"] sp_view := by
  obtain ⟨f, fd, F, h, hm⟩ := fo_view (base := base) Y F D_need_fields D_need_patterns D_need_level D_need_document D_view_of D_any_of
  exact ⟨f, fd, h, hm, F.kp, F.bindsN fun _ _ _ _ _ _ us hl => match us, hl with | [_, _, _, _], _ => rfl⟩
theorem sc__law_begun : FnScope ["script", "large", "cell"] ["script"] (defScope (top 38)) := ⟨rfl, rfl, rfl, by decide +kernel, rfl, by decide +kernel, by decide +kernel⟩
theorem sc__law_mixed : FnScope ["draw", "turn", "found", "great", "blend", "cell"] ["draw"] (defScope (top 39)) := ⟨rfl, rfl, rfl, by decide +kernel, rfl, by decide +kernel, by decide +kernel⟩
theorem fo__law_mixed (Y : Gm K mg) (F : FnAt K mg "_law_mixed" (top 39)) : ∃ f fd, FnP K "_law_mixed" (top 39) f fd ∧ FnOk TheW.P TheW.w K mg base (L2.CX TheW.P TheW.w) 1 f fd ["draw"] (lift K sp__law_mixed) ∧ mg "_law_mixed" = some (.ref f) := by
  obtain ⟨f, fd, F, hm⟩ := F
  exact ⟨f, fd, F, mk_fn F sc__law_mixed (fun M ts q r h => len__law_mixed h) fun cdv A outer s H E M hr => ⟨_, _, (gss_cons (gs_di (.inr rfl) hr.units 0 (ge_bin op_addU simr_add (ge_di (.inr rfl) hr.units 0) ge_int))
    (gss_cons (gs_par 1 2 rfl sc__law_mixed.nd (ge_callTy call_int1 simc_int Y.f_int (ga_cons (ge_di (.inr rfl) hr.units 0) ga_nil)) ge_int)
    (gss_cons (gs_for (passes_of rfl) rfl (gi_seq (ge_lst (ga_cons ge_int (ga_cons ge_int (ga_cons ge_int ga_nil))))) (gg_name 3 sc__law_mixed.nd) (gss_cons (gs_set 4 sc__law_mixed.nd (ge_bin op_mod simr_mod (ge_bin op_addU simr_add (ge_bin op_mulU simr_mul (ge_v 1) ge_int) (ge_bin op_fdiv simr_div (ge_v 3) ge_int)) (ge_v 3)))
    (gss_cons (gs_for (passes_of rfl) rfl (gi_dc hr.units 0) (gg_name 5 sc__law_mixed.nd) (gss_one (gs_set 4 sc__law_mixed.nd (ge_bin op_mod simr_mod (ge_bin op_addU simr_add (ge_bin op_addU simr_add (ge_bin op_mulU simr_mul (ge_v 4) ge_int) (ge_callTy call_int1 simc_int Y.f_int (ga_cons (ge_v 5) ga_nil))) (ge_v 1)) (ge_v 3)))))
    (gss_one (gs_set 2 sc__law_mixed.nd (ge_bin op_addU simr_add (ge_bin op_mulU simr_mul (ge_v 2) ge_int) (ge_bin op_mod simr_mod (ge_bin op_pow simr_pow (ge_v 4) ge_int) (ge_v 3))))))))
    (gss_one (gs_retR (gr_v 2)))))), fun ts q r h => sem__law_mixed h⟩, hm⟩
theorem fn__law_mixed (Y : Gm K mg) (F : FnAt K mg "_law_mixed" (top 39)) : Fn TheW.P TheW.w K mg base 1 "_law_mixed" ["draw"] sp__law_mixed := by
  obtain ⟨f, fd, F, h, hm⟩ := fo__law_mixed (base := base) Y F
  exact ⟨f, fd, h, hm, F.kp, F.bindsN fun _ _ _ _ _ _ us hl => match us, hl with | [_], _ => rfl⟩
theorem sc__law_take : FnScope ["draw", "amount", "found"] ["draw", "amount"] (defScope (top 40)) := ⟨rfl, rfl, rfl, by decide +kernel, rfl, by decide +kernel, by decide +kernel⟩
theorem fo__law_take (Y : Gm K mg) (F : FnAt K mg "_law_take" (top 40)) (D__law_mixed : Fn TheW.P TheW.w K mg base 1 "_law_mixed" ["draw"] sp__law_mixed) : ∃ f fd, FnP K "_law_take" (top 40) f fd ∧ FnOk TheW.P TheW.w K mg base (L2.CX TheW.P TheW.w) 2 f fd ["draw", "amount"] (lift K sp__law_take) ∧ mg "_law_take" = some (.ref f) := by
  obtain ⟨f, fd, F, hm⟩ := F
  exact ⟨f, fd, F, mk_fn F sc__law_take (fun M ts q r h => len__law_take h) fun cdv A outer s H E M hr => ⟨_, _, (gss_cons (gs_if (gt_cmp (op_eqU hr.units) simr_eq (ge_di (.inl rfl) hr.units 0) ge_int) (gss_one (gs_di (.inl rfl) hr.units 0 (ge_dpop hr.units 0 (ge_c D__law_mixed hr (passE (takes_of rfl rfl rfl rfl)) (ga_cons (ge_v 0) ga_nil))))) gss_nil)
    (gss_cons (gs_set 2 sc__law_take.nd (ge_bin op_mod simr_mod (ge_callTy call_int1 simc_int Y.f_int (ga_cons (ge_di (.inl rfl) hr.units 0) ga_nil)) (ge_v 1)))
    (gss_cons (gs_di (.inl rfl) hr.units 0 (ge_bin op_fdiv simr_div (ge_callTy call_int1 simc_int Y.f_int (ga_cons (ge_di (.inl rfl) hr.units 0) ga_nil)) (ge_v 1)))
    (gss_one (gs_retR (gr_v 2)))))), fun ts q r h => sem__law_take h⟩, hm⟩
theorem fn__law_take (Y : Gm K mg) (F : FnAt K mg "_law_take" (top 40)) (D__law_mixed : Fn TheW.P TheW.w K mg base 1 "_law_mixed" ["draw"] sp__law_mixed) : Fn TheW.P TheW.w K mg base 2 "_law_take" ["draw", "amount"] sp__law_take := by
  obtain ⟨f, fd, F, h, hm⟩ := fo__law_take (base := base) Y F D__law_mixed
  exact ⟨f, fd, h, hm, F.kp, F.bindsN fun _ _ _ _ _ _ us hl => match us, hl with | [_, _], _ => rfl⟩
theorem sc__law_pick : FnScope ["draw", "some"] ["draw", "some"] (defScope (top 41)) := ⟨rfl, rfl, rfl, by decide +kernel, rfl, by decide +kernel, by decide +kernel⟩
theorem fo__law_pick (Y : Gm K mg) (F : FnAt K mg "_law_pick" (top 41)) (D__law_take : Fn TheW.P TheW.w K mg base 2 "_law_take" ["draw", "amount"] sp__law_take) : ∃ f fd, FnP K "_law_pick" (top 41) f fd ∧ FnOk TheW.P TheW.w K mg base (L2.CX TheW.P TheW.w) 3 f fd ["draw", "some"] (lift K sp__law_pick) ∧ mg "_law_pick" = some (.ref f) := by
  obtain ⟨f, fd, F, hm⟩ := F
  exact ⟨f, fd, F, mk_fn F sc__law_pick (fun M ts q r h => len__law_pick h) fun cdv A outer s H E M hr => ⟨_, _, (gss_one (gs_retR (gr_e (ge_ix ix_seq simr_ix (ge_v 1) (ge_c D__law_take hr (passE (takes_of rfl rfl rfl rfl)) (ga_cons (ge_v 0) (ga_cons (ge_callB call_len simc_len Y.f_len (ga_cons (ge_v 1) ga_nil)) ga_nil))))))), fun ts q r h => sem__law_pick h⟩, hm⟩
theorem fn__law_pick (Y : Gm K mg) (F : FnAt K mg "_law_pick" (top 41)) (D__law_take : Fn TheW.P TheW.w K mg base 2 "_law_take" ["draw", "amount"] sp__law_take) : Fn TheW.P TheW.w K mg base 3 "_law_pick" ["draw", "some"] sp__law_pick := by
  obtain ⟨f, fd, F, h, hm⟩ := fo__law_pick (base := base) Y F D__law_take
  exact ⟨f, fd, h, hm, F.kp, F.bindsN fun _ _ _ _ _ _ us hl => match us, hl with | [_, _], _ => rfl⟩
theorem sc__law_pattern : FnScope ["draw", "some", "word", "way"] ["draw", "some"] (defScope (top 42)) := ⟨rfl, rfl, rfl, by decide +kernel, rfl, by decide +kernel, by decide +kernel⟩
theorem fo__law_pattern (Y : Gm K mg) (F : FnAt K mg "_law_pattern" (top 42)) (D__law_pick : Fn TheW.P TheW.w K mg base 3 "_law_pick" ["draw", "some"] sp__law_pick) (D__law_take : Fn TheW.P TheW.w K mg base 2 "_law_take" ["draw", "amount"] sp__law_take) : ∃ f fd, FnP K "_law_pattern" (top 42) f fd ∧ FnOk TheW.P TheW.w K mg base (L2.CX TheW.P TheW.w) 4 f fd ["draw", "some"] (lift K sp__law_pattern) ∧ mg "_law_pattern" = some (.ref f) := by
  obtain ⟨f, fd, F, hm⟩ := F
  exact ⟨f, fd, F, mk_fn F sc__law_pattern (fun M ts q r h => len__law_pattern h) fun cdv A outer s H E M hr => ⟨_, _, (gss_cons (gs_set 2 sc__law_pattern.nd (ge_c D__law_pick hr (passE (takes_of rfl rfl rfl rfl)) (ga_cons (ge_v 0) (ga_cons (ge_v 1) ga_nil))))
    (gss_cons (gs_set 3 sc__law_pattern.nd (ge_c D__law_take hr (passE (takes_of rfl rfl rfl rfl)) (ga_cons (ge_v 0) (ga_cons ge_int ga_nil))))
    (gss_cons (gs_if (gt_cmp op_ltU simr_lt (ge_v 3) ge_int) (gss_one (gs_retR (gr_v 2))) gss_nil)
    (gss_one (gs_retR (gr_e (ge_bin op_addU simr_add (ge_slice sl_U simsl_cut (ge_slice sl_U simsl_cut (ge_v 2) go_none (go_some (ge_c D__law_take hr (passE (takes_of rfl rfl rfl rfl)) (ga_cons (ge_v 0) (ga_cons (ge_callB (call_min2 rfl) simc_min2 Y.f_min (ga_cons ge_int (ga_cons (ge_bin op_addU simr_add (ge_callB call_len simc_len Y.f_len (ga_cons (ge_v 2) ga_nil)) ge_int) ga_nil))) ga_nil))))) go_none (go_some ge_int)) ge_str))))))), fun ts q r h => sem__law_pattern h⟩, hm⟩
theorem fn__law_pattern (Y : Gm K mg) (F : FnAt K mg "_law_pattern" (top 42)) (D__law_pick : Fn TheW.P TheW.w K mg base 3 "_law_pick" ["draw", "some"] sp__law_pick) (D__law_take : Fn TheW.P TheW.w K mg base 2 "_law_take" ["draw", "amount"] sp__law_take) : Fn TheW.P TheW.w K mg base 4 "_law_pattern" ["draw", "some"] sp__law_pattern := by
  obtain ⟨f, fd, F, h, hm⟩ := fo__law_pattern (base := base) Y F D__law_pick D__law_take
  exact ⟨f, fd, h, hm, F.kp, F.bindsN fun _ _ _ _ _ _ us hl => match us, hl with | [_, _], _ => rfl⟩
theorem sc__law_vocabulary : FnScope ["draw"] ["draw"] (defScope (top 43)) := ⟨rfl, rfl, rfl, by decide +kernel, rfl, by decide +kernel, by decide +kernel⟩
theorem fo__law_vocabulary (Y : Gm K mg) (F : FnAt K mg "_law_vocabulary" (top 43)) (D__law_pick : Fn TheW.P TheW.w K mg base 3 "_law_pick" ["draw", "some"] sp__law_pick) : ∃ f fd, FnP K "_law_vocabulary" (top 43) f fd ∧ FnOk TheW.P TheW.w K mg base (L2.CX TheW.P TheW.w) 4 f fd ["draw"] (lift K sp__law_vocabulary) ∧ mg "_law_vocabulary" = some (.ref f) := by
  obtain ⟨f, fd, F, hm⟩ := F
  exact ⟨f, fd, F, mk_fn F sc__law_vocabulary (fun M ts q r h => len__law_vocabulary h) fun cdv A outer s H E M hr => ⟨_, _, (gss_one (gs_retR (gr_e (ge_c D__law_pick hr (passE (takes_of rfl rfl rfl rfl)) (ga_cons (ge_v 0) (ga_cons (ge_lst (ga_cons (ge_lst (ga_cons ge_str (ga_cons ge_str ga_nil))) (ga_cons (ge_lst (ga_cons ge_str (ga_cons ge_str (ga_cons ge_str ga_nil)))) (ga_cons (ge_lst (ga_cons ge_str (ga_cons ge_str (ga_cons ge_str ga_nil)))) (ga_cons (ge_lst (ga_cons ge_str (ga_cons ge_str (ga_cons ge_str (ga_cons ge_str ga_nil))))) (ga_cons (ge_lst (ga_cons ge_str (ga_cons ge_str (ga_cons ge_str ga_nil)))) (ga_cons (ge_lst (ga_cons ge_str (ga_cons ge_str (ga_cons ge_str (ga_cons ge_str ga_nil))))) ga_nil))))))) ga_nil)))))), fun ts q r h => sem__law_vocabulary h⟩, hm⟩
theorem fn__law_vocabulary (Y : Gm K mg) (F : FnAt K mg "_law_vocabulary" (top 43)) (D__law_pick : Fn TheW.P TheW.w K mg base 3 "_law_pick" ["draw", "some"] sp__law_pick) : Fn TheW.P TheW.w K mg base 4 "_law_vocabulary" ["draw"] sp__law_vocabulary := by
  obtain ⟨f, fd, F, h, hm⟩ := fo__law_vocabulary (base := base) Y F D__law_pick
  exact ⟨f, fd, h, hm, F.kp, F.bindsN fun _ _ _ _ _ _ us hl => match us, hl with | [_], _ => rfl⟩
theorem sc__law_fields : FnScope ["draw"] ["draw"] (defScope (top 44)) := ⟨rfl, rfl, rfl, by decide +kernel, rfl, by decide +kernel, by decide +kernel⟩
theorem fo__law_fields (Y : Gm K mg) (F : FnAt K mg "_law_fields" (top 44)) (D__law_pick : Fn TheW.P TheW.w K mg base 3 "_law_pick" ["draw", "some"] sp__law_pick) : ∃ f fd, FnP K "_law_fields" (top 44) f fd ∧ FnOk TheW.P TheW.w K mg base (L2.CX TheW.P TheW.w) 4 f fd ["draw"] (lift K sp__law_fields) ∧ mg "_law_fields" = some (.ref f) := by
  obtain ⟨f, fd, F, hm⟩ := F
  exact ⟨f, fd, F, mk_fn F sc__law_fields (fun M ts q r h => len__law_fields h) fun cdv A outer s H E M hr => ⟨_, _, (gss_one (gs_retR (gr_e (ge_c D__law_pick hr (passE (takes_of rfl rfl rfl rfl)) (ga_cons (ge_v 0) (ga_cons (ge_lst (ga_cons (ge_tup (ga_cons ge_str ga_nil)) (ga_cons (ge_tup (ga_cons ge_str ga_nil)) (ga_cons (ge_tup (ga_cons ge_str (ga_cons ge_str ga_nil))) (ga_cons (ge_tup (ga_cons ge_str (ga_cons ge_str (ga_cons ge_str ga_nil)))) ga_nil))))) ga_nil)))))), fun ts q r h => sem__law_fields h⟩, hm⟩
theorem fn__law_fields (Y : Gm K mg) (F : FnAt K mg "_law_fields" (top 44)) (D__law_pick : Fn TheW.P TheW.w K mg base 3 "_law_pick" ["draw", "some"] sp__law_pick) : Fn TheW.P TheW.w K mg base 4 "_law_fields" ["draw"] sp__law_fields := by
  obtain ⟨f, fd, F, h, hm⟩ := fo__law_fields (base := base) Y F D__law_pick
  exact ⟨f, fd, h, hm, F.kp, F.bindsN fun _ _ _ _ _ _ us hl => match us, hl with | [_], _ => rfl⟩
theorem sc__law_fits : FnScope ["pattern", "word"] ["pattern", "word"] (defScope (top 45)) := ⟨rfl, rfl, rfl, by decide +kernel, rfl, by decide +kernel, by decide +kernel⟩
theorem fo__law_fits (Y : Gm K mg) (F : FnAt K mg "_law_fits" (top 45)) : ∃ f fd, FnP K "_law_fits" (top 45) f fd ∧ FnOk TheW.P TheW.w K mg base (L2.CX TheW.P TheW.w) 1 f fd ["pattern", "word"] (lift K sp__law_fits) ∧ mg "_law_fits" = some (.ref f) := by
  obtain ⟨f, fd, F, hm⟩ := F
  exact ⟨f, fd, F, mk_fn F sc__law_fits (fun M ts q r h => len__law_fits h) fun cdv A outer s H E M hr => ⟨_, _, (gss_cons (gs_if (gt_cmp (op_eqU hr.units) simr_eq (ge_ix ix_seq simr_ix (ge_v 0) (ge_neg ge_int)) ge_str) (gss_one (gs_retR (gr_e (ge_cmp (op_eqU hr.units) simr_eq (ge_slice sl_U simsl_cut (ge_v 1) go_none (go_some (ge_bin op_sub simr_sub (ge_callB call_len simc_len Y.f_len (ga_cons (ge_v 0) ga_nil)) ge_int))) (ge_slice sl_U simsl_cut (ge_v 0) go_none (go_some (ge_neg ge_int))))))) gss_nil)
    (gss_one (gs_retR (gr_e (ge_cmp (op_eqU hr.units) simr_eq (ge_v 1) (ge_v 0)))))), fun ts q r h => sem__law_fits h⟩, hm⟩
theorem fn__law_fits (Y : Gm K mg) (F : FnAt K mg "_law_fits" (top 45)) : Fn TheW.P TheW.w K mg base 1 "_law_fits" ["pattern", "word"] sp__law_fits := by
  obtain ⟨f, fd, F, h, hm⟩ := fo__law_fits (base := base) Y F
  exact ⟨f, fd, h, hm, F.kp, F.bindsN fun _ _ _ _ _ _ us hl => match us, hl with | [_, _], _ => rfl⟩
theorem sc__law_sentences : FnScope ["text", "found", "token"] ["text"] (defScope (top 46)) := ⟨rfl, rfl, rfl, by decide +kernel, rfl, by decide +kernel, by decide +kernel⟩
theorem fo__law_sentences (Y : Gm K mg) (F : FnAt K mg "_law_sentences" (top 46)) : ∃ f fd, FnP K "_law_sentences" (top 46) f fd ∧ FnOk TheW.P TheW.w K mg base (L2.CX TheW.P TheW.w) 1 f fd ["text"] (lift K sp__law_sentences) ∧ mg "_law_sentences" = some (.ref f) := by
  obtain ⟨f, fd, F, hm⟩ := F
  exact ⟨f, fd, F, mk_fn F sc__law_sentences (fun M ts q r h => len__law_sentences h) fun cdv A outer s H E M hr => ⟨_, _, (gss_cons (gs_set 1 sc__law_sentences.nd (ge_lst (ga_cons (ge_lst ga_nil) ga_nil)))
    (gss_cons (gs_for (passes_of rfl) rfl (gi_seq (ge_v 0)) (gg_name 2 sc__law_sentences.nd) (gss_one (gs_frz 1 (gs_set 1 sc__law_sentences.nd (ge_if (gt_cmp (op_eqU hr.units) simr_eq (ge_v 2) ge_str) (ge_bin op_addU simr_add (ge_v 1) (ge_lst (ga_cons (ge_lst ga_nil) ga_nil))) (ge_bin op_addU simr_add (ge_slice sl_U simsl_cut (ge_v 1) go_none (go_some (ge_neg ge_int))) (ge_lst (ga_cons (ge_bin op_addU simr_add (ge_ix ix_seq simr_ix (ge_v 1) (ge_neg ge_int)) (ge_lst (ga_cons (ge_v 2) ga_nil))) ga_nil))))))))
    (gss_one (gs_retR (gr_v 1))))), fun ts q r h => sem__law_sentences h⟩, hm⟩
theorem fn__law_sentences (Y : Gm K mg) (F : FnAt K mg "_law_sentences" (top 46)) : Fn TheW.P TheW.w K mg base 1 "_law_sentences" ["text"] sp__law_sentences := by
  obtain ⟨f, fd, F, h, hm⟩ := fo__law_sentences (base := base) Y F
  exact ⟨f, fd, h, hm, F.kp, F.bindsN fun _ _ _ _ _ _ us hl => match us, hl with | [_], _ => rfl⟩
theorem sc__law_document : FnScope ["draw", "fields", "words", "most", "found", "field", "lap"] ["draw", "fields", "words", "most"] (defScope (top 47)) := ⟨rfl, rfl, rfl, by decide +kernel, rfl, by decide +kernel, by decide +kernel⟩
theorem fo__law_document (Y : Gm K mg) (F : FnAt K mg "_law_document" (top 47)) (D__law_take : Fn TheW.P TheW.w K mg base 2 "_law_take" ["draw", "amount"] sp__law_take) (D__law_pick : Fn TheW.P TheW.w K mg base 3 "_law_pick" ["draw", "some"] sp__law_pick) : ∃ f fd, FnP K "_law_document" (top 47) f fd ∧ FnOk TheW.P TheW.w K mg base (L2.CX TheW.P TheW.w) 4 f fd ["draw", "fields", "words", "most"] (lift K sp__law_document) ∧ mg "_law_document" = some (.ref f) := by
  obtain ⟨f, fd, F, hm⟩ := F
  exact ⟨f, fd, F, mk_fn F sc__law_document (fun M ts q r h => len__law_document h) fun cdv A outer s H E M hr => ⟨_, _, (gss_cons (gs_set 4 sc__law_document.nd ge_d0)
    (gss_cons (gs_for (passes_of rfl) rfl (gi_seq (ge_v 1)) (gg_name 5 sc__law_document.nd) (gss_one (gs_dput 4 hr.units (ge_v 5) (ge_lc [("lap", 6)] rfl sc__law_document.nd (gi_range1 Y.f_range (ga_cons (ge_c D__law_take hr (passE (takes_of rfl rfl rfl rfl)) (ga_cons (ge_v 0) (ga_cons (ge_bin op_addU simr_add (ge_v 3) ge_int) ga_nil))) ga_nil)) (blkOk_by (N := ["draw", "fields", "words", "most", "found", "field", "lap"]) (sc := defScope (top 47)) (by decide +kernel)) (fun _ _ _ _ _ => (gg_name 6 sc__law_document.nd)) (fun _ _ _ _ _ => gts_nil) (fun _ _ _ _ _ => (ge_c D__law_pick hr passL (ga_cons (ge_v 0) (ga_cons (ge_bin op_addU simr_add (ge_bin op_addU simr_add (ge_v 2) (ge_v 2)) (ge_lst (ga_cons ge_str ga_nil))) ga_nil)))) (s0 := s)))))
    (gss_one (gs_retR (gr_v 4))))), fun ts q r h => sem__law_document h⟩, hm⟩
theorem fn__law_document (Y : Gm K mg) (F : FnAt K mg "_law_document" (top 47)) (D__law_take : Fn TheW.P TheW.w K mg base 2 "_law_take" ["draw", "amount"] sp__law_take) (D__law_pick : Fn TheW.P TheW.w K mg base 3 "_law_pick" ["draw", "some"] sp__law_pick) : Fn TheW.P TheW.w K mg base 4 "_law_document" ["draw", "fields", "words", "most"] sp__law_document := by
  obtain ⟨f, fd, F, h, hm⟩ := fo__law_document (base := base) Y F D__law_take D__law_pick
  exact ⟨f, fd, h, hm, F.kp, F.bindsN fun _ _ _ _ _ _ us hl => match us, hl with | [_, _, _, _], _ => rfl⟩
theorem sc__law_says : FnScope ["told", "due"] ["told", "due"] (defScope (top 48)) := ⟨rfl, rfl, rfl, by decide +kernel, rfl, by decide +kernel, by decide +kernel⟩
theorem fo__law_says (Y : Gm K mg) (F : FnAt K mg "_law_says" (top 48)) : ∃ f fd, FnP K "_law_says" (top 48) f fd ∧ FnG TheW.P TheW.w K mg base (L2.CX TheW.P TheW.w) 1 f fd ["told", "due"] (lift K sp__law_says) ∧ mg "_law_says" = some (.ref f) := by
  obtain ⟨f, fd, F, hm⟩ := F
  exact ⟨f, fd, F, mk_fnG F sc__law_says (fun M ts q r h => len__law_says h) fun cdv A outer s H E M hr hgd => ⟨_, _, (gss_one (gs_retR (gr_e (ge_cmp (op_eqU hr.units) simr_eq (ge_callB (call_show hgd hr.units) simc_show Y.f_repr (ga_cons (ge_v 0) ga_nil)) (ge_callB (call_show hgd hr.units) simc_show Y.f_repr (ga_cons (ge_v 1) ga_nil)))))), fun ts q r h => sem__law_says h⟩, hm⟩
theorem fn__law_says (Y : Gm K mg) (F : FnAt K mg "_law_says" (top 48)) : FnS TheW.P TheW.w K mg base 1 "_law_says" ["told", "due"] sp__law_says := by
  obtain ⟨f, fd, F, h, hm⟩ := fo__law_says (base := base) Y F
  exact ⟨f, fd, h, hm, F.kp, F.bindsN fun _ _ _ _ _ _ us hl => match us, hl with | [_, _], _ => rfl⟩
theorem sc__law_chain : FnScope ["patterns", "token", "pattern"] ["patterns", "token"] (defScope (top 49)) := ⟨rfl, rfl, rfl, by decide +kernel, rfl, by decide +kernel, by decide +kernel⟩
theorem fo__law_chain (Y : Gm K mg) (F : FnAt K mg "_law_chain" (top 49)) (D__law_fits : Fn TheW.P TheW.w K mg base 1 "_law_fits" ["pattern", "word"] sp__law_fits) : ∃ f fd, FnP K "_law_chain" (top 49) f fd ∧ FnOk TheW.P TheW.w K mg base (L2.CX TheW.P TheW.w) 2 f fd ["patterns", "token"] (lift K sp__law_chain) ∧ mg "_law_chain" = some (.ref f) := by
  obtain ⟨f, fd, F, hm⟩ := F
  exact ⟨f, fd, F, mk_fn F sc__law_chain (fun M ts q r h => len__law_chain h) fun cdv A outer s H E M hr => ⟨_, _, (gss_one (gs_retR (gr_e (ge_callTy call_tuple_of simc_tuple Y.f_tuple (ga_cons (ge_lc [("pattern", 2)] rfl sc__law_chain.nd (gi_seq (ge_v 0)) (blkOk_by (N := ["patterns", "token", "pattern"]) (sc := defScope (top 49)) (by decide +kernel)) (fun _ _ _ _ _ => (gg_name 2 sc__law_chain.nd)) (fun _ _ _ _ _ => gts_nil) (fun _ _ _ _ _ => (ge_c D__law_fits hr passL (ga_cons (ge_v 2) (ga_cons (ge_v 1) ga_nil)))) (s0 := s)) ga_nil))))), fun ts q r h => sem__law_chain h⟩, hm⟩
theorem fn__law_chain (Y : Gm K mg) (F : FnAt K mg "_law_chain" (top 49)) (D__law_fits : Fn TheW.P TheW.w K mg base 1 "_law_fits" ["pattern", "word"] sp__law_fits) : Fn TheW.P TheW.w K mg base 2 "_law_chain" ["patterns", "token"] sp__law_chain := by
  obtain ⟨f, fd, F, h, hm⟩ := fo__law_chain (base := base) Y F D__law_fits
  exact ⟨f, fd, h, hm, F.kp, F.bindsN fun _ _ _ _ _ _ us hl => match us, hl with | [_, _], _ => rfl⟩
theorem sc__law_joined_truths : FnScope ["rows", "many", "at", "row"] ["rows", "many"] (defScope (top 50)) := ⟨rfl, rfl, rfl, by decide +kernel, rfl, by decide +kernel, by decide +kernel⟩
theorem fo__law_joined_truths (Y : Gm K mg) (F : FnAt K mg "_law_joined_truths" (top 50)) : ∃ f fd, FnP K "_law_joined_truths" (top 50) f fd ∧ FnOk TheW.P TheW.w K mg base (L2.CX TheW.P TheW.w) 1 f fd ["rows", "many"] (lift K sp__law_joined_truths) ∧ mg "_law_joined_truths" = some (.ref f) := by
  obtain ⟨f, fd, F, hm⟩ := F
  exact ⟨f, fd, F, mk_fn F sc__law_joined_truths (fun M ts q r h => len__law_joined_truths h) fun cdv A outer s H E M hr => ⟨_, _, (gss_one (gs_retR (gr_e (ge_callTy call_tuple_of simc_tuple Y.f_tuple (ga_cons (ge_lc [("at", 2)] rfl sc__law_joined_truths.nd (gi_range1 Y.f_range (ga_cons (ge_v 1) ga_nil)) (blkOk_by (N := ["rows", "many", "at", "row"]) (sc := defScope (top 50)) (by decide +kernel)) (fun _ _ _ _ _ => (gg_name 2 sc__law_joined_truths.nd)) (fun _ _ _ _ _ => gts_nil) (fun _ _ _ _ _ => (ge_cmp op_in_seq simr_inF ge_bl (ge_lc [("row", 3)] rfl sc__law_joined_truths.nd (gi_seq (ge_v 0)) (blkOk_by (by rfl)) (fun _ _ _ _ _ => (gg_name 3 sc__law_joined_truths.nd)) (fun _ _ _ _ _ => gts_nil) (fun _ _ _ _ _ => (ge_ix ix_seq simr_ix (ge_v 3) (ge_v 2))) (s0 := s)))) (s0 := s)) ga_nil))))), fun ts q r h => sem__law_joined_truths h⟩, hm⟩
theorem fn__law_joined_truths (Y : Gm K mg) (F : FnAt K mg "_law_joined_truths" (top 50)) : Fn TheW.P TheW.w K mg base 1 "_law_joined_truths" ["rows", "many"] sp__law_joined_truths := by
  obtain ⟨f, fd, F, h, hm⟩ := fo__law_joined_truths (base := base) Y F
  exact ⟨f, fd, h, hm, F.kp, F.bindsN fun _ _ _ _ _ _ us hl => match us, hl with | [_, _], _ => rfl⟩
theorem sc__law_view_of : FnScope ["patterns", "level", "text", "words", "numbers", "sets", "token", "pattern", "at", "word", "some", "one"] ["patterns", "level", "text"] (defScope (top 51)) := ⟨rfl, rfl, rfl, by decide +kernel, rfl, by decide +kernel, by decide +kernel⟩
theorem fo__law_view_of (Y : Gm K mg) (F : FnAt K mg "_law_view_of" (top 51)) (D__law_chain : Fn TheW.P TheW.w K mg base 2 "_law_chain" ["patterns", "token"] sp__law_chain) (D__law_fits : Fn TheW.P TheW.w K mg base 1 "_law_fits" ["pattern", "word"] sp__law_fits) (D__law_sentences : Fn TheW.P TheW.w K mg base 1 "_law_sentences" ["text"] sp__law_sentences) (D__law_joined_truths : Fn TheW.P TheW.w K mg base 1 "_law_joined_truths" ["rows", "many"] sp__law_joined_truths) : ∃ f fd, FnP K "_law_view_of" (top 51) f fd ∧ FnOk TheW.P TheW.w K mg base (L2.CX TheW.P TheW.w) 3 f fd ["patterns", "level", "text"] (lift K sp__law_view_of) ∧ mg "_law_view_of" = some (.ref f) := by
  obtain ⟨f, fd, F, hm⟩ := F
  exact ⟨f, fd, F, mk_fn F sc__law_view_of (fun M ts q r h => len__law_view_of h) fun cdv A outer s H E M hr => ⟨_, _, (gss_cons (gs_set 3 sc__law_view_of.nd (ge_lc [("token", 6)] rfl sc__law_view_of.nd (gi_seq (ge_v 2)) (blkOk_by (N := ["patterns", "level", "text", "words", "numbers", "sets", "token", "pattern", "at", "word", "some", "one"]) (sc := defScope (top 51)) (by decide +kernel)) (fun _ _ _ _ _ => (gg_name 6 sc__law_view_of.nd)) (fun _ _ _ _ _ => (gts_one (gt_cmp (op_neU hr.units) simr_ne (ge_v 6) ge_str))) (fun _ _ _ _ _ => (ge_v 6)) (s0 := s)))
    (gss_cons (gs_frz 3 (gs_if (gt_cmp (op_eqU hr.units) simr_eq (ge_v 1) ge_str) (gss_one (gs_retR (gr_e (ge_callTy call_tuple_of simc_tuple Y.f_tuple (ga_cons (ge_lc [("token", 6)] rfl sc__law_view_of.nd (gi_seq (ge_v 2)) (blkOk_by (N := ["patterns", "level", "text", "words", "numbers", "sets", "token", "pattern", "at", "word", "some", "one"]) (sc := defScope (top 51)) (by decide +kernel)) (fun _ _ _ _ _ => (gg_name 6 sc__law_view_of.nd)) (fun _ _ _ _ _ => gts_nil) (fun _ _ _ _ _ => (ge_if (gt_cmp (op_eqU hr.units) simr_eq (ge_v 6) ge_str) ge_non (ge_c D__law_chain hr passL (ga_cons (ge_v 0) (ga_cons (ge_v 6) ga_nil))))) (s0 := s)) ga_nil))))) gss_nil))
    (gss_cons (gs_set 4 sc__law_view_of.nd (ge_callTy call_tuple_of simc_tuple Y.f_tuple (ga_cons (ge_lc [("pattern", 7)] rfl sc__law_view_of.nd (gi_seq (ge_v 0)) (blkOk_by (N := ["patterns", "level", "text", "words", "numbers", "sets", "token", "pattern", "at", "word", "some", "one"]) (sc := defScope (top 51)) (by decide +kernel)) (fun _ _ _ _ _ => (gg_name 7 sc__law_view_of.nd)) (fun _ _ _ _ _ => gts_nil) (fun _ _ _ _ _ => (ge_callTy call_tuple_of simc_tuple Y.f_tuple (ga_cons (ge_lc [("at", 8), ("word", 9)] rfl sc__law_view_of.nd (gi_enum Y.f_enumerate (ga_cons (ge_v 3) ga_nil)) (blkOk_by (by rfl)) (fun _ _ _ _ _ => (gg_tup rfl (ggs_cons (gg_name 8 sc__law_view_of.nd) (ggs_cons (gg_name 9 sc__law_view_of.nd) ggs_nil)))) (fun _ _ _ _ _ => (gts_one (gt_val (ge_c D__law_fits hr passL (ga_cons (ge_v 7) (ga_cons (ge_v 9) ga_nil)))))) (fun _ _ _ _ _ => (ge_v 8)) (s0 := s)) ga_nil))) (s0 := s)) ga_nil)))
    (gss_cons (gs_if (gt_cmp (op_eqU hr.units) simr_eq (ge_v 1) ge_str) (gss_one (gs_retR (gr_v 4))) gss_nil)
    (gss_cons (gs_if (gt_cmp (op_eqU hr.units) simr_eq (ge_v 1) ge_str) (gss_one (gs_retR (gr_e (ge_callTy call_tuple_of simc_tuple Y.f_tuple (ga_cons (ge_lc [("some", 10)] rfl sc__law_view_of.nd (gi_seq (ge_v 4)) (blkOk_by (N := ["patterns", "level", "text", "words", "numbers", "sets", "token", "pattern", "at", "word", "some", "one"]) (sc := defScope (top 51)) (by decide +kernel)) (fun _ _ _ _ _ => (gg_name 10 sc__law_view_of.nd)) (fun _ _ _ _ _ => gts_nil) (fun _ _ _ _ _ => (ge_callB call_len simc_len Y.f_len (ga_cons (ge_v 10) ga_nil))) (s0 := s)) ga_nil))))) gss_nil)
    (gss_cons (gs_if (gt_cmp (op_eqU hr.units) simr_eq (ge_v 1) ge_str) (gss_cons (gs_setLc 5 [("some", 10)] rfl sc__law_view_of.nd (gi_seq (ge_c D__law_sentences hr (passE (takes_of rfl rfl rfl rfl)) (ga_cons (ge_v 2) ga_nil))) (blkOk_by (N := ["patterns", "level", "text", "words", "numbers", "sets", "token", "pattern", "at", "word", "some", "one"]) (sc := defScope (top 51)) (by decide +kernel)) (fun _ _ _ _ _ => (gg_name 10 sc__law_view_of.nd)) (fun _ _ _ _ _ => gts_nil) (fun _ _ _ _ _ => (ge_c D__law_joined_truths hr passL (ga_cons (ge_lc [("word", 9)] rfl sc__law_view_of.nd (gi_seq (ge_v 10)) (blkOk_by (by rfl)) (fun _ _ _ _ _ => (gg_name 9 sc__law_view_of.nd)) (fun _ _ _ _ _ => gts_nil) (fun _ _ _ _ _ => (ge_c D__law_chain hr passL (ga_cons (ge_v 0) (ga_cons (ge_v 9) ga_nil)))) (s0 := s)) (ga_cons (ge_callB call_len simc_len Y.f_len (ga_cons (ge_v 0) ga_nil)) ga_nil)))) s)
    (gss_one (gs_frz 5 (gs_retR (gr_e (ge_callTy call_tuple_of simc_tuple Y.f_tuple (ga_cons (ge_sortSet rfl rfl hr.units Y.f_sorted Y.f_set (ge_lc [("one", 11)] rfl sc__law_view_of.nd (gi_seq (ge_v 5)) (blkOk_by (N := ["patterns", "level", "text", "words", "numbers", "sets", "token", "pattern", "at", "word", "some", "one"]) (sc := defScope (top 51)) (by decide +kernel)) (fun _ _ _ _ _ => (gg_name 11 sc__law_view_of.nd)) (fun _ _ _ _ _ => (gts_one (gt_cmp op_in_seq simr_inF ge_bl (ge_v 11)))) (fun _ _ _ _ _ => (ge_v 11)) (s0 := s))) ga_nil))))))) gss_nil)
    (gss_one (gs_retR (gr_e (ge_callTy call_tuple_of simc_tuple Y.f_tuple (ga_cons (ge_lc [("some", 10)] rfl sc__law_view_of.nd (gi_seq (ge_v 4)) (blkOk_by (N := ["patterns", "level", "text", "words", "numbers", "sets", "token", "pattern", "at", "word", "some", "one"]) (sc := defScope (top 51)) (by decide +kernel)) (fun _ _ _ _ _ => (gg_name 10 sc__law_view_of.nd)) (fun _ _ _ _ _ => gts_nil) (fun _ _ _ _ _ => (ge_cmp (op_neU hr.units) simr_ne (ge_v 10) (ge_tup ga_nil))) (s0 := s)) ga_nil))))))))))), fun ts q r h => sem__law_view_of h⟩, hm⟩
theorem fn__law_view_of (Y : Gm K mg) (F : FnAt K mg "_law_view_of" (top 51)) (D__law_chain : Fn TheW.P TheW.w K mg base 2 "_law_chain" ["patterns", "token"] sp__law_chain) (D__law_fits : Fn TheW.P TheW.w K mg base 1 "_law_fits" ["pattern", "word"] sp__law_fits) (D__law_sentences : Fn TheW.P TheW.w K mg base 1 "_law_sentences" ["text"] sp__law_sentences) (D__law_joined_truths : Fn TheW.P TheW.w K mg base 1 "_law_joined_truths" ["rows", "many"] sp__law_joined_truths) : Fn TheW.P TheW.w K mg base 3 "_law_view_of" ["patterns", "level", "text"] sp__law_view_of := by
  obtain ⟨f, fd, F, h, hm⟩ := fo__law_view_of (base := base) Y F D__law_chain D__law_fits D__law_sentences D__law_joined_truths
  exact ⟨f, fd, h, hm, F.kp, F.bindsN fun _ _ _ _ _ _ us hl => match us, hl with | [_, _, _], _ => rfl⟩
theorem sc__law_view : FnScope ["fields", "patterns", "level", "document", "found", "field"] ["fields", "patterns", "level", "document"] (defScope (top 52)) := ⟨rfl, rfl, rfl, by decide +kernel, rfl, by decide +kernel, by decide +kernel⟩
theorem fo__law_view (Y : Gm K mg) (F : FnAt K mg "_law_view" (top 52)) (D__law_view_of : Fn TheW.P TheW.w K mg base 3 "_law_view_of" ["patterns", "level", "text"] sp__law_view_of) (D__law_joined_truths : Fn TheW.P TheW.w K mg base 1 "_law_joined_truths" ["rows", "many"] sp__law_joined_truths) : ∃ f fd, FnP K "_law_view" (top 52) f fd ∧ FnOk TheW.P TheW.w K mg base (L2.CX TheW.P TheW.w) 4 f fd ["fields", "patterns", "level", "document"] (lift K sp__law_view) ∧ mg "_law_view" = some (.ref f) := by
  obtain ⟨f, fd, F, hm⟩ := F
  exact ⟨f, fd, F, mk_fn F sc__law_view (fun M ts q r h => len__law_view h) fun cdv A outer s H E M hr => ⟨_, _, (gss_cons (gs_set 4 sc__law_view.nd (ge_callTy call_tuple_of simc_tuple Y.f_tuple (ga_cons (ge_lc [("field", 5)] rfl sc__law_view.nd (gi_seq (ge_v 0)) (blkOk_by (N := ["fields", "patterns", "level", "document", "found", "field"]) (sc := defScope (top 52)) (by decide +kernel)) (fun _ _ _ _ _ => (gg_name 5 sc__law_view.nd)) (fun _ _ _ _ _ => gts_nil) (fun _ _ _ _ _ => (ge_c D__law_view_of hr passL (ga_cons (ge_v 1) (ga_cons (ge_v 2) (ga_cons (ge_dget hr.units (ge_v 3) (ge_v 5)) ga_nil))))) (s0 := s)) ga_nil)))
    (gss_one (gs_retR (gr_if (gt_cmp (op_eqU hr.units) simr_eq (ge_v 2) ge_str) (gr_e (ge_c D__law_joined_truths hr (passE (takes_of rfl rfl rfl rfl)) (ga_cons (ge_v 4) (ga_cons (ge_callB call_len simc_len Y.f_len (ga_cons (ge_v 1) ga_nil)) ga_nil)))) (gr_v 4))))), fun ts q r h => sem__law_view h⟩, hm⟩
theorem fn__law_view (Y : Gm K mg) (F : FnAt K mg "_law_view" (top 52)) (D__law_view_of : Fn TheW.P TheW.w K mg base 3 "_law_view_of" ["patterns", "level", "text"] sp__law_view_of) (D__law_joined_truths : Fn TheW.P TheW.w K mg base 1 "_law_joined_truths" ["rows", "many"] sp__law_joined_truths) : Fn TheW.P TheW.w K mg base 4 "_law_view" ["fields", "patterns", "level", "document"] sp__law_view := by
  obtain ⟨f, fd, F, h, hm⟩ := fo__law_view (base := base) Y F D__law_view_of D__law_joined_truths
  exact ⟨f, fd, h, hm, F.kp, F.bindsN fun _ _ _ _ _ _ us hl => match us, hl with | [_, _, _, _], _ => rfl⟩
theorem sc__law_levels : FnScope [] [] (defScope (top 53)) := ⟨rfl, rfl, rfl, by decide +kernel, rfl, by decide +kernel, by decide +kernel⟩
theorem fo__law_levels (Y : Gm K mg) (F : FnAt K mg "_law_levels" (top 53)) : ∃ f fd, FnP K "_law_levels" (top 53) f fd ∧ FnOk TheW.P TheW.w K mg base (L2.CX TheW.P TheW.w) 1 f fd [] (lift K sp__law_levels) ∧ mg "_law_levels" = some (.ref f) := by
  obtain ⟨f, fd, F, hm⟩ := F
  exact ⟨f, fd, F, mk_fn F sc__law_levels (fun M ts q r h => len__law_levels h) fun cdv A outer s H E M hr => ⟨_, _, (gss_one (gs_retR (gr_e (ge_lst (ga_cons ge_str (ga_cons ge_str (ga_cons ge_str (ga_cons ge_str (ga_cons ge_str (ga_cons ge_str ga_nil)))))))))), fun ts q r h => sem__law_levels h⟩, hm⟩
theorem fn__law_levels (Y : Gm K mg) (F : FnAt K mg "_law_levels" (top 53)) : Fn TheW.P TheW.w K mg base 1 "_law_levels" [] sp__law_levels := by
  obtain ⟨f, fd, F, h, hm⟩ := fo__law_levels (base := base) Y F
  exact ⟨f, fd, h, hm, F.kp, F.bindsN fun _ _ _ _ _ _ us hl => match us, hl with | [], _ => rfl⟩
theorem sc__law_patterns_drawn : FnScope ["draw", "words", "lap"] ["draw"] (defScope (top 54)) := ⟨rfl, rfl, rfl, by decide +kernel, rfl, by decide +kernel, by decide +kernel⟩
theorem fo__law_patterns_drawn (Y : Gm K mg) (F : FnAt K mg "_law_patterns_drawn" (top 54)) (D__law_vocabulary : Fn TheW.P TheW.w K mg base 4 "_law_vocabulary" ["draw"] sp__law_vocabulary) (D__law_pick : Fn TheW.P TheW.w K mg base 3 "_law_pick" ["draw", "some"] sp__law_pick) (D__law_pattern : Fn TheW.P TheW.w K mg base 4 "_law_pattern" ["draw", "some"] sp__law_pattern) : ∃ f fd, FnP K "_law_patterns_drawn" (top 54) f fd ∧ FnOk TheW.P TheW.w K mg base (L2.CX TheW.P TheW.w) 5 f fd ["draw"] (lift K sp__law_patterns_drawn) ∧ mg "_law_patterns_drawn" = some (.ref f) := by
  obtain ⟨f, fd, F, hm⟩ := F
  exact ⟨f, fd, F, mk_fn F sc__law_patterns_drawn (fun M ts q r h => len__law_patterns_drawn h) fun cdv A outer s H E M hr => ⟨_, _, (gss_cons (gs_set 1 sc__law_patterns_drawn.nd (ge_bin op_addU simr_add (ge_c D__law_vocabulary hr (passE (takes_of rfl rfl rfl rfl)) (ga_cons (ge_v 0) ga_nil)) (ge_c D__law_pick hr (passE (takes_of rfl rfl rfl rfl)) (ga_cons (ge_v 0) (ga_cons (ge_lst (ga_cons (ge_lst ga_nil) (ga_cons (ge_lst (ga_cons ge_str (ga_cons ge_str (ga_cons ge_str ga_nil)))) (ga_cons (ge_lst (ga_cons ge_str (ga_cons ge_str (ga_cons ge_str (ga_cons ge_str (ga_cons ge_str ga_nil)))))) ga_nil)))) ga_nil)))))
    (gss_one (gs_frz 1 (gs_retR (gr_e (ge_callTy call_tuple_of simc_tuple Y.f_tuple (ga_cons (ge_callB (call_srt rfl rfl rfl) simc_srt Y.f_sorted (ga_cons (ge_callTy (call_setS rfl rfl rfl) simc_setS Y.f_set (ga_cons (ge_lc [("lap", 2)] rfl sc__law_patterns_drawn.nd (gi_range1 Y.f_range (ga_cons (ge_c D__law_pick hr (passE (takes_of rfl rfl rfl rfl)) (ga_cons (ge_v 0) (ga_cons (ge_lst (ga_cons ge_int (ga_cons ge_int (ga_cons ge_int (ga_cons ge_int (ga_cons ge_int (ga_cons ge_int ga_nil))))))) ga_nil))) ga_nil)) (blkOk_by (N := ["draw", "words", "lap"]) (sc := defScope (top 54)) (by decide +kernel)) (fun _ _ _ _ _ => (gg_name 2 sc__law_patterns_drawn.nd)) (fun _ _ _ _ _ => gts_nil) (fun _ _ _ _ _ => (ge_c D__law_pattern hr passL (ga_cons (ge_v 0) (ga_cons (ge_v 1) ga_nil)))) (s0 := s)) ga_nil)) ga_nil)) ga_nil))))))), fun ts q r h => sem__law_patterns_drawn h⟩, hm⟩
theorem fn__law_patterns_drawn (Y : Gm K mg) (F : FnAt K mg "_law_patterns_drawn" (top 54)) (D__law_vocabulary : Fn TheW.P TheW.w K mg base 4 "_law_vocabulary" ["draw"] sp__law_vocabulary) (D__law_pick : Fn TheW.P TheW.w K mg base 3 "_law_pick" ["draw", "some"] sp__law_pick) (D__law_pattern : Fn TheW.P TheW.w K mg base 4 "_law_pattern" ["draw", "some"] sp__law_pattern) : Fn TheW.P TheW.w K mg base 5 "_law_patterns_drawn" ["draw"] sp__law_patterns_drawn := by
  obtain ⟨f, fd, F, h, hm⟩ := fo__law_patterns_drawn (base := base) Y F D__law_vocabulary D__law_pick D__law_pattern
  exact ⟨f, fd, h, hm, F.kp, F.bindsN fun _ _ _ _ _ _ us hl => match us, hl with | [_], _ => rfl⟩
theorem sc__law_near_document : FnScope ["draw", "fields", "document", "words", "found", "field", "text", "way", "at", "token"] ["draw", "fields", "document", "words"] (defScope (top 55)) := ⟨rfl, rfl, rfl, by decide +kernel, rfl, by decide +kernel, by decide +kernel⟩
theorem fo__law_near_document (Y : Gm K mg) (F : FnAt K mg "_law_near_document" (top 55)) (D__law_pick : Fn TheW.P TheW.w K mg base 3 "_law_pick" ["draw", "some"] sp__law_pick) (D__law_take : Fn TheW.P TheW.w K mg base 2 "_law_take" ["draw", "amount"] sp__law_take) : ∃ f fd, FnP K "_law_near_document" (top 55) f fd ∧ FnOk TheW.P TheW.w K mg base (L2.CX TheW.P TheW.w) 4 f fd ["draw", "fields", "document", "words"] (lift K sp__law_near_document) ∧ mg "_law_near_document" = some (.ref f) := by
  obtain ⟨f, fd, F, hm⟩ := F
  exact ⟨f, fd, F, mk_fn F sc__law_near_document (fun M ts q r h => len__law_near_document h) fun cdv A outer s H E M hr => ⟨_, _, (gss_cons (gs_set 4 sc__law_near_document.nd (ge_callTy (call_dictP rfl) simc_dictP Y.f_dict (ga_cons (ge_lc [("field", 5)] rfl sc__law_near_document.nd (gi_seq (ge_v 1)) (blkOk_by (N := ["draw", "fields", "document", "words", "found", "field", "text", "way", "at", "token"]) (sc := defScope (top 55)) (by decide +kernel)) (fun _ _ _ _ _ => (gg_name 5 sc__law_near_document.nd)) (fun _ _ _ _ _ => gts_nil) (fun _ _ _ _ _ => (ge_tup (ga_cons (ge_v 5) (ga_cons (ge_callTy call_list_of simc_list Y.f_list (ga_cons (ge_dget hr.units (ge_v 2) (ge_v 5)) ga_nil)) ga_nil)))) (s0 := s)) ga_nil)))
    (gss_cons (gs_set 5 sc__law_near_document.nd (ge_c D__law_pick hr (passE (takes_of rfl rfl rfl rfl)) (ga_cons (ge_v 0) (ga_cons (ge_callTy call_list_of simc_list Y.f_list (ga_cons (ge_v 1) ga_nil)) ga_nil))))
    (gss_cons (gs_par 6 7 rfl sc__law_near_document.nd (ge_od 4 hr.units (ge_v 5)) (ge_c D__law_take hr (passE (takes_of rfl rfl rfl rfl)) (ga_cons (ge_v 0) (ga_cons ge_int ga_nil))))
    (gss_cons (gs_set 8 sc__law_near_document.nd (ge_c D__law_take hr (passE (takes_of rfl rfl rfl rfl)) (ga_cons (ge_v 0) (ga_cons (ge_bin op_addU simr_add (ge_callB call_len simc_len Y.f_len (ga_cons (ge_v 6) ga_nil)) ge_int) ga_nil))))
    (gss_cons (gs_if (gw_or (gt_cmp (op_eqU hr.units) simr_eq (ge_v 7) ge_int) (gw_or1 (gt_cmp (op_eqU hr.units) simr_eq (ge_v 6) (ge_lst ga_nil)))).t (gss_one (gs_dput 4 hr.units (ge_v 5) (ge_bin op_addU simr_add (ge_bin op_addU simr_add (ge_slice sl_U simsl_cut (ge_v 6) go_none (go_some (ge_v 8))) (ge_lst (ga_cons ge_str ga_nil))) (ge_slice sl_U simsl_cut (ge_v 6) (go_some (ge_v 8)) go_none)))) (gss_one (gs_if (gt_cmp (op_eqU hr.units) simr_eq (ge_v 7) ge_int) (gss_one (gs_dput 4 hr.units (ge_v 5) (ge_lc [("token", 9)] rfl sc__law_near_document.nd (gi_seq (ge_v 6)) (blkOk_by (N := ["draw", "fields", "document", "words", "found", "field", "text", "way", "at", "token"]) (sc := defScope (top 55)) (by decide +kernel)) (fun _ _ _ _ _ => (gg_name 9 sc__law_near_document.nd)) (fun _ _ _ _ _ => (gts_one (gt_cmp (op_neU hr.units) simr_ne (ge_v 9) ge_str))) (fun _ _ _ _ _ => (ge_v 9)) (s0 := s)))) (gss_one (gs_if (gt_cmp (op_eqU hr.units) simr_eq (ge_v 7) ge_int) (gss_one (gs_dput 4 hr.units (ge_v 5) (ge_bin op_addU simr_add (ge_slice sl_U simsl_cut (ge_v 6) go_none (go_some (ge_v 8))) (ge_revL (ge_slice sl_U simsl_cut (ge_v 6) (go_some (ge_v 8)) go_none) (ge_neg ge_int))))) (gss_one (gs_if (gt_cmp (op_eqU hr.units) simr_eq (ge_v 7) ge_int) (gss_one (gs_dput 4 hr.units (ge_v 5) (ge_bin op_addU simr_add (ge_v 6) (ge_lst (ga_cons (ge_c D__law_pick hr (passE (takes_of rfl rfl rfl rfl)) (ga_cons (ge_v 0) (ga_cons (ge_v 3) ga_nil))) ga_nil))))) (gss_one (gs_if (gt_cmp (op_eqU hr.units) simr_eq (ge_v 7) ge_int) (gss_one (gs_dput 4 hr.units (ge_v 5) (ge_bin op_addU simr_add (ge_slice sl_U simsl_cut (ge_v 6) go_none (go_some (ge_v 8))) (ge_slice sl_U simsl_cut (ge_v 6) (go_some (ge_bin op_addU simr_add (ge_v 8) ge_int)) go_none)))) (gss_one (gs_dput 4 hr.units (ge_v 5) (ge_bin op_addU simr_add (ge_v 6) (ge_v 6)))))))))))))
    (gss_one (gs_retR (gr_v 4)))))))), fun ts q r h => sem__law_near_document h⟩, hm⟩
theorem fn__law_near_document (Y : Gm K mg) (F : FnAt K mg "_law_near_document" (top 55)) (D__law_pick : Fn TheW.P TheW.w K mg base 3 "_law_pick" ["draw", "some"] sp__law_pick) (D__law_take : Fn TheW.P TheW.w K mg base 2 "_law_take" ["draw", "amount"] sp__law_take) : Fn TheW.P TheW.w K mg base 4 "_law_near_document" ["draw", "fields", "document", "words"] sp__law_near_document := by
  obtain ⟨f, fd, F, h, hm⟩ := fo__law_near_document (base := base) Y F D__law_pick D__law_take
  exact ⟨f, fd, h, hm, F.kp, F.bindsN fun _ _ _ _ _ _ us hl => match us, hl with | [_, _, _, _], _ => rfl⟩
theorem sc__law_right : FnScope ["draw", "fields", "patterns", "words", "document", "other", "told", "level", "due", "tuples", "below", "pattern", "one", "field", "low", "high"] ["draw"] (defScope (top 56)) := ⟨rfl, rfl, rfl, by decide +kernel, rfl, by decide +kernel, by decide +kernel⟩
theorem fo__law_right (Y : Gm K mg) (F : FnAt K mg "_law_right" (top 56)) (D__law_fields : Fn TheW.P TheW.w K mg base 4 "_law_fields" ["draw"] sp__law_fields) (D__law_patterns_drawn : Fn TheW.P TheW.w K mg base 5 "_law_patterns_drawn" ["draw"] sp__law_patterns_drawn) (D__law_vocabulary : Fn TheW.P TheW.w K mg base 4 "_law_vocabulary" ["draw"] sp__law_vocabulary) (D__law_pick : Fn TheW.P TheW.w K mg base 3 "_law_pick" ["draw", "some"] sp__law_pick) (D__law_document : Fn TheW.P TheW.w K mg base 4 "_law_document" ["draw", "fields", "words", "most"] sp__law_document) (D__law_near_document : Fn TheW.P TheW.w K mg base 4 "_law_near_document" ["draw", "fields", "document", "words"] sp__law_near_document) (D__law_levels : Fn TheW.P TheW.w K mg base 1 "_law_levels" [] sp__law_levels) (D__law_view : Fn TheW.P TheW.w K mg base 4 "_law_view" ["fields", "patterns", "level", "document"] sp__law_view) (D_view : Fn TheW.P TheW.w K mg base 7 "view" ["fields", "patterns", "level", "document"] sp_view) (D__law_says : FnS TheW.P TheW.w K mg base 1 "_law_says" ["told", "due"] sp__law_says) (K_view_document_level_patterns_fields : FnK TheW.P TheW.w K mg base 7 "view" ["fields", "patterns", "level", "document"] ["document", "level", "patterns", "fields"] [3, 2, 1, 0] sp_view) : ∃ f fd, FnP K "_law_right" (top 56) f fd ∧ FnG TheW.P TheW.w K mg base (L2.CX TheW.P TheW.w) 8 f fd ["draw"] (lift K sp__law_right) ∧ mg "_law_right" = some (.ref f) := by
  obtain ⟨f, fd, F, hm⟩ := F
  exact ⟨f, fd, F, mk_fnG F sc__law_right (fun M ts q r h => len__law_right h) fun cdv A outer s H E M hr hgd => ⟨_, _, (gss_cons (gs_par' 1 2 rfl sc__law_right.nd (ge_c D__law_fields hr (passE (takes_of rfl rfl rfl rfl)) (ga_cons (ge_v 0) ga_nil)) (ge_c D__law_patterns_drawn hr (passE (takes_of rfl rfl rfl rfl)) (ga_cons (ge_v 0) ga_nil)))
    (gss_cons (gs_set 3 sc__law_right.nd (ge_bin op_addU simr_add (ge_bin op_addU simr_add (ge_c D__law_vocabulary hr (passE (takes_of rfl rfl rfl rfl)) (ga_cons (ge_v 0) ga_nil)) (ge_lck [("pattern", 11)] rfl sc__law_right.nd (gi_seq (ge_v 2)) (blkOk_by (N := ["draw", "fields", "patterns", "words", "document", "other", "told", "level", "due", "tuples", "below", "pattern", "one", "field", "low", "high"]) (sc := defScope (top 56)) (by decide +kernel)) (fun _ _ _ _ _ => (gg_name 11 sc__law_right.nd)) (fun _ _ _ _ _ => (gts_k op_notIn_seq simr_inF (ge_v 11))) (fun _ _ _ _ _ => (ge_repl (ge_v 11))) s)) (ge_lst (ga_cons ge_str ga_nil))))
    (gss_cons (gs_frz 3 (gs_set 4 sc__law_right.nd (ge_c D__law_document hr (passE (takes_of rfl rfl rfl rfl)) (ga_cons (ge_v 0) (ga_cons (ge_v 1) (ga_cons (ge_v 3) (ga_cons (ge_c D__law_pick hr (passE (takes_of rfl rfl rfl rfl)) (ga_cons (ge_v 0) (ga_cons (ge_lst (ga_cons ge_int (ga_cons ge_int (ga_cons ge_int ga_nil)))) ga_nil))) ga_nil)))))))
    (gss_cons (gs_frz 4 (gs_set 5 sc__law_right.nd (ge_c D__law_near_document hr (passE (takes_of rfl rfl rfl rfl)) (ga_cons (ge_v 0) (ga_cons (ge_v 1) (ga_cons (ge_v 4) (ga_cons (ge_v 3) ga_nil)))))))
    (gss_cons (gs_set 6 sc__law_right.nd (ge_lst ga_nil))
    (gss_cons (gs_frz 5 (gs_for (passes_of rfl) rfl (gi_seq (ge_c0 D__law_levels hr (passE (takes_of rfl rfl rfl rfl)))) (gg_name 7 sc__law_right.nd) (gss_cons (gs_setLc 8 [("one", 12)] rfl sc__law_right.nd (gi_seq (ge_lst (ga_cons (ge_v 4) (ga_cons (ge_v 5) ga_nil)))) (blkOk_by (N := ["draw", "fields", "patterns", "words", "document", "other", "told", "level", "due", "tuples", "below", "pattern", "one", "field", "low", "high"]) (sc := defScope (top 56)) (by decide +kernel)) (fun _ _ _ _ _ => (gg_name 12 sc__law_right.nd)) (fun _ _ _ _ _ => gts_nil) (fun _ _ _ _ _ => (ge_c D__law_view hr passL (ga_cons (ge_v 1) (ga_cons (ge_v 2) (ga_cons (ge_v 7) (ga_cons (ge_v 12) ga_nil)))))) s)
    (gss_cons (gs_set 9 sc__law_right.nd (ge_callTy (call_dictP rfl) simc_dictP Y.f_dict (ga_cons (ge_lc [("field", 13)] rfl sc__law_right.nd (gi_seq (ge_v 1)) (blkOk_by (N := ["draw", "fields", "patterns", "words", "document", "other", "told", "level", "due", "tuples", "below", "pattern", "one", "field", "low", "high"]) (sc := defScope (top 56)) (by decide +kernel)) (fun _ _ _ _ _ => (gg_name 13 sc__law_right.nd)) (fun _ _ _ _ _ => gts_nil) (fun _ _ _ _ _ => (ge_tup (ga_cons (ge_v 13) (ga_cons (ge_callTy call_tuple_of simc_tuple Y.f_tuple (ga_cons (ge_dget hr.units (ge_v 5) (ge_v 13)) ga_nil)) ga_nil)))) (s0 := s)) ga_nil)))
    (gss_cons (gs_frz 9 (gs_frz 8 (gs_if (gt_not (gt_val (ge_s D__law_says hgd hr (passE (takes_of rfl rfl rfl rfl)) (ga_cons (ge_lst (ga_cons (ge_c D_view hr (passE (takes_of rfl rfl rfl rfl)) (ga_cons (ge_v 1) (ga_cons (ge_v 2) (ga_cons (ge_v 7) (ga_cons (ge_v 4) ga_nil))))) (ga_cons (ge_k K_view_document_level_patterns_fields hr (passE (takes_of rfl rfl rfl rfl)) (gk_cons (ge_v 9) (gk_cons (ge_v 7) (gk_cons (ge_v 2) (gk_cons (ge_v 1) gk_nil))))) ga_nil))) (ga_cons (ge_v 8) ga_nil))))) (gss_one (gs_frz 10 (gs_frz 6 (gs_retR (gr_e ge_bl))))) gss_nil)))
    (gss_one (gs_app 6 (ge_cmp (op_eqU hr.units) simr_eq (ge_ix ix_seq simr_ix (ge_v 8) ge_int) (ge_ix ix_seq simr_ix (ge_v 8) ge_int)))))))))
    (gss_cons (gs_set 10 sc__law_right.nd (ge_lst (ga_cons (ge_tup (ga_cons ge_int (ga_cons ge_int ga_nil))) (ga_cons (ge_tup (ga_cons ge_int (ga_cons ge_int ga_nil))) (ga_cons (ge_tup (ga_cons ge_int (ga_cons ge_int ga_nil))) (ga_cons (ge_tup (ga_cons ge_int (ga_cons ge_int ga_nil))) (ga_cons (ge_tup (ga_cons ge_int (ga_cons ge_int ga_nil))) (ga_cons (ge_tup (ga_cons ge_int (ga_cons ge_int ga_nil))) ga_nil))))))))
    (gss_one (gs_frz 10 (gs_frz 6 (gs_retR (gr_e (ge_cmp (op_eqU hr.units) simr_eq (ge_lc [("low", 14), ("high", 15)] rfl sc__law_right.nd (gi_seq (ge_v 10)) (blkOk_by (N := ["draw", "fields", "patterns", "words", "document", "other", "told", "level", "due", "tuples", "below", "pattern", "one", "field", "low", "high"]) (sc := defScope (top 56)) (by decide +kernel)) (fun _ _ _ _ _ => (gg_tup rfl (ggs_cons (gg_name 14 sc__law_right.nd) (ggs_cons (gg_name 15 sc__law_right.nd) ggs_nil)))) (fun _ _ _ _ _ => (gts_one (gw_and (gt_val (ge_ix ix_seq simr_ix (ge_v 6) (ge_v 15))) (gw_and1 (gt_not (gt_val (ge_ix ix_seq simr_ix (ge_v 6) (ge_v 14)))))).t)) (fun _ _ _ _ _ => ge_int) (s0 := s)) (ge_lst ga_nil)))))))))))))), fun ts q r h => sem__law_right h⟩, hm⟩
theorem fn__law_right (Y : Gm K mg) (F : FnAt K mg "_law_right" (top 56)) (D__law_fields : Fn TheW.P TheW.w K mg base 4 "_law_fields" ["draw"] sp__law_fields) (D__law_patterns_drawn : Fn TheW.P TheW.w K mg base 5 "_law_patterns_drawn" ["draw"] sp__law_patterns_drawn) (D__law_vocabulary : Fn TheW.P TheW.w K mg base 4 "_law_vocabulary" ["draw"] sp__law_vocabulary) (D__law_pick : Fn TheW.P TheW.w K mg base 3 "_law_pick" ["draw", "some"] sp__law_pick) (D__law_document : Fn TheW.P TheW.w K mg base 4 "_law_document" ["draw", "fields", "words", "most"] sp__law_document) (D__law_near_document : Fn TheW.P TheW.w K mg base 4 "_law_near_document" ["draw", "fields", "document", "words"] sp__law_near_document) (D__law_levels : Fn TheW.P TheW.w K mg base 1 "_law_levels" [] sp__law_levels) (D__law_view : Fn TheW.P TheW.w K mg base 4 "_law_view" ["fields", "patterns", "level", "document"] sp__law_view) (D_view : Fn TheW.P TheW.w K mg base 7 "view" ["fields", "patterns", "level", "document"] sp_view) (D__law_says : FnS TheW.P TheW.w K mg base 1 "_law_says" ["told", "due"] sp__law_says) (K_view_document_level_patterns_fields : FnK TheW.P TheW.w K mg base 7 "view" ["fields", "patterns", "level", "document"] ["document", "level", "patterns", "fields"] [3, 2, 1, 0] sp_view) : FnS TheW.P TheW.w K mg base 8 "_law_right" ["draw"] sp__law_right := by
  obtain ⟨f, fd, F, h, hm⟩ := fo__law_right (base := base) Y F D__law_fields D__law_patterns_drawn D__law_vocabulary D__law_pick D__law_document D__law_near_document D__law_levels D__law_view D_view D__law_says K_view_document_level_patterns_fields
  exact ⟨f, fd, h, hm, F.kp, F.bindsN fun _ _ _ _ _ _ us hl => match us, hl with | [_], _ => rfl⟩
theorem sc_law : FnScope ["script", "draw", "lap", "long", "level", "text", "some"] ["script"] (defScope (top 57)) := ⟨rfl, rfl, rfl, by decide +kernel, rfl, by decide +kernel, by decide +kernel⟩
theorem fk_view_document_level_patterns_fields (Y : Gm K mg) (F : FnAt K mg "view" (top 36)) (D_need_fields : Fn TheW.P TheW.w K mg base 4 "need_fields" ["fields"] sp_need_fields) (D_need_patterns : Fn TheW.P TheW.w K mg base 5 "need_patterns" ["patterns"] sp_need_patterns) (D_need_level : Fn TheW.P TheW.w K mg base 1 "need_level" ["level"] sp_need_level) (D_need_document : Fn TheW.P TheW.w K mg base 6 "need_document" ["fields", "document"] sp_need_document) (D_view_of : Fn TheW.P TheW.w K mg base 4 "view_of" ["patterns", "level", "text"] sp_view_of) (D_any_of : Fn TheW.P TheW.w K mg base 1 "any_of" ["rows", "many"] sp_any_of) : FnK TheW.P TheW.w K mg base 7 "view" ["fields", "patterns", "level", "document"] ["document", "level", "patterns", "fields"] [3, 2, 1, 0] sp_view := by
  obtain ⟨f, fd, F, h, hm⟩ := fo_view (base := base) Y F D_need_fields D_need_patterns D_need_level D_need_document D_view_of D_any_of
  exact ⟨f, fd, h, hm, F.kp, kwB_of F fun _ _ _ _ _ _ ws hl => match ws, hl with | [_, _, _, _], _ => rfl⟩
end
section
variable {K : PySem.W.Frag} {mg : Str → Option Value} {base : Heap}
theorem fn__law_begun (Y : Gm K mg) (F : FnAt K mg "_law_begun" (top 38)) : ∃ f fd, FnOk TheW.P TheW.w K mg base (L2.CX TheW.P TheW.w) 1 f fd ["script"] (spBegun K) ∧ mg "_law_begun" = some (.ref f) ∧ PySem.W.keepIn K (.ref f) = true ∧ Binds K fd ["script"] [] := by
  obtain ⟨f, fd, F, hm⟩ := F
  refine ⟨f, fd, F.ok sc__law_begun (fun vs H Q E h => ?_) fun cdv A outer s H vs Q E hr h => ?_, hm, F.kp, F.bindsN fun _ _ _ _ _ _ us hl => match us, hl with | [_], _ => rfl⟩
  · obtain ⟨_, _, rfl, _⟩ := h
    rfl
  · obtain ⟨a, ns, rfl, hs, hn, hq⟩ := h
    have B : ∃ t1 te2, PSs (cxOf (L2.CX TheW.P TheW.w) TheW.P TheW.w K mg base ["script", "large", "cell"] "_law_begun" (defScope (top 38)) f cdv A outer s H E) (defBody (top 38)) (tSeq t1 (tBegun te2)) ∧ SimS K M0 E t1 _ ∧ SimE K M0 E te2 _ :=
      begun_b (gs_setLc 1 [("cell", 2)] rfl sc__law_begun.nd (gi_seq (ge_v 0)) (blkOk_by (N := ["script", "large", "cell"]) (sc := defScope (top 38)) (by decide +kernel)) (fun _ _ _ _ _ => gg_name 2 sc__law_begun.nd)
          (fun _ _ _ _ _ => gts_one (gt_cmp op_geU simr_ge (ge_callB call_abs simc_abs Y.f_abs (ga_cons (ge_v 2) ga_nil)) (ge_bin op_pow simr_pow ge_int ge_int)))
          (fun _ _ _ _ _ => ge_bin op_sub simr_sub (ge_callB call_abs simc_abs Y.f_abs (ga_cons (ge_v 2) ga_nil)) (ge_bin op_pow simr_pow ge_int ge_int)) s)
        (ge_lc [("cell", 2)] rfl sc__law_begun.nd (gi_seq (ge_v 0)) (blkOk_by (N := ["script", "large", "cell"]) (sc := defScope (top 38)) (by decide +kernel)) (fun _ _ _ _ _ => gg_name 2 sc__law_begun.nd) (fun _ _ _ _ _ => gts_nil)
          (fun _ _ _ _ _ => ge_callB call_abs simc_abs Y.f_abs (ga_cons (ge_v 2) ga_nil)) (s0 := s))
    obtain ⟨t1, te2, p, s1, s2⟩ := B
    exact ⟨_, p, begun_ok rfl s1 s2 (fun k h => begun_q1 hn h) (fun ls q h => begun_q2 hn h) hs hq⟩
def spLaw (K : PySem.W.Frag) : Sp := fun vs H Q _ => ∃ (a : Addr) (ns : List Int), vs = [.ref a] ∧ ns.length ≤ 63 ∧ SqL K H a (ns.map V.int) ∧ ∀ H', Q (.bl true) H'
theorem fn_law {f : Addr} {fd : FuncData} (Y : Gm K mg) (F : FnP K "law" (top 57) f fd) (D_begun : ∃ f fd, FnOk TheW.P TheW.w K mg base (L2.CX TheW.P TheW.w) 1 f fd ["script"] (spBegun K) ∧ mg "_law_begun" = some (.ref f) ∧ PySem.W.keepIn K (.ref f) = true ∧ Binds K fd ["script"] []) (D__law_right : FnS TheW.P TheW.w K mg base 8 "_law_right" ["draw"] sp__law_right) (D__law_pick : Fn TheW.P TheW.w K mg base 3 "_law_pick" ["draw", "some"] sp__law_pick) (D__law_levels : Fn TheW.P TheW.w K mg base 1 "_law_levels" [] sp__law_levels) (D__law_says : FnS TheW.P TheW.w K mg base 1 "_law_says" ["told", "due"] sp__law_says) (D_view : Fn TheW.P TheW.w K mg base 7 "view" ["fields", "patterns", "level", "document"] sp_view) (D__law_view : Fn TheW.P TheW.w K mg base 4 "_law_view" ["fields", "patterns", "level", "document"] sp__law_view) : FnG TheW.P TheW.w K mg base (L2.CX TheW.P TheW.w) 16 f fd ["script"] (spLaw K) := by
  refine mk_rawC F sc_law (fun vs H Q E h => ?_) fun c oc od osl lk hcd A outer s H vs Q E hr hgd h => ?_
  · obtain ⟨_, _, rfl, _⟩ := h
    rfl
  obtain ⟨a, ns, rfl, hl, hS, hQ⟩ := h
  obtain ⟨fb, fdb, FB, gb, kb, bb⟩ := D_begun
  have B : ∃ t2, ∀ M, GSs (cxOf (L2.CX TheW.P TheW.w) TheW.P TheW.w K mg base ["script", "draw", "lap", "long", "level", "text", "some"] "law" (defScope (top 57)) f (.ref c) A outer s H E) M E (defBody (top 57)).tail t2 (g_law M) := ⟨_, fun M =>
    (gss_cons (gs_for (passes_of rfl) rfl (gi_range1 Y.f_range (ga_cons (ge_bin op_addU simr_add ge_int (ge_callB (call_min2 rfl) simc_min2 Y.f_min (ga_cons (ge_callB call_len simc_len Y.f_len (ga_cons (ge_v 0) ga_nil)) (ga_cons ge_int ga_nil)))) ga_nil)) (gg_name 2 sc_law.nd) (gss_one (gs_if (gt_not (gt_val (ge_s D__law_right hgd hr (passE (takes_of rfl rfl rfl rfl)) (ga_cons (ge_v 1) ga_nil)))) (gss_one (gs_frz 6 (gs_retR (gr_e ge_bl)))) gss_nil)))
    (gss_cons (gs_set 3 sc_law.nd (ge_d1 ge_str (ge_lc [("lap", 2)] rfl sc_law.nd (gi_range1 Y.f_range (ga_cons ge_int ga_nil)) (blkOk_by (N := ["script", "draw", "lap", "long", "level", "text", "some"]) (sc := defScope (top 57)) (by decide +kernel)) (fun _ _ _ _ _ => (gg_name 2 sc_law.nd)) (fun _ _ _ _ _ => gts_nil) (fun _ _ _ _ _ => (ge_c D__law_pick hr passL (ga_cons (ge_v 1) (ga_cons (ge_lst (ga_cons ge_str (ga_cons ge_str (ga_cons ge_str (ga_cons ge_str ga_nil))))) ga_nil)))) (s0 := s))))
    (gss_cons (gs_frz 3 (gs_for (passes_of rfl) rfl (gi_seq (ge_c0 D__law_levels hr (passE (takes_of rfl rfl rfl rfl)))) (gg_name 4 sc_law.nd) (gss_one (gs_if (gt_not (gt_val (ge_s D__law_says hgd hr (passE (takes_of rfl rfl rfl rfl)) (ga_cons (ge_c D_view hr (passE (takes_of rfl rfl rfl rfl)) (ga_cons (ge_tup (ga_cons ge_str ga_nil)) (ga_cons (ge_tup (ga_cons ge_str (ga_cons ge_str ga_nil))) (ga_cons (ge_v 4) (ga_cons (ge_v 3) ga_nil))))) (ga_cons (ge_c D__law_view hr (passE (takes_of rfl rfl rfl rfl)) (ga_cons (ge_tup (ga_cons ge_str ga_nil)) (ga_cons (ge_tup (ga_cons ge_str (ga_cons ge_str ga_nil))) (ga_cons (ge_v 4) (ga_cons (ge_v 3) ga_nil))))) ga_nil))))) (gss_one (gs_frz 6 (gs_retR (gr_e ge_bl)))) gss_nil))))
    (gss_cons (gs_set 5 sc_law.nd (ge_d1 ge_str (ge_lst (ga_cons ge_str (ga_cons ge_str (ga_cons ge_str (ga_cons ge_str (ga_cons ge_str (ga_cons ge_str ga_nil)))))))))
    (gss_cons (gs_frz 5 (gs_setLc 6 [("level", 4)] rfl sc_law.nd (gi_seq (ge_lst (ga_cons ge_str (ga_cons ge_str (ga_cons ge_str (ga_cons ge_str ga_nil)))))) (blkOk_by (N := ["script", "draw", "lap", "long", "level", "text", "some"]) (sc := defScope (top 57)) (by decide +kernel)) (fun _ _ _ _ _ => (gg_name 4 sc_law.nd)) (fun _ _ _ _ _ => gts_nil) (fun _ _ _ _ _ => (ge_c D_view hr passL (ga_cons (ge_tup (ga_cons ge_str ga_nil)) (ga_cons (ge_tup (ga_cons ge_str (ga_cons ge_str ga_nil))) (ga_cons (ge_v 4) (ga_cons (ge_v 5) ga_nil)))))) s))
    (gss_one (gs_frz 6 (gs_retR (gr_e (ge_s D__law_says hgd hr (passE (takes_of rfl rfl rfl rfl)) (ga_cons (ge_v 6) (ga_cons (ge_lst (ga_cons (ge_tup (ga_cons ge_bl (ga_cons ge_bl ga_nil))) (ga_cons (ge_tup (ga_cons (ge_tup (ga_cons (ge_tup (ga_cons ge_bl (ga_cons ge_bl ga_nil))) (ga_cons (ge_tup (ga_cons ge_bl (ga_cons ge_bl ga_nil))) ga_nil))) ga_nil)) (ga_cons (ge_tup (ga_cons (ge_tup (ga_cons (ge_tup (ga_cons ge_int ga_nil)) (ga_cons (ge_tup (ga_cons ge_int (ga_cons ge_int ga_nil))) ga_nil))) ga_nil)) (ga_cons (ge_tup (ga_cons (ge_tup (ga_cons ge_int (ga_cons ge_int ga_nil))) ga_nil)) ga_nil))))) ga_nil))))))))))))⟩
  obtain ⟨t2, B⟩ := B
  refine ⟨tSeq (tAsg (tCall (spBegun K) [] E (tCons (tVar 0) tNil)) (gName 1)) t2, pss_cons (ps_set (i := 1) sc_law.nd rfl (by first | exact Or.inl rfl | exact Or.inr rfl) (pe_call FB (hr.mono (by decide)) rfl gb kb bb .nil (passE (takes_of rfl rfl rfl rfl)) (pa_cons (pe_var (i := 0) rfl (by first | exact Or.inl rfl | exact Or.inr (Or.inl rfl) | exact Or.inr (Or.inr rfl))) pa_nil)) rfl) (B (DM 0 0 0 [] [])).p, ?_⟩
  refine ⟨.ref a, rfl, a, ns, rfl, hS, by omega, fun d L C H' cs h1 h2 h3 keep D => ?_⟩
  have hT : LamX.Tabs [] H' := fun p hp => absurd hp List.not_mem_nil
  exact rest_ok (B (DM d L C cs [])).s hS hT (fun p hp _ => absurd hp List.not_mem_nil) h1 h2 keep D ⟨5, rfl, rfl⟩ (sem_law ⟨L, C, cs, _, rfl⟩ hl) hQ
end
end K44
namespace K44
open PySem PySem.Spec PyProof.Rows L2 TL
/-! ### the head -/
def d_is_letters : He.DefD := ⟨("is_letters", none), "is_letters", "is_letters", defArgs (top 12), defBody (top 12), defScope (top 12), [], []⟩
def d_is_word : He.DefD := ⟨("is_word", none), "is_word", "is_word", defArgs (top 13), defBody (top 13), defScope (top 13), [], []⟩
def d_is_token : He.DefD := ⟨("is_token", none), "is_token", "is_token", defArgs (top 14), defBody (top 14), defScope (top 14), [], []⟩
def d_is_text : He.DefD := ⟨("is_text", none), "is_text", "is_text", defArgs (top 15), defBody (top 15), defScope (top 15), [], []⟩
def d_are_fields : He.DefD := ⟨("are_fields", none), "are_fields", "are_fields", defArgs (top 16), defBody (top 16), defScope (top 16), [], []⟩
def d_need_fields : He.DefD := ⟨("need_fields", none), "need_fields", "need_fields", defArgs (top 17), defBody (top 17), defScope (top 17), [], []⟩
def d_is_document : He.DefD := ⟨("is_document", none), "is_document", "is_document", defArgs (top 18), defBody (top 18), defScope (top 18), [], []⟩
def d_need_document : He.DefD := ⟨("need_document", none), "need_document", "need_document", defArgs (top 19), defBody (top 19), defScope (top 19), [], []⟩
def d_words_of : He.DefD := ⟨("words_of", none), "words_of", "words_of", defArgs (top 20), defBody (top 20), defScope (top 20), [], []⟩
def d_sentences_of : He.DefD := ⟨("sentences_of", none), "sentences_of", "sentences_of", defArgs (top 21), defBody (top 21), defScope (top 21), [], []⟩
def d_is_pattern : He.DefD := ⟨("is_pattern", none), "is_pattern", "is_pattern", defArgs (top 25), defBody (top 25), defScope (top 25), [], []⟩
def d_suits : He.DefD := ⟨("suits", none), "suits", "suits", defArgs (top 26), defBody (top 26), defScope (top 26), [], []⟩
def d_are_patterns : He.DefD := ⟨("are_patterns", none), "are_patterns", "are_patterns", defArgs (top 27), defBody (top 27), defScope (top 27), [], []⟩
def d_need_patterns : He.DefD := ⟨("need_patterns", none), "need_patterns", "need_patterns", defArgs (top 28), defBody (top 28), defScope (top 28), [], []⟩
def d_truths_of : He.DefD := ⟨("truths_of", none), "truths_of", "truths_of", defArgs (top 29), defBody (top 29), defScope (top 29), [], []⟩
def d_need_level : He.DefD := ⟨("need_level", none), "need_level", "need_level", defArgs (top 32), defBody (top 32), defScope (top 32), [], []⟩
def d_any_of : He.DefD := ⟨("any_of", none), "any_of", "any_of", defArgs (top 33), defBody (top 33), defScope (top 33), [], []⟩
def d_places_in : He.DefD := ⟨("places_in", none), "places_in", "places_in", defArgs (top 34), defBody (top 34), defScope (top 34), [], []⟩
def d_view_of : He.DefD := ⟨("view_of", none), "view_of", "view_of", defArgs (top 35), defBody (top 35), defScope (top 35), [], []⟩
def d_view : He.DefD := ⟨("view", none), "view", "view", defArgs (top 36), defBody (top 36), defScope (top 36), [], []⟩
def d__law_begun : He.DefD := ⟨("_law_begun", none), "_law_begun", "_law_begun", defArgs (top 38), defBody (top 38), defScope (top 38), [], []⟩
def d__law_mixed : He.DefD := ⟨("_law_mixed", none), "_law_mixed", "_law_mixed", defArgs (top 39), defBody (top 39), defScope (top 39), [], []⟩
def d__law_take : He.DefD := ⟨("_law_take", none), "_law_take", "_law_take", defArgs (top 40), defBody (top 40), defScope (top 40), [], []⟩
def d__law_pick : He.DefD := ⟨("_law_pick", none), "_law_pick", "_law_pick", defArgs (top 41), defBody (top 41), defScope (top 41), [], []⟩
def d__law_pattern : He.DefD := ⟨("_law_pattern", none), "_law_pattern", "_law_pattern", defArgs (top 42), defBody (top 42), defScope (top 42), [], []⟩
def d__law_vocabulary : He.DefD := ⟨("_law_vocabulary", none), "_law_vocabulary", "_law_vocabulary", defArgs (top 43), defBody (top 43), defScope (top 43), [], []⟩
def d__law_fields : He.DefD := ⟨("_law_fields", none), "_law_fields", "_law_fields", defArgs (top 44), defBody (top 44), defScope (top 44), [], []⟩
def d__law_fits : He.DefD := ⟨("_law_fits", none), "_law_fits", "_law_fits", defArgs (top 45), defBody (top 45), defScope (top 45), [], []⟩
def d__law_sentences : He.DefD := ⟨("_law_sentences", none), "_law_sentences", "_law_sentences", defArgs (top 46), defBody (top 46), defScope (top 46), [], []⟩
def d__law_document : He.DefD := ⟨("_law_document", none), "_law_document", "_law_document", defArgs (top 47), defBody (top 47), defScope (top 47), [], []⟩
def d__law_says : He.DefD := ⟨("_law_says", none), "_law_says", "_law_says", defArgs (top 48), defBody (top 48), defScope (top 48), [], []⟩
def d__law_chain : He.DefD := ⟨("_law_chain", none), "_law_chain", "_law_chain", defArgs (top 49), defBody (top 49), defScope (top 49), [], []⟩
def d__law_joined_truths : He.DefD := ⟨("_law_joined_truths", none), "_law_joined_truths", "_law_joined_truths", defArgs (top 50), defBody (top 50), defScope (top 50), [], []⟩
def d__law_view_of : He.DefD := ⟨("_law_view_of", none), "_law_view_of", "_law_view_of", defArgs (top 51), defBody (top 51), defScope (top 51), [], []⟩
def d__law_view : He.DefD := ⟨("_law_view", none), "_law_view", "_law_view", defArgs (top 52), defBody (top 52), defScope (top 52), [], []⟩
def d__law_levels : He.DefD := ⟨("_law_levels", none), "_law_levels", "_law_levels", defArgs (top 53), defBody (top 53), defScope (top 53), [], []⟩
def d__law_patterns_drawn : He.DefD := ⟨("_law_patterns_drawn", none), "_law_patterns_drawn", "_law_patterns_drawn", defArgs (top 54), defBody (top 54), defScope (top 54), [], []⟩
def d__law_near_document : He.DefD := ⟨("_law_near_document", none), "_law_near_document", "_law_near_document", defArgs (top 55), defBody (top 55), defScope (top 55), [], []⟩
def d__law_right : He.DefD := ⟨("_law_right", none), "_law_right", "_law_right", defArgs (top 56), defBody (top 56), defScope (top 56), [], []⟩
def d_law : He.DefD := ⟨("law", none), "law", "law", defArgs (top 57), defBody (top 57), defScope (top 57), [], []⟩
def hfn : List He.DefD := [d_is_letters, d_is_word, d_is_token, d_is_text, d_are_fields, d_need_fields, d_is_document, d_need_document, d_words_of, d_sentences_of, d_is_pattern, d_suits, d_are_patterns, d_need_patterns, d_truths_of, d_need_level, d_any_of, d_places_in, d_view_of, d_view, d__law_begun, d__law_mixed, d__law_take, d__law_pick, d__law_pattern, d__law_vocabulary, d__law_fields, d__law_fits, d__law_sentences, d__law_document, d__law_says, d__law_chain, d__law_joined_truths, d__law_view_of, d__law_view, d__law_levels, d__law_patterns_drawn, d__law_near_document, d__law_right, d_law]
def hfa : List He.Fa := [.int "MOST_LETTERS" 8, .int "MOST_TOKENS" 400, .int "MOST_FIELDS" 3, .str "LETTERS" "abcdefghijklmnopqrstuvwxyz", .str "BREAK" ".", .int "MOST_TOGETHER" 12, .str "STAR" "*", .glo "LEVELS", .free "abs", .free "all", .free "any", .free "dict", .free "enumerate", .free "int", .free "isinstance", .free "len", .free "list", .free "min", .free "range", .free "repr", .free "set", .free "sorted", .free "str", .free "tuple", .free "zip", .exc "BadDocument", .exc "BadFields", .exc "BadLevel", .exc "BadPatterns", .glo "is_letters", .glo "is_word", .glo "is_token", .glo "is_text", .glo "are_fields", .glo "need_fields", .glo "is_document", .glo "need_document", .glo "words_of", .glo "sentences_of", .glo "is_pattern", .glo "suits", .glo "are_patterns", .glo "need_patterns", .glo "truths_of", .glo "need_level", .glo "any_of", .glo "places_in", .glo "view_of", .glo "view", .glo "_law_begun", .glo "_law_mixed", .glo "_law_take", .glo "_law_pick", .glo "_law_pattern", .glo "_law_vocabulary", .glo "_law_fields", .glo "_law_fits", .glo "_law_sentences", .glo "_law_document", .glo "_law_says", .glo "_law_chain", .glo "_law_joined_truths", .glo "_law_view_of", .glo "_law_view", .glo "_law_levels", .glo "_law_patterns_drawn", .glo "_law_near_document", .glo "_law_right", .glo "law", .glo "FindError", .glo "BadDocument", .glo "BadFields", .glo "BadLevel", .glo "BadPatterns"]
def strB : List Str → List Value → Bool
  | [], [] => true
  | z :: zs, .str y _ :: vs => decide (z = y) && strB zs vs
  | _, _ => false
theorem strB_ok : ∀ (zs : List Str) (vs : List Value), strB zs vs = true → Vals (zs.map V.str) vs
  | [], [], _ => .nil
  | z :: zs, .str y _ :: vs, h => by
    unfold strB at h
    rw [Bool.and_eq_true, decide_eq_true_eq] at h
    obtain ⟨rfl, h⟩ := h
    exact .cons ⟨_, rfl⟩ (strB_ok zs vs h)
def tupB (K : PySem.W.Frag) (a : Addr) (ns : List Str) : Bool := match K.lookup a with
  | some o => decide (o.cls = .type "tuple") && (match o.data with
    | .seq its _ => decide (its.size ≤ 100) && strB ns its.toList
    | _ => false)
  | none => false
theorem tupB_ok {K : PySem.W.Frag} {a : Addr} {ns : List Str} (h : tupB K a ns = true) : TupK K a ns := by
  unfold tupB at h
  split at h
  · rename_i o ho
    rw [Bool.and_eq_true, decide_eq_true_eq] at h
    obtain ⟨h1, h2⟩ := h
    split at h2
    · rename_i its n hd
      rw [Bool.and_eq_true, decide_eq_true_eq] at h2
      exact ⟨o, its, n, ho, h1, hd, by rw [sizeLine_eq]; omega, strB_ok _ _ h2.2⟩
    · cases h2
  · cases h
def hex (K : PySem.W.Frag) : Bool := tupB K (He.ga K "LEVELS") ["document", "field", "counts", "sentence", "places", "all"]
abbrev RR : PySem.W.OpenRow := PySem.W.OpenLaw.row PySem.Challenge.rw_everyfind_k44_whole_views_of_documents
def loose : List Str := [("__name__" : Str), ("FindError" : Str), ("BadDocument" : Str), ("BadFields" : Str), ("BadLevel" : Str), ("BadPatterns" : Str), ("MOST_LETTERS" : Str), ("MOST_TOKENS" : Str), ("MOST_FIELDS" : Str), ("LETTERS" : Str), ("BREAK" : Str), ("is_letters" : Str), ("is_word" : Str), ("is_token" : Str), ("is_text" : Str), ("are_fields" : Str), ("need_fields" : Str), ("is_document" : Str), ("need_document" : Str), ("words_of" : Str), ("sentences_of" : Str), ("MOST_TOGETHER" : Str), ("STAR" : Str), ("is_pattern" : Str), ("suits" : Str), ("are_patterns" : Str), ("need_patterns" : Str), ("truths_of" : Str), ("LEVELS" : Str), ("need_level" : Str), ("any_of" : Str), ("places_in" : Str), ("view_of" : Str), ("view" : Str), ("_law_begun" : Str), ("_law_mixed" : Str), ("_law_take" : Str), ("_law_pick" : Str), ("_law_pattern" : Str), ("_law_vocabulary" : Str), ("_law_fields" : Str), ("_law_fits" : Str), ("_law_sentences" : Str), ("_law_document" : Str), ("_law_says" : Str), ("_law_chain" : Str), ("_law_joined_truths" : Str), ("_law_view_of" : Str), ("_law_view" : Str), ("_law_levels" : Str), ("_law_patterns_drawn" : Str), ("_law_near_document" : Str), ("_law_right" : Str)]
abbrev hk : PySem.W.Hook := He.hookX 4 hfa hfn [] [] hex
def ob (s : PySem.W.SharedT) : He.AlX := He.obsX 4 hfa hfn [] [] hex (HandSHeadRun.getT s)
theorem ob_eq (s : PySem.W.SharedT) : ob s = hk.obs s.abs := He.obsX_eq (HandSHeadRun.getT_eq s)
theorem run (w : World) : HandSHeadRun.RunEq RR (PySem.W.view RR.prog [57]) hk ob 3000 loose w := by
  intro os
  kernel_rfl
theorem told [TheW] {K : PySem.W.Frag} {h : Heap} {mg : Str → Option Value} {f : Addr} (KX : K.In h) (G : h.Ns mainGlobals mg) (c : He.SaysX hfa hfn [] [] hex TheW.w h K) (hmg : mg ("law" : Str) = some (.ref f)) :
    ∃ fd : FuncData, (∀ (s : Shared) (u : Value), BindsTo s fd ⟨[u], []⟩ [("script", u)]) ∧ ∀ base : Heap, K.In base → FnG TheW.P TheW.w K mg base (L2.CX TheW.P TheW.w) 16 f fd ["script"] (spLaw K) := by
  have fact : ∀ x : He.Fa, x ∈ hfa → x.ok K = true := fun x m => c.t.d.facts m
  have glo : ∀ x : Str, He.Fa.glo x ∈ hfa → mg x = some (.ref (He.ga K x)) := fun x m => He.glo_ok KX G (fact _ m)
  have exF : ∀ x : Str, He.Fa.exc x ∈ hfa → He.Fa.glo x ∈ hfa → ExcF K mg x := fun x m m2 => ⟨glo x m2, (He.exc_ok (fact _ m))⟩
  have at_ : ∀ d : He.DefD, d ∈ hfn → He.Fa.glo d.name ∈ hfa → d.at_ = (d.name, none) ∧ d.qual = d.name ∧ d.dfl = [] ∧ d.kwd = [] → ∃ fd, FunD K d.name d.name d.params d.body d.scope [] [] (He.fAd K (d.name, none)) fd ∧ mg d.name = some (.ref (He.fAd K (d.name, none))) := fun d m m2 ⟨e1, e2, e3, e4⟩ => by
    obtain ⟨fd, F⟩ := c.t.d.defs m
    unfold He.DefD.dvs He.DefD.kws at F
    rw [e1, e2, e3, e4] at F
    exact ⟨fd, F, glo _ m2⟩
  have m1 := c.more
  unfold hex at m1
  have Y : Gm K mg := ⟨He.int_ok KX G (fact (.int "MOST_LETTERS" 8) (by simp [hfa])), He.int_ok KX G (fact (.int "MOST_TOKENS" 400) (by simp [hfa])), He.int_ok KX G (fact (.int "MOST_FIELDS" 3) (by simp [hfa])), He.str_ok KX G (fact (.str "LETTERS" "abcdefghijklmnopqrstuvwxyz") (by simp [hfa])), He.str_ok KX G (fact (.str "BREAK" ".") (by simp [hfa])), He.int_ok KX G (fact (.int "MOST_TOGETHER" 12) (by simp [hfa])), He.str_ok KX G (fact (.str "STAR" "*") (by simp [hfa])), ⟨glo "LEVELS" (by simp [hfa]), tupB_ok m1⟩, He.free_ok KX G (fact (.free "abs") (by simp [hfa])), He.free_ok KX G (fact (.free "all") (by simp [hfa])), He.free_ok KX G (fact (.free "any") (by simp [hfa])), He.free_ok KX G (fact (.free "dict") (by simp [hfa])), He.free_ok KX G (fact (.free "enumerate") (by simp [hfa])), He.free_ok KX G (fact (.free "int") (by simp [hfa])), He.free_ok KX G (fact (.free "isinstance") (by simp [hfa])), He.free_ok KX G (fact (.free "len") (by simp [hfa])), He.free_ok KX G (fact (.free "list") (by simp [hfa])), He.free_ok KX G (fact (.free "min") (by simp [hfa])), He.free_ok KX G (fact (.free "range") (by simp [hfa])), He.free_ok KX G (fact (.free "repr") (by simp [hfa])), He.free_ok KX G (fact (.free "set") (by simp [hfa])), He.free_ok KX G (fact (.free "sorted") (by simp [hfa])), He.free_ok KX G (fact (.free "str") (by simp [hfa])), He.free_ok KX G (fact (.free "tuple") (by simp [hfa])), He.free_ok KX G (fact (.free "zip") (by simp [hfa])), exF "BadDocument" (by simp [hfa]) (by simp [hfa]), exF "BadFields" (by simp [hfa]) (by simp [hfa]), exF "BadLevel" (by simp [hfa]) (by simp [hfa]), exF "BadPatterns" (by simp [hfa]) (by simp [hfa])⟩
  obtain ⟨fd, F, hm⟩ := at_ d_law (by simp [hfn]) (by simp [hfa, d_law]) ⟨rfl, rfl, rfl, rfl⟩
  have e := hmg.symm.trans hm
  cases e
  refine ⟨fd, fun s u => F.bindsA (ps := ["script"]) (fun _ _ _ _ _ _ us hl => match us, hl with | [_], _ => rfl) s [u] rfl, fun base HB => ?_⟩
  have A : ∀ d : He.DefD, d ∈ hfn → He.Fa.glo d.name ∈ hfa → d.at_ = (d.name, none) ∧ d.qual = d.name ∧ d.dfl = [] ∧ d.kwd = [] → ∃ f fd, FunD K d.name d.name d.params d.body d.scope [] [] f fd ∧ mg d.name = some (.ref f) := fun d m m2 e => (at_ d m m2 e).elim fun fd z => ⟨_, fd, z⟩
  have D_is_letters := fn_is_letters (base := base) Y (A d_is_letters (by simp [hfn]) (by simp [hfa, d_is_letters]) ⟨rfl, rfl, rfl, rfl⟩)
  have D_is_word := fn_is_word (base := base) Y (A d_is_word (by simp [hfn]) (by simp [hfa, d_is_word]) ⟨rfl, rfl, rfl, rfl⟩) D_is_letters
  have D_is_token := fn_is_token (base := base) Y (A d_is_token (by simp [hfn]) (by simp [hfa, d_is_token]) ⟨rfl, rfl, rfl, rfl⟩) D_is_word
  have D_is_text := fn_is_text (base := base) Y (A d_is_text (by simp [hfn]) (by simp [hfa, d_is_text]) ⟨rfl, rfl, rfl, rfl⟩) D_is_token
  have D_are_fields := fn_are_fields (base := base) Y (A d_are_fields (by simp [hfn]) (by simp [hfa, d_are_fields]) ⟨rfl, rfl, rfl, rfl⟩) D_is_word
  have D_need_fields := fn_need_fields (base := base) Y (A d_need_fields (by simp [hfn]) (by simp [hfa, d_need_fields]) ⟨rfl, rfl, rfl, rfl⟩) D_are_fields
  have D_is_document := fn_is_document (base := base) Y (A d_is_document (by simp [hfn]) (by simp [hfa, d_is_document]) ⟨rfl, rfl, rfl, rfl⟩) D_need_fields D_is_text
  have D_need_document := fn_need_document (base := base) Y (A d_need_document (by simp [hfn]) (by simp [hfa, d_need_document]) ⟨rfl, rfl, rfl, rfl⟩) D_is_document
  have D_words_of := fn_words_of (base := base) Y (A d_words_of (by simp [hfn]) (by simp [hfa, d_words_of]) ⟨rfl, rfl, rfl, rfl⟩)
  have D_sentences_of := fn_sentences_of (base := base) Y (A d_sentences_of (by simp [hfn]) (by simp [hfa, d_sentences_of]) ⟨rfl, rfl, rfl, rfl⟩)
  have D_is_pattern := fn_is_pattern (base := base) Y (A d_is_pattern (by simp [hfn]) (by simp [hfa, d_is_pattern]) ⟨rfl, rfl, rfl, rfl⟩) D_is_word D_is_letters
  have D_suits := fn_suits (base := base) Y (A d_suits (by simp [hfn]) (by simp [hfa, d_suits]) ⟨rfl, rfl, rfl, rfl⟩)
  have D_are_patterns := fn_are_patterns (base := base) Y (A d_are_patterns (by simp [hfn]) (by simp [hfa, d_are_patterns]) ⟨rfl, rfl, rfl, rfl⟩) D_is_pattern
  have D_need_patterns := fn_need_patterns (base := base) Y (A d_need_patterns (by simp [hfn]) (by simp [hfa, d_need_patterns]) ⟨rfl, rfl, rfl, rfl⟩) D_are_patterns
  have D_truths_of := fn_truths_of (base := base) Y (A d_truths_of (by simp [hfn]) (by simp [hfa, d_truths_of]) ⟨rfl, rfl, rfl, rfl⟩) D_suits
  have D_need_level := fn_need_level (base := base) Y (A d_need_level (by simp [hfn]) (by simp [hfa, d_need_level]) ⟨rfl, rfl, rfl, rfl⟩)
  have D_any_of := fn_any_of (base := base) Y (A d_any_of (by simp [hfn]) (by simp [hfa, d_any_of]) ⟨rfl, rfl, rfl, rfl⟩)
  have D_places_in := fn_places_in (base := base) Y (A d_places_in (by simp [hfn]) (by simp [hfa, d_places_in]) ⟨rfl, rfl, rfl, rfl⟩) D_truths_of
  have D_view_of := fn_view_of (base := base) Y (A d_view_of (by simp [hfn]) (by simp [hfa, d_view_of]) ⟨rfl, rfl, rfl, rfl⟩) D_words_of D_truths_of D_places_in D_sentences_of D_any_of
  have D_view := fn_view (base := base) Y (A d_view (by simp [hfn]) (by simp [hfa, d_view]) ⟨rfl, rfl, rfl, rfl⟩) D_need_fields D_need_patterns D_need_level D_need_document D_view_of D_any_of
  have D__law_mixed := fn__law_mixed (base := base) Y (A d__law_mixed (by simp [hfn]) (by simp [hfa, d__law_mixed]) ⟨rfl, rfl, rfl, rfl⟩)
  have D__law_take := fn__law_take (base := base) Y (A d__law_take (by simp [hfn]) (by simp [hfa, d__law_take]) ⟨rfl, rfl, rfl, rfl⟩) D__law_mixed
  have D__law_pick := fn__law_pick (base := base) Y (A d__law_pick (by simp [hfn]) (by simp [hfa, d__law_pick]) ⟨rfl, rfl, rfl, rfl⟩) D__law_take
  have D__law_pattern := fn__law_pattern (base := base) Y (A d__law_pattern (by simp [hfn]) (by simp [hfa, d__law_pattern]) ⟨rfl, rfl, rfl, rfl⟩) D__law_pick D__law_take
  have D__law_vocabulary := fn__law_vocabulary (base := base) Y (A d__law_vocabulary (by simp [hfn]) (by simp [hfa, d__law_vocabulary]) ⟨rfl, rfl, rfl, rfl⟩) D__law_pick
  have D__law_fields := fn__law_fields (base := base) Y (A d__law_fields (by simp [hfn]) (by simp [hfa, d__law_fields]) ⟨rfl, rfl, rfl, rfl⟩) D__law_pick
  have D__law_fits := fn__law_fits (base := base) Y (A d__law_fits (by simp [hfn]) (by simp [hfa, d__law_fits]) ⟨rfl, rfl, rfl, rfl⟩)
  have D__law_sentences := fn__law_sentences (base := base) Y (A d__law_sentences (by simp [hfn]) (by simp [hfa, d__law_sentences]) ⟨rfl, rfl, rfl, rfl⟩)
  have D__law_document := fn__law_document (base := base) Y (A d__law_document (by simp [hfn]) (by simp [hfa, d__law_document]) ⟨rfl, rfl, rfl, rfl⟩) D__law_take D__law_pick
  have D__law_says := fn__law_says (base := base) Y (A d__law_says (by simp [hfn]) (by simp [hfa, d__law_says]) ⟨rfl, rfl, rfl, rfl⟩)
  have D__law_chain := fn__law_chain (base := base) Y (A d__law_chain (by simp [hfn]) (by simp [hfa, d__law_chain]) ⟨rfl, rfl, rfl, rfl⟩) D__law_fits
  have D__law_joined_truths := fn__law_joined_truths (base := base) Y (A d__law_joined_truths (by simp [hfn]) (by simp [hfa, d__law_joined_truths]) ⟨rfl, rfl, rfl, rfl⟩)
  have D__law_view_of := fn__law_view_of (base := base) Y (A d__law_view_of (by simp [hfn]) (by simp [hfa, d__law_view_of]) ⟨rfl, rfl, rfl, rfl⟩) D__law_chain D__law_fits D__law_sentences D__law_joined_truths
  have D__law_view := fn__law_view (base := base) Y (A d__law_view (by simp [hfn]) (by simp [hfa, d__law_view]) ⟨rfl, rfl, rfl, rfl⟩) D__law_view_of D__law_joined_truths
  have D__law_levels := fn__law_levels (base := base) Y (A d__law_levels (by simp [hfn]) (by simp [hfa, d__law_levels]) ⟨rfl, rfl, rfl, rfl⟩)
  have D__law_patterns_drawn := fn__law_patterns_drawn (base := base) Y (A d__law_patterns_drawn (by simp [hfn]) (by simp [hfa, d__law_patterns_drawn]) ⟨rfl, rfl, rfl, rfl⟩) D__law_vocabulary D__law_pick D__law_pattern
  have D__law_near_document := fn__law_near_document (base := base) Y (A d__law_near_document (by simp [hfn]) (by simp [hfa, d__law_near_document]) ⟨rfl, rfl, rfl, rfl⟩) D__law_pick D__law_take
  have K_view_document_level_patterns_fields := fk_view_document_level_patterns_fields (base := base) Y (A d_view (by simp [hfn]) (by simp [hfa, d_view]) ⟨rfl, rfl, rfl, rfl⟩) D_need_fields D_need_patterns D_need_level D_need_document D_view_of D_any_of
  have D__law_right := fn__law_right (base := base) Y (A d__law_right (by simp [hfn]) (by simp [hfa, d__law_right]) ⟨rfl, rfl, rfl, rfl⟩) D__law_fields D__law_patterns_drawn D__law_vocabulary D__law_pick D__law_document D__law_near_document D__law_levels D__law_view D_view D__law_says K_view_document_level_patterns_fields
  exact fn_law Y F (fn__law_begun Y (A d__law_begun (by simp [hfn]) (by simp [hfa, d__law_begun]) ⟨rfl, rfl, rfl, rfl⟩)) D__law_right D__law_pick D__law_levels D__law_says D_view D__law_view
end K44
open PySem PySem.W PySem.Calls PyProof.Rows
theorem PySem.Challenge.cw_everyfind_k44_whole_views_of_documents_holds : PySem.Challenge.rw_everyfind_k44_whole_views_of_documents.Holds := by
  w_on; o_law
  refine HandSHeadRun.head_any (r := K44.RR) (q := view K44.RR.prog [57]) (H := K44.hk) (ob := K44.ob) (M := 3000) (loose := K44.loose) (d := HandSHeadRun.topDef K44.RR.prog 57) (kwd := []) K44.ob_eq (by kernel_rfl) (fun s => by kernel_rfl) K44.run (by kernel_rfl) (by kernel_rfl) (by kernel_rfl) (by rfl)
    (by first | assumption | decide +kernel) (by decide +kernel) ⟨rfl, rfl, rfl, rfl, rfl, by decide +kernel⟩ ?hw ?hc
  case hw => w_witness2
  case hc =>
    refine TL.walk_G (l := PySem.Challenge.rw_everyfind_k44_whole_views_of_documents) (n := 63) (k := 16) (x := "script") (CX := fun w => L2.CX (PySem.Challenge.rw_everyfind_k44_whole_views_of_documents).prog w) rfl (by decide) (by kernel_rfl) ⟨rfl, by decide, by decide⟩ ?F (fun w H s e s' z => ?X)
    case X =>
      obtain ⟨_, _, _, _, _, _, _, _, _, _, _, _, z⟩ := z
      exact z
    case F =>
      intro w mg fa h Y G hmg0
      obtain ⟨K, KX, c⟩ := Y
      letI : TL.TheW := ⟨(PySem.Challenge.rw_everyfind_k44_whole_views_of_documents).prog, w⟩
      have hmg : mg ("law" : PySem.Str) = some (.ref fa) := by
        have e : (HandSHeadRun.topDef K44.RR.prog 57).name = ("law" : PySem.Str) := by kernel_rfl
        rw [← e]
        exact hmg0
      obtain ⟨fd, hb, hF⟩ := K44.told KX G c hmg
      refine ⟨K, KX, fd, [], K44.spLaw K, ⟨fun p hp => absurd hp List.not_mem_nil, fun p hp => absurd hp List.not_mem_nil, fun p hp => absurd hp List.not_mem_nil⟩, hb, fun H a ns hl _ ht hS => ⟨a, ns, rfl, hl, hS, fun _ => rfl⟩, fun base HB _ TB => hF base HB⟩
